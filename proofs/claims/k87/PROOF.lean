import PyProof.Rows.All
import Wide.All
import OpenK.AllK
import Wide.FinOn
import HandS.ForMost
import HandS.Exc
import HandS.TryOnly
import HandS.ExcOwn
import HandS.WordsExc
import KE.KDictKeyed
import KE.KDictWalk
import KE.KDictPairs
import KE.KDictLaw
import KE.GoesNew
import KE.GoesMore
import KE.GoesEnum
import HandS.Wide
import HandS.TupAny
import HandS.TupLe
import HandS.Deep
import HandS.IsInst
import HandS.Conv
import HandS.Text
import HandS.Strs
import HandS.StrMore
import HandS.More
import HandS.SetFor
import HandS.ReCall
import HandS.RaiseMore
import HandS.Replace
import KE.KDictLaws
import KE.SortData
import KE.KDictSum
import HandS.DictTup
import HandS.Keys
import KE.KDictZip
import KE.KEqDict
import HandS.Style
import PySem.Challenge.RW_pivotfold_k87_whole_numbers_go_on_and_ba
set_option Elab.async false
set_option linter.all false
set_option maxRecDepth 100000
/-! E1: values D, the abstract heap AH, the relation to the hand layer's heap, combinators, canonical readings. -/
namespace G
open PySem PySem.Spec L2
open PyProof.Rows hiding St

/-- a value: lists and dicts as such are frozen; what may change is a ref into the abstract heap -/
inductive D where
  | non | bl (b : Bool) | int (i : Int) | str (x : Str)
  | tup (xs : List D) | lst (xs : List D) | dct (ks vs : List D)
  | ref (n : Nat) | glb (x : Str) | ty (n : String) | exn (c : Str) (xs : List D) | scr (ns : List Int)
  deriving Inhabited
/-- what may change -/
inductive O where
  | lst (xs : List D) | dct (ks vs : List D) | ins (c : Str) (fs : List (Str × D)) | dead
  deriving Inhabited
abbrev AH := List O
/-- an exception: its class's name, its field's value (or none) -/
structure Exn where
  cls : Str
  fld : List (Str × D)
inductive Res (α : Type) where
  | ok (a : α) (h : AH) | exc (x : Exn) (h : AH) | stuck
abbrev Sl := List (Option D)
abbrev CE := Sl → AH → Res D
abbrev CT := Sl → AH → Res Bool
abbrev CA := Sl → AH → Res (List D)
def Res.bind {α β : Type} (r : Res α) (k : α → AH → Res β) : Res β := match r with
  | .ok a h => k a h
  | .exc x h => .exc x h
  | .stuck => .stuck
@[simp] theorem Res.bind_ok {α β : Type} (a : α) (h : AH) (k : α → AH → Res β) : (Res.ok a h).bind k = k a h := rfl
@[simp] theorem Res.bind_exc {α β : Type} (x : Exn) (h : AH) (k : α → AH → Res β) : (Res.exc x h : Res α).bind k = .exc x h := rfl
@[simp] theorem Res.bind_stuck {α β : Type} (k : α → AH → Res β) : (Res.stuck : Res α).bind k = .stuck := rfl

/-- what stands still: the written part, the blocked addresses; where the abstract heap's objects stand -/
structure En where
  K : PySem.W.Frag
  mg : Str → Option Value
  w : World
/-- where the abstract heap's objects stand; which of them are frozen -/
structure Mu where
  at_ : Nat → Option Addr
  fz : Nat → Prop
instance : CoeFun Mu (fun _ => Nat → Option Addr) := ⟨Mu.at_⟩
/-- no object that may change stands there -/
def NoMu (μ : Mu) (a : Addr) : Prop := ∀ i, μ i = some a → μ.fz i
/-- it stands there and may change -/
def Lv (μ : Mu) (n : Nat) (a : Addr) : Prop := μ n = some a ∧ ¬ μ.fz n
abbrev Bk := Addr → Prop
def Pure (B : Bk) (μ : Mu) (a : Addr) : Prop := ¬ B a ∧ NoMu μ a
/-- a text within the line -/
def okS (x : Str) : Prop := x.length ≤ sizeLine ∧ PyData.strOk x = true
/-- a tuple of the written part -/
def KTup (K : PySem.W.Frag) (a : Addr) (xs : List V) : Prop :=
  ∃ (o : Obj) (its : Array Value) (n : Nat), K.lookup a = some o ∧ o.cls = .type "tuple" ∧ o.dict = none ∧ o.data = .seq its n ∧ its.size ≤ sizeLine ∧ Vals xs its.toList
theorem KTup.k {K : PySem.W.Frag} {a : Addr} {xs : List V} : KTup K a xs → ∃ (o : Obj) (its : Array Value) (n : Nat), K.lookup a = some o ∧ o.cls = .type "tuple" ∧ o.data = .seq its n ∧ its.size ≤ sizeLine ∧ Vals xs its.toList :=
  fun ⟨o, its, n, h1, h2, _, h3⟩ => ⟨o, its, n, h1, h2, h3⟩
/-- a tuple that is tracked: its object bears no dict -/
def TupAt (H : Hp) (a : Addr) (ys : List V) : Prop := ∃ o : Obj, o.dict = none ∧ H a = some (.frz o (.tup ys))
theorem TupAt.rd {H : Hp} {a : Addr} {ys : List V} (t : TupAt H a ys) : Rd H a (.tup ys) := let ⟨o, _, h⟩ := t; .inr ⟨o, h⟩
/-- a list of the written part -/
def KLst (K : PySem.W.Frag) (a : Addr) (xs : List V) : Prop :=
  ∃ (o : Obj) (its : Array Value) (n : Nat), K.lookup a = some o ∧ o.cls = .type "list" ∧ o.dict = none ∧ o.data = .seq its n ∧ its.size ≤ sizeLine ∧ Vals xs its.toList
/-- a dict by its entries -/
def dHO (a : Addr) (es : Array DictEntry) (ep : Nat) : HO := .ext fun h => ∃ o, h.get? a = some o ∧ o.ExactDict ∧ o.data = .dict es ep
/-- a key's abstract form -/
def keyOfF : Nat → D → Option NestedKey
  | 0, _ => none
  | n + 1, d => match d with
    | .non => some .none
    | .bl b => some (.num (if b then 1 else 0))
    | .int i => some (.num i)
    | .str x => some (.text x)
    | .tup xs => (xs.mapM (keyOfF n)).map .tup
    | _ => none
def keyOf (d : D) : Option NestedKey := keyOfF 8 d
/-- the entries of a dict, by keys and values -/
inductive EnV (w : World) : List D → List V → List V → List DictEntry → Prop
  | nil : EnV w [] [] [] []
  | cons {k : D} {y z : V} {nk : NestedKey} {en : DictEntry} {ks ys zs es} : RelV y en.key → RelV z en.val → keyOf k = some nk → en.hash = nk.hash w → EnV w ks ys zs es → EnV w (k :: ks) (y :: ys) (z :: zs) (en :: es)
structure DAt (w : World) (H : Hp) (a : Addr) (ks : List D) (ys zs : List V) (es : Array DictEntry) : Prop where
  at' : ∃ ep, H a = some (dHO a es ep)
  size : es.size ≤ sizeLine
  sys : (a == sysModules) = false
  ens : EnV w ks ys zs es.toList
  nd : (ks.map keyOf).Nodup

section
variable (e : En) (B : Bk) (μ : Mu) (H : Hp)
mutual
inductive RelD : D → V → Prop
  | non : RelD .non .non
  | bl (b) : RelD (.bl b) (.bl b)
  | int (i) : RelD (.int i) (.int i)
  | str (x) : okS x → RelD (.str x) (.str x)
  | ty (n) : RelD (.ty n) (.ty n)
  | glb {x a} : e.mg x = some (.ref a) → RelD (.glb x) (.ref a)
  | tup {xs ys a} : TupAt H a ys → Pure B μ a → ys.length ≤ sizeLine → RelDs xs ys → RelD (.tup xs) (.ref a)
  | tupK {xs ys a} : KTup e.K a ys → RelDs xs ys → RelD (.tup xs) (.ref a)
  | lst {xs ys a} : H a = some (.lst ys) → Pure B μ a → ys.length ≤ sizeLine → RelDs xs ys → RelD (.lst xs) (.ref a)
  | dct {ks vs ys zs a es} : DAt e.w H a ks ys zs es → Pure B μ a → RelDs ks ys → RelDs vs zs → RelD (.dct ks vs) (.ref a)
  | ref {n a} : μ n = some a → RelD (.ref n) (.ref a)
  | scrF {ns a o} : H a = some (.frz o (.lst (ns.map V.int))) → Pure B μ a → RelD (.scr ns) (.ref a)
  | scrK {ns a} : KLst e.K a (ns.map V.int) → RelD (.scr ns) (.ref a)
inductive RelDs : List D → List V → Prop
  | nil : RelDs [] []
  | cons {x y xs ys} : RelD x y → RelDs xs ys → RelDs (x :: xs) (y :: ys)
end
end
section
variable {e : En} {B B' : Bk} {μ μ' μ2 : Mu} {H H' H2 : Hp}
theorem RelDs.length : ∀ {xs : List D} {ys : List V}, RelDs e B μ H xs ys → xs.length = ys.length
  | _, _, .nil => rfl
  | _, _, .cons _ t => by simp [RelDs.length t]
theorem RelDs.get : ∀ {xs : List D} {ys : List V} {i : Nat} {x : D}, RelDs e B μ H xs ys → xs[i]? = some x → ∃ y, ys[i]? = some y ∧ RelD e B μ H x y
  | _, _, 0, _, .cons r _, h => by
    simp at h; subst h; exact ⟨_, by simp, r⟩
  | _, _, i + 1, _, .cons _ t, h => by
    obtain ⟨y, h1, h2⟩ := RelDs.get (i := i) t (by simpa using h)
    exact ⟨y, by simpa using h1, h2⟩
theorem RelDs.get' : ∀ {xs : List D} {ys : List V} {i : Nat} {y : V}, RelDs e B μ H xs ys → ys[i]? = some y → ∃ x, xs[i]? = some x ∧ RelD e B μ H x y
  | _, _, 0, _, .cons r _, h => by
    simp at h; subst h; exact ⟨_, by simp, r⟩
  | _, _, i + 1, _, .cons _ t, h => by
    obtain ⟨y, h1, h2⟩ := RelDs.get' (i := i) t (by simpa using h)
    exact ⟨y, by simpa using h1, h2⟩
theorem RelDs.append : ∀ {xs xs' : List D} {ys ys' : List V}, RelDs e B μ H xs ys → RelDs e B μ H xs' ys' → RelDs e B μ H (xs ++ xs') (ys ++ ys')
  | _, _, _, _, .nil, s => s
  | _, _, _, _, .cons r t, s => .cons r (RelDs.append t s)
theorem RelDs.take : ∀ {xs : List D} {ys : List V} (n : Nat), RelDs e B μ H xs ys → RelDs e B μ H (xs.take n) (ys.take n)
  | _, _, 0, _ => by simp; exact .nil
  | _, _, _ + 1, .nil => by simp; exact .nil
  | _, _, n + 1, .cons r t => .cons r (RelDs.take n t)
theorem RelDs.drop : ∀ {xs : List D} {ys : List V} (n : Nat), RelDs e B μ H xs ys → RelDs e B μ H (xs.drop n) (ys.drop n)
  | _, _, 0, r => r
  | _, _, _ + 1, .nil => by simp; exact .nil
  | _, _, n + 1, .cons _ t => RelDs.drop n t
theorem RelDs.set {x : D} {y : V} (r : RelD e B μ H x y) : ∀ {xs : List D} {ys : List V} (i : Nat), RelDs e B μ H xs ys → RelDs e B μ H (xs.set i x) (ys.set i y)
  | _, _, _, .nil => .nil
  | _, _, 0, .cons _ t => .cons r t
  | _, _, i + 1, .cons q t => .cons q (RelDs.set r i t)
theorem RelDs.reverse : ∀ {xs : List D} {ys : List V}, RelDs e B μ H xs ys → RelDs e B μ H xs.reverse ys.reverse
  | _, _, .nil => .nil
  | _, _, .cons r t => by
    rw [List.reverse_cons, List.reverse_cons]
    exact (RelDs.reverse t).append (.cons r .nil)
theorem RelDs.eraseIdx : ∀ {xs : List D} {ys : List V} (i : Nat), RelDs e B μ H xs ys → RelDs e B μ H (xs.eraseIdx i) (ys.eraseIdx i)
  | _, _, _, .nil => .nil
  | _, _, 0, .cons _ t => t
  | _, _, i + 1, .cons q t => .cons q (RelDs.eraseIdx i t)

/-- from one state to a later one -/
structure Ext (μ : Mu) (H : Hp) (μ' : Mu) (H' : Hp) : Prop where
  sub : ∀ i a, μ i = some a → μ' i = some a
  stay : ∀ a o, H a = some o → NoMu μ a → H' a = some o ∧ NoMu μ' a
theorem Ext.refl : Ext μ H μ H := ⟨fun _ _ h => h, fun _ _ h p => ⟨h, p⟩⟩
theorem Ext.trans (x : Ext μ H μ' H') (y : Ext μ' H' μ2 H2) : Ext μ H μ2 H2 :=
  ⟨fun i a h => y.sub i a (x.sub i a h), fun a o h p => let ⟨h1, p1⟩ := x.stay a o h p; y.stay a o h1 p1⟩
theorem Ext.rd {a : Addr} {o : HO} (x : Ext μ H μ' H') (h : H a = some o) (p : Pure B μ a) : H' a = some o ∧ Pure B μ' a :=
  let ⟨h1, p1⟩ := x.stay a _ h p.2
  ⟨h1, p.1, p1⟩
theorem TupAt.ext {a : Addr} {ys : List V} (x : Ext μ H μ' H') (t : TupAt H a ys) (p : Pure B μ a) : TupAt H' a ys ∧ Pure B μ' a :=
  let ⟨o, d, h⟩ := t
  let ⟨h1, p1⟩ := x.rd h p
  ⟨⟨o, d, h1⟩, p1⟩
theorem DAt.ext {w : World} {a : Addr} {ks : List D} {ys zs : List V} {es : Array DictEntry} (x : Ext μ H μ' H') (t : DAt w H a ks ys zs es) (p : Pure B μ a) : DAt w H' a ks ys zs es ∧ Pure B μ' a :=
  let ⟨ep, q⟩ := t.at'
  let ⟨h1, p1⟩ := x.rd q p
  ⟨⟨⟨ep, h1⟩, t.size, t.sys, t.ens, t.nd⟩, p1⟩
mutual
theorem RelD.mono (x : Ext μ H μ' H') : ∀ {d : D} {v : V}, RelD e B μ H d v → RelD e B μ' H' d v
  | _, _, .non => .non
  | _, _, .bl b => .bl b
  | _, _, .int i => .int i
  | _, _, .str s h => .str s h
  | _, _, .ty n => .ty n
  | _, _, .glb h => .glb h
  | _, _, .tup h p z r => let ⟨h1, p1⟩ := h.ext x p; .tup h1 p1 z (RelDs.mono x r)
  | _, _, .tupK k r => .tupK k (RelDs.mono x r)
  | _, _, .lst h p z r => let ⟨h1, p1⟩ := x.rd h p; .lst h1 p1 z (RelDs.mono x r)
  | _, _, .dct t p k v => let ⟨h1, p1⟩ := t.ext x p; .dct h1 p1 (RelDs.mono x k) (RelDs.mono x v)
  | _, _, .ref h => .ref (x.sub _ _ h)
  | _, _, .scrF h p => let ⟨h1, p1⟩ := x.rd h p; .scrF h1 p1
  | _, _, .scrK h => .scrK h
theorem RelDs.mono (x : Ext μ H μ' H') : ∀ {d : List D} {v : List V}, RelDs e B μ H d v → RelDs e B μ' H' d v
  | _, _, .nil => .nil
  | _, _, .cons r t => .cons (RelD.mono x r) (RelDs.mono x t)
end
end
end G

/-! E2: the abstract heap held, canonical readings, names, constants, operators, calls by rules, statements. -/
namespace G
open PySem PySem.Spec L2
open PyProof.Rows hiding St

section
variable (e : En) (B : Bk) (μ : Mu) (H : Hp)
/-- fields of an instance -/
inductive RelF : List (Str × D) → List (Str × V) → Prop
  | nil : RelF [] []
  | cons {f d v fs gs} : RelD e B μ H d v → RelF fs gs → RelF ((f, d) :: fs) ((f, v) :: gs)
def RelO' (a : Addr) : O → Prop
  | .lst xs => ∃ ys, H a = some (.lst ys) ∧ ys.length ≤ sizeLine ∧ RelDs e B μ H xs ys
  | .dct ks vs => ∃ ys zs es, DAt e.w H a ks ys zs es ∧ RelDs e B μ H ks ys ∧ RelDs e B μ H vs zs
  | .ins c fs => ∃ C dx gs, H a = some (.ins C dx gs) ∧ e.mg c = some (.ref C) ∧ RelF e B μ H fs gs
  | .dead => True
structure AHOk (h : AH) : Prop where
  dom : ∀ i, i < h.length ↔ ∃ a, μ i = some a
  fzd : ∀ i, μ.fz i → h[i]? = some .dead
  inj : ∀ i j a, μ i = some a → μ j = some a → i = j
  nb : ∀ i a, μ i = some a → ¬ B a
  obj : ∀ i o a, h[i]? = some o → μ i = some a → RelO' e B μ H a o
  tr : ∀ i a, μ i = some a → H a ≠ none
  bt : ∀ a, B a → H a ≠ none
/-- an exception: its class, its own dict -/
def XRel (x : Exn) (cls : Value) (d : Option Addr) : Prop := ∃ C, e.mg x.cls = some (.ref C) ∧ cls = .ref C ∧ (x.fld = [] ∨ ∃ dd gs, d = some dd ∧ H dd = some (.xd gs) ∧ Pure B μ dd ∧ RelF e B μ H x.fld gs)
def StRel (S : Sl) (σ : St) : Prop := S.length = σ.length ∧ ∀ (i : Nat) (d : D), S[i]? = some (some d) → ∃ v, σ[i]? = some (some v) ∧ RelD e B μ H d v
end
section
variable {e : En} {B B' : Bk} {μ μ' μ2 : Mu} {H H' H2 : Hp} {h h' : AH}
theorem RelF.mono (x : Ext μ H μ' H') : ∀ {fs : List (Str × D)} {gs : List (Str × V)}, RelF e B μ H fs gs → RelF e B μ' H' fs gs
  | _, _, .nil => .nil
  | _, _, .cons r t => .cons (r.mono x) (RelF.mono x t)
theorem XRel.mono {y : Exn} {cls : Value} {d : Option Addr} (x : Ext μ H μ' H') (r : XRel e B μ H y cls d) : XRel e B μ' H' y cls d := by
  obtain ⟨C, h1, h2, h3⟩ := r
  refine ⟨C, h1, h2, h3.imp id fun ⟨dd, gs, e1, e2, e3, e4⟩ => ?_⟩
  obtain ⟨q1, q2⟩ := x.rd e2 e3
  exact ⟨dd, gs, e1, q1, q2, e4.mono x⟩
theorem StRel.mono {S : Sl} {σ : St} (x : Ext μ H μ' H') (s : StRel e B μ H S σ) : StRel e B μ' H' S σ :=
  ⟨s.1, fun i d h => let ⟨v, h1, r⟩ := s.2 i d h; ⟨v, h1, r.mono x⟩⟩
theorem StRel.set {S : Sl} {σ : St} (s : StRel e B μ H S σ) (i : Nat) {d : D} {v : V} (r : RelD e B μ H d v) : StRel e B μ H (S.set i (some d)) (σ.set i (some v)) := by
  refine ⟨by simp [s.1], fun j d' hj => ?_⟩
  by_cases hij : i = j
  · subst hij
    rw [List.getElem?_set] at hj
    split at hj
    · split at hj
      · cases hj
        refine ⟨v, ?_, r⟩
        rw [List.getElem?_set, if_pos rfl, if_pos (by rw [← s.1]; assumption)]
      · cases hj
    · exact absurd rfl (by assumption)
  · rw [List.getElem?_set_ne hij] at hj
    obtain ⟨v', h1, h2⟩ := s.2 j d' hj
    exact ⟨v', by rw [List.getElem?_set_ne hij]; exact h1, h2⟩
theorem StRel.forget {S : Sl} {σ : St} (s : StRel e B μ H S σ) (i : Nat) : StRel e B μ H (S.set i none) (σ.set i none) := by
  refine ⟨by simp [s.1], fun j d' hj => ?_⟩
  by_cases hij : i = j
  · subst hij
    rw [List.getElem?_set] at hj
    split at hj
    · split at hj
      · cases hj
      · cases hj
    · exact absurd rfl (by assumption)
  · rw [List.getElem?_set_ne hij] at hj
    obtain ⟨v', h1, h2⟩ := s.2 j d' hj
    exact ⟨v', by rw [List.getElem?_set_ne hij]; exact h1, h2⟩

/-- the wish of a reading: what is wanted of each outcome -/
def Out (e : En) (E : XK) (μ : Mu) (H : Hp) (B : Bk) (r : Res D) (Q : VK) : Prop := match r with
  | .ok d h' => ∀ v μ' H', Ext μ H μ' H' → AHOk e B μ' H' h' → RelD e B μ' H' d v → Q v H'
  | .exc x h' => ∀ cls d μ' H', Ext μ H μ' H' → AHOk e B μ' H' h' → XRel e B μ' H' x cls d → E cls d H'
  | .stuck => False
def OutB (e : En) (E : XK) (μ : Mu) (H : Hp) (B : Bk) (r : Res Bool) (Q : Bool → Hp → Prop) : Prop := match r with
  | .ok b h' => ∀ μ' H', Ext μ H μ' H' → AHOk e B μ' H' h' → Q b H'
  | .exc x h' => ∀ cls d μ' H', Ext μ H μ' H' → AHOk e B μ' H' h' → XRel e B μ' H' x cls d → E cls d H'
  | .stuck => False
def OutA (e : En) (E : XK) (μ : Mu) (H : Hp) (B : Bk) (r : Res (List D)) (Q : List V → Hp → Prop) : Prop := match r with
  | .ok ds h' => ∀ vs μ' H', Ext μ H μ' H' → AHOk e B μ' H' h' → RelDs e B μ' H' ds vs → Q vs H'
  | .exc x h' => ∀ cls d μ' H', Ext μ H μ' H' → AHOk e B μ' H' h' → XRel e B μ' H' x cls d → E cls d H'
  | .stuck => False
inductive ResS where
  | nx (s : Sl) (h : AH) | rt (d : D) (h : AH) | bk (s : Sl) (h : AH) | ct (s : Sl) (h : AH) | exc (x : Exn) (s : Sl) (h : AH) | stuck
abbrev CS := Sl → AH → ResS
def OutS (e : En) (W : WX) (μ : Mu) (H : Hp) (B : Bk) (r : ResS) (D : Ends) : Prop := match r with
  | .nx s h' => ∀ σ' μ' H', Ext μ H μ' H' → AHOk e B μ' H' h' → StRel e B μ' H' s σ' → D.nx σ' H'
  | .bk s h' => ∀ σ' μ' H', Ext μ H μ' H' → AHOk e B μ' H' h' → StRel e B μ' H' s σ' → D.bk σ' H'
  | .ct s h' => ∀ σ' μ' H', Ext μ H μ' H' → AHOk e B μ' H' h' → StRel e B μ' H' s σ' → D.ct σ' H'
  | .rt d h' => ∀ v μ' H', Ext μ H μ' H' → AHOk e B μ' H' h' → RelD e B μ' H' d v → D.rt v H'
  | .exc x s h' => ∀ cls d σ' μ' H', Ext μ H μ' H' → AHOk e B μ' H' h' → XRel e B μ' H' x cls d → StRel e B μ' H' s σ' → W cls d σ' H'
  | .stuck => False
variable {E : XK} {W : WX}
theorem Out.mono {r : Res D} {Q Q' : VK} (x : Ext μ H μ' H') (o : Out e E μ H B r Q) (hQ : ∀ v H, Q v H → Q' v H) : Out e E μ' H' B r Q' := by
  cases r with
  | ok d h' => exact fun v μ2 H2 y a r => hQ _ _ (o v μ2 H2 (x.trans y) a r)
  | exc z h' => exact fun c d μ2 H2 y a r => o c d μ2 H2 (x.trans y) a r
  | stuck => exact o
theorem OutB.mono {r : Res Bool} {Q Q' : Bool → Hp → Prop} (x : Ext μ H μ' H') (o : OutB e E μ H B r Q) (hQ : ∀ v H, Q v H → Q' v H) : OutB e E μ' H' B r Q' := by
  cases r with
  | ok d h' => exact fun μ2 H2 y a => hQ _ _ (o μ2 H2 (x.trans y) a)
  | exc z h' => exact fun c d μ2 H2 y a r => o c d μ2 H2 (x.trans y) a r
  | stuck => exact o
theorem OutA.mono {r : Res (List D)} {Q Q' : List V → Hp → Prop} (x : Ext μ H μ' H') (o : OutA e E μ H B r Q) (hQ : ∀ v H, Q v H → Q' v H) : OutA e E μ' H' B r Q' := by
  cases r with
  | ok d h' => exact fun v μ2 H2 y a r => hQ _ _ (o v μ2 H2 (x.trans y) a r)
  | exc z h' => exact fun c d μ2 H2 y a r => o c d μ2 H2 (x.trans y) a r
  | stuck => exact o
theorem OutS.mono {r : ResS} {D : Ends} (x : Ext μ H μ' H') (o : OutS e W μ H B r D) : OutS e W μ' H' B r D := by
  cases r with
  | nx s h' => exact fun σ' μ2 H2 y a r => o σ' μ2 H2 (x.trans y) a r
  | bk s h' => exact fun σ' μ2 H2 y a r => o σ' μ2 H2 (x.trans y) a r
  | ct s h' => exact fun σ' μ2 H2 y a r => o σ' μ2 H2 (x.trans y) a r
  | rt d h' => exact fun v μ2 H2 y a r => o v μ2 H2 (x.trans y) a r
  | exc z s h' => exact fun c d σ' μ2 H2 y a r q => o c d σ' μ2 H2 (x.trans y) a r q
  | stuck => exact o
/-- what comes first, then the rest -/
theorem Out.bind {r : Res D} {k : D → AH → Res D} {Q R : VK} (o : Out e E μ H B (r.bind k) Q)
    (hk : ∀ d h v μ' H', Ext μ H μ' H' → AHOk e B μ' H' h → RelD e B μ' H' d v → Out e E μ' H' B (k d h) Q → R v H') : Out e E μ H B r R := by
  cases r with
  | ok d h' => exact fun v μ2 H2 y a r => hk d h' v μ2 H2 y a r (Out.mono y o fun _ _ q => q)
  | exc _ _ => exact o
  | stuck => exact o
end

/-! ### canonical readings -/
section
variable (e : En) (W : WX)
def rE (c : CE) : TE := fun σ H Q => ∃ B μ S h, StRel e B μ H S σ ∧ AHOk e B μ H h ∧ Out e (WE W σ) μ H B (c S h) Q
def rT (c : CT) : TT := fun σ H Q => ∃ B μ S h, StRel e B μ H S σ ∧ AHOk e B μ H h ∧ OutB e (WE W σ) μ H B (c S h) Q
def rA (c : CA) : TA := fun σ H Q => ∃ B μ S h, StRel e B μ H S σ ∧ AHOk e B μ H h ∧ OutA e (WE W σ) μ H B (c S h) Q
def rS (c : CS) : TS := fun D σ H => ∃ B μ S h, StRel e B μ H S σ ∧ AHOk e B μ H h ∧ OutS e W μ H B (c S h) D
end
abbrev _root_.L2.Cx.en (X : Cx) : En := ⟨X.K, X.mg, X.w⟩
section
variable {X : Cx} {W : WX}
theorem _root_.L2.PE.imp {x : Expr} {t t' : TE} (h : PE X x t) (k : ∀ σ H Q, t' σ H Q → t σ H Q) : PE X x t' := ⟨fun pins s σ H Q I q => h.run pins s σ H Q I (k σ H Q q)⟩
theorem _root_.L2.PT.imp {x : Expr} {t t' : TT} (h : PT X x t) (k : ∀ σ H Q, t' σ H Q → t σ H Q) : PT X x t' := ⟨fun pins s σ H Q I q => h.run pins s σ H Q I (k σ H Q q)⟩
theorem _root_.L2.PW.imp {x : Expr} {t t' : TT} (h : PW X x t) (k : ∀ σ H Q, t' σ H Q → t σ H Q) : PW X x t' := ⟨fun w pins s σ H Q I q => h.run w pins s σ H Q I (k σ H Q q)⟩
theorem _root_.L2.PA.imp {x : List Expr} {t t' : TA} (h : PA X x t) (k : ∀ σ H Q, t' σ H Q → t σ H Q) : PA X x t' := ⟨fun pos pins s σ H Q I q => h.run pos pins s σ H Q I (k σ H Q q)⟩
theorem _root_.L2.PS.imp {x : Stmt} {t t' : TS} (h : PS X x t) (k : ∀ D σ H, t' D σ H → t D σ H) : PS X x t' := ⟨fun pins s σ H D I q => h.run pins s σ H D I (k D σ H q)⟩
theorem _root_.L2.PSs.imp {x : List Stmt} {t t' : TS} (h : PSs X x t) (k : ∀ D σ H, t' D σ H → t D σ H) : PSs X x t' := ⟨fun pins s σ H D I q => h.run pins s σ H D I (k D σ H q)⟩

/-! ### names, constants -/
def varC (i : Nat) : CE := fun S h => match S[i]? with
  | some (some d) => .ok d h
  | _ => .stuck
def cstC (d : D) : CE := fun _ h => .ok d h
theorem g_var (i : Nat) {x : Str} {pos : Pos} (hN : X.N[i]? = some x := by rfl) (hv : Vis X.env.scope x := by first | exact Or.inl rfl | exact Or.inr (Or.inl rfl) | exact Or.inr (Or.inr rfl)) (hd : (x == ("__debug__" : Str)) = false := by decide)
    (hcd : (x == ("__classdict__" : Str)) = false := by decide) : PE X (.Name x pos) (rE X.en W (varC i)) := by
  refine (pe_var hN hv hd hcd).imp fun σ H Q ⟨B, μ, S, h, s, a, o⟩ => ?_
  unfold varC at o
  split at o
  · rename_i d hd
    obtain ⟨v, h1, r⟩ := s.2 i d hd
    exact ⟨v, h1, o v μ H .refl a r⟩
  · exact o.elim
theorem g_int {i j pos} : PE X (.Constant (.int i) j pos) (rE X.en W (cstC (.int i))) := pe_int.imp fun σ H Q ⟨B, μ, S, h, s, a, o⟩ => o _ μ H .refl a (.int i)
theorem g_bl {b j pos} : PE X (.Constant (.bool b) j pos) (rE X.en W (cstC (.bl b))) := pe_bl.imp fun σ H Q ⟨B, μ, S, h, s, a, o⟩ => o _ μ H .refl a (.bl b)
theorem g_non {j pos} : PE X (.Constant .none j pos) (rE X.en W (cstC .non)) := pe_non.imp fun σ H Q ⟨B, μ, S, h, s, a, o⟩ => o _ μ H .refl a .non
theorem g_str {x j pos} (hx : okS x := by exact ⟨by decide +kernel, by decide +kernel⟩) : PE X (.Constant (.str x) j pos) (rE X.en W (cstC (.str x))) := pe_str.imp fun σ H Q ⟨B, μ, S, h, s, a, o⟩ => o _ μ H .refl a (.str x hx)

/-! ### two operands -/
def op2 (f : D → D → AH → Res D) (a b : CE) : CE := fun S h => (a S h).bind fun x h1 => (b S h1).bind fun y h2 => f x y h2
/-- a rule of values simulates f -/
def Sim2 (e : En) (f : D → D → AH → Res D) (r : R2) : Prop := ∀ E B μ H h d1 d2 v1 v2 Q, AHOk e B μ H h → RelD e B μ H d1 v1 → RelD e B μ H d2 v2 → Out e E μ H B (f d1 d2 h) Q → r v1 v2 H Q
theorem r_op {e : En} {f : D → D → AH → Res D} {r : R2} {ca cb : CE} (hs : Sim2 e f r) : ∀ σ H Q, rE e W (op2 f ca cb) σ H Q → tOp r (rE e W ca) (rE e W cb) σ H Q := by
  rintro σ H Q ⟨B, μ, S, h, s, a, o⟩
  refine ⟨B, μ, S, h, s, a, o.bind fun d1 h1 v1 μ1 H1 x1 a1 r1 o1 => ?_⟩
  refine ⟨B, μ1, S, h1, s.mono x1, a1, o1.bind fun d2 h2 v2 μ2 H2 x2 a2 r2 o2 => ?_⟩
  exact hs _ B μ2 H2 h2 d1 d2 v1 v2 Q a2 (r1.mono x2) r2 o2
section
variable {a b : Expr} {ca cb : CE} {pos : Pos}
theorem g_op {op : Operator} {f : D → D → AH → Res D} {r : R2} (ho : OpR X (binaryOp op) r) (hs : Sim2 X.en f r) (ha : PE X a (rE X.en W ca)) (hb : PE X b (rE X.en W cb)) : PE X (.BinOp a op b pos) (rE X.en W (op2 f ca cb)) :=
  (pe_op ho ha hb).imp (r_op hs)
theorem g_cmp {op : CmpOp} {f : D → D → AH → Res D} {r : R2} (ho : OpR X (compareOp op) r) (hs : Sim2 X.en f r) (ha : PE X a (rE X.en W ca)) (hb : PE X b (rE X.en W cb)) (hm : behindInMarks op b = false) : PE X (.Compare a [op] [b] pos) (rE X.en W (op2 f ca cb)) :=
  (pe_cmpR ho ha hb hm).imp (r_op hs)
theorem g_ix {f : D → D → AH → Res D} {r : R2} (hr : IxR X r) (hs : Sim2 X.en f r) (ha : PE X a (rE X.en W ca)) (hb : PE X b (rE X.en W cb)) (hp : PlainIx b) : PE X (.Subscript a b pos) (rE X.en W (op2 f ca cb)) :=
  (pe_ix hr ha hb hp).imp (r_op hs)
end
/-! ### arguments, calls by a rule -/
def nilA : CA := fun _ h => .ok [] h
def consA (a : CE) (r : CA) : CA := fun S h => (a S h).bind fun x h1 => (r S h1).bind fun xs h2 => .ok (x :: xs) h2
theorem ga_nil : PA X [] (rA X.en W nilA) := pa_nil.imp fun σ H Q ⟨B, μ, S, h, s, a, o⟩ => o _ μ H .refl a .nil
theorem OutA.bindE {e : En} {E : XK} {μ : Mu} {H : Hp} {B : Bk} {r : Res D} {k : D → AH → Res (List D)} {Q : List V → Hp → Prop} {R : VK} (o : OutA e E μ H B (r.bind k) Q)
    (hk : ∀ d h v μ' H', Ext μ H μ' H' → AHOk e B μ' H' h → RelD e B μ' H' d v → OutA e E μ' H' B (k d h) Q → R v H') : Out e E μ H B r R := by
  cases r with
  | ok d h' => exact fun v μ2 H2 y a r => hk d h' v μ2 H2 y a r (OutA.mono y o fun _ _ q => q)
  | exc _ _ => exact o
  | stuck => exact o
theorem OutA.bindA {e : En} {E : XK} {μ : Mu} {H : Hp} {B : Bk} {r : Res (List D)} {k : List D → AH → Res (List D)} {Q R : List V → Hp → Prop} (o : OutA e E μ H B (r.bind k) Q)
    (hk : ∀ d h v μ' H', Ext μ H μ' H' → AHOk e B μ' H' h → RelDs e B μ' H' d v → OutA e E μ' H' B (k d h) Q → R v H') : OutA e E μ H B r R := by
  cases r with
  | ok d h' => exact fun v μ2 H2 y a r => hk d h' v μ2 H2 y a r (OutA.mono y o fun _ _ q => q)
  | exc _ _ => exact o
  | stuck => exact o
theorem Out.bindA {e : En} {E : XK} {μ : Mu} {H : Hp} {B : Bk} {r : Res (List D)} {k : List D → AH → Res D} {Q : VK} {R : List V → Hp → Prop} (o : Out e E μ H B (r.bind k) Q)
    (hk : ∀ d h v μ' H', Ext μ H μ' H' → AHOk e B μ' H' h → RelDs e B μ' H' d v → Out e E μ' H' B (k d h) Q → R v H') : OutA e E μ H B r R := by
  cases r with
  | ok d h' => exact fun v μ2 H2 y a r => hk d h' v μ2 H2 y a r (Out.mono y o fun _ _ q => q)
  | exc _ _ => exact o
  | stuck => exact o
theorem ga_cons {x : Expr} {xs : List Expr} {c : CE} {cs : CA} (hx : PE X x (rE X.en W c)) (hr : PA X xs (rA X.en W cs)) (hs : starEach (x :: xs) X.env = (false, eval x X.env) :: starEach xs X.env := by rfl) : PA X (x :: xs) (rA X.en W (consA c cs)) := by
  refine (pa_cons hx hr hs).imp fun σ H Q ⟨B, μ, S, h, s, a, o⟩ => ?_
  refine ⟨B, μ, S, h, s, a, o.bindE fun d1 h1 v1 μ1 H1 x1 a1 r1 o1 => ?_⟩
  refine ⟨B, μ1, S, h1, s.mono x1, a1, o1.bindA fun d2 h2 v2 μ2 H2 x2 a2 r2 o2 => ?_⟩
  exact o2 _ μ2 H2 .refl a2 (.cons (r1.mono x2) r2)
def apC (f : List D → AH → Res D) (cs : CA) : CE := fun S h => (cs S h).bind f
def SimC (e : En) (f : List D → AH → Res D) (r : List V → Hp → VK → Prop) : Prop := ∀ E B μ H h ds vs Q, AHOk e B μ H h → RelDs e B μ H ds vs → Out e E μ H B (f ds h) Q → r vs H Q
theorem r_ap {e : En} {f : List D → AH → Res D} {r : List V → Hp → VK → Prop} {cs : CA} (hs : SimC e f r) : ∀ σ H Q, rE e W (apC f cs) σ H Q → rA e W cs σ H fun vs H1 => r vs H1 Q := by
  rintro σ H Q ⟨B, μ, S, h, s, a, o⟩
  refine ⟨B, μ, S, h, s, a, o.bindA fun d1 h1 v1 μ1 H1 x1 a1 r1 o1 => ?_⟩
  exact hs _ B μ1 H1 h1 d1 v1 Q a1 r1 o1
theorem g_callB {f : List D → AH → Res D} {r : List V → Hp → VK → Prop} {id : String} {x : Str} {y : Expr} {ys : List Expr} {cs : CA} {p pos : Pos} (hc : CallR X (.builtin id) r) (hs : SimC X.en f r) (hg : Gl X x) (hm : X.mg x = none) (hv : bootBuiltins x = some (.builtin id)) (ha : PA X (y :: ys) (rA X.en W cs)) (hn : x ≠ "__name__" := by decide) (hdb : (x == ("__debug__" : Str)) = false := by decide)
    (he : starEach (y :: ys) X.env = (false, eval y X.env) :: starEach ys X.env := by rfl) (hpl : (backTo pos (starEach ys X.env)).any (·.1) = false := by rfl) :
    PE X (.Call (.Name x p) (y :: ys) [] pos) (rE X.en W (apC f cs)) := (pe_callB hc hg hm hv ha hn hdb he hpl).imp (r_ap hs)
theorem g_callTy {f : List D → AH → Res D} {r : List V → Hp → VK → Prop} {T : String} {x : Str} {y : Expr} {ys : List Expr} {cs : CA} {p pos : Pos} (hc : CallR X (.type T) r) (hs : SimC X.en f r) (hg : Gl X x) (hm : X.mg x = none) (hv : bootBuiltins x = some (.type T)) (ha : PA X (y :: ys) (rA X.en W cs)) (hn : x ≠ "__name__" := by decide) (hdb : (x == ("__debug__" : Str)) = false := by decide)
    (he : starEach (y :: ys) X.env = (false, eval y X.env) :: starEach ys X.env := by rfl) (hpl : (backTo pos (starEach ys X.env)).any (·.1) = false := by rfl) :
    PE X (.Call (.Name x p) (y :: ys) [] pos) (rE X.en W (apC f cs)) := (pe_callTy hc hg hm hv ha hn hdb he hpl).imp (r_ap hs)
end
end G

/-! E3: tests, statements, targets. -/
namespace G
open PySem PySem.Spec L2
open PyProof.Rows hiding St
section
variable {X : Cx} {E : XK} {W : WX}
/-! ### tests -/
def asB (c : CE) : CT := fun S h => (c S h).bind fun d h1 => match d with
  | .bl b => .ok b h1
  | _ => .stuck
def lenO : O → Option Nat
  | .lst xs => some xs.length
  | .dct ks _ => some ks.length
  | _ => none
def truthD (d : D) (h : AH) : Option Bool := match d with
  | .non => some false
  | .bl b => some b
  | .int i => some (i != 0)
  | .str x => some ((x.length : Int) != 0)
  | .tup xs => some (!xs.isEmpty)
  | .lst xs => some (!xs.isEmpty)
  | _ => none
def asT (c : CE) : CT := fun S h => (c S h).bind fun d h1 => match truthD d h1 with
  | some b => .ok b h1
  | none => .stuck
theorem OutB.bindE {e : En} {μ : Mu} {H : Hp} {B : Bk} {r : Res D} {k : D → AH → Res Bool} {Q : Bool → Hp → Prop} {R : VK} (o : OutB e E μ H B (r.bind k) Q)
    (hk : ∀ d h v μ' H', Ext μ H μ' H' → AHOk e B μ' H' h → RelD e B μ' H' d v → OutB e E μ' H' B (k d h) Q → R v H') : Out e E μ H B r R := by
  cases r with
  | ok d h' => exact fun v μ2 H2 y a r => hk d h' v μ2 H2 y a r (OutB.mono y o fun _ _ q => q)
  | exc _ _ => exact o
  | stuck => exact o
theorem OutB.bindB {e : En} {μ : Mu} {H : Hp} {B : Bk} {r : Res Bool} {k : Bool → AH → Res Bool} {Q R : Bool → Hp → Prop} (o : OutB e E μ H B (r.bind k) Q)
    (hk : ∀ d h μ' H', Ext μ H μ' H' → AHOk e B μ' H' h → OutB e E μ' H' B (k d h) Q → R d H') : OutB e E μ H B r R := by
  cases r with
  | ok d h' => exact fun μ2 H2 y a => hk d h' μ2 H2 y a (OutB.mono y o fun _ _ q => q)
  | exc _ _ => exact o
  | stuck => exact o
theorem Out.bindB {e : En} {μ : Mu} {H : Hp} {B : Bk} {r : Res Bool} {k : Bool → AH → Res D} {Q : VK} {R : Bool → Hp → Prop} (o : Out e E μ H B (r.bind k) Q)
    (hk : ∀ d h μ' H', Ext μ H μ' H' → AHOk e B μ' H' h → Out e E μ' H' B (k d h) Q → R d H') : OutB e E μ H B r R := by
  cases r with
  | ok d h' => exact fun μ2 H2 y a => hk d h' μ2 H2 y a (Out.mono y o fun _ _ q => q)
  | exc _ _ => exact o
  | stuck => exact o
theorem r_asB {e : En} {c : CE} : ∀ σ H Q, rT e W (asB c) σ H Q → rE e W c σ H fun x H' => ∃ k, x = .bl k ∧ Q k H' := by
  rintro σ H Q ⟨B, μ, S, h, s, a, o⟩
  refine ⟨B, μ, S, h, s, a, o.bindE fun d1 h1 v1 μ1 H1 x1 a1 r1 o1 => ?_⟩
  cases r1 with
  | bl b => exact ⟨b, rfl, o1 μ1 H1 .refl a1⟩
  | _ => exact o1.elim
theorem gt_val {x : Expr} {c : CE} (hx : PE X x (rE X.en W c)) (he : ∀ whole, isTrue x X.env whole = (do let v ← whole; standAt x.pos; holding [v] (truthy v)) := by intro _; rfl) : PT X x (rT X.en W (asB c)) :=
  (pt_val hx he).imp r_asB
theorem gt_cmp {a b : Expr} {ca cb : CE} {pos : Pos} {op : CmpOp} {f : D → D → AH → Res D} {r : R2} (ho : OpR X (compareOp op) r) (hs : Sim2 X.en f r) (ha : PE X a (rE X.en W ca)) (hb : PE X b (rE X.en W cb)) (hm : behindInMarks op b = false) : PT X (.Compare a [op] [b] pos) (rT X.en W (asB (op2 f ca cb))) :=
  (pt_cmpR ho ha hb hm).imp fun σ H Q q => r_op hs σ H _ (r_asB σ H Q q)
theorem r_asT {X : Cx} {c : CE} : ∀ σ H Q, rT X.en W (asT c) σ H Q → rE X.en W c σ H fun x H' => ∃ k, TruV X.K x H' k ∧ Q k H' := by
  rintro σ H Q ⟨B, μ, S, h, s, a, o⟩
  refine ⟨B, μ, S, h, s, a, o.bindE fun d1 h1 v1 μ1 H1 x1 a1 r1 o1 => ?_⟩
  cases r1 with
  | non => exact ⟨false, rfl, o1 μ1 H1 .refl a1⟩
  | bl b => exact ⟨b, rfl, o1 μ1 H1 .refl a1⟩
  | int i => exact ⟨_, rfl, o1 μ1 H1 .refl a1⟩
  | str y hy => exact ⟨((y.length : Int) != 0), ⟨hy.1, rfl⟩, o1 μ1 H1 .refl a1⟩
  | ty _ => exact o1.elim
  | glb _ => exact o1.elim
  | scrF _ _ => exact o1.elim
  | scrK _ => exact o1.elim
  | tup hr p z r =>
    refine ⟨_, .inr (.inl ⟨_, .inl hr.rd, rfl⟩), ?_⟩
    have e1 := r.length
    have e2 : ∀ {α : Type} (l : List α), l.isEmpty = decide (l.length = 0) := fun l => by cases l <;> simp
    rw [e2, ← e1, ← e2]
    exact o1 μ1 H1 .refl a1
  | tupK k r =>
    refine ⟨_, .inr (.inl ⟨_, .inr k.k, rfl⟩), ?_⟩
    have e1 := r.length
    have e2 : ∀ {α : Type} (l : List α), l.isEmpty = decide (l.length = 0) := fun l => by cases l <;> simp
    rw [e2, ← e1, ← e2]
    exact o1 μ1 H1 .refl a1
  | lst hr p z r =>
    refine ⟨_, .inl ⟨_, .inl (.inl hr), rfl⟩, ?_⟩
    have e1 := r.length
    have e2 : ∀ {α : Type} (l : List α), l.isEmpty = decide (l.length = 0) := fun l => by cases l <;> simp
    rw [e2, ← e1, ← e2]
    exact o1 μ1 H1 .refl a1
  | dct _ _ _ _ => exact o1.elim
  | ref _ => exact o1.elim
theorem gt_truth {x : Expr} {c : CE} (hx : PE X x (rE X.en W c)) (he : ∀ whole, isTrue x X.env whole = (do let v ← whole; standAt x.pos; holding [v] (truthy v)) := by intro _; rfl) : PT X x (rT X.en W (asT c)) :=
  (pt_truth hx he).imp r_asT
def notT (c : CT) : CT := fun S h => (c S h).bind fun b h1 => .ok (!b) h1
def andT (a b : CT) : CT := fun S h => (a S h).bind fun x h1 => if x then b S h1 else .ok false h1
def orT (a b : CT) : CT := fun S h => (a S h).bind fun x h1 => if x then .ok true h1 else b S h1
def valT (c : CT) : CE := fun S h => (c S h).bind fun b h1 => .ok (.bl b) h1
variable {a b : Expr} {rest : List Expr} {ca cb : CT} {pos : Pos}
theorem gt_not (ha : PT X a (rT X.en W ca)) : PT X (.UnaryOp .Not a pos) (rT X.en W (notT ca)) := by
  refine (pt_not ha).imp fun σ H Q ⟨B, μ, S, h, s, a, o⟩ => ?_
  exact ⟨B, μ, S, h, s, a, o.bindB fun d1 h1 μ1 H1 x1 a1 o1 => o1 μ1 H1 .refl a1⟩
theorem gw_and1 (ha : PT X a (rT X.en W ca)) : PW X (.BoolOp .And [a] pos) (rT X.en W ca) := pw_and1 ha
theorem gw_or1 (ha : PT X a (rT X.en W ca)) : PW X (.BoolOp .Or [a] pos) (rT X.en W ca) := pw_or1 ha
theorem gw_and (ha : PT X a (rT X.en W ca)) (hb : PW X (.BoolOp .And (b :: rest) pos) (rT X.en W cb)) : PW X (.BoolOp .And (a :: b :: rest) pos) (rT X.en W (andT ca cb)) := by
  refine (pw_and ha hb).imp fun σ H Q ⟨B, μ, S, h, s, a, o⟩ => ?_
  refine ⟨B, μ, S, h, s, a, o.bindB fun d1 h1 μ1 H1 x1 a1 o1 => ?_⟩
  cases d1 with
  | true => exact iteT ⟨B, μ1, S, h1, s.mono x1, a1, o1⟩
  | false => exact iteF (o1 μ1 H1 .refl a1)
theorem gw_or (ha : PT X a (rT X.en W ca)) (hb : PW X (.BoolOp .Or (b :: rest) pos) (rT X.en W cb)) : PW X (.BoolOp .Or (a :: b :: rest) pos) (rT X.en W (orT ca cb)) := by
  refine (pw_or ha hb).imp fun σ H Q ⟨B, μ, S, h, s, a, o⟩ => ?_
  refine ⟨B, μ, S, h, s, a, o.bindB fun d1 h1 μ1 H1 x1 a1 o1 => ?_⟩
  cases d1 with
  | true => exact iteT (o1 μ1 H1 .refl a1)
  | false => exact iteF ⟨B, μ1, S, h1, s.mono x1, a1, o1⟩
/-- and, or as values (bools) -/
def andV (a b : CE) : CE := fun S h => (asB a S h).bind fun x h1 => if x then b S h1 else .ok (.bl false) h1
def orV (a b : CE) : CE := fun S h => (asB a S h).bind fun x h1 => if x then .ok (.bl true) h1 else b S h1
def notV (a : CE) : CE := fun S h => (asB a S h).bind fun x h1 => .ok (.bl (!x)) h1
variable {va vb vc : CE}
theorem g_one {op} (ha : PE X a (rE X.en W va)) : PE X (.BoolOp op [a] pos) (rE X.en W va) := pe_one ha
theorem r_asBQ {e : En} {c : CE} {k : Bool → AH → Res D} {μ : Mu} {H : Hp} {B : Bk} {S : Sl} {h : AH} {σ : L2.St} {Q : VK} {R : Bool → Hp → Prop} (s : StRel e B μ H S σ) (a : AHOk e B μ H h) (o : Out e (WE W σ) μ H B ((asB c S h).bind k) Q)
    (hk : ∀ d h μ' H', Ext μ H μ' H' → AHOk e B μ' H' h → Out e (WE W σ) μ' H' B (k d h) Q → R d H') : rE e W c σ H fun x H' => ∃ k, x = .bl k ∧ R k H' :=
  r_asB σ H R ⟨B, μ, S, h, s, a, o.bindB hk⟩
theorem g_and (ha : PE X a (rE X.en W va)) (hb : PE X (.BoolOp .And (b :: rest) pos) (rE X.en W vb)) : PE X (.BoolOp .And (a :: b :: rest) pos) (rE X.en W (andV va vb)) := by
  refine (pe_and ha hb).imp fun σ H Q ⟨B, μ, S, h, s, a, o⟩ => ?_
  refine r_asBQ s a o fun d1 h1 μ1 H1 x1 a1 o1 => ?_
  cases d1 with
  | true => exact iteT ⟨B, μ1, S, h1, s.mono x1, a1, o1⟩
  | false => exact iteF (o1 _ μ1 H1 .refl a1 (.bl false))
theorem g_or (ha : PE X a (rE X.en W va)) (hb : PE X (.BoolOp .Or (b :: rest) pos) (rE X.en W vb)) : PE X (.BoolOp .Or (a :: b :: rest) pos) (rE X.en W (orV va vb)) := by
  refine (pe_or ha hb).imp fun σ H Q ⟨B, μ, S, h, s, a, o⟩ => ?_
  refine r_asBQ s a o fun d1 h1 μ1 H1 x1 a1 o1 => ?_
  cases d1 with
  | true => exact iteT (o1 _ μ1 H1 .refl a1 (.bl true))
  | false => exact iteF ⟨B, μ1, S, h1, s.mono x1, a1, o1⟩
theorem g_not (ha : PE X a (rE X.en W va)) : PE X (.UnaryOp .Not a pos) (rE X.en W (notV va)) := by
  refine (pe_not ha).imp fun σ H Q ⟨B, μ, S, h, s, a, o⟩ => ?_
  exact r_asBQ s a o fun d1 h1 μ1 H1 x1 a1 o1 => o1 _ μ1 H1 .refl a1 (.bl _)
def ifC (t : CT) (a b : CE) : CE := fun S h => (t S h).bind fun x h1 => if x then a S h1 else b S h1
theorem g_if {t : Expr} (ht : PT X t (rT X.en W ca)) (ha : PE X a (rE X.en W va)) (hb : PE X b (rE X.en W vb)) : PE X (.IfExp t a b pos) (rE X.en W (ifC ca va vb)) := by
  refine (pe_ifExp ht ha hb).imp fun σ H Q ⟨B, μ, S, h, s, a, o⟩ => ?_
  refine ⟨B, μ, S, h, s, a, o.bindB fun d1 h1 μ1 H1 x1 a1 o1 => ?_⟩
  cases d1 with
  | true => exact iteT ⟨B, μ1, S, h1, s.mono x1, a1, o1⟩
  | false => exact iteF ⟨B, μ1, S, h1, s.mono x1, a1, o1⟩
end
/-! ### statements -/
/-- a statement that begins with an expression -/
def Res.sbind {α : Type} (r : Res α) (S : Sl) (k : α → AH → ResS) : ResS := match r with
  | .ok d h => k d h
  | .exc x h => .exc x S h
  | .stuck => .stuck
@[simp] theorem Res.sbind_ok {α : Type} (a : α) (h : AH) (S : Sl) (k : α → AH → ResS) : (Res.ok a h).sbind S k = k a h := rfl
@[simp] theorem Res.sbind_exc {α : Type} (x : Exn) (h : AH) (S : Sl) (k : α → AH → ResS) : (Res.exc x h : Res α).sbind S k = .exc x S h := rfl
@[simp] theorem Res.sbind_stuck {α : Type} (S : Sl) (k : α → AH → ResS) : (Res.stuck : Res α).sbind S k = .stuck := rfl
def ResS.bind (r : ResS) (k : Sl → AH → ResS) : ResS := match r with
  | .nx s h => k s h
  | r => r
section
variable {X : Cx} {E : XK} {W : WX} {x : Expr} {st : Stmt} {sts : List Stmt} {c : CE} {cs cs' : CS} {t : CT} {pos : Pos}
def skipC : CS := fun S h => .nx S h
def seqC (a b : CS) : CS := fun S h => (a S h).bind b
theorem OutS.bind {e : En} {μ : Mu} {H : Hp} {B : Bk} {r : ResS} {k : Sl → AH → ResS} {D : Ends} {N : L2.St → Hp → Prop} (o : OutS e W μ H B (r.bind k) D)
    (hk : ∀ S h σ' μ' H', Ext μ H μ' H' → AHOk e B μ' H' h → StRel e B μ' H' S σ' → OutS e W μ' H' B (k S h) D → N σ' H') : OutS e W μ H B r { D with nx := N } := by
  cases r with
  | nx S h' => exact fun σ' μ2 H2 y a r => hk S h' σ' μ2 H2 y a r (OutS.mono y o)
  | _ => exact o
theorem OutS.bindE {e : En} {μ : Mu} {H : Hp} {B : Bk} {r : Res D} {k : D → AH → ResS} {s : Sl} {D : Ends} {R : VK}
    {σ : L2.St} (st : StRel e B μ H s σ) (o : OutS e W μ H B (r.sbind s k) D)
    (hk : ∀ d h v μ' H', Ext μ H μ' H' → AHOk e B μ' H' h → RelD e B μ' H' d v → OutS e W μ' H' B (k d h) D → R v H') : Out e (WE W σ) μ H B r R := by
  cases r with
  | ok d h' => exact fun v μ2 H2 y a r => hk d h' v μ2 H2 y a r (OutS.mono y o)
  | exc _ _ => exact fun c d μ2 H2 y a r => o c d σ μ2 H2 y a r (st.mono y)
  | stuck => exact o
theorem OutS.bindB {e : En} {μ : Mu} {H : Hp} {B : Bk} {r : Res Bool} {k : Bool → AH → ResS} {s : Sl} {D : Ends} {R : Bool → Hp → Prop}
    {σ : L2.St} (st : StRel e B μ H s σ) (o : OutS e W μ H B (r.sbind s k) D)
    (hk : ∀ d h μ' H', Ext μ H μ' H' → AHOk e B μ' H' h → OutS e W μ' H' B (k d h) D → R d H') : OutB e (WE W σ) μ H B r R := by
  cases r with
  | ok d h' => exact fun μ2 H2 y a => hk d h' μ2 H2 y a (OutS.mono y o)
  | exc _ _ => exact fun c d μ2 H2 y a r => o c d σ μ2 H2 y a r (st.mono y)
  | stuck => exact o
theorem gs_nil : PSs X [] (rS X.en W skipC) := pss_nil.imp fun D σ H ⟨B, μ, S, h, s, a, o⟩ => o σ μ H .refl a s
theorem r_seq {e : En} : ∀ D σ H, rS e W (seqC cs cs') D σ H → rS e W cs { D with nx := rS e W cs' D } σ H := by
  rintro D σ H ⟨B, μ, S, h, s, a, o⟩
  exact ⟨B, μ, S, h, s, a, o.bind fun S1 h1 σ1 μ1 H1 x1 a1 s1 o1 => ⟨B, μ1, S1, h1, s1, a1, o1⟩⟩
theorem gs_cons (h1 : PS X st (rS X.en W cs)) (h2 : PSs X sts (rS X.en W cs')) : PSs X (st :: sts) (rS X.en W (seqC cs cs')) := (pss_cons h1 h2).imp r_seq
theorem gs_one (h1 : PS X st (rS X.en W cs)) : PSs X [st] (rS X.en W cs) := pss_one h1
theorem g_pass : PS X (.Pass pos) (rS X.en W skipC) := ps_pass.imp fun D σ H ⟨B, μ, S, h, s, a, o⟩ => o σ μ H .refl a s
theorem g_break : PS X (.Break pos) (rS X.en W fun S h => .bk S h) := ps_break.imp fun D σ H ⟨B, μ, S, h, s, a, o⟩ => o σ μ H .refl a s
theorem g_continue : PS X (.Continue pos) (rS X.en W fun S h => .ct S h) := ps_continue.imp fun D σ H ⟨B, μ, S, h, s, a, o⟩ => o σ μ H .refl a s
def exprC (c : CE) : CS := fun S h => (c S h).sbind S fun _ h1 => .nx S h1
theorem g_expr (hx : PE X x (rE X.en W c)) (hs : swapsWith x none pos.line X.env = pure false := by rfl) : PS X (.Expr x pos) (rS X.en W (exprC c)) := by
  refine (ps_expr hx hs).imp fun D σ H ⟨B, μ, S, h, s, a, o⟩ => ?_
  exact ⟨B, μ, S, h, s, a, OutS.bindE s o fun d1 h1 v1 μ1 H1 x1 a1 r1 o1 => o1 σ μ1 H1 .refl a1 (s.mono x1)⟩
def retC (c : CE) : CS := fun S h => (c S h).sbind S fun d h1 => .rt d h1
theorem g_ret (hx : PE X x (rE X.en W c)) : PS X (.Return (some x) pos) (rS X.en W (retC c)) := by
  refine (ps_ret hx).imp fun D σ H ⟨B, μ, S, h, s, a, o⟩ => ?_
  exact ⟨B, μ, S, h, s, a, OutS.bindE s o fun d1 h1 v1 μ1 H1 x1 a1 r1 o1 => o1 v1 μ1 H1 .refl a1 r1⟩
def retN : CS := fun S h => .rt .non h
theorem g_retN : PS X (.Return none pos) (rS X.en W retN) := ps_retN.imp fun D σ H ⟨B, μ, S, h, s, a, o⟩ => o .non μ H .refl a .non
def ifS (t : CT) (a b : CS) : CS := fun S h => (t S h).sbind S fun x h1 => if x then a S h1 else b S h1
theorem g_ifS {tx : Expr} {aa bb : List Stmt} (ht : PT X tx (rT X.en W t)) (ha : PSs X aa (rS X.en W cs)) (hb : PSs X bb (rS X.en W cs')) : PS X (.If tx aa bb pos) (rS X.en W (ifS t cs cs')) := by
  refine (ps_if ht ha hb).imp fun D σ H ⟨B, μ, S, h, s, a, o⟩ => ?_
  refine ⟨B, μ, S, h, s, a, OutS.bindB s o fun d1 h1 μ1 H1 x1 a1 o1 => ?_⟩
  cases d1 with
  | true => exact iteT ⟨B, μ1, S, h1, s.mono x1, a1, o1⟩
  | false => exact iteF ⟨B, μ1, S, h1, s.mono x1, a1, o1⟩

/-! ### targets -/
abbrev CG := D → Sl → AH → ResS
def rG (e : En) (W : WX) (g : CG) : TG := fun v σ H Q => ∃ B μ S h d, StRel e B μ H S σ ∧ AHOk e B μ H h ∧ RelD e B μ H d v ∧ OutS e W μ H B (g d S h) { nx := Q, rt := fun _ _ => False }
def nameG (i : Nat) : CG := fun d S h => .nx (S.set i (some d)) h
theorem gg_name (i : Nat) {y : Str} {p : Pos} (hN : X.N.Nodup) (hi : X.N[i]? = some y := by rfl) (hx : Loc X.env.scope y := by first | exact Or.inl rfl | exact Or.inr rfl) (hf : X.fn y = true ∨ X.env.scope.names.lookup y = some .local := by first | exact .inl rfl | exact .inr rfl | assumption) : PG X (.Name y p) (rG X.en W (nameG i)) := by
  refine ⟨fun pins s σ H v u Q I r q => (pg_name hN hi hx hf).run pins s σ H v u Q I r ?_⟩
  obtain ⟨B, μ, S, h, d, st, a, rd, o⟩ := q
  exact o (σ.set i (some v)) μ H .refl a (st.set i rd)
/-- tuples' targets -/
abbrev CGs := List D → Sl → AH → ResS
def rGs (e : En) (W : WX) (g : CGs) : TGs := fun vs σ H Q => ∃ B μ S h ds, StRel e B μ H S σ ∧ AHOk e B μ H h ∧ RelDs e B μ H ds vs ∧ OutS e W μ H B (g ds S h) { nx := Q, rt := fun _ _ => False }
def nilG : CGs := fun ds S h => match ds with
  | [] => .nx S h
  | _ => .stuck
def consG (g : CG) (r : CGs) : CGs := fun ds S h => match ds with
  | d :: ds => (g d S h).bind fun S1 h1 => r ds S1 h1
  | [] => .stuck
theorem _root_.L2.PG.imp {x : Expr} {t t' : TG} (h : PG X x t) (k : ∀ v σ H Q, t' v σ H Q → t v σ H Q) : PG X x t' := ⟨fun pins s σ H v u Q I r q => h.run pins s σ H v u Q I r (k v σ H Q q)⟩
theorem _root_.L2.PGs.imp {x : List Expr} {t t' : TGs} (h : PGs X x t) (k : ∀ v σ H Q, t' v σ H Q → t v σ H Q) : PGs X x t' := ⟨fun pins s σ H v u Q I r q => h.run pins s σ H v u Q I r (k v σ H Q q)⟩
theorem ggs_nil : PGs X [] (rGs X.en W nilG) := by
  refine pgs_nil.imp fun vs σ H Q ⟨B, μ, S, h, ds, st, a, rd, o⟩ => ?_
  cases rd with
  | nil => exact ⟨rfl, o σ μ H .refl a st⟩
  | cons _ _ => exact o.elim
theorem ggs_cons {y : Expr} {ys : List Expr} {g : CG} {r : CGs} (h1 : PG X y (rG X.en W g)) (h2 : PGs X ys (rGs X.en W r))
    (hs : (assignEach (y :: ys) X.env).map (·.2) = assign y X.env :: (assignEach ys X.env).map (·.2) := by rfl) : PGs X (y :: ys) (rGs X.en W (consG g r)) := by
  refine (pgs_cons h1 h2 hs).imp fun vs σ H Q ⟨B, μ, S, h, ds, st, a, rd, o⟩ => ?_
  cases rd with
  | nil => exact o.elim
  | cons rd rds =>
    refine ⟨_, _, rfl, B, μ, S, h, _, st, a, rd, o.bind fun S1 h1 σ1 μ1 H1 x1 a1 s1 o1 => ?_⟩
    exact ⟨B, μ1, S1, h1, _, s1, a1, rds.mono x1, o1⟩
def tupG (n : Nat) (g : CGs) : CG := fun d S h => match d with
  | .tup xs => if xs.length = n then g xs S h else .stuck
  | _ => .stuck
theorem gg_tup {ys : List Expr} {k n : Nat} {g : CGs} {p : Pos} (hc : X.calm = true) (hg : PGs X ys (rGs X.en W g))
    (hn : (assignEach ys X.env).length = n := by rfl) (hst : (assignEach ys X.env).findIdx? (·.1) = none := by rfl) : PG X (.Tuple ys k p) (rG X.en W (tupG n g)) := by
  refine (pg_tup hc hg hn hst).imp fun v σ H Q ⟨B, μ, S, h, d, st, a, rd, o⟩ => ?_
  cases rd with
  | tup hr pu z r =>
    unfold tupG at o
    simp only at o
    split at o
    · rename_i hl
      exact ⟨_, _, rfl, .inl hr.rd, by rw [← r.length]; exact hl, B, μ, S, h, _, st, a, r, o⟩
    · exact o.elim
  | tupK k r =>
    unfold tupG at o
    simp only at o
    split at o
    · rename_i hl
      exact ⟨_, _, rfl, .inr k.k, by rw [← r.length]; exact hl, B, μ, S, h, _, st, a, r, o⟩
    · exact o.elim
  | _ => exact o.elim
def asgC (c : CE) (g : CG) : CS := fun S h => (c S h).sbind S fun d h1 => g d S h1
theorem r_asg {e : En} {g : CG} (hg : ∀ d S h, (∃ s h', g d S h = .nx s h') ∨ g d S h = .stuck) : ∀ D σ H, rS e W (asgC c g) D σ H → rE e W c σ H fun x H1 => rG e W g x σ H1 D.nx := by
  rintro D σ H ⟨B, μ, S, h, s, a, o⟩
  refine ⟨B, μ, S, h, s, a, OutS.bindE s o fun d1 h1 v1 μ1 H1 x1 a1 r1 o1 => ?_⟩
  refine ⟨B, μ1, S, h1, d1, s.mono x1, a1, r1, ?_⟩
  rcases hg d1 S h1 with ⟨s', h', q⟩ | q
  · rw [q] at o1 ⊢
    exact o1
  · rw [q] at o1
    exact o1.elim
/-- a target that goes on or is stuck -/
def GoesG (g : CG) : Prop := ∀ d S h, (∃ s h', g d S h = .nx s h') ∨ g d S h = .stuck
def GoesGs (g : CGs) : Prop := ∀ d S h, (∃ s h', g d S h = .nx s h') ∨ g d S h = .stuck
theorem goes_name (i : Nat) : GoesG (nameG i) := fun d S h => .inl ⟨_, _, rfl⟩
theorem goes_nil : GoesGs nilG := fun ds S h => by
  cases ds with
  | nil => exact .inl ⟨_, _, rfl⟩
  | cons _ _ => exact .inr rfl
theorem goes_cons {g : CG} {r : CGs} (h1 : GoesG g) (h2 : GoesGs r) : GoesGs (consG g r) := fun ds S h => by
  cases ds with
  | nil => exact .inr rfl
  | cons d ds =>
    show (∃ s h', (g d S h).bind (fun S1 h1 => r ds S1 h1) = .nx s h') ∨ (g d S h).bind (fun S1 h1 => r ds S1 h1) = .stuck
    rcases h1 d S h with ⟨s, h', e⟩ | e
    · rw [e]; exact h2 ds s h'
    · rw [e]; exact .inr rfl
theorem goes_tup {n : Nat} {g : CGs} (h1 : GoesGs g) : GoesG (tupG n g) := fun d S h => by
  cases d with
  | tup xs =>
    show (∃ s h', (if xs.length = n then g xs S h else .stuck) = .nx s h') ∨ (if xs.length = n then g xs S h else .stuck) = .stuck
    split
    · exact h1 xs S h
    · exact .inr rfl
  | _ => exact .inr rfl
theorem g_asg {tg : Expr} {g : CG} (hx : PE X x (rE X.en W c)) (hg : PG X tg (rG X.en W g)) (gg : GoesG g) (hs : swapsWithSole [tg] x pos.line X.env = pure false := by rfl) (hw : swappedStores [tg] x X.env = pure none := by rfl)
    (h1 : (assignEach [tg] X.env).map (·.2) = [assign tg X.env] := by rfl) : PS X (.Assign [tg] x pos) (rS X.en W (asgC c g)) := (ps_asg hx hg hs hw h1).imp (r_asg gg)
theorem g_set (i : Nat) {y : Str} {p : Pos} (hN : X.N.Nodup) (hx : PE X x (rE X.en W c)) (hi : X.N[i]? = some y := by rfl) (hl : Loc X.env.scope y := by first | exact Or.inl rfl | exact Or.inr rfl) (hs : swapsWith x (some (.Name y p)) pos.line X.env = pure false := by rfl)
    (hf : X.fn y = true ∨ X.env.scope.names.lookup y = some .local := by first | exact .inl rfl | exact .inr rfl | assumption) : PS X (.Assign [.Name y p] x pos) (rS X.en W (asgC c (nameG i))) := by
  refine (ps_set hN hi hl hx hs hf).imp fun D σ H q => ?_
  obtain ⟨B, μ, S, h, s, a, o⟩ := q
  exact ⟨B, μ, S, h, s, a, OutS.bindE s o fun d1 h1 v1 μ1 H1 x1 a1 r1 o1 => o1 (σ.set i (some v1)) μ1 H1 .refl a1 ((s.mono x1).set i r1)⟩
def parC (i j : Nat) (cs : CA) : CS := fun S h => (cs S h).sbind S fun ds h1 => match ds with
  | [a, b] => .nx ((S.set i (some a)).set j (some b)) h1
  | _ => .stuck
theorem OutS.bindA {e : En} {μ : Mu} {H : Hp} {B : Bk} {r : Res (List D)} {k : List D → AH → ResS} {s : Sl} {D : Ends} {R : List V → Hp → Prop}
    {σ : L2.St} (st : StRel e B μ H s σ) (o : OutS e W μ H B (r.sbind s k) D)
    (hk : ∀ d h v μ' H', Ext μ H μ' H' → AHOk e B μ' H' h → RelDs e B μ' H' d v → OutS e W μ' H' B (k d h) D → R v H') : OutA e (WE W σ) μ H B r R := by
  cases r with
  | ok d h' => exact fun v μ2 H2 y a r => hk d h' v μ2 H2 y a r (OutS.mono y o)
  | exc _ _ => exact fun c d μ2 H2 y a r => o c d σ μ2 H2 y a r (st.mono y)
  | stuck => exact o
theorem g_par (i j : Nat) {y z : Str} {a b : Expr} {ca : CA} {px py pt : Pos} {kt k2 pt2} (hc : X.calm = true) (hN : X.N.Nodup) (ha : PA X [a, b] (rA X.en W ca)) (hi : X.N[i]? = some y := by rfl) (hj : X.N[j]? = some z := by rfl) (hij : i ≠ j := by decide)
    (hx : X.env.scope.names.lookup y = some .local := by rfl) (hy : X.env.scope.names.lookup z = some .local := by rfl)
    (hw : swappedStores [.Tuple [.Name y px, .Name z py] kt pt] (.Tuple [a, b] k2 pt2) X.env = pure (some [y, z]) := by rfl)
    (hs : swapsWithSole [.Tuple [.Name y px, .Name z py] kt pt] (.Tuple [a, b] k2 pt2) pos.line X.env = pure false := by rfl) :
    PS X (.Assign [.Tuple [.Name y px, .Name z py] kt pt] (.Tuple [a, b] k2 pt2) pos) (rS X.en W (parC i j ca)) := by
  refine (ps_par hc hN hi hj hij hx hy ha hw hs).imp fun D σ H q => ?_
  obtain ⟨B, μ, S, h, s, a, o⟩ := q
  refine ⟨B, μ, S, h, s, a, OutS.bindA s o fun d1 h1 v1 μ1 H1 x1 a1 r1 o1 => ?_⟩
  cases r1 with
  | nil => exact o1.elim
  | cons ra rr => cases rr with
    | nil => exact o1.elim
    | cons rb rr => cases rr with
      | nil => exact ⟨_, _, rfl, o1 _ μ1 H1 .refl a1 (((s.mono x1).set i ra).set j rb)⟩
      | cons _ _ => exact o1.elim
end
end G

/-! E4: new objects, changed objects, blocked ones. -/
namespace G
open PySem PySem.Spec L2
open PyProof.Rows hiding St
section
variable {e : En} {B B' : Bk} {μ μ' μ2 : Mu} {H H' H2 : Hp} {h h' : AH} {p a : Addr} {o : HO}
theorem AHOk.fresh (x : AHOk e B μ H h) (hp : H p = none) (i : Nat) : μ i ≠ some p := fun q => x.tr i p q hp
theorem AHOk.free (x : AHOk e B μ H h) (hp : H p = none) : Pure B μ p := ⟨fun b => x.bt p b hp, fun i q => (x.fresh hp i q).elim⟩
/-- an object that is not dead is not frozen -/
theorem AHOk.live {n : Nat} {ob : O} (x : AHOk e B μ H h) (q : h[n]? = some ob) (hd : ob ≠ .dead) : ¬ μ.fz n := fun z => by
  rw [x.fzd n z] at q; cases q; exact hd rfl
/-- more is blocked -/
structure Blk (B : Bk) (H : Hp) (B' : Bk) : Prop where
  more : ∀ a, B a → B' a
  only : ∀ a, B' a → B a ∨ H a = none
theorem Blk.refl : Blk B H B := ⟨fun _ h => h, fun _ h => .inl h⟩
theorem Blk.pure {o : HO} (k : Blk B H B') (hr : H a = some o) (p : Pure B μ a) : Pure B' μ a := by
  refine ⟨fun b => ?_, p.2⟩
  rcases k.only a b with q | q
  · exact p.1 q
  · rw [q] at hr; cases hr
theorem Blk.pureT {ys : List V} (k : Blk B H B') (hr : TupAt H a ys) (p : Pure B μ a) : Pure B' μ a := let ⟨_, _, h⟩ := hr; k.pure h p
theorem Blk.unpure (k : Blk B H B') (p : Pure B' μ a) : Pure B μ a := ⟨fun b => p.1 (k.more a b), p.2⟩
theorem Blk.at {H' : Hp} (k : Blk B H B') (x : Ext μ H μ' H') : (∀ a, B' a → B a ∨ H a = none) := k.only
mutual
theorem RelD.blk (k : Blk B H B') : ∀ {d : D} {v : V}, RelD e B μ H d v → RelD e B' μ H d v
  | _, _, .non => .non
  | _, _, .bl b => .bl b
  | _, _, .int i => .int i
  | _, _, .str s h => .str s h
  | _, _, .ty n => .ty n
  | _, _, .glb h => .glb h
  | _, _, .tup h p z r => .tup h (k.pureT h p) z (RelDs.blk k r)
  | _, _, .dct t p q r => .dct t (let ⟨_, q⟩ := t.at'; k.pure q p) (RelDs.blk k q) (RelDs.blk k r)
  | _, _, .tupK q r => .tupK q (RelDs.blk k r)
  | _, _, .lst h p z r => .lst h (k.pure h p) z (RelDs.blk k r)
  | _, _, .ref h => .ref h
  | _, _, .scrF h p => .scrF h (k.pure h p)
  | _, _, .scrK h => .scrK h
theorem RelDs.blk (k : Blk B H B') : ∀ {d : List D} {v : List V}, RelDs e B μ H d v → RelDs e B' μ H d v
  | _, _, .nil => .nil
  | _, _, .cons r t => .cons (RelD.blk k r) (RelDs.blk k t)
end
mutual
theorem RelD.weak (k : ∀ a, B a → B' a) : ∀ {d : D} {v : V}, RelD e B' μ H d v → RelD e B μ H d v
  | _, _, .non => .non
  | _, _, .bl b => .bl b
  | _, _, .int i => .int i
  | _, _, .str s h => .str s h
  | _, _, .ty n => .ty n
  | _, _, .glb h => .glb h
  | _, _, .tup h p z r => .tup h ⟨fun b => p.1 (k _ b), p.2⟩ z (RelDs.weak k r)
  | _, _, .dct t p q r => .dct t ⟨fun b => p.1 (k _ b), p.2⟩ (RelDs.weak k q) (RelDs.weak k r)
  | _, _, .tupK q r => .tupK q (RelDs.weak k r)
  | _, _, .lst h p z r => .lst h ⟨fun b => p.1 (k _ b), p.2⟩ z (RelDs.weak k r)
  | _, _, .ref h => .ref h
  | _, _, .scrF h p => .scrF h ⟨fun b => p.1 (k _ b), p.2⟩
  | _, _, .scrK h => .scrK h
theorem RelDs.weak (k : ∀ a, B a → B' a) : ∀ {d : List D} {v : List V}, RelDs e B' μ H d v → RelDs e B μ H d v
  | _, _, .nil => .nil
  | _, _, .cons r t => .cons (RelD.weak k r) (RelDs.weak k t)
end
theorem RelF.blk (k : Blk B H B') : ∀ {fs : List (Str × D)} {gs : List (Str × V)}, RelF e B μ H fs gs → RelF e B' μ H fs gs
  | _, _, .nil => .nil
  | _, _, .cons r t => .cons (r.blk k) (RelF.blk k t)
theorem RelF.weak (k : ∀ a, B a → B' a) : ∀ {fs : List (Str × D)} {gs : List (Str × V)}, RelF e B' μ H fs gs → RelF e B μ H fs gs
  | _, _, .nil => .nil
  | _, _, .cons r t => .cons (r.weak k) (RelF.weak k t)
theorem StRel.blk {S : Sl} {σ : L2.St} (k : Blk B H B') (s : StRel e B μ H S σ) : StRel e B' μ H S σ := ⟨s.1, fun i d q => let ⟨v, h1, r⟩ := s.2 i d q; ⟨v, h1, r.blk k⟩⟩
theorem StRel.weak {S : Sl} {σ : L2.St} (k : ∀ a, B a → B' a) (s : StRel e B' μ H S σ) : StRel e B μ H S σ := ⟨s.1, fun i d q => let ⟨v, h1, r⟩ := s.2 i d q; ⟨v, h1, r.weak k⟩⟩
theorem DAt.move {w : World} {b : Addr} {ks : List D} {ys zs : List V} {es : Array DictEntry} (hH : ∀ u, H b = some u → H' b = some u) (t : DAt w H b ks ys zs es) : DAt w H' b ks ys zs es := ⟨let ⟨ep, q⟩ := t.at'; ⟨ep, hH _ q⟩, t.size, t.sys, t.ens, t.nd⟩
/-- an object's relation moves along -/
theorem RelO'.move {o : O} (x : Ext μ H μ' H') (hH : ∀ u, H a = some u → H' a = some u) (r : RelO' e B μ H a o) : RelO' e B μ' H' a o := by
  cases o with
  | lst xs => obtain ⟨ys, h1, h2, h3⟩ := r; exact ⟨ys, hH _ h1, h2, h3.mono x⟩
  | dct ks vs => obtain ⟨ys, zs, es, h1, h2, h3⟩ := r; exact ⟨ys, zs, es, h1.move hH, h2.mono x, h3.mono x⟩
  | ins c fs => obtain ⟨C, dx, gs, h1, h2, h3⟩ := r; exact ⟨C, dx, gs, hH _ h1, h2, h3.mono x⟩
  | dead => trivial
theorem RelO'.blk {o : O} (k : Blk B H B') (r : RelO' e B μ H a o) : RelO' e B' μ H a o := by
  cases o with
  | lst xs => obtain ⟨ys, h1, h2, h3⟩ := r; exact ⟨ys, h1, h2, h3.blk k⟩
  | dct ks vs => obtain ⟨ys, zs, es, h1, h2, h3⟩ := r; exact ⟨ys, zs, es, h1, h2.blk k, h3.blk k⟩
  | ins c fs => obtain ⟨C, dx, gs, h1, h2, h3⟩ := r; exact ⟨C, dx, gs, h1, h2, h3.blk k⟩
  | dead => trivial
theorem RelO'.weak {o : O} (k : ∀ a, B a → B' a) (r : RelO' e B' μ H a o) : RelO' e B μ H a o := by
  cases o with
  | lst xs => obtain ⟨ys, h1, h2, h3⟩ := r; exact ⟨ys, h1, h2, h3.weak k⟩
  | dct ks vs => obtain ⟨ys, zs, es, h1, h2, h3⟩ := r; exact ⟨ys, zs, es, h1, h2.weak k, h3.weak k⟩
  | ins c fs => obtain ⟨C, dx, gs, h1, h2, h3⟩ := r; exact ⟨C, dx, gs, h1, h2, h3.weak k⟩
  | dead => trivial
/-- a new object is laid outside the abstract heap -/
theorem Ext.new (hp : H p = none) (x : NoMu μ p) : Ext μ H μ (upd H p o) :=
  ⟨fun _ _ h => h, fun b u hb q => ⟨by rw [upd_ne (ne_of_none hb hp)]; exact hb, q⟩⟩
theorem AHOk.new (x : AHOk e B μ H h) (hp : H p = none) : AHOk e B μ (upd H p o) h where
  dom := x.dom
  fzd := x.fzd
  inj := x.inj
  nb := x.nb
  obj := fun i ob a h1 h2 => (x.obj i ob a h1 h2).move (Ext.new hp (x.free hp).2) fun u hu => by rw [upd_ne (ne_of_none hu hp)]; exact hu
  tr := fun i a q z => by
    by_cases ha : a = p
    · subst ha; rw [upd_same] at z; cases z
    · rw [upd_ne ha] at z; exact x.tr i a q z
  bt := fun a q z => by
    by_cases ha : a = p
    · subst ha; rw [upd_same] at z; cases z
    · rw [upd_ne ha] at z; exact x.bt a q z
theorem RelDs.new (x : AHOk e B μ H h) (hp : H p = none) {xs : List D} {ys : List V} (r : RelDs e B μ H xs ys) : RelDs e B μ (upd H p o) xs ys := r.mono (Ext.new hp (x.free hp).2)
/-- a new tuple, a new frozen list -/
theorem new_tup (x : AHOk e B μ H h) (hp : H p = none) {ob : Obj} (hd : ob.dict = none) {xs : List D} {ys : List V} (hz : ys.length ≤ sizeLine) (r : RelDs e B μ H xs ys) : RelD e B μ (upd H p (.frz ob (.tup ys))) (.tup xs) (.ref p) :=
  .tup ⟨ob, hd, upd_same⟩ (x.free hp) hz (r.new x hp)
theorem new_lst (x : AHOk e B μ H h) (hp : H p = none) {xs : List D} {ys : List V} (hz : ys.length ≤ sizeLine) (r : RelDs e B μ H xs ys) : RelD e B μ (upd H p (.lst ys)) (.lst xs) (.ref p) :=
  .lst upd_same (x.free hp) hz (r.new x hp)
/-- a new object of the abstract heap -/
def muAdd (μ : Mu) (n : Nat) (p : Addr) : Mu := ⟨fun i => if i = n then some p else μ i, μ.fz⟩
theorem mu_none (x : AHOk e B μ H h) : μ h.length = none := by
  cases q : μ h.length with
  | none => rfl
  | some a => exact absurd ((x.dom h.length).mpr ⟨a, q⟩) (Nat.lt_irrefl _)
theorem Ext.add (x : AHOk e B μ H h) (hp : H p = none) : Ext μ H (muAdd μ h.length p) (upd H p o) := by
  refine ⟨fun i a q => ?_, fun b u hb q => ⟨by rw [upd_ne (ne_of_none hb hp)]; exact hb, fun i z => ?_⟩⟩
  · dsimp only [muAdd]
    rw [if_neg]
    · exact q
    · rintro rfl
      rw [mu_none x] at q; cases q
  · dsimp only [muAdd] at z
    split at z
    · cases z; rw [hp] at hb; cases hb
    · exact q i z
theorem AHOk.add (x : AHOk e B μ H h) (hp : H p = none) {ob : O} (r : RelO' e B (muAdd μ h.length p) (upd H p o) p ob) : AHOk e B (muAdd μ h.length p) (upd H p o) (h ++ [ob]) where
  dom := fun i => by
    dsimp only [muAdd]
    rw [List.length_append, List.length_singleton]
    by_cases hi : i = h.length
    · subst hi; simp
    · rw [if_neg hi, ← x.dom i]; omega
  fzd := fun i z => by
    have q := x.fzd i z
    rw [List.getElem?_append_left (List.getElem?_eq_some_iff.mp q).1]; exact q
  inj := fun i j a h1 h2 => by
    dsimp only [muAdd] at h1 h2
    split at h1
    · cases h1
      split at h2
      · omega
      · exact absurd h2 (x.fresh hp j)
    · split at h2
      · cases h2; exact absurd h1 (x.fresh hp i)
      · exact x.inj i j a h1 h2
  nb := fun i a q => by
    dsimp only [muAdd] at q
    split at q
    · cases q; exact (x.free hp).1
    · exact x.nb i a q
  obj := fun i u a h1 h2 => by
    dsimp only [muAdd] at h2
    by_cases hi : i = h.length
    · subst hi
      rw [if_pos rfl] at h2
      cases h2
      simp at h1
      subst h1
      exact r
    · rw [if_neg hi] at h2
      have hl : i < h.length := (x.dom i).mpr ⟨a, h2⟩
      rw [List.getElem?_append_left hl] at h1
      exact (x.obj i u a h1 h2).move (Ext.add x hp) fun w hw => by rw [upd_ne (ne_of_none hw hp)]; exact hw
  tr := fun i a q z => by
    by_cases ha : a = p
    · subst ha; rw [upd_same] at z; cases z
    · rw [upd_ne ha] at z
      dsimp only [muAdd] at q
      split at q
      · cases q; exact ha rfl
      · exact x.tr i a q z
  bt := fun a q z => by
    by_cases ha : a = p
    · subst ha; rw [upd_same] at z; cases z
    · rw [upd_ne ha] at z; exact x.bt a q z
/-- an object of the abstract heap is changed -/
theorem Ext.chg {n : Nat} (hn : Lv μ n a) : Ext μ H μ (upd H a o) :=
  ⟨fun _ _ h => h, fun b u hb q => ⟨by rw [upd_ne (fun z : b = a => hn.2 (q n (by rw [z]; exact hn.1)))]; exact hb, q⟩⟩
theorem AHOk.chg (x : AHOk e B μ H h) {n : Nat} (hl : Lv μ n a) {ob : O} (r : RelO' e B μ (upd H a o) a ob) : AHOk e B μ (upd H a o) (h.set n ob) where
  dom := fun i => by rw [List.length_set]; exact x.dom i
  fzd := fun i z => by
    by_cases hi : n = i
    · subst hi; exact absurd z hl.2
    · rw [List.getElem?_set_ne hi]; exact x.fzd i z
  inj := x.inj
  nb := x.nb
  obj := fun i u b h1 h2 => by
    by_cases hi : n = i
    · subst hi
      rw [hl.1] at h2; cases h2
      rw [List.getElem?_set_self ((x.dom n).mpr ⟨_, hl.1⟩)] at h1
      cases h1
      exact r
    · rw [List.getElem?_set_ne hi] at h1
      have hb : b ≠ a := fun z => hi (x.inj n i a hl.1 (z ▸ h2))
      exact (x.obj i u b h1 h2).move (Ext.chg hl) fun w hw => by rw [upd_ne hb]; exact hw
  tr := fun i b q z => by
    by_cases hb : b = a
    · subst hb; rw [upd_same] at z; cases z
    · rw [upd_ne hb] at z; exact x.tr i b q z
  bt := fun b q z => by
    by_cases hb : b = a
    · subst hb; rw [upd_same] at z; cases z
    · rw [upd_ne hb] at z; exact x.bt b q z
/-- one address more is blocked: a new object there -/
def bkAdd (B : Bk) (p : Addr) : Bk := fun a => B a ∨ a = p
theorem Blk.add (hp : H p = none) : Blk B H (bkAdd B p) := ⟨fun _ h => .inl h, fun a q => q.elim .inl fun z => .inr (z ▸ hp)⟩
theorem AHOk.block (x : AHOk e B μ H h) (hp : H p = none) : AHOk e (bkAdd B p) μ (upd H p o) h where
  dom := x.dom
  fzd := x.fzd
  inj := x.inj
  nb := fun i a q z => z.elim (x.nb i a q) fun w => x.fresh hp i (w ▸ q)
  obj := fun i ob a h1 h2 => ((x.obj i ob a h1 h2).blk (Blk.add hp)).move (Ext.new hp (x.free hp).2) fun u hu => by rw [upd_ne (ne_of_none hu hp)]; exact hu
  tr := (x.new hp).tr
  bt := fun a q z => by
    rcases q with q | q
    · exact (x.new (o := o) hp).bt a q z
    · subst q; rw [upd_same] at z; cases z
theorem AHOk.weak (x : AHOk e B' μ H h) (k : ∀ a, B a → B' a) : AHOk e B μ H h where
  dom := x.dom
  fzd := x.fzd
  inj := x.inj
  nb := fun i a q z => x.nb i a q (k a z)
  obj := fun i ob a h1 h2 => (x.obj i ob a h1 h2).weak k
  tr := x.tr
  bt := fun a q => x.bt a (k a q)
/-- a blocked object is changed -/
theorem Rd.chgB {u : HO} {b : Addr} (hb : B a) (r : H b = some u) (p : Pure B μ b) : (upd H a o) b = some u := by
  have n : b ≠ a := fun z => p.1 (by rw [z]; exact hb)
  rw [upd_ne n]; exact r
theorem TupAt.chgB {ys : List V} {b : Addr} (hb : B a) (t : TupAt H b ys) (p : Pure B μ b) : TupAt (upd H a o) b ys := let ⟨u, d, h⟩ := t; ⟨u, d, Rd.chgB hb h p⟩
theorem DAt.chgB {w : World} {b : Addr} {ks : List D} {ys zs : List V} {es : Array DictEntry} (hb : B a) (t : DAt w H b ks ys zs es) (p : Pure B μ b) : DAt w (upd H a o) b ks ys zs es := ⟨let ⟨ep, q⟩ := t.at'; ⟨ep, Rd.chgB hb q p⟩, t.size, t.sys, t.ens, t.nd⟩
mutual
theorem RelD.chgB (hb : B a) : ∀ {d : D} {v : V}, RelD e B μ H d v → RelD e B μ (upd H a o) d v
  | _, _, .non => .non
  | _, _, .bl b => .bl b
  | _, _, .int i => .int i
  | _, _, .str s h => .str s h
  | _, _, .ty n => .ty n
  | _, _, .glb h => .glb h
  | _, _, .tup h p z r => .tup (TupAt.chgB hb h p) p z (RelDs.chgB hb r)
  | _, _, .dct t p q r => .dct (t.chgB hb p) p (RelDs.chgB hb q) (RelDs.chgB hb r)
  | _, _, .tupK q r => .tupK q (RelDs.chgB hb r)
  | _, _, .lst h p z r => .lst (Rd.chgB hb h p) p z (RelDs.chgB hb r)
  | _, _, .ref h => .ref h
  | _, _, .scrF h p => .scrF (Rd.chgB hb h p) p
  | _, _, .scrK h => .scrK h
theorem RelDs.chgB (hb : B a) : ∀ {d : List D} {v : List V}, RelDs e B μ H d v → RelDs e B μ (upd H a o) d v
  | _, _, .nil => .nil
  | _, _, .cons r t => .cons (RelD.chgB hb r) (RelDs.chgB hb t)
end
theorem RelF.chgB (hb : B a) : ∀ {fs : List (Str × D)} {gs : List (Str × V)}, RelF e B μ H fs gs → RelF e B μ (upd H a o) fs gs
  | _, _, .nil => .nil
  | _, _, .cons r t => .cons (r.chgB hb) (RelF.chgB hb t)
theorem StRel.chgB {S : Sl} {σ : L2.St} (hb : B a) (s : StRel e B μ H S σ) : StRel e B μ (upd H a o) S σ := ⟨s.1, fun i d q => let ⟨v, h1, r⟩ := s.2 i d q; ⟨v, h1, r.chgB hb⟩⟩
theorem RelO'.chgB {b : Addr} (hb : B a) (n : b ≠ a) {u : O} (r : RelO' e B μ H b u) : RelO' e B μ (upd H a o) b u := by
  cases u with
  | lst xs => obtain ⟨ys, h1, h2, h3⟩ := r; exact ⟨ys, by rw [upd_ne n]; exact h1, h2, h3.chgB hb⟩
  | dct ks vs => obtain ⟨ys, zs, es, h1, h2, h3⟩ := r; exact ⟨ys, zs, es, h1.move fun u hu => by rw [upd_ne n]; exact hu, h2.chgB hb, h3.chgB hb⟩
  | ins c fs => obtain ⟨C, dx, gs, h1, h2, h3⟩ := r; exact ⟨C, dx, gs, by rw [upd_ne n]; exact h1, h2, h3.chgB hb⟩
  | dead => trivial
theorem AHOk.chgB (x : AHOk e B μ H h) (hb : B a) : AHOk e B μ (upd H a o) h where
  dom := x.dom
  fzd := x.fzd
  inj := x.inj
  nb := x.nb
  obj := fun i u b h1 h2 => (x.obj i u b h1 h2).chgB hb fun z => x.nb i b h2 (by rw [z]; exact hb)
  tr := fun i b q z => by
    by_cases hb : b = a
    · subst hb; rw [upd_same] at z; cases z
    · rw [upd_ne hb] at z; exact x.tr i b q z
  bt := fun b q z => by
    by_cases hb : b = a
    · subst hb; rw [upd_same] at z; cases z
    · rw [upd_ne hb] at z; exact x.bt b q z
theorem Ext.over {H1 : Hp} {μ1 : Mu} (x : Ext μ1 H1 μ H) (hp : H1 p = none) : Ext μ1 H1 μ (upd H p o) :=
  ⟨x.sub, fun b u hb q => let ⟨h1, h2⟩ := x.stay b u hb q; ⟨by rw [upd_ne (ne_of_none hb hp)]; exact h1, h2⟩⟩
/-- a new list, frozen or to be changed -/
def newL (m : Bool) (xs : List D) (h : AH) : Res D := if m then .ok (.ref h.length) (h ++ [.lst xs]) else .ok (.lst xs) h
theorem out_newL {m : Bool} {xs : List D} {ys : List V} {Q : VK} {E : XK} (a : AHOk e B μ H h) (o : Out e E μ H B (newL m xs h) Q) (r : RelDs e B μ H xs ys) (hz : ys.length ≤ sizeLine) (hp : H p = none) : Q (.ref p) (upd H p (.lst ys)) := by
  unfold newL at o
  cases m with
  | false => exact o _ μ _ (Ext.new hp (a.free hp).2) (a.new hp) (new_lst a hp hz r)
  | true =>
    have xa := Ext.add (o := .lst ys) a hp
    refine o (.ref p) (muAdd μ h.length p) _ xa (a.add hp ⟨ys, upd_same, hz, r.mono xa⟩) (.ref ?_)
    dsimp only [muAdd]
    rw [if_pos rfl]
/-- what was blocked becomes an object of the abstract heap -/
theorem Pure.adopt {n : Nat} (q : Pure (bkAdd B p) μ a) : Pure B (muAdd μ n p) a := ⟨fun b => q.1 (.inl b), fun i z => by
  dsimp only [muAdd] at z
  split at z
  · cases z; exact (q.1 (.inr rfl)).elim
  · exact q.2 i z⟩
theorem mu_adopt {n i : Nat} (hn : μ n = none) (h : μ i = some a) : muAdd μ n p i = some a := by
  dsimp only [muAdd]
  rw [if_neg]
  · exact h
  · rintro rfl
    rw [hn] at h; cases h
mutual
theorem RelD.adopt {n : Nat} (hn : μ n = none) : ∀ {d : D} {v : V}, RelD e (bkAdd B p) μ H d v → RelD e B (muAdd μ n p) H d v
  | _, _, .non => .non
  | _, _, .bl b => .bl b
  | _, _, .int i => .int i
  | _, _, .str s h => .str s h
  | _, _, .ty n => .ty n
  | _, _, .glb h => .glb h
  | _, _, .tup h q z r => .tup h q.adopt z (RelDs.adopt hn r)
  | _, _, .dct t q k r => .dct t q.adopt (RelDs.adopt hn k) (RelDs.adopt hn r)
  | _, _, .tupK q r => .tupK q (RelDs.adopt hn r)
  | _, _, .lst h q z r => .lst h q.adopt z (RelDs.adopt hn r)
  | _, _, .ref h => .ref (mu_adopt hn h)
  | _, _, .scrF h q => .scrF h q.adopt
  | _, _, .scrK h => .scrK h
theorem RelDs.adopt {n : Nat} (hn : μ n = none) : ∀ {d : List D} {v : List V}, RelDs e (bkAdd B p) μ H d v → RelDs e B (muAdd μ n p) H d v
  | _, _, .nil => .nil
  | _, _, .cons r t => .cons (RelD.adopt hn r) (RelDs.adopt hn t)
end
theorem RelF.adopt {n : Nat} (hn : μ n = none) : ∀ {fs : List (Str × D)} {gs : List (Str × V)}, RelF e (bkAdd B p) μ H fs gs → RelF e B (muAdd μ n p) H fs gs
  | _, _, .nil => .nil
  | _, _, .cons r t => .cons (r.adopt hn) (RelF.adopt hn t)
theorem RelO'.adopt {n : Nat} (hn : μ n = none) {u : O} (r : RelO' e (bkAdd B p) μ H a u) : RelO' e B (muAdd μ n p) H a u := by
  cases u with
  | lst xs => obtain ⟨ys, h1, h2, h3⟩ := r; exact ⟨ys, h1, h2, h3.adopt hn⟩
  | dct ks vs => obtain ⟨ys, zs, es, h1, h2, h3⟩ := r; exact ⟨ys, zs, es, h1, h2.adopt hn, h3.adopt hn⟩
  | ins c fs => obtain ⟨C, dx, gs, h1, h2, h3⟩ := r; exact ⟨C, dx, gs, h1, h2, h3.adopt hn⟩
  | dead => trivial
theorem AHOk.adopt (x : AHOk e (bkAdd B p) μ H h) (hB : ¬ B p) {ob : O} (r : RelO' e (bkAdd B p) μ H p ob) : AHOk e B (muAdd μ h.length p) H (h ++ [ob]) where
  dom := fun i => by
    dsimp only [muAdd]
    rw [List.length_append, List.length_singleton]
    by_cases hi : i = h.length
    · subst hi; simp
    · rw [if_neg hi, ← x.dom i]; omega
  fzd := fun i z => by
    have q := x.fzd i z
    rw [List.getElem?_append_left (List.getElem?_eq_some_iff.mp q).1]; exact q
  inj := fun i j a h1 h2 => by
    dsimp only [muAdd] at h1 h2
    split at h1
    · cases h1
      split at h2
      · omega
      · exact absurd (.inr rfl) (x.nb j p h2)
    · split at h2
      · cases h2; exact absurd (.inr rfl) (x.nb i p h1)
      · exact x.inj i j a h1 h2
  nb := fun i a q => by
    dsimp only [muAdd] at q
    split at q
    · cases q; exact hB
    · exact fun z => x.nb i a q (.inl z)
  obj := fun i u a h1 h2 => by
    by_cases hi : i = h.length
    · subst hi
      dsimp only [muAdd] at h2
      rw [if_pos rfl] at h2
      cases h2
      simp at h1
      subst h1
      exact r.adopt (mu_none x)
    · dsimp only [muAdd] at h2
      rw [if_neg hi] at h2
      have hl : i < h.length := (x.dom i).mpr ⟨a, h2⟩
      rw [List.getElem?_append_left hl] at h1
      exact (x.obj i u a h1 h2).adopt (mu_none x)
  tr := fun i a q => by
    dsimp only [muAdd] at q
    split at q
    · cases q; exact x.bt _ (.inr rfl)
    · exact x.tr i a q
  bt := fun a q => x.bt a (.inl q)
theorem Ext.adopt {n : Nat} {H1 : Hp} {μ1 : Mu} (hn : μ n = none) (x : Ext μ1 H1 μ H) (hp : H1 p = none) : Ext μ1 H1 (muAdd μ n p) H := by
  refine ⟨fun i a q => mu_adopt hn (x.sub i a q), fun b u hb q => ⟨(x.stay b u hb q).1, fun i z => ?_⟩⟩
  dsimp only [muAdd] at z
  split at z
  · cases z; rw [hp] at hb; cases hb
  · exact (x.stay b u hb q).2 i z
/-- the blocked list at p is done -/
theorem out_blkL {m : Bool} {xs : List D} {ys : List V} {Q : VK} {E : XK} {H1 : Hp} {μ1 : Mu} {h1 : AH} (a : AHOk e (bkAdd B p) μ H h) (hB : ¬ B p) (x : Ext μ1 H1 μ H) (hp : H1 p = none) (o : Out e E μ1 H1 B (newL m xs h) Q) (hr : H p = some (.lst ys)) (r : RelDs e (bkAdd B p) μ H xs ys) (hz : ys.length ≤ sizeLine) : Q (.ref p) H := by
  unfold newL at o
  cases m with
  | false => exact o _ μ _ x (a.weak fun _ z => .inl z) (.lst hr ⟨hB, fun i z => (a.nb i p z (.inr rfl)).elim⟩ hz (r.weak fun _ z => .inl z))
  | true =>
    refine o (.ref p) (muAdd μ h.length p) _ (x.adopt (mu_none a) hp) (a.adopt hB ⟨ys, hr, hz, r⟩) (.ref ?_)
    dsimp only [muAdd]
    rw [if_pos rfl]
end
end G

/-! E5: what is walked, for, comprehensions, while. -/
namespace G
open PySem PySem.Spec L2
open PyProof.Rows hiding St
/-! ### what is walked: the items, and the lists that must stay as they are -/
abbrev Gd := List (Nat × List D)
def GdOk (gs : Gd) (h : AH) : Prop := ∀ g ∈ gs, h[g.1]? = some (.lst g.2)
noncomputable instance (gs : Gd) (h : AH) : Decidable (GdOk gs h) := Classical.propDecidable _
abbrev CI := Sl → AH → Res (List D × Gd)
structure Wk (e : En) (B : Bk) (μ0 : Mu) (H0 : Hp) (ds : List D) (gs : Gd) (J : It) : Prop where
  size : ds.length ≤ sizeLine
  go : ∀ B' μ H h i d, Blk B H0 B' → Ext μ0 H0 μ H → AHOk e B' μ H h → GdOk gs h → ds[i]? = some d → J.go i H
  yld : ∀ B' μ H h i d x H', Blk B H0 B' → Ext μ0 H0 μ H → AHOk e B' μ H h → GdOk gs h → ds[i]? = some d → J.yld i H x H' → Ext μ H μ H' ∧ AHOk e B' μ H' h ∧ RelD e B' μ H' d x
  stop : ∀ B' μ H h, Blk B H0 B' → Ext μ0 H0 μ H → AHOk e B' μ H h → GdOk gs h → J.stop ds.length H
def OutI (e : En) (E : XK) (μ : Mu) (H : Hp) (B : Bk) (r : Res (List D × Gd)) (R : It → Hp → Prop) : Prop := match r with
  | .ok (ds, gs) h' => ∀ J μ' H', Ext μ H μ' H' → AHOk e B μ' H' h' → GdOk gs h' → Wk e B μ' H' ds gs J → R J H'
  | .exc x h' => ∀ cls d μ' H', Ext μ H μ' H' → AHOk e B μ' H' h' → XRel e B μ' H' x cls d → E cls d H'
  | .stuck => False
def rIt (e : En) (W : WX) (c : CI) : TI := fun σ H R => ∃ B μ S h, StRel e B μ H S σ ∧ AHOk e B μ H h ∧ OutI e (WE W σ) μ H B (c S h) R
theorem _root_.L2.PI.imp {X : Cx} {tg x : Expr} {t t' : TI} (h : PI X tg x t) (k : ∀ σ H R, t' σ H R → t σ H R) : PI X tg x t' := ⟨fun pins s σ H R I q => h.run pins s σ H R I (k σ H R q)⟩

/-! ### targets of a comprehension -/
inductive Tg where
  | n (i : Nat) | t (is : List Nat)
def gNames : List Nat → TGs
  | [] => gNil
  | i :: is => gCons (gName i) (gNames is)
def Tg.hg (K : PySem.W.Frag) : Tg → TG
  | .n i => gName i
  | .t is => gTup K is.length (gNames is)
def setAll : Sl → List Nat → List D → Sl
  | S, i :: is, d :: ds => setAll (S.set i (some d)) is ds
  | S, _, _ => S
def Tg.put (t : Tg) (d : D) (S : Sl) : Option Sl := match t, d with
  | .n i, d => some (S.set i (some d))
  | .t is, .tup ds => if ds.length = is.length then some (setAll S is ds) else none
  | .t _, _ => none
def Tg.own : Tg → List Nat
  | .n i => [i]
  | .t is => is
def setAllV : L2.St → List Nat → List V → L2.St
  | S, i :: is, d :: ds => setAllV (S.set i (some d)) is ds
  | S, _, _ => S
theorem gNames_run : ∀ {is : List Nat} {vs : List V} {σ : L2.St} {H : Hp} {Q : L2.St → Hp → Prop}, vs.length = is.length → Q (setAllV σ is vs) H → gNames is vs σ H Q
  | [], [], _, _, _, _, q => ⟨rfl, q⟩
  | i :: is, v :: vs, σ, H, Q, hl, q => ⟨v, vs, rfl, gNames_run (by simpa using hl) q⟩
section
variable {e : En} {B B' : Bk} {μ μ' μ2 : Mu} {H H' H2 : Hp} {h h' : AH} {E : XK} {E0 : XK} {W W0 : WX}
theorem StRel.setAll : ∀ {is : List Nat} {ds : List D} {vs : List V} {S : Sl} {σ : L2.St}, StRel e B μ H S σ → RelDs e B μ H ds vs → StRel e B μ H (setAll S is ds) (setAllV σ is vs)
  | [], _, _, _, _, s, _ => by unfold G.setAll setAllV; exact s
  | _ :: _, _, _, _, _, s, .nil => by unfold G.setAll setAllV; exact s
  | i :: is, _, _, _, _, s, .cons r t => by
    unfold G.setAll setAllV
    exact StRel.setAll (s.set i r) t
theorem wipe_set {σ : L2.St} {i : Nat} {v : Option V} : ∀ {vs : List Nat}, i ∈ vs → wipe (σ.set i v) vs = wipe σ vs
  | [], h => by simp at h
  | j :: vs, h => by
    unfold wipe
    by_cases hi : i ∈ vs
    · rw [wipe_set hi]
    · have e : i = j := by simpa [hi] using h
      subst e
      have : ∀ (vs : List Nat), wipe (σ.set i v) vs = (wipe σ vs).set i v ∨ i ∈ vs := fun vs => by
        induction vs with
        | nil => exact .inl rfl
        | cons k r ih =>
          by_cases hk : i = k
          · exact .inr (by simp [hk])
          · rcases ih with ih | ih
            · refine .inl ?_
              unfold wipe
              rw [ih, List.set_comm _ _ hk]
            · exact .inr (by simp [ih])
      rcases this vs with q | q
      · rw [q, List.set_set]
      · exact absurd q hi
theorem wipe_wipe {σ : L2.St} : ∀ {vs ws : List Nat}, (∀ i ∈ vs, i ∈ ws) → wipe (wipe σ vs) ws = wipe σ ws
  | [], _, _ => rfl
  | i :: vs, ws, h => by
    show wipe ((wipe σ vs).set i none) ws = _
    rw [wipe_set (h i (by simp)), wipe_wipe fun j hj => h j (by simp [hj])]
theorem wipe_setAll : ∀ {is : List Nat} {ds : List V} {σ : L2.St} {vs : List Nat}, (∀ i ∈ is, i ∈ vs) → wipe (setAllV σ is ds) vs = wipe σ vs
  | [], _, _, _, _ => by unfold setAllV; rfl
  | _ :: _, [], _, _, _ => by unfold setAllV; rfl
  | i :: is, d :: ds, σ, vs, h => by
    unfold setAllV
    rw [wipe_setAll fun j hj => h j (by simp [hj]), wipe_set (h i (by simp))]
def wipeD (S : Sl) : List Nat → Sl
  | [] => S
  | v :: vs => (wipeD S vs).set v none
theorem StRel.wipe {S : Sl} {σ : L2.St} (s : StRel e B μ H S σ) : ∀ vs : List Nat, StRel e B μ H (wipeD S vs) (wipe σ vs)
  | [] => s
  | v :: vs => by
    unfold wipeD L2.wipe
    exact (StRel.wipe s vs).forget v
/-- a comprehension's target stored -/
theorem Tg.run {t : Tg} {vs : List Nat} {S S' : Sl} {σ : L2.St} {d : D} {x : V} {R : L2.St → Hp → Prop} (hv : ∀ i ∈ t.own, i ∈ vs) (s : StRel e B μ H S σ) (r : RelD e B μ H d x) (hp : t.put d S = some S')
    (k : ∀ σ2, StRel e B μ H S' σ2 → wipe σ2 vs = wipe σ vs → R σ2 H) : t.hg e.K x σ H R := by
  cases t with
  | n i =>
    have hp : some (S.set i (some d)) = some S' := hp
    cases hp
    exact k _ (s.set i r) (wipe_set (hv i (by simp [Tg.own])))
  | t is =>
    have key : ∀ {xs : List D} {ys : List V}, RelDs e B μ H xs ys → (if xs.length = is.length then some (G.setAll S is xs) else none) = some S' → ys.length = is.length ∧ gNames is ys σ H R := fun {xs ys} rs hp => by
      split at hp
      · rename_i hl
        cases hp
        have hl' : ys.length = is.length := by rw [← rs.length]; exact hl
        exact ⟨hl', gNames_run hl' (k _ (s.setAll rs) (wipe_setAll hv))⟩
      · cases hp
    cases r with
    | tup hr pu z rs => obtain ⟨h1, h2⟩ := key rs hp; exact ⟨_, _, rfl, .inl hr.rd, h1, h2⟩
    | tupK q rs => obtain ⟨h1, h2⟩ := key rs hp; exact ⟨_, _, rfl, .inr q.k, h1, h2⟩
    | _ => cases hp
/-- no exception out of a comprehension's block -/
def Res.noX {α : Type} (r : Res α) : Res α := match r with
  | .ok a h => .ok a h
  | _ => .stuck
noncomputable def mapC (gs : Gd) (t : Tg) (cd : CT) (el : CE) (S : Sl) : List D → AH → Res (List D)
  | [], h => .ok [] h
  | d :: ds, h => match t.put d S with
    | some S1 => ((cd S1 h).noX).bind fun b h2 =>
      if b then ((el S1 h2).noX).bind fun y h3 => if GdOk gs h3 then (mapC gs t cd el S ds h3).bind fun ys h4 => .ok (y :: ys) h4 else .stuck
      else if GdOk gs h2 then mapC gs t cd el S ds h2 else .stuck
    | none => .stuck
noncomputable def compC (m : Bool) (src : CI) (own : List Nat) (t : Tg) (cd : CT) (el : CE) : CE := fun S h => (src S h).bind fun p h1 => (mapC p.2 t cd el (wipeD S own) p.1 h1).bind fun ys h2 => newL m ys h2
theorem OutB.noX {r : Res Bool} {k : Bool → AH → Res (List D)} {Q : List V → Hp → Prop} {R : Bool → Hp → Prop} (o : OutA e E μ H B ((r.noX).bind k) Q)
    (hk : ∀ d h μ' H', Ext μ H μ' H' → AHOk e B μ' H' h → OutA e E μ' H' B (k d h) Q → R d H') : OutB e E0 μ H B r R := by
  cases r with
  | ok d h' => exact fun μ2 H2 y a => hk d h' μ2 H2 y a (OutA.mono y o fun _ _ q => q)
  | exc _ _ => exact o.elim
  | stuck => exact o.elim
theorem OutE.noX {r : Res D} {k : D → AH → Res (List D)} {Q : List V → Hp → Prop} {R : VK} (o : OutA e E μ H B ((r.noX).bind k) Q)
    (hk : ∀ d h v μ' H', Ext μ H μ' H' → AHOk e B μ' H' h → RelD e B μ' H' d v → OutA e E μ' H' B (k d h) Q → R v H') : Out e E0 μ H B r R := by
  cases r with
  | ok d h' => exact fun v μ2 H2 y a r => hk d h' v μ2 H2 y a r (OutA.mono y o fun _ _ q => q)
  | exc _ _ => exact o.elim
  | stuck => exact o.elim
theorem OutI.bind {r : Res (List D × Gd)} {k : List D × Gd → AH → Res D} {Q : VK} {R : It → Hp → Prop} (o : Out e E μ H B (r.bind k) Q)
    (hk : ∀ ds gs h J μ' H', Ext μ H μ' H' → AHOk e B μ' H' h → GdOk gs h → Wk e B μ' H' ds gs J → Out e E μ' H' B (k (ds, gs) h) Q → R J H') : OutI e E μ H B r R := by
  cases r with
  | ok p h' => exact fun J μ2 H2 y a g w => hk p.1 p.2 h' J μ2 H2 y a g w (Out.mono y o fun _ _ q => q)
  | exc _ _ => exact o
  | stuck => exact o
theorem drop_some {α : Type} {l : List α} {i : Nat} {x : α} (h : l[i]? = some x) : l.drop i = x :: l.drop (i + 1) := by
  obtain ⟨hi, e⟩ := List.getElem?_eq_some_iff.mp h
  rw [List.drop_eq_getElem_cons hi, e]
theorem mapC_length {gs : Gd} {t : Tg} {cd : CT} {el : CE} {S : Sl} : ∀ {ds : List D} {h h2 : AH} {ys : List D}, mapC gs t cd el S ds h = .ok ys h2 → ys.length ≤ ds.length
  | [], h, h2, ys, q => by
    unfold mapC at q
    cases q; simp
  | d :: ds, h, h2, ys, q => by
    unfold mapC at q
    split at q
    · rename_i S1 _
      cases e1 : (cd S1 h).noX with
      | ok b h3 =>
        rw [e1, Res.bind_ok] at q
        split at q
        · cases e2 : (el S1 h3).noX with
          | ok y h4 =>
            rw [e2, Res.bind_ok] at q
            split at q
            · cases e3 : mapC gs t cd el S ds h4 with
              | ok zs h5 =>
                rw [e3, Res.bind_ok] at q
                cases q
                have := mapC_length e3
                simp; omega
              | _ => rw [e3] at q; cases q
            · cases q
          | _ => rw [e2] at q; cases q
        · split at q
          · have := mapC_length q
            simp; omega
          · cases q
      | _ => rw [e1] at q; cases q
    · cases q
theorem Res.noX_ok {α : Type} {r : Res α} {a : α} {h : AH} (q : r.noX = .ok a h) : r = .ok a h := by
  cases r with
  | ok b h' => exact q
  | _ => cases q
theorem mapC_noX {gs : Gd} {t : Tg} {cd : CT} {el : CE} {S : Sl} : ∀ {ds : List D} {h h2 : AH} {x : Exn}, mapC gs t cd el S ds h ≠ .exc x h2
  | [], h, h2, x, q => by
    unfold mapC at q
    cases q
  | d :: ds, h, h2, x, q => by
    unfold mapC at q
    split at q
    · rename_i S1 _
      cases e1 : cd S1 h with
      | ok b h3 =>
        rw [e1] at q
        have q : (if b then ((el S1 h3).noX).bind fun y h3 => if GdOk gs h3 then (mapC gs t cd el S ds h3).bind fun ys h4 => .ok (y :: ys) h4 else .stuck else if GdOk gs h3 then mapC gs t cd el S ds h3 else .stuck) = .exc x h2 := q
        split at q
        · cases e2 : el S1 h3 with
          | ok y h4 =>
            rw [e2] at q
            have q : (if GdOk gs h4 then (mapC gs t cd el S ds h4).bind fun ys h4 => .ok (y :: ys) h4 else .stuck) = .exc x h2 := q
            split at q
            · cases e3 : mapC gs t cd el S ds h4 with
              | ok zs h5 => rw [e3] at q; cases q
              | exc _ _ => exact mapC_noX e3
              | stuck => rw [e3] at q; cases q
            · cases q
          | exc _ _ => rw [e2] at q; cases q
          | stuck => rw [e2] at q; cases q
        · split at q
          · exact mapC_noX q
          · cases q
      | exc _ _ => rw [e1] at q; cases q
      | stuck => rw [e1] at q; cases q
    · cases q
theorem r_lc {m : Bool} {src : CI} {own : List Nat} {t : Tg} {cd : CT} {el : CE} (hv : ∀ i ∈ t.own, i ∈ own) :
    ∀ σ H Q, rE e W (compC m src own t cd el) σ H Q → tLc (rIt e W src) (t.hg e.K) (rT e W0 cd) (rE e W0 el) own σ H Q := by
  rintro σ H Q ⟨B, μ, S, h, s, a, o⟩
  refine ⟨B, μ, S, h, s, a, OutI.bind o fun ds gs h1 J μ1 H1 x1 a1 g1 w1 o1 => ?_⟩
  intro p hp
  have k1 : Blk B H1 (bkAdd B p) := Blk.add hp
  have s1 := (s.mono x1).blk k1
  have o1 : Out e (WE W σ) μ1 H1 B ((mapC gs t cd el (wipeD S own) ds h1).bind fun ys h2 => newL m ys h2) Q := o1
  cases q : mapC gs t cd el (wipeD S own) ds h1 with
  | exc _ _ => exact absurd q mapC_noX
  | stuck => rw [q] at o1; exact o1.elim
  | ok all hf =>
  rw [q, Res.bind_ok] at o1
  have hb : bkAdd B p p := .inr rfl
  -- the state at a turn
  refine ⟨fun i mm H' => ∃ μ' h' acc ys rest, Ext μ1 H1 μ' H' ∧ AHOk e (bkAdd B p) μ' H' h' ∧ GdOk gs h' ∧ H' p = some (.lst ys) ∧ RelDs e (bkAdd B p) μ' H' acc ys ∧ acc.length ≤ i ∧ i ≤ ds.length ∧ mm = ds.length - i ∧
    mapC gs t cd el (wipeD S own) (ds.drop i) h' = .ok rest hf ∧ acc ++ rest = all, ⟨_, μ1, h1, [], [], all, (Ext.refl).over hp, a1.block hp, g1, upd_same, .nil, Nat.zero_le _, Nat.zero_le _, rfl, by rw [List.drop_zero]; exact q, rfl⟩, ?_⟩
  rintro i mm H2 ⟨μ2, h2, acc, ys, rest, x2, a2, g2, hp2, r2, hl, hi, rfl, q2, e2⟩
  by_cases hlt : i < ds.length
  · refine .inr ?_
    obtain ⟨d, hd⟩ : ∃ d, ds[i]? = some d := ⟨_, List.getElem?_eq_getElem hlt⟩
    refine ⟨w1.go _ μ2 H2 h2 i d k1 x2 a2 g2 hd, fun H' => ∃ μ' h' acc ys rest, Ext μ1 H1 μ' H' ∧ AHOk e (bkAdd B p) μ' H' h' ∧ GdOk gs h' ∧ H' p = some (.lst ys) ∧ RelDs e (bkAdd B p) μ' H' acc ys ∧ acc.length ≤ i + 1 ∧
      mapC gs t cd el (wipeD S own) (ds.drop (i + 1)) h' = .ok rest hf ∧ acc ++ rest = all, fun H' ⟨μ', h', acc, ys, rest, c1, c2, c3, c4, c5, c6, c7, c8⟩ => ⟨_, by omega, μ', h', acc, ys, rest, c1, c2, c3, c4, c5, c6, hlt, rfl, c7, c8⟩, ?_⟩
    intro x H3 hy
    obtain ⟨x3, a3, r3⟩ := w1.yld _ μ2 H2 h2 i d x H3 k1 x2 a2 g2 hd hy
    rw [drop_some hd] at q2
    unfold mapC at q2
    split at q2
    · rename_i S1 hS
      cases e1 : (cd S1 h2).noX with
      | exc _ _ => rw [e1] at q2; cases q2
      | stuck => rw [e1] at q2; cases q2
      | ok b h4 =>
        rw [e1, Res.bind_ok] at q2
        have e1' := Res.noX_ok e1
        refine Tg.run (vs := own) hv (((s1.mono x2).mono x3).wipe own) r3 hS fun σ2 s4 hw => ⟨hw.trans (wipe_wipe fun _ z => z), ?_⟩
        have p3 : H3 p = some (.lst ys) ∧ NoMu μ2 p := x3.stay p _ hp2 fun i z => (a2.nb i p z hb).elim
        refine ⟨bkAdd B p, μ2, S1, h2, s4, a3, ?_⟩
        rw [e1']
        intro μ5 H5 x5 a5
        have p5 : H5 p = some (.lst ys) := (x5.stay p _ p3.1 p3.2).1
        have x15 : Ext μ1 H1 μ5 H5 := (x2.trans x3).trans x5
        have r5 : RelDs e (bkAdd B p) μ5 H5 acc ys := (r2.mono x3).mono x5
        cases b with
        | false =>
          refine iteF ?_
          simp only [Bool.false_eq_true, if_false] at q2
          split at q2
          · rename_i g5
            exact ⟨μ5, h4, acc, ys, rest, x15, a5, g5, p5, r5, Nat.le_succ_of_le hl, q2, e2⟩
          · cases q2
        | true =>
          refine iteT ?_
          simp only [if_true] at q2
          cases e4 : (el S1 h4).noX with
          | exc _ _ => rw [e4] at q2; cases q2
          | stuck => rw [e4] at q2; cases q2
          | ok y h6 =>
            rw [e4, Res.bind_ok] at q2
            split at q2
            · rename_i g6
              cases e6 : mapC gs t cd el (wipeD S own) (ds.drop (i + 1)) h6 with
              | exc _ _ => rw [e6] at q2; cases q2
              | stuck => rw [e6] at q2; cases q2
              | ok rest' h7 =>
                rw [e6, Res.bind_ok] at q2
                cases q2
                refine ⟨bkAdd B p, μ5, S1, h4, s4.mono x5, a5, ?_⟩
                rw [Res.noX_ok e4]
                intro yv μ6 H6 x6 a6 r6
                have p6 := x6.stay p _ p5 fun i z => (a5.nb i p z hb).elim
                have l5 := r5.length
                have z5 := w1.size
                refine ⟨ys, p6.1, by omega, μ6, h6, acc ++ [y], ys ++ [yv], rest', (x15.trans x6).over hp, a6.chgB hb, g6, upd_same, ((r5.mono x6).append (.cons r6 .nil)).chgB hb, by simp; omega, e6, by simpa using e2⟩
            · cases q2
    · cases q2
  · have hi' : i = ds.length := by omega
    subst hi'
    rw [List.drop_length] at q2
    unfold mapC at q2
    cases q2
    rw [List.append_nil] at e2
    subst e2
    refine .inl ⟨w1.stop _ μ2 H2 _ k1 x2 a2 g2, ?_⟩
    have l2 := r2.length
    have z1 := w1.size
    exact out_blkL (h1 := h1) a2 (a1.free hp).1 x2 hp o1 hp2 r2 (by omega)
end
section
variable {X : Cx} {E : XK} {E0 : XK} {W W0 : WX}
/-- a clause's tests -/
def yesT : CT := fun _ h => .ok true h
theorem gts_nil : PTs X [] (rT X.en W yesT) := ⟨fun pins s σ H Q I q => pts_nil.run pins s σ H Q I (by obtain ⟨B, μ, S, h, st, a, o⟩ := q; exact o μ H .refl a)⟩
theorem gts_one {c : Expr} {t : CT} (h : PT X c (rT X.en W t)) : PTs X [c] (rT X.en W t) := pts_one h
/-- a target of names, in a block -/
theorem hg_name (i : Nat) {y : Str} {p : Pos} (hN : X.N.Nodup) (hi : X.N[i]? = some y := by rfl) (hx : Loc X.env.scope y := by first | exact Or.inl rfl | exact Or.inr rfl) (hf : X.fn y = true ∨ X.env.scope.names.lookup y = some .local := by first | exact .inl rfl | exact .inr rfl | assumption) : PG X (.Name y p) ((Tg.n i).hg X.K) := pg_name hN hi hx hf
theorem hg_tup {is : List Nat} {ys : List Expr} {k : Nat} {p : Pos} (hc : X.calm = true) (hg : PGs X ys (gNames is))
    (hn : (assignEach ys X.env).length = is.length := by rfl) (hst : (assignEach ys X.env).findIdx? (·.1) = none := by rfl) : PG X (.Tuple ys k p) ((Tg.t is).hg X.K) := pg_tup hc hg hn hst
theorem g_lc (m : Bool) {elt tg iter : Expr} {ifs : List Expr} {scope : Scope} {own : List (Str × Nat)} {pos : Pos} {src : CI} {t : Tg} {cd : CT} {el : CE} (hc : X.calm = true) (hN : X.N.Nodup) (hi : PI X tg iter (rIt X.en W src)) (ok : BlkOk X.N X.env.scope scope own)
    (hg : ∀ (s : Shared) (H : Hp) (C : Addr) (cl : List (Str × Addr)) (fp : List Addr), PG (X.blk s H scope (compEnvC scope cl C X.env) fp) tg (t.hg X.K)) (ht : ∀ (s : Shared) (H : Hp) (C : Addr) (cl : List (Str × Addr)) (fp : List Addr), PTs (X.blk s H scope (compEnvC scope cl C X.env) fp) ifs (rT X.en W0 cd))
    (he : ∀ (s : Shared) (H : Hp) (C : Addr) (cl : List (Str × Addr)) (fp : List Addr), PE (X.blk s H scope (compEnvC scope cl C X.env) fp) elt (rE X.en W0 el)) (hv : ∀ i ∈ t.own, i ∈ own.map (·.2) := by decide) (hs : ∀ x, foldedSetIterable iter X.env x = pure x := by intro _; rfl) :
    PE X (.ListComp elt [⟨tg, iter, ifs, 0⟩] scope pos) (rE X.en W (compC m src (own.map (·.2)) t cd el)) := (pe_lc hc hN hi ok hg ht he hs).imp (r_lc hv)
theorem g_setLc (m : Bool) (i : Nat) {y : Str} {py : Pos} {elt tg iter : Expr} {ifs : List Expr} {scope : Scope} {own : List (Str × Nat)} {pos spos : Pos} {src : CI} {t : Tg} {cd : CT} {el : CE} (hc : X.calm = true) (hN : X.N.Nodup) (hi : PI X tg iter (rIt X.en W src)) (ok : BlkOk X.N X.env.scope scope own)
    (hg : ∀ (s : Shared) (H : Hp) (C : Addr) (cl : List (Str × Addr)) (fp : List Addr), PG (X.blk s H scope (compEnvC scope cl C X.env) fp) tg (t.hg X.K)) (ht : ∀ (s : Shared) (H : Hp) (C : Addr) (cl : List (Str × Addr)) (fp : List Addr), PTs (X.blk s H scope (compEnvC scope cl C X.env) fp) ifs (rT X.en W0 cd))
    (he : ∀ (s : Shared) (H : Hp) (C : Addr) (cl : List (Str × Addr)) (fp : List Addr), PE (X.blk s H scope (compEnvC scope cl C X.env) fp) elt (rE X.en W0 el))
    (hy : X.N[i]? = some y := by rfl) (hyl : X.env.scope.names.lookup y = some .local := by rfl) (hsw : swapsWith (.ListComp elt [⟨tg, iter, ifs, 0⟩] scope pos) (some (.Name y py)) spos.line X.env = pure true := by exact sw_true rfl rfl rfl (by decide +kernel))
    (hv : ∀ i ∈ t.own, i ∈ own.map (·.2) := by decide) (hs : ∀ x, foldedSetIterable iter X.env x = pure x := by intro _; rfl) :
    PS X (.Assign [.Name y py] (.ListComp elt [⟨tg, iter, ifs, 0⟩] scope pos) spos) (rS X.en W (asgC (compC m src (own.map (·.2)) t cd el) (nameG i))) := by
  refine (ps_setLc hc hN hy hyl hsw hi ok hg ht he hs).imp fun D σ H q => ?_
  obtain ⟨B, μ, S, h, s, a, o⟩ := q
  exact r_lc hv σ H _ ⟨B, μ, S, h, s, a, OutS.bindE s o fun d1 h1 v1 μ1 H1 x1 a1 r1 o1 => o1 (σ.set i (some v1)) μ1 H1 .refl a1 ((s.mono x1).set i r1)⟩
end

/-! ### for -/
def ResS.turn (r : ResS) (k : Sl → AH → ResS) : ResS := match r with
  | .nx s h => k s h
  | .ct s h => k s h
  | .bk s h => .nx s h
  | r => r
noncomputable def loopC (gs : Gd) (g : CG) (body : CS) : List D → Sl → AH → ResS
  | [], S, h => .nx S h
  | d :: ds, S, h => ((g d S h).bind body).turn fun S1 h1 => if GdOk gs h1 then loopC gs g body ds S1 h1 else .stuck
noncomputable def forC (src : CI) (g : CG) (body : CS) : CS := fun S h => (src S h).sbind S fun p h1 => loopC p.2 g body p.1 S h1
section
variable {X : Cx} {E : XK} {E0 : XK} {W W0 : WX}
theorem OutS.bindI {e : En} {μ : Mu} {H : Hp} {B : Bk} {r : Res (List D × Gd)} {k : List D × Gd → AH → ResS} {s : Sl} {D : Ends} {R : It → Hp → Prop} {σ : L2.St} (st : StRel e B μ H s σ) (o : OutS e W μ H B (r.sbind s k) D)
    (hk : ∀ ds gs h J μ' H', Ext μ H μ' H' → AHOk e B μ' H' h → GdOk gs h → Wk e B μ' H' ds gs J → OutS e W μ' H' B (k (ds, gs) h) D → R J H') : OutI e (WE W σ) μ H B r R := by
  cases r with
  | ok p h' => exact fun J μ2 H2 y a g w => hk p.1 p.2 h' J μ2 H2 y a g w (OutS.mono y o)
  | exc _ _ => exact fun c d μ2 H2 y a r => o c d σ μ2 H2 y a r (st.mono y)
  | stuck => exact o
theorem ResS.bind_turn {r : ResS} {b : CS} {k : Sl → AH → ResS} : (r.bind b).turn k = match r with
  | .nx s h => (b s h).turn k
  | .ct s h => k s h
  | .bk s h => .nx s h
  | r => r := by cases r <;> rfl
theorem r_for {e : En} {src : CI} {g : CG} {body : CS} (gg : GoesG g) : ∀ D σ H, rS e W (forC src g body) D σ H → tFor (rIt e W src) (rG e W g) (rS e W body) D σ H := by
  rintro D σ H ⟨B, μ, S, h, s, a, o⟩
  refine ⟨B, μ, S, h, s, a, OutS.bindI s o fun ds gs h1 J μ1 H1 x1 a1 g1 w1 o1 => ?_⟩
  refine ⟨fun i m σ' H' => ∃ μ' S' h', Ext μ1 H1 μ' H' ∧ AHOk e B μ' H' h' ∧ GdOk gs h' ∧ StRel e B μ' H' S' σ' ∧ i ≤ ds.length ∧ m = ds.length - i ∧ OutS e W μ' H' B (loopC gs g body (ds.drop i) S' h') D,
    ⟨_, μ1, S, h1, .refl, a1, g1, s.mono x1, Nat.zero_le _, rfl, by rw [List.drop_zero]; exact o1⟩, ?_⟩
  rintro i m σ2 H2 ⟨μ2, S2, h2, x2, a2, g2, s2, hi, rfl, o2⟩
  by_cases hlt : i < ds.length
  · refine .inr ?_
    obtain ⟨d, hd⟩ : ∃ d, ds[i]? = some d := ⟨_, List.getElem?_eq_getElem hlt⟩
    refine ⟨w1.go B μ2 H2 h2 i d .refl x2 a2 g2 hd, fun σ' H' => ∃ μ' S' h', Ext μ1 H1 μ' H' ∧ AHOk e B μ' H' h' ∧ GdOk gs h' ∧ StRel e B μ' H' S' σ' ∧ OutS e W μ' H' B (loopC gs g body (ds.drop (i + 1)) S' h') D,
      fun σ' H' ⟨μ', S', h', c1, c2, c3, c4, c5⟩ => ⟨_, by omega, μ', S', h', c1, c2, c3, c4, hlt, rfl, c5⟩, ?_⟩
    intro x H3 hy
    obtain ⟨x3, a3, r3⟩ := w1.yld B μ2 H2 h2 i d x H3 .refl x2 a2 g2 hd hy
    rw [drop_some hd] at o2
    unfold loopC at o2
    have o3 := OutS.mono x3 o2
    rw [ResS.bind_turn] at o3
    refine ⟨B, μ2, S2, h2, d, s2.mono x3, a3, r3, ?_⟩
    rcases gg d S2 h2 with ⟨S4, h4, e4⟩ | e4
    · rw [e4] at o3 ⊢
      intro σ5 μ5 H5 x5 a5 s5
      refine ⟨B, μ5, S4, h4, s5, a5, ?_⟩
      have o5 := OutS.mono x5 o3
      have x15 := (x2.trans x3).trans x5
      have nxt : ∀ {S6 : Sl} {h6 : AH} {σ6 : L2.St} {μ6 : Mu} {H6 : Hp}, Ext μ5 H5 μ6 H6 → AHOk e B μ6 H6 h6 → StRel e B μ6 H6 S6 σ6 → OutS e W μ5 H5 B (if GdOk gs h6 then loopC gs g body (ds.drop (i + 1)) S6 h6 else .stuck) D →
          ∃ μ' S' h', Ext μ1 H1 μ' H6 ∧ AHOk e B μ' H6 h' ∧ GdOk gs h' ∧ StRel e B μ' H6 S' σ6 ∧ OutS e W μ' H6 B (loopC gs g body (ds.drop (i + 1)) S' h') D := fun {S6 h6 σ6 μ6 H6} x6 a6 s6 o6 => by
        split at o6
        · exact ⟨μ6, S6, h6, x15.trans x6, a6, by assumption, s6, OutS.mono x6 o6⟩
        · exact o6.elim
      have o5 : OutS e W μ5 H5 B ((body S4 h4).turn fun S1 h1 => if GdOk gs h1 then loopC gs g body (ds.drop (i + 1)) S1 h1 else .stuck) D := o5
      cases q : body S4 h4 with
      | nx S6 h6 => rw [q] at o5; exact fun σ6 μ6 H6 x6 a6 s6 => nxt x6 a6 s6 o5
      | ct S6 h6 => rw [q] at o5; exact fun σ6 μ6 H6 x6 a6 s6 => nxt x6 a6 s6 o5
      | bk S6 h6 => rw [q] at o5; exact fun σ6 μ6 H6 x6 a6 s6 => o5 σ6 μ6 H6 x6 a6 s6
      | rt d6 h6 => rw [q] at o5; exact fun v6 μ6 H6 x6 a6 r6 => o5 v6 μ6 H6 x6 a6 r6
      | exc _ _ _ => rw [q] at o5; exact o5
      | stuck => rw [q] at o5; exact o5
    · rw [e4] at o3
      exact o3.elim
  · have hi' : i = ds.length := by omega
    subst hi'
    rw [List.drop_length] at o2
    unfold loopC at o2
    exact .inl ⟨w1.stop B μ2 H2 h2 .refl x2 a2 g2, o2 σ2 μ2 H2 .refl a2 s2⟩
theorem g_for {tg iter : Expr} {body : List Stmt} {src : CI} {g : CG} {cb : CS} {pos : Pos} (hp : PassesOwn (model X.prog X.w) X.A X.env X.xe) (hc : X.calm = true) (hi : PI X tg iter (rIt X.en W src)) (hg : PG X tg (rG X.en W g)) (gg : GoesG g) (hb : PSs X body (rS X.en W cb))
    (hs : ∀ x, foldedSetIterable iter X.env x = pure x := by intro _; rfl) : PS X (.For tg iter body [] pos) (rS X.en W (forC src g cb)) := (ps_for hp hc hi hg hb hs).imp (r_for gg)

/-! ### while: so many turns at most -/
noncomputable def whileC (t : CT) (body : CS) : Nat → CS
  | 0 => fun _ _ => .stuck
  | n + 1 => fun S h => (t S h).sbind S fun b h1 => if b then (body S h1).turn fun S2 h2 => whileC t body n S2 h2 else .nx S h1
theorem r_while {e : En} {t : CT} {cb : CS} {n : Nat} : ∀ D σ H, rS e W (whileC t cb n) D σ H → tWhile (rT e W t) (rS e W cb) D σ H := by
  rintro D σ H ⟨B, μ, S, h, s, a, o⟩
  refine ⟨fun m σ' H' => ∃ μ' S' h', Ext μ H μ' H' ∧ AHOk e B μ' H' h' ∧ StRel e B μ' H' S' σ' ∧ OutS e W μ' H' B (whileC t cb m S' h') D, ⟨n, μ, S, h, .refl, a, s, o⟩, ?_⟩
  rintro m σ1 H1 ⟨μ1, S1, h1, x1, a1, s1, o1⟩
  cases m with
  | zero => exact o1.elim
  | succ m =>
    unfold whileC at o1
    refine ⟨B, μ1, S1, h1, s1, a1, OutS.bindB s1 o1 fun b h2 μ2 H2 x2 a2 o2 => ?_⟩
    cases b with
    | false => exact iteF (o2 σ1 μ2 H2 .refl a2 (s1.mono x2))
    | true =>
      refine iteT ⟨fun σ' H' => ∃ μ' S' h', Ext μ H μ' H' ∧ AHOk e B μ' H' h' ∧ StRel e B μ' H' S' σ' ∧ OutS e W μ' H' B (whileC t cb m S' h') D, fun σ' H' q => ⟨m, Nat.lt_succ_self _, q⟩, B, μ2, S1, h2, s1.mono x2, a2, ?_⟩
      have o2 : OutS e W μ2 H2 B ((cb S1 h2).turn fun S2 h2 => whileC t cb m S2 h2) D := o2
      have x02 := x1.trans x2
      cases q : cb S1 h2 with
      | nx S6 h6 => rw [q] at o2; exact fun σ6 μ6 H6 x6 a6 s6 => ⟨μ6, S6, h6, x02.trans x6, a6, s6, OutS.mono x6 o2⟩
      | ct S6 h6 => rw [q] at o2; exact fun σ6 μ6 H6 x6 a6 s6 => ⟨μ6, S6, h6, x02.trans x6, a6, s6, OutS.mono x6 o2⟩
      | bk S6 h6 => rw [q] at o2; exact fun σ6 μ6 H6 x6 a6 s6 => o2 σ6 μ6 H6 x6 a6 s6
      | rt d6 h6 => rw [q] at o2; exact fun v6 μ6 H6 x6 a6 r6 => o2 v6 μ6 H6 x6 a6 r6
      | exc _ _ _ => rw [q] at o2; exact o2
      | stuck => rw [q] at o2; exact o2
theorem g_while (n : Nat) {c : Expr} {body : List Stmt} {t : CT} {cb : CS} {pos : Pos} (hp : PassesOwn (model X.prog X.w) X.A X.env X.xe) (hc : PT X c (rT X.en W t)) (hb : PSs X body (rS X.en W cb)) : PS X (.While c body [] pos) (rS X.en W (whileC t cb n)) :=
  (ps_while hp hc hb).imp r_while

end
end G

/-! E6: sources: sequences, range, enumerate, zip. -/
namespace G
open PySem PySem.Spec L2
open PyProof.Rows hiding St

/-! ### a list or a tuple -/
inductive SK where
  | L | T
def SK.sq (K : PySem.W.Frag) : SK → Hp → Addr → List V → Prop
  | .L => SqL K
  | .T => SqT K
def SK.isO : SK → Heap → Addr → Array Value → Prop
  | .L => fun h a its => h.IsList a its
  | .T => fun h a its => h.IsTuple a its
def SK.isIt : SK → Heap → Addr → Addr → Nat → Prop
  | .L => fun h it a i => h.IsListIter it a i
  | .T => fun h it a i => h.IsTupleIter it a i
def SK.itO : SK → Addr → Obj
  | .L => fun a => { cls := .type "list_iterator", data := .fields #[.ref a, .int 0 0] }
  | .T => fun a => { cls := .type "tuple_iterator", data := .fields #[.ref a, .int 0 0] }
section
variable {X : Cx} {pins : List (Addr × Obj)} {σ : L2.St} {H : Hp} {s : Shared} {a : Addr} {xs ys : List V}
theorem SK.inv (k : SK) (I : Inv X pins σ H s) (q : k.sq X.K H a xs) : ∃ its : List Value, Vals xs its ∧ k.isO s.heap a its.toArray ∧ a < s.heap.objs.size := by
  cases k with
  | L => obtain ⟨its, r, p, _⟩ := I.list q; exact ⟨its, r, p.isList, p.lt⟩
  | T => obtain ⟨its, r, p, _⟩ := I.tuple q; obtain ⟨o, ho, _⟩ := id p; exact ⟨its, r, p, Heap.lt_size ho⟩
theorem SK.inj (k : SK) (I : Inv X pins σ H s) (q : k.sq X.K H a xs) (q' : k.sq X.K H a ys) : xs = ys := by
  cases k with
  | L => exact I.list_inj q q'
  | T => exact I.tuple_inj q q'
theorem SK.beg (k : SK) (a : Addr) (its : Array Value) : Begins (.ref a) (k.itO a) (fun h => k.isO h a its) := by
  cases k with
  | L => exact begins_list a its
  | T => exact begins_tuple a its
theorem SK.draws (k : SK) {prog : Program} {w : World} {A : Around} (hh : A.handled = none) (it a : Addr) (hne : a ≠ it) (its : Array Value) :
    Draws prog w A it [it, a] its.size (fun i v => its[i]? = some v) (fun i h => k.isIt h it a i ∧ k.isO h a its) := by
  cases k with
  | L => exact Draws.list hh it a hne its
  | T => exact Draws.tuple hh it a hne its
theorem SK.it0 (k : SK) {h : Heap} {it a : Addr} (e : h.get? it = some (k.itO a)) : k.isIt h it a 0 := by
  cases k with
  | L => exact ⟨_, e, rfl, rfl⟩
  | T => exact ⟨_, e, rfl, rfl⟩
theorem SK.itAt (k : SK) {h h' : Heap} {it a : Addr} {i : Nat} (x : k.isIt h it a i) (e : ∀ o, h.get? it = some o → h'.get? it = some o) : k.isIt h' it a i := by
  cases k with
  | L => exact x.at e
  | T => exact x.at e
theorem SK.itObj (k : SK) {h : Heap} {it a : Addr} {i : Nat} (x : k.isIt h it a i) : ∃ o, h.get? it = some o ∧ ∀ v, o.data ≠ .cell v := by
  cases k with
  | L => obtain ⟨o, e, _, d⟩ := x; exact ⟨o, e, fun v q => by rw [d] at q; cases q⟩
  | T => obtain ⟨o, e, _, d⟩ := x; exact ⟨o, e, fun v q => by rw [d] at q; cases q⟩
theorem SK.oAt (k : SK) {h h' : Heap} {a : Addr} {its : Array Value} (x : k.isO h a its) (e : ∀ o, h.get? a = some o → h'.get? a = some o) : k.isO h' a its := by
  cases k with
  | L => exact x.at e
  | T => exact x.at e
end

/-! ### zip of two, enumerate: the tuple's own object -/
theorem goes_zip2 {prog : Program} {w : World} {A : Around} {elts : List Expr} {kk : Nat} {pos : Pos} {z TI TO i1 i2 : Addr} {fp1 fp2 : List Addr} {n1 n2 : Nat} {P1 P2 : Nat → Value → Prop} {St1 St2 : Nat → Heap → Prop} (S : ZipSep2 z TI TO i1 i2 fp1 fp2) (D1 : Draws prog w A.in1 i1 fp1 n1 P1 St1) (D2 : Draws prog w A.in1 i2 fp2 n2 P2 St2) :
    GoesN prog w A (.Tuple elts kk pos) z (z :: TI :: TO :: (fp1 ++ fp2)) [z, TO, i1, i2] (min n1 n2) (fun i h₀ v h => ∃ T x y, v = .ref T ∧ h₀.objs.size ≤ T ∧ P1 i x ∧ P2 i y ∧ IsTupOf2 h T x y)
      (fun i h => IsZip h z TI TO .none ∧ IsTupOf2 h TI (.ref i1) (.ref i2) ∧ (∃ a1 a2, IsTupOf2 h TO a1 a2) ∧ St1 i h ∧ St2 i h) where
  sub := (WalksT.zipD2 S D1 D2).sub
  frame := (WalksT.zipD2 S D1 D2).frame
  goes := fun i s Q E hi hst hQ => by
    have W := WalksT.zipD2 (A := A) S D1 D2
    obtain ⟨hz, hTI, ⟨a1, a2, hTO⟩, st1, st2⟩ := hst
    have hi1 : i < n1 := by omega
    have hi2 : i < n2 := by omega
    refine wpAny_with_toks (n := s.toks) (Nat.le_refl _) (wpAny_pyNext_zipD2_item S D1 D2 hz hTI hTO st1 st2 hi1 hi2 fun x1 x2 h' tk y1 y2 b1 b2 d1 d2 b5 b6 hk htk => ?_)
    have lt : ∀ {c o}, s.heap.get? c = some o → s.heap.objs.size ≠ c := fun e => Nat.ne_of_gt (Heap.lt_size e)
    have l1 : s.heap.objs.size ≠ i1 := by obtain ⟨_, e⟩ := D1.live _ _ st1; exact lt e
    have l2 : s.heap.objs.size ≠ i2 := by obtain ⟨_, e⟩ := D2.live _ _ st2; exact lt e
    have mid : IsZip h' z TI TO (rawInt s.heap.objs.size) ∧ IsTupOf2 h' TI (.ref i1) (.ref i2) ∧ (∃ a1 a2, IsTupOf2 h' TO a1 a2) ∧ St1 (i + 1) h' ∧ St2 (i + 1) h' ∧ s.heap.objs.size ≠ z ∧ s.heap.objs.size ≠ TO ∧ s.heap.objs.size ≠ i1 ∧ s.heap.objs.size ≠ i2 :=
      ⟨b1, hk _ _ S.TIz S.TITO S.TIi1 S.TIi2 hTI, ⟨_, _, b2⟩, d1, d2, lt hz, lt hTO, l1, l2⟩
    refine ⟨.ref s.heap.objs.size, rfl, W.go elts kk pos i s.heap.objs.size { s with heap := h', toks := tk } _ _ mid fun h₂ st₂ hk₂ => ?_⟩
    exact hQ (.ref s.heap.objs.size) h₂ tk ⟨_, x1, x2, rfl, Nat.le_refl _, y1, y2, hk₂ _ _ (W.apart i _ h' mid) b5⟩ st₂ (fun b o hb e => hk₂ b o hb (hk b o (fun x => hb (by simp [x])) (fun x => hb (by simp [x])) (fun x => hb (by simp [x])) (fun x => hb (by simp [x])) e)) htk
  stops := (GoesN.ofWalksT (WalksT.zipD2 S D1 D2) (elts := elts) (k := kk) (pos := pos)).stops
  self := (WalksT.zipD2 S D1 D2).self
theorem goes_enum {prog : Program} {w : World} {A : Around} {elts : List Expr} {x1 : Nat} {pos : Pos} {it : Addr} {fp : List Addr} {n : Nat} {P : Nat → Value → Prop} {St : Nat → Heap → Prop} (k₀ : Int) (D : Draws prog w A.in1 it fp n P St) (e : Addr) (hei : e ≠ it) (hef : e ∉ fp) (hif : it ∈ fp) :
    GoesN prog w A (.Tuple elts x1 pos) e (e :: fp) [e, it] n (fun i h₀ v h => ∃ T t x, v = .ref T ∧ h₀.objs.size ≤ T ∧ P i x ∧ h.get? T = some { cls := .type "tuple", data := .seq #[.int (k₀ + (i : Int)) t, x] }) (fun i h => (∃ old, IsEnum h e it (k₀ + (i : Int)) old) ∧ St i h) where
  sub := (WalksT.enumFrom k₀ D e hei hef hif).sub
  frame := (WalksT.enumFrom k₀ D e hei hef hif).frame
  goes := fun i s Q E hi hst hQ => by
    have W := WalksT.enumFrom k₀ D e hei hef hif
    obtain ⟨⟨old, he⟩, hs⟩ := hst
    have helt : e < s.heap.objs.size := Heap.lt_size he
    have hilt : it < s.heap.objs.size := by obtain ⟨_, y⟩ := D.live _ _ hs; exact Heap.lt_size y
    refine wpAny_with_toks (n := s.toks) (Nat.le_refl _) (wpAny_pyNext_enum_itemC D he hs hi hei hef fun x h' tk hP ho hs' hT hsz hk htk => ?_)
    have mid : (∃ x, IsEnumOut h' e it (k₀ + (i : Int) + 1) x s.heap.objs.size) ∧ St (i + 1) h' ∧ s.heap.objs.size ≠ e ∧ s.heap.objs.size ≠ it := ⟨⟨_, ho⟩, hs', Nat.ne_of_gt helt, Nat.ne_of_gt hilt⟩
    refine ⟨.ref s.heap.objs.size, rfl, W.go elts x1 pos i s.heap.objs.size { s with heap := h', toks := tk + 1 } _ _ mid fun h₂ st₂ hk₂ => ?_⟩
    exact hQ (.ref s.heap.objs.size) h₂ (tk + 1) ⟨_, tk, x, rfl, Nat.le_refl _, hP, hk₂ _ _ (W.apart i _ h' mid) hT⟩ st₂ (fun b o hb y => hk₂ b o hb (hk b o (fun e' => hb (by simp [e'])) (fun e' => hb (by simp [e'])) y)) htk
  stops := (GoesN.ofWalksT (WalksT.enumFrom k₀ D e hei hef hif) (elts := elts) (k := x1) (pos := pos)).stops
  self := (WalksT.enumFrom k₀ D e hei hef hif).self

/-! ### zip of two, enumerate, of any mix -/
def ItZ (K : PySem.W.Frag) (k1 k2 : SK) (a b : Addr) : It :=
  ⟨fun i H => ∃ (xs ys : List V) (x y : V), k1.sq K H a xs ∧ k2.sq K H b ys ∧ xs[i]? = some x ∧ ys[i]? = some y,
    fun i H v H' => ∃ T x y, ∃ o : Obj, v = .ref T ∧ H T = none ∧ o.dict = none ∧ H' = upd H T (.frz o (.tup [x, y])) ∧ (∀ xs, k1.sq K H a xs → xs[i]? = some x) ∧ ∀ ys, k2.sq K H b ys → ys[i]? = some y,
    fun i H => ∃ xs ys : List V, k1.sq K H a xs ∧ k2.sq K H b ys ∧ i = min xs.length ys.length⟩
def tnZ (k1 k2 : SK) (z TI TO i1 i2 a b : Addr) (i : Nat) (h : Heap) : Prop :=
  IsZip h z TI TO .none ∧ IsTupOf2 h TI (.ref i1) (.ref i2) ∧ (∃ x y, IsTupOf2 h TO x y) ∧ k1.isIt h i1 a i ∧ k2.isIt h i2 b i
theorem turn_zipX {P : Program} {w : World} {K : PySem.W.Frag} {elts : List Expr} {kk : Nat} {tpos : Pos} {k1 k2 : SK} {a b z TI TO i1 i2 : Addr} (S : ZipSep2 z TI TO i1 i2 [i1, a] [i2, b]) (ha : a ≠ i1) (hb : b ≠ i2) :
    Turn P w K (.Tuple elts kk tpos) (ItZ K k1 k2 a b) [z, TI, TO, i1, i2] z (tnZ k1 k2 z TI TO i1 i2 a b) where
  mem := by simp
  obj := fun i h st c hc => by
    obtain ⟨hz, hTI, ⟨x, y, hTO⟩, h1, h2⟩ := st
    have e' : c = z ∨ c = TI ∨ c = TO ∨ c = i1 ∨ c = i2 := by simpa using hc
    rcases e' with q | q | q | q | q
    · rw [q]; exact ⟨_, hz, fun v q => nomatch q⟩
    · rw [q]; exact ⟨_, hTI, fun v q => nomatch q⟩
    · rw [q]; exact ⟨_, hTO, fun v q => nomatch q⟩
    · rw [q]; exact k1.itObj h1
    · rw [q]; exact k2.itObj h2
  keep := fun i h h' st k => by
    obtain ⟨hz, hTI, ⟨x, y, hTO⟩, h1, h2⟩ := st
    exact ⟨k z (by simp) _ hz, k TI (by simp) _ hTI, ⟨x, y, k TO (by simp) _ hTO⟩, k1.itAt h1 fun o q => k i1 (by simp) o q, k2.itAt h2 fun o q => k i2 (by simp) o q⟩
  item := by
    intro X hP hw hK hc i pins s σ H E I hf st hg
    subst hP hw hK
    obtain ⟨hz, hTI, hTO, h1, h2⟩ := st
    obtain ⟨xs, ys, x, y, hqx, hqy, hx, hy⟩ := hg
    obtain ⟨its, rv, p, la⟩ := k1.inv I hqx
    obtain ⟨its2, rv2, p2, lb⟩ := k2.inv I hqy
    obtain ⟨u, hu, ru⟩ := rv.get hx
    obtain ⟨u2, hu2, ru2⟩ := rv2.get hy
    have hh := I.ok.hd hc
    have hn1 : i < its.toArray.size := by simpa using (List.getElem?_eq_some_iff.mp hu).1
    have hn2 : i < its2.toArray.size := by simpa using (List.getElem?_eq_some_iff.mp hu2).1
    have W := goes_zip2 (prog := X.prog) (w := X.w) (elts := elts) (kk := kk) (pos := tpos) S (k1.draws (A := X.A.in1) hh i1 a ha its.toArray) (k2.draws (A := X.A.in1) hh i2 b hb its2.toArray)
    refine W.goes i s _ E (by omega) ⟨hz, hTI, hTO, ⟨h1, p⟩, ⟨h2, p2⟩⟩ fun v h' tk hY st' hk _ => ?_
    obtain ⟨T, x', y', rfl, hT, hx', hy', ho⟩ := hY
    obtain ⟨hz', hTI', hTO', ⟨h1', _⟩, ⟨h2', _⟩⟩ := st'
    have ex : u = x' := by rw [show its.toArray[i]? = its[i]? by simp, hu] at hx'; exact Option.some.inj hx'
    have ey : u2 = y' := by rw [show its2.toArray[i]? = its2[i]? by simp, hu2] at hy'; exact Option.some.inj hy'
    subst ex ey
    have new : ObjOk X.prog X.w (upd H T (.frz { cls := .type "tuple", data := .seq #[u, u2] } (.tup [x, y]))) h' T (.frz { cls := .type "tuple", data := .seq #[u, u2] } (.tup [x, y])) := ⟨ho, by show 2 ≤ sizeLine; decide, [u, u2], .cons ru (.cons ru2 .nil), _, ho, rfl, _, rfl⟩
    refine ⟨.ref T, _, I.turnedNew (t' := tk) (ch := [z, TI, TO, i1, i2]) (fun c o hb q => hk c o (fun z => hb (by simp at z ⊢; rcases z with z | z | z | z <;> simp [z])) q) hf hT new, rfl, ⟨T, x, y, _, rfl, I.hok.fresh hT, rfl, rfl, fun l hl => by rw [k1.inj I hl hqx]; exact hx, fun l hl => by rw [k2.inj I hl hqy]; exact hy⟩, ⟨hz', hTI', hTO', h1', h2'⟩, fun c hcm => ?_⟩
    have hlt : c < s.heap.objs.size := by
      have e' : c = z ∨ c = TI ∨ c = TO ∨ c = i1 ∨ c = i2 := by simpa using hcm
      rcases e' with q | q | q | q | q
      · rw [q]; exact Heap.lt_size hz
      · rw [q]; exact Heap.lt_size hTI
      · rw [q]; obtain ⟨_, _, hTO⟩ := hTO; exact Heap.lt_size hTO
      · rw [q]; obtain ⟨_, e1, _⟩ := k1.itObj h1; exact Heap.lt_size e1
      · rw [q]; obtain ⟨_, e2, _⟩ := k2.itObj h2; exact Heap.lt_size e2
    rw [upd_ne (Nat.ne_of_lt (Nat.lt_of_lt_of_le hlt hT))]
    exact (hf c hcm).1
  done := by
    intro X hP hw hK hc i pins s σ H E I hf st hg
    subst hP hw hK
    obtain ⟨hz, hTI, hTO, h1, h2⟩ := st
    obtain ⟨xs, ys, hqx, hqy, hend⟩ := hg
    obtain ⟨its, rv, p, la⟩ := k1.inv I hqx
    obtain ⟨its2, rv2, p2, lb⟩ := k2.inv I hqy
    have hh := I.ok.hd hc
    have l1 := rv.length
    have l2 := rv2.length
    have W := goes_zip2 (prog := X.prog) (w := X.w) (elts := elts) (kk := kk) (pos := tpos) S (k1.draws (A := X.A.in1) hh i1 a ha its.toArray) (k2.draws (A := X.A.in1) hh i2 b hb its2.toArray)
    have en : min its.toArray.size its2.toArray.size = i := by simp; omega
    refine thn (W.stops s (fun s1 => Inv X pins σ H s1) E (by rw [en]; exact ⟨hz, hTI, hTO, ⟨h1, p⟩, ⟨h2, p2⟩⟩) fun h' tk hk _ => I.turnedL (t' := tk) (ch := [z, TI, TO, i1, i2]) (fun c o hb q => hk c o (fun z => hb (by simp at z ⊢; rcases z with z | z | z | z <;> simp [z])) q) hf) fun r s1 q => q
  self := fun A i s Q E st h => wpAny_pyIter_zip st.1 h
def iZipX (K : PySem.W.Frag) (ta : TA) : TI := fun σ H R => ta σ H fun vs H1 => ∃ k1 k2 a b xs ys, vs = [.ref a, .ref b] ∧ SK.sq K k1 H1 a xs ∧ SK.sq K k2 H1 b ys ∧ R (ItZ K k1 k2 a b) H1
theorem pi_zipX {X : Cx} {e e2 : Expr} {ta : TA} {p pos tpos : Pos} {elts : List Expr} {kk : Nat} (hg : Gl X "zip") (hm : X.mg "zip" = none) (ha : PA X [e, e2] ta)
    (hs : starEach [e, e2] X.env = (false, eval e X.env) :: starEach [e2] X.env := by rfl) (hpl : (backTo pos (starEach [e2] X.env)).any (·.1) = false := by rfl) :
    PI X (.Tuple elts kk tpos) (.Call (.Name "zip" p) [e, e2] [] pos) (iZipX X.K ta) := by
  refine ⟨fun pins s σ H R I h => ?_⟩
  refine Call_ (ld_blt I hg hm PyProof.Rows.boot_zip (PyProof.Rows.callWith_type1 (thn (ha.run pos pins s σ H _ I h) fun us s1 ⟨vs, H1, I1, r1, q1⟩ => ?_) hs hpl))
  obtain ⟨k1, k2, a, b, xs, ys, ex, hqx, hqy, q⟩ := q1
  subst ex
  cases r1 with
  | cons r rr =>
    cases rr with
    | cons r' rr =>
      cases rr
      cases r
      cases r'
      obtain ⟨its, rv, p1, la⟩ := k1.inv I1 hqx
      obtain ⟨its2, rv2, p2, lb⟩ := k2.inv I1 hqy
      refine zip_begins2 (k1.beg a its.toArray) (k2.beg b its2.toArray) p1 p2 fun h' hz hTI hTO h1 h2 hsz hk => wpAny_pyIter_zip hz ?_
      have I2 : Inv X pins σ H1 { s1 with heap := h' } := I1.kept (t' := s1.toks) hk
      have S := zip_sep2 (N := s1.heap.objs.size) (fp1 := [a]) (fp2 := [b]) (by simpa using la) (by simpa using lb)
      refine ⟨s1.heap.objs.size + 4, [s1.heap.objs.size + 4, s1.heap.objs.size + 2, s1.heap.objs.size + 3, s1.heap.objs.size, s1.heap.objs.size + 1], _, _, H1, rfl, I2, turn_zipX (k1 := k1) (k2 := k2) S (Nat.ne_of_lt la) (Nat.ne_of_lt (Nat.lt_succ_of_lt lb)), ⟨hz, hTI, ⟨_, _, hTO⟩, k1.it0 h1, k2.it0 h2⟩, fun c hcm => ?_, q⟩
      have e' : c = s1.heap.objs.size + 4 ∨ c = s1.heap.objs.size + 2 ∨ c = s1.heap.objs.size + 3 ∨ c = s1.heap.objs.size ∨ c = s1.heap.objs.size + 1 := by simpa using hcm
      have hle : s1.heap.objs.size ≤ c := by
        rcases e' with z | z | z | z | z
        · rw [z]; exact Nat.le_add_right _ _
        · rw [z]; exact Nat.le_add_right _ _
        · rw [z]; exact Nat.le_add_right _ _
        · rw [z]; exact Nat.le_refl _
        · rw [z]; exact Nat.le_add_right _ _
      exact I1.fpOk hle (I1.hok.fresh hle)

/-! enumerate(v) -/
set_option maxHeartbeats 1000000 in
theorem meets_enum1 {v : Value} {o : Obj} {H : Heap → Prop} (B : Begins v o H) :
    Meets (Builtin.«enumerate.__new__» ⟨[.type "enumerate", v], []⟩) (fun _ R s => H s.heap ∧
      R (.ok (.ret (.ref (s.heap.push o).objs.size))) { s with heap := (s.heap.push o).push { cls := .type "enumerate", data := .fields #[.none, .bool false, .ref s.heap.objs.size, rawInt 0, .none, .none] } }) :=
  .of_wp fun prog w A R s h => by
    obtain ⟨hp, g, d, tk, os⟩ := s; obtain ⟨h1, h⟩ := h
    have hsub := sub_enumerate
    have q1 : ∀ {A' : Around} {E : Value → Shared → Prop} {Q : Value → Shared → Prop}, Q (.ref hp.objs.size) ⟨hp.push o, g, d, tk, os⟩ → wpAny (model prog w) A' (pyIter v) Q E ⟨hp, g, d, tk, os⟩ :=
      fun q => B.iter prog w _ _ ⟨hp, g, d, tk, os⟩ _ h1 q
    wp_walk using q1
    refine wpAny_stack_any fun st => wpAny_pure ?_
    split
    · rename_i c _ _ _ _ _
      cases (c == Value.type "enumerate")
      · wp_walk using q1
        exact ⟨_, rfl, h⟩
      · wp_walk using q1
        exact ⟨_, rfl, h⟩
    · wp_walk using q1
      exact ⟨_, rfl, h⟩
theorem enum_begins1 {prog : Program} {w : World} {A : Around} {E : Value → Shared → Prop} {s : Shared} {v : Value} {o : Obj} {H : Heap → Prop} {Q : Value → Shared → Prop} (B : Begins v o H) (h1 : H s.heap)
    (h : ∀ h', IsEnum h' (s.heap.objs.size + 1) s.heap.objs.size 0 .none → h'.get? s.heap.objs.size = some o → h'.objs.size = s.heap.objs.size + 2 →
      (∀ b o, s.heap.get? b = some o → h'.get? b = some o) → Q (.ref (s.heap.objs.size + 1)) { s with heap := h' }) :
    wpAny (model prog w) A (call (.type "enumerate") [v]) Q E s := by
  refine callType_new F.called_enumerate (by decide) (F.typeCall_enumerate_1 _) (F.newCall_enumerate_1 _) (fun obj => F.args_object_init_2 obj _) F.entry_enumerate_new
    (meets_enum1 B) ⟨h1, ?_⟩
  have hz : (s.heap.push o).objs.size = s.heap.objs.size + 1 := Heap.size_push ..
  show _ ∧ _
  rw [hz]
  have he : IsEnum ((s.heap.push o).push { cls := .type "enumerate", data := .fields #[.none, .bool false, .ref s.heap.objs.size, rawInt 0, .none, .none] }) (s.heap.objs.size + 1) s.heap.objs.size 0 .none := by
    have := Heap.get?_push_size (s.heap.push o) (o := { cls := .type "enumerate", data := .fields #[.none, .bool false, .ref s.heap.objs.size, rawInt 0, .none, .none] }) rfl
    rw [hz] at this; exact this
  refine ⟨⟨_, he, rfl⟩, h _ he (Heap.get?_push_of_some _ (Heap.get?_push_size _ B.free)) (by rw [Heap.size_push, hz]) fun b o x => Heap.get?_push_of_some _ (Heap.get?_push_of_some _ x)⟩
def ItE (K : PySem.W.Frag) (k1 : SK) (a : Addr) : It :=
  ⟨fun i H => ∃ (xs : List V) (x : V), k1.sq K H a xs ∧ xs[i]? = some x,
    fun i H v H' => ∃ T x, ∃ o : Obj, v = .ref T ∧ H T = none ∧ o.dict = none ∧ H' = upd H T (.frz o (.tup [.int (i : Nat), x])) ∧ ∀ xs, k1.sq K H a xs → xs[i]? = some x,
    fun i H => ∃ xs : List V, k1.sq K H a xs ∧ i = xs.length⟩
def tnE (k1 : SK) (z it a : Addr) (i : Nat) (h : Heap) : Prop := (∃ old, IsEnum h z it (0 + (i : Int)) old) ∧ k1.isIt h it a i
theorem turn_enumX {P : Program} {w : World} {K : PySem.W.Frag} {elts : List Expr} {kk : Nat} {tpos : Pos} {k1 : SK} {a z it : Addr} (hzi : z ≠ it) (hza : z ≠ a) (ha : a ≠ it) :
    Turn P w K (.Tuple elts kk tpos) (ItE K k1 a) [z, it] z (tnE k1 z it a) where
  mem := by simp
  obj := fun i h st c hc => by
    obtain ⟨⟨old, hz⟩, h1⟩ := st
    have e' : c = z ∨ c = it := by simpa using hc
    rcases e' with q | q
    · rw [q]; exact ⟨_, hz, fun v q => nomatch q⟩
    · rw [q]; exact k1.itObj h1
  keep := fun i h h' st k => by
    obtain ⟨⟨old, hz⟩, h1⟩ := st
    exact ⟨⟨old, k z (by simp) _ hz⟩, k1.itAt h1 fun o q => k it (by simp) o q⟩
  item := by
    intro X hP hw hK hc i pins s σ H E I hf st hg
    subst hP hw hK
    obtain ⟨hz, h1⟩ := st
    obtain ⟨xs, x, hqx, hx⟩ := hg
    obtain ⟨its, rv, p, la⟩ := k1.inv I hqx
    obtain ⟨u, hu, ru⟩ := rv.get hx
    have hh := I.ok.hd hc
    have hn1 : i < its.toArray.size := by simpa using (List.getElem?_eq_some_iff.mp hu).1
    have W := goes_enum (prog := X.prog) (w := X.w) (elts := elts) (x1 := kk) (pos := tpos) 0 (k1.draws (A := X.A.in1) hh it a ha its.toArray) z hzi (by simp [hzi, hza]) (by simp)
    refine W.goes i s _ E hn1 ⟨hz, h1, p⟩ fun v h' tk hY st' hk _ => ?_
    obtain ⟨T, t, x', rfl, hT, hx', ho⟩ := hY
    obtain ⟨hz', h1', _⟩ := st'
    have ex : u = x' := by rw [show its.toArray[i]? = its[i]? by simp, hu] at hx'; exact Option.some.inj hx'
    subst ex
    rw [Int.zero_add] at ho
    have new : ObjOk X.prog X.w (upd H T (.frz { cls := .type "tuple", data := .seq #[.int i t, u] } (.tup [.int (i : Nat), x]))) h' T (.frz { cls := .type "tuple", data := .seq #[.int i t, u] } (.tup [.int (i : Nat), x])) := ⟨ho, by show 2 ≤ sizeLine; decide, [.int i t, u], .cons ⟨_, rfl⟩ (.cons ru .nil), _, ho, rfl, _, rfl⟩
    refine ⟨.ref T, _, I.turnedNew (t' := tk) (ch := [z, it]) (fun c o hb q => hk c o (fun z => hb (by simpa using z)) q) hf hT new, rfl, ⟨T, x, _, rfl, I.hok.fresh hT, rfl, rfl, fun l hl => by rw [k1.inj I hl hqx]; exact hx⟩, ⟨hz', h1'⟩, fun c hcm => ?_⟩
    have hlt : c < s.heap.objs.size := by
      have e' : c = z ∨ c = it := by simpa using hcm
      rcases e' with q | q
      · rw [q]; obtain ⟨_, hz⟩ := hz; exact Heap.lt_size hz
      · rw [q]; obtain ⟨_, e1, _⟩ := k1.itObj h1; exact Heap.lt_size e1
    rw [upd_ne (Nat.ne_of_lt (Nat.lt_of_lt_of_le hlt hT))]
    exact (hf c hcm).1
  done := by
    intro X hP hw hK hc i pins s σ H E I hf st hg
    subst hP hw hK
    obtain ⟨hz, h1⟩ := st
    obtain ⟨xs, hqx, hend⟩ := hg
    obtain ⟨its, rv, p, la⟩ := k1.inv I hqx
    have hh := I.ok.hd hc
    have l1 := rv.length
    have W := goes_enum (prog := X.prog) (w := X.w) (elts := elts) (x1 := kk) (pos := tpos) 0 (k1.draws (A := X.A.in1) hh it a ha its.toArray) z hzi (by simp [hzi, hza]) (by simp)
    have en : its.toArray.size = i := by simp; omega
    refine thn (W.stops s (fun s1 => Inv X pins σ H s1) E (by rw [en]; exact ⟨hz, h1, p⟩) fun h' tk hk _ => I.turnedL (t' := tk) (ch := [z, it]) (fun c o hb q => hk c o (fun z => hb (by simpa using z)) q) hf) fun r s1 q => q
  self := fun A i s Q E st h => let ⟨⟨_, he⟩, _⟩ := st; wpAny_pyIter_enum he h
def iEnumX (K : PySem.W.Frag) (ta : TA) : TI := fun σ H R => ta σ H fun vs H1 => ∃ k1 a xs, vs = [.ref a] ∧ SK.sq K k1 H1 a xs ∧ R (ItE K k1 a) H1
theorem pi_enumX {X : Cx} {e : Expr} {ta : TA} {p pos tpos : Pos} {elts : List Expr} {kk : Nat} (hg : Gl X "enumerate") (hm : X.mg "enumerate" = none) (ha : PA X [e] ta) (hs : starEach [e] X.env = [(false, eval e X.env)] := by rfl) :
    PI X (.Tuple elts kk tpos) (.Call (.Name "enumerate" p) [e] [] pos) (iEnumX X.K ta) := by
  refine ⟨fun pins s σ H R I h => ?_⟩
  refine Call_ (ld_blt I hg hm boot_enumerate (PyProof.Rows.callWith_type1 (thn (ha.run pos pins s σ H _ I h) fun us s1 ⟨vs, H1, I1, r1, q1⟩ => ?_) hs rfl))
  obtain ⟨k1, a, xs, ex, hq, q⟩ := q1
  subst ex
  cases r1 with
  | cons r rr =>
    cases rr
    cases r
    obtain ⟨its, rv, p', la⟩ := k1.inv I1 hq
    refine enum_begins1 (k1.beg a its.toArray) p' fun h' he hit hsz hk => wpAny_pyIter_enum he ?_
    have I2 : Inv X pins σ H1 { s1 with heap := h' } := I1.kept (t' := s1.toks) hk
    refine ⟨s1.heap.objs.size + 1, [s1.heap.objs.size + 1, s1.heap.objs.size], _, _, H1, rfl, I2, turn_enumX (k1 := k1) (Nat.succ_ne_self _) (Nat.ne_of_gt (Nat.lt_succ_of_lt la)) (Nat.ne_of_lt la), ⟨⟨.none, he⟩, k1.it0 hit⟩, fun b hb => ?_, q⟩
    have e' : b = s1.heap.objs.size + 1 ∨ b = s1.heap.objs.size := by simpa using hb
    have hle : s1.heap.objs.size ≤ b := by
      rcases e' with z | z
      · rw [z]; exact Nat.le_add_right _ _
      · rw [z]; exact Nat.le_refl _
    exact I1.fpOk hle (I1.hok.fresh hle)
end G

/-! E7: the sources as readings; calls of defs, contracts. -/
namespace G
open PySem PySem.Spec L2
open PyProof.Rows hiding St
/-- a sequence's items, and what must stay -/
def seqOf (d : D) (h : AH) : Option (List D × Gd) := match d with
  | .lst xs => some (xs, [])
  | .tup xs => some (xs, [])
  | .ref n => match h[n]? with
    | some (.lst xs) => some (xs, [(n, xs)])
    | _ => none
  | _ => none
section
variable {e : En} {B B' : Bk} {μ μ' μ2 : Mu} {H H' H2 : Hp} {h h' : AH} {E : XK} {W : WX}
theorem seq_at {d : D} {v : V} {xs : List D} {gs : Gd} (a : AHOk e B μ H h) (r : RelD e B μ H d v) (q : seqOf d h = some (xs, gs)) : ∃ (k : SK) (p : Addr), v = .ref p ∧ xs.length ≤ sizeLine ∧ GdOk gs h ∧
    ∀ B' μ' H' h', Blk B H B' → Ext μ H μ' H' → AHOk e B' μ' H' h' → GdOk gs h' → ∃ ys, k.sq e.K H' p ys ∧ RelDs e B' μ' H' xs ys := by
  cases r with
  | @tup xs ys p hr pu z rs =>
    cases q
    refine ⟨.T, p, rfl, by rw [rs.length]; exact z, fun g hg => (by simp at hg), fun B' μ' H' h' k x a' _ => ?_⟩
    exact ⟨ys, .inl (hr.ext x pu).1.rd, (rs.blk k).mono x⟩
  | @tupK xs ys p kt rs =>
    cases q
    obtain ⟨o, its, n, h1, h2, _, h3, h4, h5⟩ := id kt
    refine ⟨.T, p, rfl, by rw [rs.length, h5.length]; simpa using h4, fun g hg => (by simp at hg), fun B' μ' H' h' k x a' _ => ?_⟩
    exact ⟨ys, .inr kt.k, (rs.blk k).mono x⟩
  | @lst xs ys p hr pu z rs =>
    cases q
    refine ⟨.L, p, rfl, by rw [rs.length]; exact z, fun g hg => (by simp at hg), fun B' μ' H' h' k x a' _ => ?_⟩
    exact ⟨ys, .inl (.inl (x.rd hr pu).1), (rs.blk k).mono x⟩
  | @ref n p hn =>
    simp only [seqOf] at q
    split at q
    · rename_i zs hz
      cases q
      obtain ⟨ys, h1, h2, h3⟩ := a.obj n _ p hz hn
      refine ⟨.L, p, rfl, by rw [h3.length]; exact h2, fun g hg => ?_, fun B' μ' H' h' k x a' gd => ?_⟩
      · rw [List.mem_singleton] at hg; subst hg; exact hz
      · obtain ⟨ys', h1', _, h3'⟩ := a'.obj n _ p (gd (n, xs) (by simp)) (x.sub _ _ hn)
        exact ⟨ys', .inl (.inl h1'), h3'⟩
    · cases q
  | _ => cases q
theorem SK.sqEx {k : SK} {p : Addr} {K : PySem.W.Frag} {H : Hp} {ys : List V} (h : k.sq K H p ys) : (∃ xs, SqL K H p xs) ∨ ∃ xs, SqT K H p xs := by
  cases k with
  | L => exact .inl ⟨_, h⟩
  | T => exact .inr ⟨_, h⟩
def SK.it (K : PySem.W.Frag) : SK → Addr → It
  | .L => Itl K
  | .T => Itt K
theorem wk_seq {k : SK} {p : Addr} {xs : List D} {gs : Gd} (hz : xs.length ≤ sizeLine)
    (f : ∀ B' μ' H' h', Blk B H B' → Ext μ H μ' H' → AHOk e B' μ' H' h' → GdOk gs h' → ∃ ys, k.sq e.K H' p ys ∧ RelDs e B' μ' H' xs ys) : Wk e B μ H xs gs (k.it e.K p) where
  size := hz
  go := fun B' μ' H' h' i d kb x a g hd => by
    obtain ⟨ys, hs, r⟩ := f B' μ' H' h' kb x a g
    obtain ⟨y, hy, ry⟩ := r.get hd
    cases k with
    | L => exact ⟨ys, y, hs, hy⟩
    | T => exact ⟨ys, y, hs, hy⟩
  yld := fun B' μ' H' h' i d v H2 kb x a g hd hy => by
    obtain ⟨ys, hs, r⟩ := f B' μ' H' h' kb x a g
    obtain ⟨y, hy', ry⟩ := r.get hd
    have key : H2 = H' ∧ v = y := by
      cases k with
      | L =>
        obtain ⟨e1, e2⟩ := hy
        have := e2 ys hs
        rw [hy'] at this
        exact ⟨e1, (Option.some.inj this).symm⟩
      | T =>
        obtain ⟨e1, e2⟩ := hy
        have := e2 ys hs
        rw [hy'] at this
        exact ⟨e1, (Option.some.inj this).symm⟩
    obtain ⟨rfl, rfl⟩ := key
    exact ⟨.refl, a, ry⟩
  stop := fun B' μ' H' h' kb x a g => by
    obtain ⟨ys, hs, r⟩ := f B' μ' H' h' kb x a g
    cases k with
    | L => exact ⟨ys, hs, Nat.le_of_eq r.length.symm⟩
    | T => exact ⟨ys, hs, Nat.le_of_eq r.length.symm⟩
def seqS (c : CE) : CI := fun S h => (c S h).bind fun d h1 => match seqOf d h1 with
  | some p => .ok p h1
  | none => .stuck
theorem OutI.bindE {μ : Mu} {H : Hp} {B : Bk} {r : Res D} {k : D → AH → Res (List D × Gd)} {Q : It → Hp → Prop} {R : VK} (o : OutI e E μ H B (r.bind k) Q)
    (hk : ∀ d h v μ' H', Ext μ H μ' H' → AHOk e B μ' H' h → RelD e B μ' H' d v → OutI e E μ' H' B (k d h) Q → R v H') : Out e E μ H B r R := by
  cases r with
  | ok d h' =>
    intro v μ2 H2 y a r
    refine hk d h' v μ2 H2 y a r ?_
    rw [Res.bind_ok] at o
    unfold OutI at o ⊢
    split at o
    · exact fun J μ3 H3 x3 a3 g3 w3 => o J μ3 H3 (y.trans x3) a3 g3 w3
    · exact fun c d μ3 H3 x3 a3 r3 => o c d μ3 H3 (y.trans x3) a3 r3
    · exact o
  | exc _ _ => exact o
  | stuck => exact o
theorem OutI.bindA {μ : Mu} {H : Hp} {B : Bk} {r : Res (List D)} {k : List D → AH → Res (List D × Gd)} {Q : It → Hp → Prop} {R : List V → Hp → Prop} (o : OutI e E μ H B (r.bind k) Q)
    (hk : ∀ d h v μ' H', Ext μ H μ' H' → AHOk e B μ' H' h → RelDs e B μ' H' d v → OutI e E μ' H' B (k d h) Q → R v H') : OutA e E μ H B r R := by
  cases r with
  | ok d h' =>
    intro v μ2 H2 y a r
    refine hk d h' v μ2 H2 y a r ?_
    rw [Res.bind_ok] at o
    unfold OutI at o ⊢
    split at o
    · exact fun J μ3 H3 x3 a3 g3 w3 => o J μ3 H3 (y.trans x3) a3 g3 w3
    · exact fun c d μ3 H3 x3 a3 r3 => o c d μ3 H3 (y.trans x3) a3 r3
    · exact o
  | exc _ _ => exact o
  | stuck => exact o
theorem _root_.L2.PI.or {X : Cx} {tg x : Expr} {t t' : TI} (h : PI X tg x t) (h' : PI X tg x t') : PI X tg x fun σ H R => t σ H R ∨ t' σ H R :=
  ⟨fun pins s σ H R I q => q.elim (h.run pins s σ H R I) (h'.run pins s σ H R I)⟩
end
section
variable {X : Cx} {E : XK} {W : WX} {tg x : Expr}
theorem gi_seq {c : CE} (hx : PE X x (rE X.en W c)) : PI X tg x (rIt X.en W (seqS c)) := by
  refine ((pi_list hx).or (pi_tup hx)).imp fun σ H R ⟨B, μ, S, h, s, a, o⟩ => ?_
  unfold seqS at o
  have go : ∀ k : SK, (∀ d h1, c S h = .ok d h1 → ∀ xs gs, seqOf d h1 = some (xs, gs) → ∀ v μ' H' , Ext μ H μ' H' → AHOk X.en B μ' H' h1 → RelD X.en B μ' H' d v → ∃ p, v = .ref p ∧ xs.length ≤ sizeLine ∧ GdOk gs h1 ∧
      ∀ B' μ2 H2 h', Blk B H' B' → Ext μ' H' μ2 H2 → AHOk X.en B' μ2 H2 h' → GdOk gs h' → ∃ ys, k.sq X.K H2 p ys ∧ RelDs X.en B' μ2 H2 xs ys) →
      rE X.en W c σ H fun v H1 => ∃ p, v = .ref p ∧ (∃ ys, k.sq X.K H1 p ys) ∧ R (k.it X.K p) H1 := by
    intro k hk
    refine ⟨B, μ, S, h, s, a, ?_⟩
    cases q : c S h with
    | exc _ _ => rw [q] at o; exact o
    | stuck => rw [q] at o; exact o
    | ok d h1 =>
      rw [q, Res.bind_ok] at o
      intro v μ1 H1 x1 a1 r1
      cases q2 : seqOf d h1 with
      | none => rw [q2] at o; exact o.elim
      | some p =>
        rw [q2] at o
        obtain ⟨xs, gs⟩ := p
        obtain ⟨p, e1, hz, g1, f⟩ := hk d h1 q xs gs q2 v μ1 H1 x1 a1 r1
        obtain ⟨ys, hs, _⟩ := f B μ1 H1 h1 .refl .refl a1 g1
        exact ⟨p, e1, ⟨ys, hs⟩, o _ μ1 H1 x1 a1 g1 (wk_seq hz f)⟩
  -- which of both it is hangs on the value alone
  cases q : c S h with
  | exc _ _ => exact .inl (go .L fun d' h1' q' => by rw [q] at q'; cases q')
  | stuck => rw [q] at o; exact o.elim
  | ok d h1 =>
    by_cases hd : ∃ xs, d = .tup xs
    · obtain ⟨xs, rfl⟩ := hd
      refine .inr (go .T fun d' h1' q' xs' gs q2 v μ' H' x a r => ?_)
      rw [q] at q'
      cases q'
      obtain ⟨k, p, e1, hz, g1, f⟩ := seq_at a r q2
      refine ⟨p, e1, hz, g1, fun B' μ2 H2 h' kb x2 a2 g2 => ?_⟩
      cases r with
      | tup hr pu z rs => cases q2; cases e1; exact ⟨_, .inl (hr.ext x2 pu).1.rd, (rs.blk kb).mono x2⟩
      | tupK kt rs => cases q2; cases e1; exact ⟨_, .inr kt.k, (rs.blk kb).mono x2⟩
    · refine .inl (go .L fun d' h1' q' xs' gs q2 v μ' H' x a r => ?_)
      rw [q] at q'
      cases q'
      obtain ⟨k, p, e1, hz, g1, f⟩ := seq_at a r q2
      refine ⟨p, e1, hz, g1, fun B' μ2 H2 h' kb x2 a2 g2 => ?_⟩
      cases r with
      | tup hr pu z rs => exact absurd ⟨_, rfl⟩ hd
      | tupK kt rs => exact absurd ⟨_, rfl⟩ hd
      | lst hr pu z rs => cases q2; cases e1; exact ⟨_, .inl (.inl (x2.rd hr pu).1), (rs.blk kb).mono x2⟩
      | @ref n _ hn =>
        simp only [seqOf] at q2
        split at q2
        · cases q2
          cases e1
          obtain ⟨ys', h1', _, h3'⟩ := a2.obj n _ p (g2 (n, xs') (by simp)) (x2.sub _ _ hn)
          exact ⟨ys', .inl (.inl h1'), h3'⟩
        · cases q2
      | _ => cases q2
/-- range -/
def intsFrom (lo : Int) (n : Nat) : List D := (List.range n).map fun (i : Nat) => D.int (lo + i)
def rng1S (ca : CA) : CI := fun S h => (ca S h).bind fun ds h1 => match ds with
  | [.int j] => if -(2 ^ 62) ≤ j ∧ j ≤ 16777216 then .ok (intsFrom 0 j.toNat, []) h1 else .stuck
  | _ => .stuck
def rng2S (ca : CA) : CI := fun S h => (ca S h).bind fun ds h1 => match ds with
  | [.int i, .int j] => if (j - i).toNat ≤ 16777216 ∧ -(2 ^ 62) ≤ i ∧ i < 2 ^ 61 ∧ -(2 ^ 62) ≤ j then .ok (intsFrom i (j - i).toNat, []) h1 else .stuck
  | _ => .stuck
theorem wk_rng {e : En} {B : Bk} {μ : Mu} {H : Hp} {lo : Int} {n : Nat} (hn : n ≤ sizeLine) : Wk e B μ H (intsFrom lo n) [] (Itr lo n) where
  size := by unfold intsFrom; simpa using hn
  go := fun B' μ' H' h' i d kb x a g hd => by
    have := (List.getElem?_eq_some_iff.mp hd).1
    unfold intsFrom at this
    show i < n
    simpa using this
  yld := fun B' μ' H' h' i d v H2 kb x a g hd hy => by
    obtain ⟨rfl, rfl⟩ := hy
    have hi := (List.getElem?_eq_some_iff.mp hd).1
    unfold intsFrom at hd hi
    rw [List.getElem?_map, List.getElem?_range (by simpa using hi)] at hd
    cases hd
    exact ⟨.refl, a, .int _⟩
  stop := fun B' μ' H' h' kb x a g => by
    unfold intsFrom
    show n ≤ _
    simp
theorem gi_rng1 {a : Expr} {ca : CA} {p pos : Pos} (hm : X.mg "range" = none) (ha : PA X [a] (rA X.en W ca)) (hg : Gl X "range" := by rfl) (hs : starEach [a] X.env = [(false, eval a X.env)] := by rfl) : PI X tg (.Call (.Name "range" p) [a] [] pos) (rIt X.en W (rng1S ca)) := by
  refine (pi_range1 hg hm ha hs).imp fun σ H R ⟨B, μ, S, h, s, a, o⟩ => ?_
  refine ⟨B, μ, S, h, s, a, OutI.bindA o fun ds h1 vs μ1 H1 x1 a1 r1 o1 => ?_⟩
  split at o1
  · split at o1
    · rename_i j hj
      cases r1 with
      | cons r rr =>
        cases rr
        cases r
        have hz : j.toNat ≤ sizeLine := by rw [sizeLine_eq]; omega
        exact ⟨j, rfl, hj.1, by omega, o1 _ μ1 H1 .refl a1 (fun g hg => by simp at hg) (wk_rng hz)⟩
    · exact o1.elim
  · exact o1.elim
theorem gi_rng2 {a b : Expr} {ca : CA} {p pos : Pos} (hm : X.mg "range" = none) (ha : PA X [a, b] (rA X.en W ca)) (hg : Gl X "range" := by rfl) (hs : starEach [a, b] X.env = [(false, eval a X.env), (false, eval b X.env)] := by rfl) (hs2 : starEach [b] X.env = [(false, eval b X.env)] := by rfl) : PI X tg (.Call (.Name "range" p) [a, b] [] pos) (rIt X.en W (rng2S ca)) := by
  refine (pi_range2 hg hm ha hs hs2).imp fun σ H R ⟨B, μ, S, h, s, a, o⟩ => ?_
  refine ⟨B, μ, S, h, s, a, OutI.bindA o fun ds h1 vs μ1 H1 x1 a1 r1 o1 => ?_⟩
  split at o1
  · split at o1
    · rename_i i j hj
      cases r1 with
      | cons r rr =>
        cases r
        cases rr with
        | cons r rr =>
          cases r
          cases rr
          have hz : (j - i).toNat ≤ sizeLine := by rw [sizeLine_eq]; omega
          exact ⟨i, j, rfl, ⟨hj.2.1, by omega, hj.2.2.2, by omega⟩, o1 _ μ1 H1 .refl a1 (fun g hg => by simp at hg) (wk_rng hz)⟩
    · exact o1.elim
  · exact o1.elim
/-- zip of two -/
def zipD (xs ys : List D) : List D := List.zipWith (fun x y => .tup [x, y]) xs ys
def zipS (ca : CA) : CI := fun S h => (ca S h).bind fun ds h1 => match ds with
  | [a, b] => match seqOf a h1, seqOf b h1 with
    | some (xs, gs), some (ys, gs') => .ok (zipD xs ys, gs ++ gs') h1
    | _, _ => .stuck
  | _ => .stuck
theorem gdOk_app {gs gs' : Gd} {h : AH} : GdOk (gs ++ gs') h ↔ GdOk gs h ∧ GdOk gs' h := by
  unfold GdOk
  constructor
  · exact fun q => ⟨fun g hg => q g (List.mem_append_left _ hg), fun g hg => q g (List.mem_append_right _ hg)⟩
  · exact fun ⟨q1, q2⟩ g hg => (List.mem_append.mp hg).elim (q1 g) (q2 g)
theorem gi_zip {a b : Expr} {ca : CA} {p pos tpos : Pos} {elts : List Expr} {kk : Nat} (hm : X.mg "zip" = none) (ha : PA X [a, b] (rA X.en W ca)) (hg : Gl X "zip" := by rfl) (hs : starEach [a, b] X.env = (false, eval a X.env) :: starEach [b] X.env := by rfl) (hpl : (backTo pos (starEach [b] X.env)).any (·.1) = false := by rfl) :
    PI X (.Tuple elts kk tpos) (.Call (.Name "zip" p) [a, b] [] pos) (rIt X.en W (zipS ca)) := by
  refine (pi_zipX hg hm ha hs hpl).imp fun σ H R ⟨B, μ, S, h, s, a, o⟩ => ?_
  refine ⟨B, μ, S, h, s, a, OutI.bindA o fun ds h1 vs μ1 H1 x1 a1 r1 o1 => ?_⟩
  split at o1
  · split at o1
    · rename_i d1 d2 _ _ xs gs ys gs' q1 q2
      cases r1 with
      | cons r rr =>
        cases rr with
        | cons r' rr =>
          cases rr
          obtain ⟨k1, p1, e1, z1, g1, f1⟩ := seq_at a1 r q1
          obtain ⟨k2, p2, e2, z2, g2, f2⟩ := seq_at a1 r' q2
          subst e1 e2
          obtain ⟨vs, hs1, _⟩ := f1 B μ1 H1 h1 .refl .refl a1 g1
          obtain ⟨ws, hs2, _⟩ := f2 B μ1 H1 h1 .refl .refl a1 g2
          refine ⟨k1, k2, p1, p2, vs, ws, rfl, hs1, hs2, o1 _ μ1 H1 .refl a1 (gdOk_app.mpr ⟨g1, g2⟩) ?_⟩
          refine ⟨by unfold zipD; rw [List.length_zipWith]; exact Nat.le_trans (Nat.min_le_left _ _) z1, fun B' μ' H' h' i d kb x a' g hd => ?_, fun B' μ' H' h' i d v H2 kb x a' g hd hy => ?_, fun B' μ' H' h' kb x a' g => ?_⟩
          · obtain ⟨g1', g2'⟩ := gdOk_app.mp g
            obtain ⟨vs, hs1, r1⟩ := f1 B' μ' H' h' kb x a' g1'
            obtain ⟨ws, hs2, r2⟩ := f2 B' μ' H' h' kb x a' g2'
            unfold zipD at hd
            rw [List.getElem?_zipWith] at hd
            split at hd
            · rename_i u w hu hw
              obtain ⟨y1, hy1, _⟩ := r1.get hu
              obtain ⟨y2, hy2, _⟩ := r2.get hw
              exact ⟨vs, ws, y1, y2, hs1, hs2, hy1, hy2⟩
            · cases hd
          · obtain ⟨g1', g2'⟩ := gdOk_app.mp g
            obtain ⟨vs, hs1, r1⟩ := f1 B' μ' H' h' kb x a' g1'
            obtain ⟨ws, hs2, r2⟩ := f2 B' μ' H' h' kb x a' g2'
            unfold zipD at hd
            rw [List.getElem?_zipWith] at hd
            split at hd
            · rename_i u w hu hw
              cases hd
              obtain ⟨y1, hy1, ru⟩ := r1.get hu
              obtain ⟨y2, hy2, rw'⟩ := r2.get hw
              obtain ⟨T, x', y', ob, rfl, hT, hod, rfl, hx, hy⟩ := hy
              have ex := hx vs hs1
              have ey := hy ws hs2
              rw [hy1] at ex
              rw [hy2] at ey
              cases ex
              cases ey
              exact ⟨Ext.new hT (a'.free hT).2, a'.new hT, new_tup a' hT hod (by show 2 ≤ sizeLine; decide) (.cons ru (.cons rw' .nil))⟩
            · cases hd
          · obtain ⟨g1', g2'⟩ := gdOk_app.mp g
            obtain ⟨vs, hs1, r1⟩ := f1 B' μ' H' h' kb x a' g1'
            obtain ⟨ws, hs2, r2⟩ := f2 B' μ' H' h' kb x a' g2'
            refine ⟨vs, ws, hs1, hs2, ?_⟩
            unfold zipD
            rw [List.length_zipWith, r1.length, r2.length]
    · exact o1.elim
  · exact o1.elim
/-- enumerate -/
def enumD (xs : List D) : List D := xs.mapIdx fun i x => .tup [.int (i : Nat), x]
def enumS (ca : CA) : CI := fun S h => (ca S h).bind fun ds h1 => match ds with
  | [a] => match seqOf a h1 with
    | some (xs, gs) => .ok (enumD xs, gs) h1
    | _ => .stuck
  | _ => .stuck
theorem gi_enum {a : Expr} {ca : CA} {p pos tpos : Pos} {elts : List Expr} {kk : Nat} (hm : X.mg "enumerate" = none) (ha : PA X [a] (rA X.en W ca)) (hg : Gl X "enumerate" := by rfl) (hs : starEach [a] X.env = [(false, eval a X.env)] := by rfl) :
    PI X (.Tuple elts kk tpos) (.Call (.Name "enumerate" p) [a] [] pos) (rIt X.en W (enumS ca)) := by
  refine (pi_enumX hg hm ha hs).imp fun σ H R ⟨B, μ, S, h, s, a, o⟩ => ?_
  refine ⟨B, μ, S, h, s, a, OutI.bindA o fun ds h1 vs μ1 H1 x1 a1 r1 o1 => ?_⟩
  split at o1
  · split at o1
    · rename_i d1 _ xs gs q1
      cases r1 with
      | cons r rr =>
        cases rr
        obtain ⟨k1, p1, e1, z1, g1, f1⟩ := seq_at a1 r q1
        subst e1
        obtain ⟨vs, hs1, _⟩ := f1 B μ1 H1 h1 .refl .refl a1 g1
        refine ⟨k1, p1, vs, rfl, hs1, o1 _ μ1 H1 .refl a1 g1 ?_⟩
        refine ⟨by unfold enumD; simpa using z1, fun B' μ' H' h' i d kb x a' g hd => ?_, fun B' μ' H' h' i d v H2 kb x a' g hd hy => ?_, fun B' μ' H' h' kb x a' g => ?_⟩
        · obtain ⟨vs, hs1, r1⟩ := f1 B' μ' H' h' kb x a' g
          unfold enumD at hd
          rw [List.getElem?_mapIdx, Option.map_eq_some_iff] at hd
          obtain ⟨u, hu, _⟩ := hd
          obtain ⟨y1, hy1, _⟩ := r1.get hu
          exact ⟨vs, y1, hs1, hy1⟩
        · obtain ⟨vs, hs1, r1⟩ := f1 B' μ' H' h' kb x a' g
          unfold enumD at hd
          rw [List.getElem?_mapIdx, Option.map_eq_some_iff] at hd
          obtain ⟨u, hu, rfl⟩ := hd
          obtain ⟨y1, hy1, ru⟩ := r1.get hu
          obtain ⟨T, x', ob, rfl, hT, hod, rfl, hx⟩ := hy
          have ex := hx vs hs1
          rw [hy1] at ex
          cases ex
          exact ⟨Ext.new hT (a'.free hT).2, a'.new hT, new_tup a' hT hod (by show 2 ≤ sizeLine; decide) (.cons (.int _) (.cons ru .nil))⟩
        · obtain ⟨vs, hs1, r1⟩ := f1 B' μ' H' h' kb x a' g
          refine ⟨vs, hs1, ?_⟩
          unfold enumD
          rw [List.length_mapIdx, r1.length]
    · exact o1.elim
  · exact o1.elim
end

/-! ### calls of defs -/
abbrev Fn := List D → AH → Res D
/-- the contract of a def as a promise of the hand layer -/
def spOf (e : En) (φ : Fn) : Sp := fun vs H Q E => ∃ B μ ds h, RelDs e B μ H ds vs ∧ AHOk e B μ H h ∧ Out e E μ H B (φ ds h) Q
def callC (φ : Fn) (cs : CA) : CE := apC φ cs
section
variable {X : Cx} {E : XK} {W : WX} {CXx : CXT} {k j : Nat} {f : Addr} {fd : FuncData} {ps : List Str} {φ : Fn} {x : Str} {p pos : Pos} {y : Expr} {ys : List Expr} {cs : CA}
theorem r_call {e : En} : ∀ σ H Q, rE e W (callC φ cs) σ H Q → tCallS (spOf e φ) (WE W) (rA e W cs) σ H Q := by
  rintro σ H Q ⟨B, μ, S, h, s, a, o⟩
  refine ⟨B, μ, S, h, s, a, o.bindA fun d1 h1 v1 μ1 H1 x1 a1 r1 o1 => ?_⟩
  exact ⟨B, μ1, d1, h1, r1, a1, o1⟩
theorem g_call (F : FnOk X.prog X.w X.K X.mg X.base (L2.CX X.prog X.w) k f fd ps (spOf X.en φ)) (tk : Takes X W) (hr : Room k X.A) (hm : X.mg x = some (.ref f)) (hk : PySem.W.keepIn X.K (.ref f) = true) (hb : Binds X.K fd ps []) (ha : PA X (y :: ys) (rA X.en W cs)) (hg : Gl X x := by rfl)
    (hdb : (x == ("__debug__" : Str)) = false := by decide) (he : starEach (y :: ys) X.env = (false, eval y X.env) :: starEach ys X.env := by rfl) (hpl : (backTo pos (starEach ys X.env)).any (·.1) = false := by rfl) :
    PE X (.Call (.Name x p) (y :: ys) [] pos) (rE X.en W (callC φ cs)) := (pe_callS F hr hg hm hk hb (fun σ => passAt tk σ) ha hdb he hpl).imp r_call
end
/-- a body run as a def -/
def runF (n : Nat) (body : CS) : Fn := fun ds h => match body (ds.map some ++ List.replicate (n - ds.length) none) h with
  | .nx _ h' => .ok .non h'
  | .rt d h' => .ok d h'
  | .exc x _ h' => .exc x h'
  | _ => .stuck
theorem stRel_start {e : En} {B : Bk} {μ : Mu} {H : Hp} {N : List Str} {ds : List D} {vs : List V} (r : RelDs e B μ H ds vs) : StRel e B μ H (ds.map some ++ List.replicate (N.length - ds.length) none) (L2.start N vs) := by
  have hl := r.length
  unfold L2.start
  refine ⟨by simp [hl], fun i d hd => ?_⟩
  by_cases hi : i < ds.length
  · rw [List.getElem?_append_left (by simpa using hi), List.getElem?_map] at hd
    cases q : ds[i]? with
    | none => rw [q] at hd; cases hd
    | some d' =>
      rw [q] at hd
      cases hd
      obtain ⟨v, hv, rv⟩ := r.get q
      exact ⟨v, by rw [List.getElem?_append_left (by simp; omega), List.getElem?_map, hv]; rfl, rv⟩
  · rw [List.getElem?_append_right (by simpa using Nat.le_of_not_lt hi), List.getElem?_replicate] at hd
    split at hd <;> cases hd
/-- what a body's run tells, and what the contract says: the same, or with some of the new objects left out -/
def Keeps (n : Nat) (body : CS) (φ : Fn) : Prop := ∀ (e : En) (E : XK) (B : Bk) (μ : Mu) (H : Hp) (ds : List D) (vs : List V) (h : AH) (Q : VK), RelDs e B μ H ds vs → AHOk e B μ H h → Out e E μ H B (φ ds h) Q → Out e E μ H B (runF n body ds h) Q
theorem Keeps.self {n : Nat} {body : CS} : Keeps n body (runF n body) := fun _ _ _ _ _ _ _ _ _ _ _ o => o
theorem r_body {e : En} {E : XK} {N : List Str} {n : Nat} {body : CS} {φ : Fn} (hn : N.length = n) (hk : Keeps n body φ) {vs : List V} {H : Hp} {Q : VK} (h : spOf e φ vs H Q E) : rS e (fun c d _ H => E c d H) body { nx := fun _ H' => Q .non H', rt := Q } (L2.start N vs) H := by
  obtain ⟨B, μ, ds, h, r, a, o⟩ := h
  subst hn
  have o := hk e E B μ H ds vs h Q r a o
  refine ⟨B, μ, _, h, stRel_start (N := N) r, a, ?_⟩
  unfold runF at o
  cases q : body (ds.map some ++ List.replicate (N.length - ds.length) none) h with
  | nx s h' => rw [q] at o; exact fun σ' μ' H' x a' _ => o .non μ' H' x a' .non
  | rt d h' => rw [q] at o; exact fun v μ' H' x a' rd => o v μ' H' x a' rd
  | exc y s h' => rw [q] at o; exact fun c d σ' μ' H' x a' rx _ => o c d μ' H' x a' rx
  | _ => rw [q] at o; exact o.elim
theorem spOf_len {e : En} {φ : Fn} {m : Nat} (hl : ∀ ds h, φ ds h ≠ .stuck → ds.length = m) {vs : List V} {H : Hp} {Q : VK} {E : XK} {W : WX} (h : spOf e φ vs H Q E) : vs.length = m := by
  obtain ⟨B, μ, ds, h, r, a, o⟩ := h
  rw [← r.length]
  refine hl ds h fun q => ?_
  rw [q] at o
  exact o
end G

/-! E8: operators, comparisons, subscripts, built-ins. -/
namespace G
open PySem PySem.Spec L2
open PyProof.Rows hiding St
section
variable {e : En} {B B' : Bk} {μ μ' μ2 : Mu} {H H' H2 : Hp} {h h' : AH} {E : XK}

/-! ### what a sequence is, now -/
theorem seq_now {d : D} {v : V} {xs : List D} {gs : Gd} (a : AHOk e B μ H h) (r : RelD e B μ H d v) (q : seqOf d h = some (xs, gs)) : ∃ (k : SK) (p : Addr) (ys : List V), v = .ref p ∧ k.sq e.K H p ys ∧ RelDs e B μ H xs ys ∧ xs.length ≤ sizeLine := by
  obtain ⟨k, p, e1, z, g, f⟩ := seq_at a r q
  obtain ⟨ys, h1, h2⟩ := f B μ H h .refl .refl a g
  exact ⟨k, p, ys, e1, h1, h2, z⟩
def isT : D → AH → Bool
  | .tup _, _ => true
  | _, _ => false
theorem seq_kind {d : D} {v : V} {xs : List D} {gs : Gd} (a : AHOk e B μ H h) (r : RelD e B μ H d v) (q : seqOf d h = some (xs, gs)) :
    (isT d h = true ∧ ∃ (p : Addr) (ys : List V), v = .ref p ∧ SqT e.K H p ys ∧ RelDs e B μ H xs ys ∧ xs.length ≤ sizeLine) ∨
    (isT d h = false ∧ ∃ (p : Addr) (ys : List V), v = .ref p ∧ H p = some (.lst ys) ∧ RelDs e B μ H xs ys ∧ xs.length ≤ sizeLine) := by
  cases r with
  | tup hr pu z rs => cases q; exact .inl ⟨rfl, _, _, rfl, .inl hr.rd, rs, by rw [rs.length]; exact z⟩
  | tupK kt rs =>
    cases q
    obtain ⟨o, its, n, h1, h2, _, h3, h4, h5⟩ := id kt
    exact .inl ⟨rfl, _, _, rfl, .inr kt.k, rs, by rw [rs.length, h5.length]; simpa using h4⟩
  | lst hr pu z rs => cases q; exact .inr ⟨rfl, _, _, rfl, hr, rs, by rw [rs.length]; exact z⟩
  | @ref n p hn =>
    simp only [seqOf] at q
    split at q
    · rename_i zs hz
      cases q
      obtain ⟨ys, h1, h2, h3⟩ := a.obj n _ p hz hn
      exact .inr ⟨rfl, p, ys, rfl, h1, h3, by rw [h3.length]; exact h2⟩
    · cases q
  | _ => cases q

/-! ### data, for == and in -/
def dataOf (h : AH) : Nat → D → Option PyData
  | 0, _ => none
  | n + 1, d => match d with
    | .non => some .none
    | .bl b => some (.bool b)
    | .int i => some (.int i)
    | .str x => some (.str x)
    | .tup xs => (xs.mapM (dataOf h n)).map .tuple
    | .lst xs => (xs.mapM (dataOf h n)).map .list
    | .ref k => match h[k]? with
      | some (.lst xs) => (xs.mapM (dataOf h n)).map .list
      | _ => none
    | _ => none
theorem dpAll_of {f : D → Option PyData} (hf : ∀ d v x, f d = some x → RelD e B μ H d v → Dp e.K H v x) : ∀ {xs : List D} {ys : List V} {zs : List PyData}, xs.mapM f = some zs → RelDs e B μ H xs ys → DpAll e.K H ys zs
  | [], _, zs, q, r => by
    cases r
    simp at q
    subst q
    exact .nil
  | x :: xs, _, zs, q, r => by
    cases r with
    | cons r rs =>
      rw [List.mapM_cons] at q
      cases q1 : f x with
      | none => rw [q1] at q; cases q
      | some z =>
        rw [q1] at q
        cases q2 : xs.mapM f with
        | none => rw [q2] at q; cases q
        | some ws =>
          rw [q2] at q
          cases q
          exact .cons (hf x _ z q1 r) (dpAll_of hf q2 rs)
theorem dp_of (a : AHOk e B μ H h) : ∀ (n : Nat) (d : D) (v : V) (x : PyData), dataOf h n d = some x → RelD e B μ H d v → Dp e.K H v x
  | 0, _, _, _, q, _ => by cases q
  | n + 1, d, v, x, q, r => by
    have ih := dp_of a n
    cases r with
    | non => cases q; exact .non
    | bl b => cases q; exact .bl b
    | int i => cases q; exact .int i
    | str s hs => cases q; exact .str s
    | tup hr pu z rs =>
      simp only [dataOf, Option.map_eq_some_iff] at q
      obtain ⟨zs, q, rfl⟩ := q
      exact .tup (.inl hr.rd) (dpAll_of (fun d v x q r => ih d v x q r) q rs)
    | tupK kt rs =>
      simp only [dataOf, Option.map_eq_some_iff] at q
      obtain ⟨zs, q, rfl⟩ := q
      exact .tup (.inr kt.k) (dpAll_of (fun d v x q r => ih d v x q r) q rs)
    | lst hr pu z rs =>
      simp only [dataOf, Option.map_eq_some_iff] at q
      obtain ⟨zs, q, rfl⟩ := q
      exact .lst (.inl (.inl hr)) (dpAll_of (fun d v x q r => ih d v x q r) q rs)
    | @ref k p hn =>
      simp only [dataOf] at q
      split at q
      · rename_i zs hz
        rw [Option.map_eq_some_iff] at q
        obtain ⟨ws, q, rfl⟩ := q
        obtain ⟨ys, h1, h2, h3⟩ := a.obj k _ p hz hn
        exact .lst (.inl (.inl h1)) (dpAll_of (fun d v x q r => ih d v x q r) q h3)
      · cases q
    | dct _ _ _ _ => cases q
    | ty _ => cases q
    | glb _ => cases q
    | scrF _ _ => cases q
    | scrK _ => cases q
theorem depth_of (a : AHOk e B μ H h) : ∀ (n : Nat) (d : D) (v : V) (x : PyData), dataOf h n d = some x → RelD e B μ H d v → x.depth ≤ n ∧ x.canLay0 = true
  | 0, _, _, _, q, _ => by cases q
  | n + 1, d, v, x, q, r => by
    have ih := depth_of a n
    have all : ∀ {xs : List D} {ys : List V} {zs : List PyData}, xs.mapM (dataOf h n) = some zs → RelDs e B μ H xs ys → PyData.depthAll zs ≤ n ∧ PyData.canLayAll0 zs = true := by
      intro xs
      induction xs with
      | nil => intro ys zs q r; simp at q; subst q; exact ⟨by simp [PyData.depthAll], rfl⟩
      | cons x xs ihx =>
        intro ys zs q r
        cases r with
        | cons r rs =>
          rw [List.mapM_cons] at q
          cases q1 : dataOf h n x with
          | none => rw [q1] at q; cases q
          | some z =>
            rw [q1] at q
            cases q2 : xs.mapM (dataOf h n) with
            | none => rw [q2] at q; cases q
            | some ws =>
              rw [q2] at q
              cases q
              obtain ⟨d1, c1⟩ := ih x _ z q1 r
              obtain ⟨d2, c2⟩ := ihx q2 rs
              exact ⟨by simp [PyData.depthAll]; omega, by simp [PyData.canLayAll0, c1, c2]⟩
    cases r with
    | non => cases q; exact ⟨by simp [PyData.depth], rfl⟩
    | bl b => cases q; exact ⟨by simp [PyData.depth], rfl⟩
    | int i => cases q; exact ⟨by simp [PyData.depth], rfl⟩
    | str s hs => cases q; exact ⟨by simp [PyData.depth], hs.2⟩
    | tup hr pu z rs =>
      simp only [dataOf, Option.map_eq_some_iff] at q
      obtain ⟨zs, q, rfl⟩ := q
      obtain ⟨h1, h2⟩ := all q rs
      exact ⟨by simp only [PyData.depth]; omega, h2⟩
    | tupK kt rs =>
      simp only [dataOf, Option.map_eq_some_iff] at q
      obtain ⟨zs, q, rfl⟩ := q
      obtain ⟨h1, h2⟩ := all q rs
      exact ⟨by simp only [PyData.depth]; omega, h2⟩
    | lst hr pu z rs =>
      simp only [dataOf, Option.map_eq_some_iff] at q
      obtain ⟨zs, q, rfl⟩ := q
      obtain ⟨h1, h2⟩ := all q rs
      exact ⟨by simp only [PyData.depth]; omega, h2⟩
    | @ref k p hn =>
      simp only [dataOf] at q
      split at q
      · rename_i zs hz
        rw [Option.map_eq_some_iff] at q
        obtain ⟨ws, q, rfl⟩ := q
        obtain ⟨ys, h1, h2, h3⟩ := a.obj k _ p hz hn
        obtain ⟨h1, h2⟩ := all q h3
        exact ⟨by simp only [PyData.depth]; omega, h2⟩
      · cases q
    | dct _ _ _ _ => cases q
    | ty _ => cases q
    | glb _ => cases q
    | scrF _ _ => cases q
    | scrK _ => cases q
theorem shaped_of (a : AHOk e B μ H h) {d : D} {v : V} {x : PyData} (q : dataOf h 60 d = some x) (r : RelD e B μ H d v) : SeqAt.shaped x = true := by
  obtain ⟨h1, h2⟩ := depth_of a 60 d v x q r
  unfold SeqAt.shaped
  rw [h2, decide_eq_true (by omega)]
  rfl
def eqD (d1 d2 : D) (h : AH) : Res D := match dataOf h 60 d1, dataOf h 60 d2 with
  | some x, some y => .ok (.bl (PyData.eqv x y)) h
  | _, _ => .stuck
def neD (d1 d2 : D) (h : AH) : Res D := match dataOf h 60 d1, dataOf h 60 d2 with
  | some x, some y => .ok (.bl (!PyData.eqv x y)) h
  | _, _ => .stuck
theorem sim_eq : Sim2 e eqD (rEqD e.K) := fun E B μ H h d1 d2 v1 v2 Q a r1 r2 o => by
  unfold eqD at o
  split at o
  · rename_i x y q1 q2
    exact ⟨x, y, dp_of a 60 _ _ _ q1 r1, dp_of a 60 _ _ _ q2 r2, shaped_of a q1 r1, shaped_of a q2 r2, o _ μ H .refl a (.bl _)⟩
  · exact o.elim
theorem sim_ne : Sim2 e neD (rNeD e.K) := fun E B μ H h d1 d2 v1 v2 Q a r1 r2 o => by
  unfold neD at o
  split at o
  · rename_i x y q1 q2
    exact ⟨x, y, dp_of a 60 _ _ _ q1 r1, dp_of a 60 _ _ _ q2 r2, shaped_of a q1 r1, shaped_of a q2 r2, o _ μ H .refl a (.bl _)⟩
  · exact o.elim
/-- x in a list or tuple, by == -/
def inSeq (d1 d2 : D) (h : AH) : Option Bool := match dataOf h 60 d1, seqOf d2 h with
  | some x, some (xs, _) => (xs.mapM (dataOf h 59)).map fun zs => zs.any fun z => PyData.eqv z x
  | _, _ => none

/-! ### sums, products -/
def mulOk (i j : Int) : Prop := (i.natAbs.log2 + j.natAbs.log2 < 1000000) ∨ (-(2 ^ 64) < j ∧ j < 2 ^ 64) ∨ (-(2 ^ 64) < i ∧ i < 2 ^ 64)
instance (i j : Int) : Decidable (mulOk i j) := by unfold mulOk; infer_instance
def okStr (x : Str) (h : AH) : Res D := if x.length ≤ 16777216 then .ok (.str x) h else .stuck
/-- list + list, tuple + tuple, text + text, number + number -/
def addD (m : Bool) (d1 d2 : D) (h : AH) : Res D := match d1, d2 with
  | .int i, .int j => .ok (.int (i + j)) h
  | .str x, .str y => okStr (x ++ y) h
  | d1, d2 => match seqOf d1 h, seqOf d2 h with
    | some (xs, _), some (ys, _) => if isT d1 h = isT d2 h ∧ xs.length + ys.length ≤ 16777216 then (if isT d1 h then .ok (.tup (xs ++ ys)) h else newL m (xs ++ ys) h) else .stuck
    | _, _ => .stuck
theorem okS_append {x y : Str} (hx : okS x) (hy : okS y) (hl : (x ++ y).length ≤ 16777216) : okS (x ++ y) := by
  refine ⟨by rw [sizeLine_eq]; exact hl, ?_⟩
  have h1 := hx.2
  have h2 := hy.2
  unfold PyData.strOk at h1 h2 ⊢
  show (x ++ y).cps.all _ = true
  have e : (x ++ y).cps = x.cps ++ y.cps := rfl
  rw [e, Array.all_append, h1, h2]
  rfl
def int2 (g : Int → Int → D) : D → D → AH → Res D := fun d1 d2 h => match d1, d2 with
  | .int i, .int j => .ok (g i j) h
  | _, _ => .stuck
def int2c (c : Int → Int → Prop) [∀ i j, Decidable (c i j)] (g : Int → Int → D) : D → D → AH → Res D := fun d1 d2 h => match d1, d2 with
  | .int i, .int j => if c i j then .ok (g i j) h else .stuck
  | _, _ => .stuck
theorem sim_intI {g : Int → Int → Int} : Sim2 e (int2 fun i j => .int (g i j)) (rI0 fun i j => .int (g i j)) := fun E B μ H h d1 d2 v1 v2 Q a r1 r2 o => by
  unfold int2 at o
  split at o
  · cases r1; cases r2; exact ⟨_, _, rfl, rfl, o _ μ H .refl a (.int _)⟩
  · exact o.elim
theorem sim_intB {g : Int → Int → Bool} : Sim2 e (int2 fun i j => .bl (g i j)) (rI0 fun i j => .bl (g i j)) := fun E B μ H h d1 d2 v1 v2 Q a r1 r2 o => by
  unfold int2 at o
  split at o
  · cases r1; cases r2; exact ⟨_, _, rfl, rfl, o _ μ H .refl a (.bl _)⟩
  · exact o.elim
theorem sim_intC {c C : Int → Int → Prop} [∀ i j, Decidable (c i j)] {g : Int → Int → Int} (hc : ∀ i j, c i j → C i j) : Sim2 e (int2c c fun i j => .int (g i j)) (L2.rI C fun i j => .int (g i j)) := fun E B μ H h d1 d2 v1 v2 Q a r1 r2 o => by
  unfold int2c at o
  split at o
  · split at o
    · cases r1; cases r2; exact ⟨_, _, rfl, rfl, hc _ _ (by assumption), o _ μ H .refl a (.int _)⟩
    · exact o.elim
  · exact o.elim
abbrev subD := int2 fun i j => .int (i - j)
abbrev fdivD := int2c (fun i j => 0 < j ∧ j.natAbs.log2 < 9000) fun i j => .int (i / j)
abbrev modD := int2c (fun _ j => 0 < j) fun i j => .int (i % j)
abbrev powD := int2c (fun i j => 0 ≤ j ∧ j ≤ 1000000 ∧ i.natAbs < 2 ^ 64) fun i j => .int (i ^ j.toNat)
/-- t + u, the new tuple's object known -/
def rCatF (K : PySem.W.Frag) : R2 := fun x y H Q => ∃ a b xs ys, x = .ref a ∧ y = .ref b ∧ SqT K H a xs ∧ SqT K H b ys ∧ xs.length + ys.length ≤ sizeLine ∧
  (xs = [] → Q (.ref b) H) ∧ (xs ≠ [] → ys = [] → Q (.ref a) H) ∧ (xs ≠ [] → ys ≠ [] → ∀ (p : Addr) (o : Obj), o.dict = none → H p = none → Q (.ref p) (upd H p (.frz o (.tup (xs ++ ys)))))
theorem op_catF {X : Cx} : OpR X (binaryOp .Add) (rCatF X.K) := by
  intro pins s σ H x y v u Q I rx ry h
  obtain ⟨a, b, xs, ys, rfl, rfl, ha, hb, hz, q0, q1, q2⟩ := h
  by_cases hx : xs = []
  · subst hx
    cases rx
    cases ry
    obtain ⟨its, r1, p1, _⟩ := I.tuple ha
    obtain ⟨its2, r2, p2, _⟩ := I.tuple hb
    cases r1
    exact cat_tup0 p1 p2 ⟨.ref b, H, I, rfl, q0 rfl⟩
  · cases rx
    cases ry
    obtain ⟨its, r1, p1, _⟩ := I.tuple ha
    obtain ⟨its2, r2, p2, _⟩ := I.tuple hb
    refine HT.cat_tup p1 p2 (fun z => hx (r1.nil_iff.mp z)) (fun z => ⟨.ref a, H, I, rfl, q1 hx (r2.nil_iff.mp z)⟩) (fun z => ?_) (by rw [← r1.length, ← r2.length]; exact hz)
    refine ⟨.ref s.heap.objs.size, _, I.laid (t' := s.toks) (o := .frz { cls := .type "tuple", data := .seq (its ++ its2).toArray } (.tup (xs ++ ys))) (fun b ob q => Heap.get?_push_of_some _ q) (Nat.le_refl _) ?_, rfl, q2 hx (fun w => z (r2.nil_iff.mpr w)) _ _ rfl (I.hok.fresh (Nat.le_refl _))⟩
    exact ⟨Heap.get?_push_size _ rfl, by rw [List.length_append]; exact hz, _, r1.append r2, IsTup.new _ _⟩
/-- the sums' rule -/
def rAddX (K : PySem.W.Frag) : R2 := fun x y H Q => (rI0 fun i j => .int (i + j)) x y H Q ∨ (∃ i j, x = .str i ∧ y = .str j ∧ i.length + j.length ≤ sizeLine ∧ Q (.str (i ++ j)) H) ∨ rCat x y H Q ∨ rCatF K x y H Q
theorem op_addX {X : Cx} : OpR X (binaryOp .Add) (rAddX X.K) := op_add.or (op_add_str.or (op_cat.or op_catF))
theorem length_append (x y : Str) : (x ++ y).length = x.length + y.length := by
  show (x.cps ++ y.cps).size = _
  rw [Array.size_append]
  rfl
end
end G

/-! E9: + * < in is [..] [:] of values. -/
namespace G
open PySem PySem.Spec L2
open PyProof.Rows hiding St
section
variable {e : En} {B B' : Bk} {μ μ' μ2 : Mu} {H H' H2 : Hp} {h h' : AH} {E : XK}
theorem out_tup {xs : List D} {ys : List V} {Q : VK} {p : Addr} {ob : Obj} (hd : ob.dict = none) (a : AHOk e B μ H h) (o : Out e E μ H B (.ok (.tup xs) h) Q) (r : RelDs e B μ H xs ys) (hz : ys.length ≤ sizeLine) (hp : H p = none) : Q (.ref p) (upd H p (.frz ob (.tup ys))) :=
  o _ μ _ (Ext.new hp (a.free hp).2) (a.new hp) (new_tup a hp hd hz r)
theorem sim_add {m : Bool} : Sim2 e (addD m) (rAddX e.K) := fun E B μ H h d1 d2 v1 v2 Q a r1 r2 o => by
  unfold addD at o
  split at o
  · cases r1; cases r2; exact .inl ⟨_, _, rfl, rfl, o _ μ H .refl a (.int _)⟩
  · rename_i x y
    cases r1 with
    | str _ h1 => cases r2 with
      | str _ h2 =>
        unfold okStr at o
        split at o
        · rename_i hl
          refine .inr (.inl ⟨x, y, rfl, rfl, by rw [length_append] at hl; rw [sizeLine_eq]; exact hl, o _ μ H .refl a (.str _ (okS_append h1 h2 hl))⟩)
        · exact o.elim
  · split at o
    · rename_i xs gs ys gs' q1 q2
      split at o
      · rename_i hc
        obtain ⟨hk, hz⟩ := hc
        have hz' : xs.length + ys.length ≤ sizeLine := by rw [sizeLine_eq]; exact hz
        rcases seq_kind a r1 q1 with ⟨k1, p1, vs, rfl, s1, rs1, z1⟩ | ⟨k1, p1, vs, rfl, s1, rs1, z1⟩
        · rcases seq_kind a r2 q2 with ⟨k2, p2, ws, rfl, s2, rs2, z2⟩ | ⟨k2, p2, ws, rfl, s2, rs2, z2⟩
          · rw [k1] at o
            simp only [if_true] at o
            have l1 := rs1.length
            have l2 := rs2.length
            refine .inr (.inr (.inr ⟨p1, p2, vs, ws, rfl, rfl, s1, s2, by omega, fun e0 => ?_, fun e0 e1 => ?_, fun e0 e1 p ob hod hp => ?_⟩))
            · subst e0
              have : xs = [] := List.eq_nil_of_length_eq_zero (by simpa using l1)
              subst this
              rw [List.nil_append] at o
              have ed : d2 = .tup ys := by
                cases d2 <;> simp [isT] at k2
                simp [seqOf] at q2; rw [q2.1]
              subst ed
              exact o _ μ H .refl a r2
            · subst e1
              have : ys = [] := List.eq_nil_of_length_eq_zero (by simpa using l2)
              subst this
              rw [List.append_nil] at o
              have ed : d1 = .tup xs := by
                cases d1 <;> simp [isT] at k1
                simp [seqOf] at q1; rw [q1.1]
              subst ed
              exact o _ μ H .refl a r1
            · exact out_tup hod a o (rs1.append rs2) (by rw [List.length_append]; omega) hp
          · rw [k1, k2] at hk; cases hk
        · rcases seq_kind a r2 q2 with ⟨k2, p2, ws, rfl, s2, rs2, z2⟩ | ⟨k2, p2, ws, rfl, s2, rs2, z2⟩
          · rw [k1, k2] at hk; cases hk
          · rw [k1] at o
            simp only [Bool.false_eq_true, if_false] at o
            have l1 := rs1.length
            have l2 := rs2.length
            exact .inr (.inr (.inl ⟨p1, p2, vs, ws, rfl, rfl, s1, s2, by omega, fun p hp => out_newL a o (rs1.append rs2) (by rw [List.length_append]; omega) hp⟩))
      · exact o.elim
    · exact o.elim
/-! ### * -/
def repL {α : Type} (k : Nat) (xs : List α) : List α := (List.replicate k xs).flatten
theorem RelDs.rep {xs : List D} {ys : List V} (r : RelDs e B μ H xs ys) : ∀ k : Nat, RelDs e B μ H (repL k xs) (repL k ys)
  | 0 => .nil
  | k + 1 => by
    unfold repL
    rw [List.replicate_succ, List.replicate_succ, List.flatten_cons, List.flatten_cons]
    exact r.append (RelDs.rep r k)
theorem repL_length {α : Type} (k : Nat) (xs : List α) : (repL k xs).length = xs.length * k := by
  unfold repL
  rw [List.length_flatten, List.map_replicate, List.sum_replicate_nat, Nat.mul_comm]
def mulD (m : Bool) (d1 d2 : D) (h : AH) : Res D := match d1, d2 with
  | .int i, .int j => if mulOk i j then .ok (.int (i * j)) h else .stuck
  | d1, .int k => match seqOf d1 h with
    | some (xs, _) => if isT d1 h = false ∧ -(2 ^ 63) ≤ k ∧ k < 2 ^ 63 ∧ xs.length * k.toNat ≤ 16777216 then newL m (repL k.toNat xs) h else .stuck
    | _ => .stuck
  | _, _ => .stuck
def rMulX : R2 := fun x y H Q => (L2.rI CMulW fun i j => .int (i * j)) x y H Q ∨ (L2.rI CMul fun i j => .int (i * j)) x y H Q ∨ rRep x y H Q
theorem op_mulX {X : Cx} : OpR X (binaryOp .Mult) rMulX := op_mulW.or (op_mul.or op_rep)
theorem sim_mul {m : Bool} : Sim2 e (mulD m) rMulX := fun E B μ H h d1 d2 v1 v2 Q a r1 r2 o => by
  unfold mulD at o
  split at o
  · rename_i i j
    cases r1; cases r2
    split at o
    · rename_i hm
      have hq : Q (.int (i * j)) H := o _ μ H .refl a (.int _)
      rcases hm with hm | hm | hm
      · exact .inl ⟨_, _, rfl, rfl, hm, hq⟩
      · exact .inr (.inl ⟨_, _, rfl, rfl, .inr hm, hq⟩)
      · exact .inr (.inl ⟨_, _, rfl, rfl, .inl hm, hq⟩)
    · exact o.elim
  · rename_i k _ 
    cases r2
    split at o
    · rename_i xs gs q1
      split at o
      · rename_i hc
        rcases seq_kind a r1 q1 with ⟨k1, _⟩ | ⟨k1, p1, vs, rfl, s1, rs1, z1⟩
        · rw [k1] at hc; exact absurd hc.1 (by decide)
        · have l1 := rs1.length
          refine .inr (.inr ⟨p1, _, vs, rfl, rfl, s1, hc.2.1, hc.2.2.1, by rw [sizeLine_eq, ← l1]; exact hc.2.2.2, fun p hp => ?_⟩)
          refine out_newL a o (rs1.rep _) ?_ hp
          show (repL k.toNat vs).length ≤ _
          rw [repL_length, ← l1, sizeLine_eq]
          exact hc.2.2.2
      · exact o.elim
    · exact o.elim
  · exact o.elim
/-! ### < <= > >= of numbers and texts -/
def cmpD (f : Int → Int → Bool) (g : List Nat → List Nat → Bool) : D → D → AH → Res D := fun d1 d2 h => match d1, d2 with
  | .int i, .int j => .ok (.bl (f i j)) h
  | .str x, .str y => .ok (.bl (g x.cps.toList y.cps.toList)) h
  | _, _ => .stuck
def rCmpX (f : Int → Int → Bool) (g : List Nat → List Nat → Bool) : R2 := fun x y H Q => (rI0 fun i j => .bl (f i j)) x y H Q ∨ ∃ i j, x = .str i ∧ y = .str j ∧ Q (.bl (g i.cps.toList j.cps.toList)) H
theorem sim_cmp {f : Int → Int → Bool} {g : List Nat → List Nat → Bool} : Sim2 e (cmpD f g) (rCmpX f g) := fun E B μ H h d1 d2 v1 v2 Q a r1 r2 o => by
  unfold cmpD at o
  split at o
  · cases r1; cases r2; exact .inl ⟨_, _, rfl, rfl, o _ μ H .refl a (.bl _)⟩
  · cases r1; cases r2; exact .inr ⟨_, _, rfl, rfl, o _ μ H .refl a (.bl _)⟩
  · exact o.elim
abbrev ltD := cmpD (fun i j => decide (i < j)) fun x y => decide (x < y)
abbrev leD := cmpD (fun i j => decide (i ≤ j)) fun x y => !decide (y < x)
abbrev gtD := cmpD (fun i j => decide (j < i)) fun x y => decide (y < x)
abbrev geD := cmpD (fun i j => decide (j ≤ i)) fun x y => !decide (x < y)
theorem op_ltX {X : Cx} : OpR X (compareOp .Lt) (rCmpX (fun i j => decide (i < j)) fun x y => decide (x < y)) := op_lt.or op_lt_str
theorem op_leX {X : Cx} : OpR X (compareOp .LtE) (rCmpX (fun i j => decide (i ≤ j)) fun x y => !decide (y < x)) := op_le.or op_le_str
theorem op_gtX {X : Cx} : OpR X (compareOp .Gt) (rCmpX (fun i j => decide (j < i)) fun x y => decide (y < x)) := op_gt.or op_gt_str
theorem op_geX {X : Cx} : OpR X (compareOp .GtE) (rCmpX (fun i j => decide (j ≤ i)) fun x y => !decide (x < y)) := op_ge.or op_ge_str
/-! ### is -/
/-- the answer, or its contrary -/
abbrev nb (neg b : Bool) : Bool := cond neg (!b) b
def isNon : D → Bool
  | .non => true
  | _ => false
def isD (neg : Bool) : D → D → AH → Res D := fun d1 d2 h => match d2 with
  | .non => .ok (.bl (nb neg (isNon d1))) h
  | .bl b => match d1 with
    | .bl c => .ok (.bl (nb neg (decide (c = b)))) h
    | _ => .stuck
  | _ => .stuck
theorem non_of {d : D} {v : V} (r : RelD e B μ H d v) : decide (v = .non) = isNon d := by
  cases r <;> simp [isNon]
theorem sim_is : Sim2 e (isD false) (fun x y H Q => (y = .non ∧ Q (.bl (decide (x = .non))) H) ∨ ∃ a b, x = .bl a ∧ y = .bl b ∧ Q (.bl (decide (a = b))) H) := fun E B μ H h d1 d2 v1 v2 Q a r1 r2 o => by
  unfold isD at o
  split at o
  · cases r2
    refine .inl ⟨rfl, ?_⟩
    rw [non_of r1]
    exact o _ μ H .refl a (.bl _)
  · cases r2
    split at o
    · cases r1
      exact .inr ⟨_, _, rfl, rfl, o _ μ H .refl a (.bl _)⟩
    · exact o.elim
  · exact o.elim
theorem sim_isnot : Sim2 e (isD true) (fun x y H Q => (y = .non ∧ Q (.bl (!decide (x = .non))) H) ∨ ∃ a b, x = .bl a ∧ y = .bl b ∧ Q (.bl (!decide (a = b))) H) := fun E B μ H h d1 d2 v1 v2 Q a r1 r2 o => by
  unfold isD at o
  split at o
  · cases r2
    refine .inl ⟨rfl, ?_⟩
    rw [non_of r1]
    exact o _ μ H .refl a (.bl _)
  · cases r2
    split at o
    · cases r1
      exact .inr ⟨_, _, rfl, rfl, o _ μ H .refl a (.bl _)⟩
    · exact o.elim
  · exact o.elim
theorem op_isX {X : Cx} : OpR X (compareOp .Is) (fun x y H Q => (y = .non ∧ Q (.bl (decide (x = .non))) H) ∨ ∃ a b, x = .bl a ∧ y = .bl b ∧ Q (.bl (decide (a = b))) H) := op_isN.or op_is_bl
theorem op_isnotX {X : Cx} : OpR X (compareOp .IsNot) (fun x y H Q => (y = .non ∧ Q (.bl (!decide (x = .non))) H) ∨ ∃ a b, x = .bl a ∧ y = .bl b ∧ Q (.bl (!decide (a = b))) H) := op_notN.or op_isnot_bl
/-! ### in, of lists and tuples, of texts -/
def rInT (K : PySem.W.Frag) (neg : Bool) : R2 := fun x y H Q => ∃ d ds, Dp K H x d ∧ Dp K H y (.tuple ds) ∧ SeqAt.shaped d = true ∧ SeqAt.shaped (.tuple ds) = true ∧ Q (.bl (nb neg (ds.any fun z => PyData.eqv z d))) H
theorem op_inT {X : Cx} (hu : X.A.units + 65 < cLine) : OpR X (compareOp .In) (rInT X.K false) := by
  intro pins s σ H x y v u Q I rx ry h
  obtain ⟨d, ds, hd, he, sd, se, q⟩ := h
  obtain ⟨as, r1⟩ := Dp.reads I d x v hd rx
  obtain ⟨bs, r2⟩ := Dp.reads I (.tuple ds) y u he ry
  exact SeqAt.in_tuple_reads r2 r1 (SeqAt.canLay_of_shaped se) (SeqAt.canLay_of_shaped sd) (room_in_shaped sd hu) ⟨.bl _, H, I, rfl, q⟩
theorem op_notInT {X : Cx} (hu : X.A.units + 65 < cLine) : OpR X (compareOp .NotIn) (rInT X.K true) := by
  intro pins s σ H x y v u Q I rx ry h
  obtain ⟨d, ds, hd, he, sd, se, q⟩ := h
  obtain ⟨as, r1⟩ := Dp.reads I d x v hd rx
  obtain ⟨bs, r2⟩ := Dp.reads I (.tuple ds) y u he ry
  exact SeqAt.notIn_tuple_reads r2 r1 (SeqAt.canLay_of_shaped se) (SeqAt.canLay_of_shaped sd) (room_in_shaped sd hu) ⟨.bl _, H, I, rfl, q⟩
def inD (neg : Bool) : D → D → AH → Res D := fun d1 d2 h => match dataOf h 59 d1, dataOf h 60 d2 with
  | some x, some (.list zs) => .ok (.bl (nb neg (zs.any fun z => PyData.eqv z x))) h
  | some x, some (.tuple zs) => .ok (.bl (nb neg (zs.any fun z => PyData.eqv z x))) h
  | some (.str x), some (.str y) => .ok (.bl (nb neg (!(Builtin.Str.occurrences y x 0 y.length 1).isEmpty))) h
  | _, _ => .stuck
def rInX (K : PySem.W.Frag) (neg : Bool) : R2 := fun x y H Q =>
  (∃ d ds, Dp K H x d ∧ Dp K H y (.list ds) ∧ SeqAt.shaped d = true ∧ SeqAt.shaped (.list ds) = true ∧ Q (.bl (nb neg (ds.any fun z => PyData.eqv z d))) H) ∨ rInT K neg x y H Q ∨
  ∃ i j, x = .str i ∧ y = .str j ∧ Q (.bl (nb neg (!(Builtin.Str.occurrences j i 0 j.length 1).isEmpty))) H
theorem op_inX {X : Cx} (hu : X.A.units + 65 < cLine) : OpR X (compareOp .In) (rInX X.K false) := by
  have h1 := (op_inD (X := X) hu).or ((op_inT (X := X) hu).or op_in_str)
  intro pins s σ H x y v u Q I rx ry h
  refine h1 pins s σ H x y v u Q I rx ry ?_
  rcases h with ⟨d, ds, a, b, c, f, q⟩ | h | ⟨i, j, a, b, q⟩
  · exact .inl ⟨d, ds, a, b, c, f, q⟩
  · exact .inr (.inl h)
  · exact .inr (.inr ⟨i, j, a, b, q⟩)
theorem op_notinX {X : Cx} (hu : X.A.units + 65 < cLine) : OpR X (compareOp .NotIn) (rInX X.K true) := by
  have h1 := (op_notInD (X := X) hu).or ((op_notInT (X := X) hu).or op_notin_str)
  intro pins s σ H x y v u Q I rx ry h
  refine h1 pins s σ H x y v u Q I rx ry ?_
  rcases h with ⟨d, ds, a, b, c, f, q⟩ | h | ⟨i, j, a, b, q⟩
  · exact .inl ⟨d, ds, a, b, c, f, q⟩
  · exact .inr (.inl h)
  · exact .inr (.inr ⟨i, j, a, b, q⟩)
theorem shaped_of' (n : Nat) (hn : n ≤ 60) (a : AHOk e B μ H h) {d : D} {v : V} {x : PyData} (q : dataOf h n d = some x) (r : RelD e B μ H d v) : SeqAt.shaped x = true := by
  obtain ⟨h1, h2⟩ := depth_of a n d v x q r
  unfold SeqAt.shaped
  rw [h2, decide_eq_true (by omega)]
  rfl
theorem dataOf_str {n : Nat} {d : D} {x : Str} (q : dataOf h (n + 1) d = some (.str x)) : d = .str x := by
  cases d <;> simp only [dataOf, Option.map_eq_some_iff, Option.some.injEq, PyData.str.injEq, reduceCtorEq, and_false, exists_false] at q
  · rw [q]
  · split at q
    · rw [Option.map_eq_some_iff] at q
      obtain ⟨_, _, q⟩ := q
      cases q
    · cases q
theorem sim_in {neg : Bool} : Sim2 e (inD neg) (rInX e.K neg) := fun E B μ H h d1 d2 v1 v2 Q a r1 r2 o => by
  unfold inD at o
  split at o
  · rename_i x zs q1 q2
    exact .inl ⟨x, zs, dp_of a 59 _ _ _ q1 r1, dp_of a 60 _ _ _ q2 r2, shaped_of' 59 (by decide) a q1 r1, shaped_of a q2 r2, o _ μ H .refl a (.bl _)⟩
  · rename_i x zs q1 q2
    exact .inr (.inl ⟨x, zs, dp_of a 59 _ _ _ q1 r1, dp_of a 60 _ _ _ q2 r2, shaped_of' 59 (by decide) a q1 r1, shaped_of a q2 r2, o _ μ H .refl a (.bl _)⟩)
  · rename_i x y q1 q2
    have e1 := dataOf_str (n := 58) q1
    have e2 := dataOf_str (n := 59) q2
    subst e1 e2
    cases r1
    cases r2
    exact .inr (.inr ⟨x, y, rfl, rfl, o _ μ H .refl a (.bl _)⟩)
  · exact o.elim
/-! ### subscripts -/
def ixD (d1 d2 : D) (h : AH) : Res D := match d2 with
  | .int i => match d1 with
    | .str x => match atI x.cps.toList i with
      | some c => .ok (.str ⟨#[c]⟩) h
      | none => .stuck
    | .scr ns => match atI ns i with
      | some n => .ok (.int n) h
      | none => .stuck
    | d1 => match seqOf d1 h with
      | some (xs, _) => match atI xs i with
        | some d => .ok d h
        | none => .stuck
      | none => .stuck
  | _ => .stuck
theorem atI_rel {xs : List D} {ys : List V} {i : Int} {d : D} (r : RelDs e B μ H xs ys) (q : atI xs i = some d) : ∃ v, atI ys i = some v ∧ RelD e B μ H d v := by
  unfold atI at q ⊢
  rw [← r.length]
  cases hj : ixN xs.length i with
  | none => rw [hj] at q; cases q
  | some j =>
    rw [hj] at q
    exact r.get q
theorem sign_ok {x : Str} {i : Int} {c : Nat} (hx : okS x) (q : atI x.cps.toList i = some c) : okS ⟨#[c]⟩ := by
  refine ⟨by rw [sizeLine_eq]; show 1 ≤ 16777216; decide, ?_⟩
  have h2 := hx.2
  unfold PyData.strOk at h2 ⊢
  obtain ⟨j, _, hj, _⟩ := atI_get q
  have hm : c ∈ x.cps := by
    have := List.mem_of_getElem? hj
    simpa using this
  rw [Array.all_eq_true'] at h2
  simpa using h2 c hm
theorem sim_ix : Sim2 e ixD (rIx e.K) := fun E B μ H h d1 d2 v1 v2 Q a r1 r2 o => by
  unfold ixD at o
  split at o
  · rename_i i
    cases r2
    split at o
    · rename_i x
      cases r1 with
      | str _ hx =>
        split at o
        · rename_i c hc
          exact .inr (.inr ⟨x, i, c, rfl, rfl, hx.1, hc, o _ μ H .refl a (.str _ (sign_ok hx hc))⟩)
        · exact o.elim
    · rename_i ns
      split at o
      · rename_i n hn
        have hn' : atI (ns.map V.int) i = some (.int n) := by
          unfold atI at hn ⊢
          rw [List.length_map]
          cases hj : ixN ns.length i with
          | none => rw [hj] at hn; cases hn
          | some j =>
            rw [hj] at hn
            have hn : ns[j]? = some n := hn
            show (ns.map V.int)[j]? = some (.int n)
            rw [List.getElem?_map, hn]
            rfl
        have hs : ∃ p, v1 = .ref p ∧ SqL e.K H p (ns.map V.int) := by
          cases r1 with
          | scrF h1 _ => exact ⟨_, rfl, .inl (.inr ⟨_, h1⟩)⟩
          | scrK h1 => exact ⟨_, rfl, .inr h1⟩
        obtain ⟨p, rfl, hs⟩ := hs
        exact .inl ⟨p, _, i, _, rfl, rfl, hs, hn', o _ μ H .refl a (.int n)⟩
      · exact o.elim
    · split at o
      · rename_i xs gs q1
        split at o
        · rename_i d hd
          rcases seq_kind a r1 q1 with ⟨k1, p1, vs, rfl, s1, rs1, z1⟩ | ⟨k1, p1, vs, rfl, s1, rs1, z1⟩
          · obtain ⟨v, hv, rv⟩ := atI_rel rs1 hd
            exact .inr (.inl ⟨p1, vs, i, v, rfl, rfl, s1, hv, o _ μ H .refl a rv⟩)
          · obtain ⟨v, hv, rv⟩ := atI_rel rs1 hd
            exact .inl ⟨p1, vs, i, v, rfl, rfl, .inl (.inl s1), hv, o _ μ H .refl a rv⟩
        · exact o.elim
      · exact o.elim
  · exact o.elim
end
end G

/-! E10: displays, slices, calls of builtins, methods of lists, tuples, texts. -/
namespace G
open PySem PySem.Spec L2
open PyProof.Rows hiding St
section
variable {e : En} {B : Bk} {μ : Mu} {H : Hp} {h : AH} {E : XK} {W : WX}

/-! ### displays -/
def tupC (cs : CA) : CE := fun S h => (cs S h).bind fun ds h1 => if ds.length ≤ 16777216 then .ok (.tup ds) h1 else .stuck
def lstC (m : Bool) (cs : CA) : CE := fun S h => (cs S h).bind fun ds h1 => if ds.length ≤ 16777216 then newL m ds h1 else .stuck
/-- a tuple's display, the object known -/
def tTupF (t : TA) : TE := fun σ H Q => t σ H fun xs H1 => xs.length ≤ sizeLine ∧ ∀ (p : Addr) (o : Obj), o.dict = none → H1 p = none → Q (.ref p) (upd H1 p (.frz o (.tup xs)))
theorem pe_tupF {X : Cx} {es : List Expr} {t : TA} {pos : Pos} {x1} (h : PA X es t) : PE X (.Tuple es x1 pos) (tTupF t) := by
  refine ⟨fun pins s σ H Q I hq => ?_⟩
  refine wpAny_Tuple_spliced (thn (h.run pos pins s σ H _ I hq) fun us s1 ⟨xs, H1, I1, r, z, q⟩ => ⟨by rw [← r.length]; exact z, ?_⟩)
  have hf : H1 s1.heap.objs.size = none := I1.hok.fresh (Nat.le_refl _)
  refine ⟨.ref s1.heap.objs.size, upd H1 s1.heap.objs.size (.frz { cls := .type "tuple", data := .seq us.toArray } (.tup xs)), I1.laid (t' := s1.toks) (fun b u e => Heap.get?_push_of_some _ e) (Nat.le_refl _) ?_, rfl, q _ _ rfl hf⟩
  exact ⟨Heap.get?_push_size _ rfl, z, us, r, ⟨_, Heap.get?_push_size _ rfl, rfl, _, rfl⟩⟩
variable {X : Cx}
theorem g_tup {es : List Expr} {ca : CA} {pos : Pos} {x1} (ha : PA X es (rA X.en W ca)) : PE X (.Tuple es x1 pos) (rE X.en W (tupC ca)) := by
  refine (pe_tupF ha).imp fun σ H Q ⟨B, μ, S, h, s, a, o⟩ => ?_
  refine ⟨B, μ, S, h, s, a, o.bindA fun d1 h1 v1 μ1 H1 x1 a1 r1 o1 => ?_⟩
  have hl := r1.length
  split at o1
  · exact ⟨by rw [sizeLine_eq]; omega, fun p ob hod hp => out_tup hod a1 o1 r1 (by rw [sizeLine_eq]; omega) hp⟩
  · exact o1.elim
theorem g_lst (m : Bool) {es : List Expr} {ca : CA} {pos : Pos} (ha : PA X es (rA X.en W ca)) : PE X (.List es pos) (rE X.en W (lstC m ca)) := by
  refine (pe_lst ha).imp fun σ H Q ⟨B, μ, S, h, s, a, o⟩ => ?_
  refine ⟨B, μ, S, h, s, a, o.bindA fun d1 h1 v1 μ1 H1 x1 a1 r1 o1 => ?_⟩
  have hl := r1.length
  split at o1
  · exact ⟨by rw [sizeLine_eq]; omega, fun p hp => out_newL a1 o1 r1 (by rw [sizeLine_eq]; omega) hp⟩
  · exact o1.elim

/-! ### slices -/
def cutL {α : Type} (xs : List α) (lo hi : Option Int) : List α := (xs.drop (HT.sIx xs.length 0 lo)).take (HT.sIx xs.length xs.length hi - HT.sIx xs.length 0 lo)
theorem RelDs.cut {xs : List D} {ys : List V} (r : RelDs e B μ H xs ys) (lo hi : Option Int) : RelDs e B μ H (cutL xs lo hi) (cutV ys lo hi) := by
  unfold cutL cutV
  rw [r.length]
  exact (r.drop _).take _
def slD (m : Bool) (d : D) (lo hi : Option Int) (h : AH) : Res D := match d with
  | .str x => .ok (.str (cutS x lo hi)) h
  | d => match seqOf d h with
    | some (xs, _) => if isT d h then .ok (.tup (cutL xs lo hi)) h else newL m (cutL xs lo hi) h
    | none => .stuck
abbrev CO := Sl → AH → Res (Option Int)
def noO : CO := fun _ h => .ok none h
def someO (c : CE) : CO := fun S h => (c S h).bind fun d h1 => match d with
  | .int i => .ok (some i) h1
  | _ => .stuck
def OutO (e : En) (E : XK) (μ : Mu) (H : Hp) (B : Bk) (r : Res (Option Int)) (Q : Option Int → Hp → Prop) : Prop := match r with
  | .ok b h' => ∀ μ' H', Ext μ H μ' H' → AHOk e B μ' H' h' → Q b H'
  | .exc x h' => ∀ cls d μ' H', Ext μ H μ' H' → AHOk e B μ' H' h' → XRel e B μ' H' x cls d → E cls d H'
  | .stuck => False
def rO (e : En) (W : WX) (c : CO) : TO := fun σ H Q => ∃ B μ S h, StRel e B μ H S σ ∧ AHOk e B μ H h ∧ OutO e (WE W σ) μ H B (c S h) Q
theorem _root_.L2.PO.imp {X : Cx} {x : Option Expr} {t t' : TO} (h : PO X x t) (k : ∀ σ H Q, t' σ H Q → t σ H Q) : PO X x t' := ⟨fun pins s σ H Q I q => h.run pins s σ H Q I (k σ H Q q)⟩
theorem go_none : PO X none (rO X.en W noO) := po_none.imp fun σ H Q ⟨B, μ, S, h, s, a, o⟩ => o μ H .refl a
theorem go_some {x : Expr} {c : CE} (hx : PE X x (rE X.en W c)) : PO X (some x) (rO X.en W (someO c)) := by
  refine (po_some hx).imp fun σ H Q ⟨B, μ, S, h, s, a, o⟩ => ?_
  refine ⟨B, μ, S, h, s, a, ?_⟩
  unfold someO at o
  cases q : c S h with
  | ok d h1 =>
    rw [q] at o
    intro v μ1 H1 x1 a1 r1
    cases r1 with
    | int i => exact ⟨i, rfl, o μ1 H1 x1 a1⟩
    | _ => exact o.elim
  | exc _ _ => rw [q] at o; exact o
  | stuck => rw [q] at o; exact o
def slC (m : Bool) (c : CE) (lo hi : CO) : CE := fun S h => (c S h).bind fun d h1 => (lo S h1).bind fun l h2 => (hi S h2).bind fun u h3 => slD m d l u h3
theorem Out.bindO {r : Res (Option Int)} {k : Option Int → AH → Res D} {Q : VK} {R : Option Int → Hp → Prop} (o : Out e E μ H B (r.bind k) Q)
    (hk : ∀ d h μ' H', Ext μ H μ' H' → AHOk e B μ' H' h → Out e E μ' H' B (k d h) Q → R d H') : OutO e E μ H B r R := by
  cases r with
  | ok d h' => exact fun μ2 H2 y a => hk d h' μ2 H2 y a (Out.mono y o fun _ _ q => q)
  | exc _ _ => exact o
  | stuck => exact o
/-- t[lo:hi], the new tuple's object known -/
def rSlF (K : PySem.W.Frag) : V → Option Int → Option Int → Hp → VK → Prop := fun x lo hi H Q => ∃ a xs, x = .ref a ∧ SqT K H a xs ∧
  (HT.sIx xs.length 0 lo = 0 ∧ HT.sIx xs.length xs.length hi = xs.length → Q (.ref a) H) ∧ (¬ (HT.sIx xs.length 0 lo = 0 ∧ HT.sIx xs.length xs.length hi = xs.length) → ∀ (p : Addr) (o : Obj), o.dict = none → H p = none → Q (.ref p) (upd H p (.frz o (.tup (cutV xs lo hi)))))
theorem sl_tupF : SlR X (rSlF X.K) := by
  intro pins s σ H x v vl vu lo hi sl Q I rx hs pl pu h
  obtain ⟨a, xs, rfl, hx, q1, q2⟩ := h
  cases rx
  obtain ⟨its, r, ht, hz⟩ := I.tuple hx
  have hlen : its.toArray.size = xs.length := by rw [List.size_toArray]; exact r.length.symm
  refine ⟨"tuple", _, PyProof.Rows.slot_tuple_getitem.lookup, ht.typeIs, ?_⟩
  by_cases hw : HT.sIx xs.length 0 lo = 0 ∧ HT.sIx xs.length xs.length hi = xs.length
  · exact getItem_tuple_whole ht hs pl pu (by rw [hlen]; exact hw) ⟨.ref a, H, I, rfl, q1 hw⟩
  · refine HT.getItem_tuple_cut ht hs pl pu (by rw [hlen]; exact hw) ?_ (by rw [hlen]; exact hz)
    rw [hlen]
    refine ⟨.ref s.heap.objs.size, _, I.laid (t' := s.toks) (o := .frz { cls := .type "tuple", data := .seq (List.take (HT.sIx xs.length xs.length hi - HT.sIx xs.length 0 lo) (List.drop (HT.sIx xs.length 0 lo) its.toArray.toList)).toArray } (.tup (cutV xs lo hi))) (fun b ob q => Heap.get?_push_of_some _ q) (Nat.le_refl _) ?_, rfl, q2 hw _ _ rfl (I.hok.fresh (Nat.le_refl _))⟩
    exact ⟨Heap.get?_push_size _ rfl, Nat.le_trans (cutV_length xs lo hi) hz, _, (r.drop (HT.sIx xs.length 0 lo)).take (HT.sIx xs.length xs.length hi - HT.sIx xs.length 0 lo), IsTup.new _ _⟩
theorem sl_any : SlR X (fun x lo hi H Q => rSlS x lo hi H Q ∨ rSlF X.K x lo hi H Q ∨ rSlL X.K x lo hi H Q) := sl_str.or (sl_tupF.or sl_list)
theorem okS_cut {x : Str} (lo hi : Option Int) (hx : okS x) : okS (cutS x lo hi) := by
  refine ⟨Nat.le_trans (cutS_length x lo hi) hx.1, ?_⟩
  have h2 := hx.2
  unfold PyData.strOk cutS at *
  rw [Array.all_eq_true'] at *
  intro c hc
  have : c ∈ x.cps := by
    have h3 : c ∈ (x.cps.toList.drop (HT.sIx x.length 0 lo)).take (HT.sIx x.length x.length hi - HT.sIx x.length 0 lo) := by simpa using hc
    have := List.mem_of_mem_drop (List.mem_of_mem_take h3)
    simpa using this
  exact h2 c this
theorem cutL_len {α : Type} (xs : List α) (lo hi : Option Int) : (cutL xs lo hi).length ≤ xs.length := by
  unfold cutL
  rw [List.length_take, List.length_drop]
  omega
theorem cutL_whole {α : Type} {xs : List α} {lo hi : Option Int} (w : HT.sIx xs.length 0 lo = 0 ∧ HT.sIx xs.length xs.length hi = xs.length) : cutL xs lo hi = xs := by
  unfold cutL
  rw [w.1, w.2]
  simp
theorem sim_sl {m : Bool} {d : D} {v : V} {lo hi : Option Int} {Q : VK} (a : AHOk e B μ H h) (r : RelD e B μ H d v) (o : Out e E μ H B (slD m d lo hi h) Q) : rSlS v lo hi H Q ∨ rSlF e.K v lo hi H Q ∨ rSlL e.K v lo hi H Q := by
  unfold slD at o
  split at o
  · rename_i x
    cases r with
    | str _ hx => exact .inl ⟨x, rfl, hx.1, o _ μ H .refl a (.str _ (okS_cut lo hi hx))⟩
  · split at o
    · rename_i xs gs q
      rcases seq_kind a r q with ⟨k, p, ys, rfl, s1, rs, z⟩ | ⟨k, p, ys, rfl, s1, rs, z⟩
      · rw [k] at o
        simp only [if_true] at o
        have hl := rs.length
        refine .inr (.inl ⟨p, ys, rfl, s1, fun w => ?_, fun w pp ob hod hp => ?_⟩)
        · rw [cutL_whole (by rw [hl]; exact w)] at o
          have ed : d = .tup xs := by
            cases d <;> simp [isT] at k
            simp [seqOf] at q; rw [q.1]
          subst ed
          exact o _ μ H .refl a r
        · have h1 := (rs.cut lo hi).length
          have h2 := cutL_len xs lo hi
          exact out_tup hod a o (rs.cut lo hi) (by omega) hp
      · rw [k] at o
        simp only [Bool.false_eq_true, if_false] at o
        have h1 := (rs.cut lo hi).length
        have h2 := cutL_len xs lo hi
        exact .inr (.inr ⟨p, ys, rfl, .inl (.inl s1), fun pp hp => out_newL a o (rs.cut lo hi) (by omega) hp⟩)
    · exact o.elim
theorem g_slice (m : Bool) {x : Expr} {lo hi : Option Expr} {c : CE} {cl ch : CO} {pos p2 : Pos} (hx : PE X x (rE X.en W c)) (hl : PO X lo (rO X.en W cl)) (hu : PO X hi (rO X.en W ch)) : PE X (.Subscript x (.Slice lo hi none p2) pos) (rE X.en W (slC m c cl ch)) := by
  refine (pe_slice sl_any hx hl hu).imp fun σ H Q ⟨B, μ, S, h, s, a, o⟩ => ?_
  refine ⟨B, μ, S, h, s, a, o.bind fun d h1 v μ1 H1 x1 a1 r1 o1 => ?_⟩
  refine ⟨B, μ1, S, h1, s.mono x1, a1, o1.bindO fun l h2 μ2 H2 x2 a2 o2 => ?_⟩
  refine ⟨B, μ2, S, h2, (s.mono x1).mono x2, a2, o2.bindO fun u h3 μ3 H3 x3 a3 o3 => ?_⟩
  exact sim_sl a3 ((r1.mono x2).mono x3) o3
end
end G

/-! E11: calls of builtins. -/
namespace G
open PySem PySem.Spec L2
open PyProof.Rows hiding St
section
variable {e : En} {B : Bk} {μ : Mu} {H : Hp} {h : AH} {E : XK} {W : WX} {X : Cx}
theorem rel1 {d : D} {vs : List V} (r : RelDs e B μ H [d] vs) : ∃ v, vs = [v] ∧ RelD e B μ H d v := by
  cases r with
  | cons r t => cases t; exact ⟨_, rfl, r⟩
theorem rel2 {d d' : D} {vs : List V} (r : RelDs e B μ H [d, d'] vs) : ∃ v v', vs = [v, v'] ∧ RelD e B μ H d v ∧ RelD e B μ H d' v' := by
  cases r with
  | cons r t =>
    obtain ⟨v, rfl, r'⟩ := rel1 t
    exact ⟨_, _, rfl, r, r'⟩
/-! len of sequences, texts, the script -/
def lenF : List D → AH → Res D := fun ds h => match ds with
  | [.str x] => .ok (.int x.length) h
  | [.scr ns] => .ok (.int ns.length) h
  | [d] => match seqOf d h with
    | some (xs, _) => .ok (.int xs.length) h
    | none => .stuck
  | _ => .stuck
def rLenX (K : PySem.W.Frag) : List V → Hp → VK → Prop := fun xs H Q => (∃ p ys, xs = [.ref p] ∧ (SqL K H p ys ∨ SqT K H p ys) ∧ Q (.int ys.length) H) ∨ ∃ z, xs = [.str z] ∧ z.length ≤ sizeLine ∧ Q (.int z.length) H
theorem _root_.L2.CallR.orG {c : Value} {r r' : List V → Hp → VK → Prop} (h : CallR X c r) (h' : CallR X c r') : CallR X c fun xs H Q => r xs H Q ∨ r' xs H Q := by
  intro pins s σ H xs us Q I rv q
  rcases q with q | q
  · exact h pins s σ H xs us Q I rv q
  · exact h' pins s σ H xs us Q I rv q
theorem call_lenX : CallR X (.builtin "len") (rLenX X.K) := call_len_seq.orG call_len_str
theorem scr_sq {ns : List Int} {v : V} (r : RelD e B μ H (.scr ns) v) : ∃ p, v = .ref p ∧ SqL e.K H p (ns.map V.int) := by
  cases r with
  | scrF h1 _ => exact ⟨_, rfl, .inl (.inr ⟨_, h1⟩)⟩
  | scrK h1 => exact ⟨_, rfl, .inr h1⟩
theorem seq_sq {d : D} {v : V} {xs : List D} {gs : Gd} (a : AHOk e B μ H h) (r : RelD e B μ H d v) (q : seqOf d h = some (xs, gs)) : ∃ (p : Addr) (ys : List V), v = .ref p ∧ (SqL e.K H p ys ∨ SqT e.K H p ys) ∧ RelDs e B μ H xs ys ∧ xs.length ≤ sizeLine := by
  rcases seq_kind a r q with ⟨k, p, ys, rfl, s1, rs, z⟩ | ⟨k, p, ys, rfl, s1, rs, z⟩
  · exact ⟨p, ys, rfl, .inr s1, rs, z⟩
  · exact ⟨p, ys, rfl, .inl (.inl (.inl s1)), rs, z⟩
theorem sim_len : SimC e lenF (rLenX e.K) := fun E B μ H h ds vs Q a rs o => by
  unfold lenF at o
  split at o
  · obtain ⟨v, rfl, r⟩ := rel1 rs
    cases r with
    | str _ hx => exact .inr ⟨_, rfl, hx.1, o _ μ H .refl a (.int _)⟩
  · obtain ⟨v, rfl, r⟩ := rel1 rs
    obtain ⟨p, rfl, hs⟩ := scr_sq r
    refine .inl ⟨p, _, rfl, .inl hs, ?_⟩
    rw [List.length_map]
    exact o _ μ H .refl a (.int _)
  · obtain ⟨v, rfl, r⟩ := rel1 rs
    split at o
    · rename_i xs gs q
      obtain ⟨p, ys, rfl, hs, r1, z⟩ := seq_sq a r q
      refine .inl ⟨p, ys, rfl, hs, ?_⟩
      rw [← r1.length]
      exact o _ μ H .refl a (.int _)
    · exact o.elim
  · exact o.elim
/-! list(x), tuple(x) -/
def listF (m : Bool) : List D → AH → Res D := fun ds h => match ds with
  | [d] => match seqOf d h with
    | some (xs, _) => newL m xs h
    | none => .stuck
  | _ => .stuck
theorem sim_list {m : Bool} : SimC e (listF m) (fun xs H Q => ∃ p ys, xs = [.ref p] ∧ (SqL e.K H p ys ∨ SqT e.K H p ys) ∧ ∀ l, H l = none → Q (.ref l) (upd H l (.lst ys))) := fun E B μ H h ds vs Q a rs o => by
  unfold listF at o
  split at o
  · obtain ⟨v, rfl, r⟩ := rel1 rs
    split at o
    · rename_i xs gs q
      obtain ⟨p, ys, rfl, hs, r1, z⟩ := seq_sq a r q
      exact ⟨p, ys, rfl, hs, fun l hl => out_newL a o r1 (by rw [← r1.length]; exact z) hl⟩
    · exact o.elim
  · exact o.elim
def tupleF : List D → AH → Res D := fun ds h => match ds with
  | [d] => match seqOf d h with
    | some (xs, _) => .ok (.tup xs) h
    | none => .stuck
  | _ => .stuck
theorem call_tupleF : CallR X (.type "tuple") (fun xs H Q => ∃ p ys, xs = [.ref p] ∧ ((SqL X.K H p ys ∧ ∀ (l : Addr) (o : Obj), o.dict = none → H l = none → Q (.ref l) (upd H l (.frz o (.tup ys)))) ∨ (SqT X.K H p ys ∧ Q (.ref p) H))) := by
  intro pins s σ H xs us Q I r h
  obtain ⟨p, ys, rfl, h⟩ := h
  obtain ⟨u, rfl, rx⟩ := vals1 r
  cases rx
  rcases h with ⟨hq, q⟩ | ⟨hq, q⟩
  · obtain ⟨its, r', pl, hz⟩ := I.list hq
    have hlen := r'.length
    refine call_tuple_list pl.isList (fun h' kp => ?_) (by simp only [List.size_toArray] <;> omega)
    have I1 : Inv X pins σ H { s with heap := h' } := I.kept (t' := s.toks) kp
    have I2 : Inv X pins σ (upd H h'.objs.size (.frz { cls := .type "tuple", data := .seq its.toArray } (.tup ys))) { s with heap := h'.push { cls := .type "tuple", data := .seq its.toArray } } :=
      I1.laid (t' := s.toks) (fun b o e => Heap.get?_push_of_some _ e) (Nat.le_refl _) ⟨Heap.get?_push_size _ rfl, hz, its, r', IsTup.new _ _⟩
    exact ⟨.ref h'.objs.size, _, I2, rfl, q _ _ rfl (I1.hok.fresh (Nat.le_refl _))⟩
  · obtain ⟨its, r', pl, hz⟩ := I.tuple hq
    exact call_tuple_same pl ⟨.ref p, H, I, rfl, q⟩
theorem tup_of {d : D} {xs : List D} {gs : Gd} (k : isT d h = true) (q : seqOf d h = some (xs, gs)) : d = .tup xs := by
  cases d <;> simp [isT] at k
  simp [seqOf] at q; rw [q.1]
theorem sim_tuple : SimC e tupleF (fun xs H Q => ∃ p ys, xs = [.ref p] ∧ ((SqL e.K H p ys ∧ ∀ (l : Addr) (o : Obj), o.dict = none → H l = none → Q (.ref l) (upd H l (.frz o (.tup ys)))) ∨ (SqT e.K H p ys ∧ Q (.ref p) H))) := fun E B μ H h ds vs Q a rs o => by
  unfold tupleF at o
  split at o
  · obtain ⟨v, rfl, r⟩ := rel1 rs
    split at o
    · rename_i xs gs q
      rcases seq_kind a r q with ⟨k, p, ys, rfl, s1, r1, z⟩ | ⟨k, p, ys, rfl, s1, r1, z⟩
      · have ed := tup_of k q
        subst ed
        exact ⟨p, ys, rfl, .inr ⟨s1, o _ μ H .refl a r⟩⟩
      · exact ⟨p, ys, rfl, .inl ⟨.inl (.inl s1), fun l ob hod hl => out_tup hod a o r1 (by rw [← r1.length]; exact z) hl⟩⟩
    · exact o.elim
  · exact o.elim
/-! abs, int, min, max, str, ord -/
def absF : List D → AH → Res D := fun ds h => match ds with
  | [.int i] => .ok (.int (if i < 0 then -i else i)) h
  | _ => .stuck
theorem sim_abs : SimC e absF (fun xs H Q => ∃ i, xs = [.int i] ∧ Q (.int (if i < 0 then -i else i)) H) := fun E B μ H h ds vs Q a rs o => by
  unfold absF at o
  split at o
  · obtain ⟨v, rfl, r⟩ := rel1 rs
    cases r
    exact ⟨_, rfl, o _ μ H .refl a (.int _)⟩
  · exact o.elim
def intF : List D → AH → Res D := fun ds h => match ds with
  | [.int i] => .ok (.int i) h
  | [.bl b] => .ok (.int (if b then 1 else 0)) h
  | [.str x] => match PySem.intText? x with
    | some n => if x.length ≤ 640 then .ok (.int n) h else .stuck
    | none => .stuck
  | _ => .stuck
def rIntX : List V → Hp → VK → Prop := fun xs H Q => ((∃ i, xs = [.int i] ∧ Q (.int i) H) ∨ ∃ k, xs = [.bl k] ∧ Q (.int (if k then 1 else 0)) H) ∨ ∃ a n, xs = [.str a] ∧ PySem.intText? a = some n ∧ a.length ≤ 640 ∧ Q (.int n) H
theorem call_intX : CallR X (.type "int") rIntX := call_int1.orG call_int_str
theorem sim_int : SimC e intF rIntX := fun E B μ H h ds vs Q a rs o => by
  unfold intF at o
  split at o
  · obtain ⟨v, rfl, r⟩ := rel1 rs
    cases r
    exact .inl (.inl ⟨_, rfl, o _ μ H .refl a (.int _)⟩)
  · obtain ⟨v, rfl, r⟩ := rel1 rs
    cases r
    exact .inl (.inr ⟨_, rfl, o _ μ H .refl a (.int _)⟩)
  · obtain ⟨v, rfl, r⟩ := rel1 rs
    cases r
    split at o
    · split at o
      · exact .inr ⟨_, _, rfl, by assumption, by assumption, o _ μ H .refl a (.int _)⟩
      · exact o.elim
    · exact o.elim
  · exact o.elim
def minF : List D → AH → Res D := fun ds h => match ds with
  | [.int i, .int j] => .ok (.int (if j < i then j else i)) h
  | _ => .stuck
theorem sim_min : SimC e minF (fun xs H Q => ∃ i j, xs = [.int i, .int j] ∧ Q (.int (if j < i then j else i)) H) := fun E B μ H h ds vs Q a rs o => by
  unfold minF at o
  split at o
  · obtain ⟨v, v', rfl, r, r'⟩ := rel2 rs
    cases r; cases r'
    exact ⟨_, _, rfl, o _ μ H .refl a (.int _)⟩
  · exact o.elim
def maxF : List D → AH → Res D := fun ds h => match ds with
  | [.int i, .int j] => .ok (.int (if j > i then j else i)) h
  | _ => .stuck
theorem sim_max : SimC e maxF (fun xs H Q => ∃ i j, xs = [.int i, .int j] ∧ Q (.int (if j > i then j else i)) H) := fun E B μ H h ds vs Q a rs o => by
  unfold maxF at o
  split at o
  · obtain ⟨v, v', rfl, r, r'⟩ := rel2 rs
    cases r; cases r'
    exact ⟨_, _, rfl, o _ μ H .refl a (.int _)⟩
  · exact o.elim
theorem str_ok {i : Int} (hi : i.natAbs.log2 < 1920) : okS (toString i : String) → True := fun _ => trivial
/-! all, any, sum -/
def blsOf (xs : List D) : Option (List Bool) := xs.mapM fun d => match d with
  | .bl b => some b
  | _ => none
def intsOf (xs : List D) : Option (List Int) := xs.mapM fun d => match d with
  | .int b => some b
  | _ => none
theorem bls_rel : ∀ {xs : List D} {ys : List V} {bs : List Bool}, blsOf xs = some bs → RelDs e B μ H xs ys → ys = bs.map V.bl
  | [], _, bs, q, r => by
    cases r
    simp [blsOf] at q
    subst q
    rfl
  | x :: xs, _, bs, q, r => by
    cases r with
    | cons r t =>
      unfold blsOf at q
      rw [List.mapM_cons] at q
      cases x <;> simp only [Option.bind_eq_bind, Option.bind_none, Option.bind_some, reduceCtorEq] at q
      rename_i b
      cases r
      cases q2 : blsOf xs with
      | none => unfold blsOf at q2; rw [q2] at q; cases q
      | some cs =>
        have ih := bls_rel q2 t
        unfold blsOf at q2
        rw [q2] at q
        cases q
        rw [ih]
        rfl
theorem ints_rel : ∀ {xs : List D} {ys : List V} {bs : List Int}, intsOf xs = some bs → RelDs e B μ H xs ys → ys = bs.map V.int
  | [], _, bs, q, r => by
    cases r
    simp [intsOf] at q
    subst q
    rfl
  | x :: xs, _, bs, q, r => by
    cases r with
    | cons r t =>
      unfold intsOf at q
      rw [List.mapM_cons] at q
      cases x <;> simp only [Option.bind_eq_bind, Option.bind_none, Option.bind_some, reduceCtorEq] at q
      rename_i b
      cases r
      cases q2 : intsOf xs with
      | none => unfold intsOf at q2; rw [q2] at q; cases q
      | some cs =>
        have ih := ints_rel q2 t
        unfold intsOf at q2
        rw [q2] at q
        cases q
        rw [ih]
        rfl
def aggF {α : Type} (p : List D → Option (List α)) (g : List α → D) : List D → AH → Res D := fun ds h => match ds with
  | [d] => match seqOf d h with
    | some (xs, _) => match p xs with
      | some bs => if isT d h then .stuck else .ok (g bs) h
      | none => .stuck
    | none => .stuck
  | _ => .stuck
abbrev allF := aggF blsOf fun bs => .bl (bs.all id)
abbrev anyF := aggF blsOf fun bs => .bl (bs.any id)
abbrev sumF := aggF intsOf fun bs => .int bs.sum
theorem agg_of {α : Type} {p : List D → Option (List α)} {g : List α → D} {ds : List D} {vs : List V} {Q : VK} (a : AHOk e B μ H h) (rs : RelDs e B μ H ds vs) (o : Out e E μ H B (aggF p g ds h) Q) :
    ∃ (q : Addr) (xs : List D) (ys : List V) (bs : List α), vs = [.ref q] ∧ SqL e.K H q ys ∧ RelDs e B μ H xs ys ∧ p xs = some bs ∧ Out e E μ H B (.ok (g bs) h) Q := by
  unfold aggF at o
  split at o
  · obtain ⟨v, rfl, r⟩ := rel1 rs
    split at o
    · rename_i xs gs q
      split at o
      · rename_i bs hb
        rcases seq_kind a r q with ⟨k, p1, ys, rfl, s1, r1, z⟩ | ⟨k, p1, ys, rfl, s1, r1, z⟩
        · rw [k] at o; exact o.elim
        · rw [k] at o
          exact ⟨p1, xs, ys, bs, rfl, .inl (.inl s1), r1, hb, o⟩
      · exact o.elim
    · exact o.elim
  · exact o.elim
theorem sim_all : SimC e allF (rAll e.K) := fun E B μ H h ds vs Q a rs o => by
  obtain ⟨q, xs, ys, bs, rfl, s1, r1, hb, o⟩ := agg_of a rs o
  rw [bls_rel hb r1] at s1
  exact ⟨q, bs, rfl, s1, o _ μ H .refl a (.bl _)⟩
theorem sim_any : SimC e anyF (rAny e.K) := fun E B μ H h ds vs Q a rs o => by
  obtain ⟨q, xs, ys, bs, rfl, s1, r1, hb, o⟩ := agg_of a rs o
  rw [bls_rel hb r1] at s1
  exact ⟨q, bs, rfl, s1, o _ μ H .refl a (.bl _)⟩
theorem sim_sum : SimC e sumF (rSum e.K) := fun E B μ H h ds vs Q a rs o => by
  obtain ⟨q, xs, ys, bs, rfl, s1, r1, hb, o⟩ := agg_of a rs o
  rw [ints_rel hb r1] at s1
  exact ⟨q, bs, rfl, s1, o _ μ H .refl a (.int _)⟩
/-! isinstance -/
def tyD (h : AH) : D → Option String
  | .non => some "NoneType"
  | .bl _ => some "bool"
  | .int _ => some "int"
  | .str _ => some "str"
  | .tup _ => some "tuple"
  | .lst _ => some "list"
  | .dct _ _ => some "dict"
  | .ref n => match h[n]? with
    | some (.lst _) => some "list"
    | some (.dct _ _) => some "dict"
    | _ => none
  | _ => none
def subTy (t c : String) : Bool := t == c || (t == "bool" && c == "int")
def okTy (c : String) : Bool := ["int", "str", "list", "tuple", "bool", "dict"].contains c
def isiF : List D → AH → Res D := fun ds h => match ds with
  | [x, .ty c] => match tyD h x with
    | some t => if okTy c then .ok (.bl (subTy t c)) h else .stuck
    | none => .stuck
  | [x, .tup [.ty c, .ty c']] => match tyD h x with
    | some t => if okTy c && okTy c' then .ok (.bl (subTy t c || subTy t c')) h else .stuck
    | none => .stuck
  | _ => .stuck
/-- a value's type, by its object -/
inductive TyG (e : En) (H : Hp) : V → String → Prop where
  | non : TyG e H .non "NoneType"
  | bl (b) : TyG e H (.bl b) "bool"
  | int (i) : TyG e H (.int i) "int"
  | str (x) : TyG e H (.str x) "str"
  | tup {a xs} : SqT e.K H a xs → TyG e H (.ref a) "tuple"
  | lst {a xs} : SqL e.K H a xs → TyG e H (.ref a) "list"
  | dct {a es ep} : H a = some (dHO a es ep) → TyG e H (.ref a) "dict"
theorem tyG_of {d : D} {v : V} {t : String} (a : AHOk e B μ H h) (r : RelD e B μ H d v) (q : tyD h d = some t) : TyG e H v t := by
  cases r with
  | non => cases q; exact .non
  | bl b => cases q; exact .bl b
  | int i => cases q; exact .int i
  | str x _ => cases q; exact .str x
  | tup hr _ _ _ => cases q; exact .tup (.inl hr.rd)
  | tupK k _ => cases q; exact .tup (.inr k.k)
  | lst hr _ _ _ => cases q; exact .lst (.inl (.inl hr))
  | dct t _ _ _ => cases q; obtain ⟨ep, q⟩ := t.at'; exact .dct q
  | @ref n p hn =>
    simp only [tyD] at q
    split at q
    · rename_i xs hz
      cases q
      obtain ⟨ys, h1, _, _⟩ := a.obj n _ p hz hn
      exact .lst (.inl (.inl h1))
    · rename_i ks vs hz
      cases q
      obtain ⟨ys, zs, es, h1, _, _⟩ := a.obj n _ p hz hn
      obtain ⟨ep, q⟩ := h1.at'
      exact .dct q
    · cases q
  | glb _ => cases q
  | ty _ => cases q
  | scrF _ _ => cases q
  | scrK _ => cases q
theorem kit_ofG {pins : List (Addr × Obj)} {σ : L2.St} {s : Shared} {v : V} {u : Value} {t : String} (I : Inv X pins σ H s) (rx : RelV v u) (ty : TyG X.en H v t) : ∃ P : Heap → Prop, PySem.W.KitX X.K u (.type t) P ∧ P s.heap ∧ u ≠ .builtin "__main__.__loader__#opaque" := by
  cases ty with
  | non => cases (show u = Value.none from rx); exact ⟨_, PySem.W.kitx_none, True.intro, fun z => nomatch z⟩
  | bl y => cases (show u = Value.bool y from rx); exact ⟨_, PySem.W.kitx_bool, True.intro, fun z => nomatch z⟩
  | int i => obtain ⟨t, q⟩ := (show ∃ t, u = Value.int i t from rx); cases q; exact ⟨_, PySem.W.kitx_int, True.intro, fun z => nomatch z⟩
  | str y => obtain ⟨t, q⟩ := (show ∃ t, u = Value.str y t from rx); cases q; exact ⟨_, PySem.W.kitx_str, True.intro, fun z => nomatch z⟩
  | @tup a xs ea =>
    cases (show u = Value.ref a from rx)
    obtain ⟨its, _, ⟨o, h1, h2, _⟩, _⟩ := I.tuple ea
    exact ⟨_, PySem.W.kitx_tuple, ⟨o, h1, h2⟩, fun z => nomatch z⟩
  | @lst a xs ea =>
    cases (show u = Value.ref a from rx)
    obtain ⟨its, _, ⟨o, n, h1, h2, _⟩, _⟩ := I.list ea
    exact ⟨_, PySem.W.kitx_list, ⟨o, h1, h2⟩, fun z => nomatch z⟩
  | @dct a es ep ea =>
    cases (show u = Value.ref a from rx)
    obtain ⟨⟨o, h1, h2, _⟩, _⟩ := (show ObjOk X.prog X.w H s.heap a (dHO a es ep) from I.hok a _ ea)
    exact ⟨_, PySem.W.kitx_dict, ⟨o, h1, h2.1⟩, fun z => nomatch z⟩
def tyNames : List String := ["NoneType", "bool", "int", "str", "tuple", "list", "dict"]
theorem tyG_name {v : V} {t : String} (ty : TyG e H v t) : t ∈ tyNames := by
  cases ty <;> simp [tyNames]
theorem kit_table (K : PySem.W.Frag) {t c : String} (ht : t ∈ tyNames) (hc : okTy c = true) : PySem.W.kitOne K (.type t) (.type c) = some (subTy t c) := by
  have hc' : c = "int" ∨ c = "str" ∨ c = "list" ∨ c = "tuple" ∨ c = "bool" ∨ c = "dict" := by simpa [okTy] using hc
  have ht' : t = "NoneType" ∨ t = "bool" ∨ t = "int" ∨ t = "str" ∨ t = "tuple" ∨ t = "list" ∨ t = "dict" := by simpa [tyNames] using ht
  rcases ht' with rfl | rfl | rfl | rfl | rfl | rfl | rfl <;> rcases hc' with rfl | rfl | rfl | rfl | rfl | rfl <;> rfl
def rIsiG (e : En) : List V → Hp → VK → Prop := fun xs H Q => (∃ v t c, xs = [v, .ty c] ∧ TyG e H v t ∧ okTy c = true ∧ Q (.bl (subTy t c)) H) ∨
  ∃ v t tp c c', xs = [v, .ref tp] ∧ SqT e.K H tp [.ty c, .ty c'] ∧ TyG e H v t ∧ okTy c = true ∧ okTy c' = true ∧ Q (.bl (subTy t c || subTy t c')) H
theorem call_isiG : CallR X (.builtin "isinstance") (rIsiG X.en) := by
  intro pins s σ H xs us Q I r h
  rcases h with ⟨v, t, c, rfl, ty, hc, q⟩ | ⟨v, t, tp, c, c', rfl, hT, ty, hc, hc', q⟩
  · obtain ⟨u1, u2, rfl, r1, r2⟩ := vals2 r
    cases (show u2 = Value.type c from r2)
    obtain ⟨P, Z, p, hx⟩ := kit_ofG I r1 ty
    exact PySem.W.kia_one Z I.kIn p (kit_table X.K (tyG_name ty) hc) hx fun tk => ⟨.bl _, H, I.tok tk, rfl, q⟩
  · obtain ⟨u1, u2, rfl, r1, r2⟩ := vals2 r
    cases (show u2 = Value.ref tp from r2)
    obtain ⟨P, Z, p, hx⟩ := kit_ofG I r1 ty
    obtain ⟨its, rv, ⟨o, h1, h2, n, h3⟩, _⟩ := I.tuple hT
    have e3 : its = [.type c, .type c'] := by
      cases rv with
      | cons a b =>
        cases b with
        | cons b d =>
          cases d
          rw [show _ = Value.type c from a, show _ = Value.type c' from b]
    subst e3
    have ek : PySem.W.kitAny X.K (.type t) [.type c, .type c'] = some (subTy t c || subTy t c') := by
      simp only [PySem.W.kitAny, kit_table X.K (tyG_name ty) hc, kit_table X.K (tyG_name ty) hc']
      cases subTy t c <;> cases subTy t c' <;> rfl
    obtain ⟨oc, od, dt, sl⟩ := o
    simp only at h2 h3
    subst h2 h3
    exact PySem.W.kia_tup Z I.kIn p h1 ek hx fun tk => ⟨.bl _, H, I.tok tk, rfl, q⟩
theorem sim_isi : SimC e isiF (rIsiG e) := fun E B μ H h ds vs Q a rs o => by
  unfold isiF at o
  split at o
  · obtain ⟨v, v', rfl, r, r'⟩ := rel2 rs
    cases r'
    split at o
    · rename_i t q
      split at o
      · exact .inl ⟨v, t, _, rfl, tyG_of a r q, by assumption, o _ μ H .refl a (.bl _)⟩
      · exact o.elim
    · exact o.elim
  · obtain ⟨v, v', rfl, r, r'⟩ := rel2 rs
    split at o
    · rename_i t q
      split at o
      · rename_i hc
        rw [Bool.and_eq_true] at hc
        obtain ⟨p, ys, rfl, hs, r1, z⟩ := seq_sq (xs := [.ty _, .ty _]) (gs := []) a r' rfl
        obtain ⟨w, w', rfl, r2, r3⟩ := rel2 r1
        cases r2
        cases r3
        refine .inr ⟨v, t, p, _, _, rfl, ?_, tyG_of a r q, hc.1, hc.2, o _ μ H .refl a (.bl _)⟩
        cases r' with
        | tup hr _ _ r4 =>
          obtain ⟨w, w', rfl, r5, r6⟩ := rel2 r4
          cases r5
          cases r6
          exact .inl hr.rd
        | tupK k r4 =>
          obtain ⟨w, w', rfl, r5, r6⟩ := rel2 r4
          cases r5
          cases r6
          exact .inr k.k
      · exact o.elim
    · exact o.elim
  · exact o.elim
end
end G

/-! E12: calls of builtins' methods: lists, tuples, texts. -/
namespace G
open PySem PySem.Spec L2
open PyProof.Rows hiding St
section
variable {e : En} {B : Bk} {μ : Mu} {H : Hp} {h : AH} {E : XK} {W : WX} {X : Cx}
/-- a value's type, its object without a dict -/
inductive TyN (e : En) (H : Hp) : V → String → Prop where
  | int (i) : TyN e H (.int i) "int"
  | str (x) : TyN e H (.str x) "str"
  | tup {a xs} : TupAt H a xs → TyN e H (.ref a) "tuple"
  | tupK {a xs} : KTup e.K a xs → TyN e H (.ref a) "tuple"
  | lst {a xs} : SqL e.K H a xs → TyN e H (.ref a) "list"
  | dct {a es ep} : H a = some (dHO a es ep) → TyN e H (.ref a) "dict"
theorem tyN_of {d : D} {v : V} {t : String} (a : AHOk e B μ H h) (r : RelD e B μ H d v) (q : tyD h d = some t) (hN : t ≠ "NoneType") (hb : t ≠ "bool") : TyN e H v t := by
  cases r with
  | non => cases q; exact absurd rfl hN
  | bl b => cases q; exact absurd rfl hb
  | int i => cases q; exact .int i
  | str x _ => cases q; exact .str x
  | tup hr _ _ _ => cases q; exact .tup hr
  | tupK k _ => cases q; exact .tupK k
  | lst hr _ _ _ => cases q; exact .lst (.inl (.inl hr))
  | dct t _ _ _ => cases q; obtain ⟨ep, q⟩ := t.at'; exact .dct q
  | @ref n p hn =>
    simp only [tyD] at q
    split at q
    · rename_i xs hz
      cases q
      obtain ⟨ys, h1, _, _⟩ := a.obj n _ p hz hn
      exact .lst (.inl (.inl h1))
    · rename_i ks vs hz
      cases q
      obtain ⟨ys, zs, es, h1, _, _⟩ := a.obj n _ p hz hn
      obtain ⟨ep, q⟩ := h1.at'
      exact .dct q
    · cases q
  | glb _ => cases q
  | ty _ => cases q
  | scrF _ _ => cases q
  | scrK _ => cases q
theorem tyN_ok (T : String) : TyOk X T (fun v H => TyN X.en H v T) := by
  intro pins σ H s x v I r ty
  cases ty with
  | int i => obtain ⟨t, rfl⟩ := r; exact ⟨typeIs_int _ _ _, fun _ q => nomatch q⟩
  | str y => obtain ⟨t, rfl⟩ := r; exact ⟨typeIs_str _ _ _, fun _ q => nomatch q⟩
  | tup t =>
    obtain ⟨o, hd, h1⟩ := t
    cases r
    obtain ⟨h2, h3⟩ := (show ObjOk X.prog X.w H s.heap _ (.frz o _) from I.hok _ _ h1)
    obtain ⟨_, its, _, o', h4, h5, _⟩ := h3
    rw [h2] at h4
    cases h4
    exact ⟨⟨o, h2, h5⟩, fun b q => by cases q; exact ⟨o, h2, hd⟩⟩
  | tupK k =>
    obtain ⟨o, its, n, h1, h2, h3, _⟩ := k
    cases r
    have := I.kIn _ _ h1
    exact ⟨⟨o, this, h2⟩, fun b q => by cases q; exact ⟨o, this, h3⟩⟩
  | lst hs =>
    cases r
    obtain ⟨its, rv, ⟨o, n, h1, h2, h3, _⟩, _⟩ := I.list hs
    exact ⟨⟨o, h1, h2⟩, fun b q => by cases q; exact ⟨o, h1, h3⟩⟩
  | @dct a es ep hs =>
    cases r
    obtain ⟨⟨o, h1, h2, _⟩, _⟩ := (show ObjOk X.prog X.w H s.heap a (dHO a es ep) from I.hok a _ hs)
    exact ⟨⟨o, h1, h2.1⟩, fun b q => by cases q; exact ⟨o, h1, h2.2.1⟩⟩
def mthC (T : String) (f : D → List D → AH → Res D) (c : CE) (cs : CA) : CE := fun S h => (c S h).bind fun d h1 => if tyD h1 d = some T then (cs S h1).bind fun ds h2 => f d ds h2 else .stuck
def SimM (e : En) (f : D → List D → AH → Res D) (r : V → List V → Hp → VK → Prop) : Prop := ∀ E B μ H h d ds v vs Q, AHOk e B μ H h → RelD e B μ H d v → RelDs e B μ H ds vs → Out e E μ H B (f d ds h) Q → r v vs H Q
theorem g_mth {T id : String} {f : D → List D → AH → Res D} {r : V → List V → Hp → VK → Prop} {o y : Expr} {ys : List Expr} {c : CE} {cs : CA} {name : Str} {apos cpos : Pos} (pa : PlainAttrs T) (slot : Slot T name id) (hty : typeOf (.builtin id) = pure (.type "method_descriptor"))
    (hm : MtR X id r) (hs : SimM X.en f r) (ho : PE X o (rE X.en W c)) (ha : PA X (y :: ys) (rA X.en W cs)) (hn : T ≠ "NoneType") (hb : T ≠ "bool")
    (hbase : attributeBase o name X.env (eval o X.env) = eval o X.env := by rfl)
    (hfew : ((backTo cpos (starEach (y :: ys) X.env)).all (fun x => !x.1) && (backToKw cpos (keywordEach [] X.env)).all (fun x => x.1.isSome)
      && decide ((y :: ys).length + ([] : List Keyword).length + (if ([] : List Keyword).isEmpty then 0 else 1) < 30)) = true := by rfl)
    (hline : (apos.endLine == cpos.line) = true := by rfl) (hst : starEach (y :: ys) X.env = (false, eval y X.env) :: starEach ys X.env := by rfl) (hplain : (backTo cpos (starEach ys X.env)).any (·.1) = false := by rfl) :
    PE X (.Call (.Attribute o name apos) (y :: ys) [] cpos) (rE X.en W (mthC T f c cs)) := by
  refine (pe_mG (tyN_ok T) pa slot hty hm ho ha hbase hfew hline hst hplain).imp fun σ H Q ⟨B, μ, S, h, s, a, o⟩ => ?_
  refine ⟨B, μ, S, h, s, a, o.bind fun d h1 v μ1 H1 x1 a1 r1 o1 => ?_⟩
  split at o1
  · rename_i ht
    refine ⟨tyN_of a1 r1 ht hn hb, B, μ1, S, h1, s.mono x1, a1, o1.bindA fun ds h2 vs μ2 H2 x2 a2 r2 o2 => ?_⟩
    exact hs _ B μ2 H2 h2 d ds v vs Q a2 (r1.mono x2) r2 o2
  · exact o1.elim
theorem g_mth0 {T id : String} {f : D → List D → AH → Res D} {r : V → List V → Hp → VK → Prop} {o : Expr} {c : CE} {name : Str} {apos cpos : Pos} (pa : PlainAttrs T) (slot : Slot T name id) (hty : typeOf (.builtin id) = pure (.type "method_descriptor"))
    (hm : MtR X id r) (hs : SimM X.en f r) (ho : PE X o (rE X.en W c)) (hn : T ≠ "NoneType") (hb : T ≠ "bool")
    (hbase : attributeBase o name X.env (eval o X.env) = eval o X.env := by rfl) (hline : (apos.endLine == cpos.line) = true := by rfl) :
    PE X (.Call (.Attribute o name apos) [] [] cpos) (rE X.en W (mthC T f c nilA)) := by
  refine (pe_mG0 (tyN_ok T) pa slot hty hm ho hbase hline).imp fun σ H Q ⟨B, μ, S, h, s, a, o⟩ => ?_
  refine ⟨B, μ, S, h, s, a, o.bind fun d h1 v μ1 H1 x1 a1 r1 o1 => ?_⟩
  split at o1
  · rename_i ht
    exact ⟨tyN_of a1 r1 ht hn hb, hs _ B μ1 H1 h1 d [] v [] Q a1 r1 .nil o1⟩
  · exact o1.elim
/-! ### lists that change -/
theorem chg_lst {n : Nat} {p : Addr} {xs' : List D} {ys' : List V} {d : D} {v : V} {Q : VK} (a : AHOk e B μ H h) (hn : Lv μ n p) (o : Out e E μ H B (.ok d (h.set n (.lst xs'))) Q) (r : RelDs e B μ H xs' ys') (hz : ys'.length ≤ sizeLine) (rd : RelD e B μ H d v) : Q v (upd H p (.lst ys')) :=
  o v μ _ (Ext.chg hn) (a.chg hn ⟨ys', upd_same, hz, r.mono (Ext.chg hn)⟩) (rd.mono (Ext.chg hn))
def lstAt (d : D) (h : AH) : Option (Nat × List D) := match d with
  | .ref n => match h[n]? with
    | some (.lst xs) => some (n, xs)
    | _ => none
  | _ => none
theorem lst_at {d : D} {v : V} {n : Nat} {xs : List D} (a : AHOk e B μ H h) (r : RelD e B μ H d v) (q : lstAt d h = some (n, xs)) : ∃ p ys, v = .ref p ∧ Lv μ n p ∧ H p = some (.lst ys) ∧ RelDs e B μ H xs ys ∧ ys.length ≤ sizeLine ∧ h[n]? = some (.lst xs) := by
  cases r with
  | @ref k p hn =>
    simp only [lstAt] at q
    split at q
    · rename_i zs hz
      cases q
      obtain ⟨ys, h1, h2, h3⟩ := a.obj _ _ p hz hn
      exact ⟨p, ys, rfl, ⟨hn, a.live hz (by simp)⟩, h1, h3, h2, hz⟩
    · cases q
  | _ => cases q
def appendM (d : D) (ds : List D) (h : AH) : Res D := match lstAt d h, ds with
  | some (n, xs), [y] => if xs.length < 16777216 then .ok .non (h.set n (.lst (xs ++ [y]))) else .stuck
  | _, _ => .stuck
theorem sim_append : SimM e appendM rAppend := fun E B μ H h d ds v vs Q a r rs o => by
  unfold appendM at o
  split at o
  · rename_i n xs y q
    obtain ⟨p, ys, rfl, hn, hp, r1, z, _⟩ := lst_at a r q
    obtain ⟨w, rfl, rw'⟩ := rel1 rs
    have hl := r1.length
    split at o
    · exact ⟨p, ys, w, rfl, rfl, hp, by rw [sizeLine_eq]; omega, chg_lst a hn o (r1.append (.cons rw' .nil)) (by rw [List.length_append, sizeLine_eq]; simp; omega) .non⟩
    · exact o.elim
  · exact o.elim
def extendM (d : D) (ds : List D) (h : AH) : Res D := match lstAt d h, ds with
  | some (n, xs), [y] => match seqOf y h with
    | some (zs, _) => if isT y h = false ∧ xs.length + zs.length ≤ 16777216 then .ok .non (h.set n (.lst (xs ++ zs))) else .stuck
    | none => .stuck
  | _, _ => .stuck
theorem sim_extend : SimM e extendM rExtend := fun E B μ H h d ds v vs Q a r rs o => by
  unfold extendM at o
  split at o
  · rename_i n xs y q
    obtain ⟨p, ys, rfl, hn, hp, r1, z, _⟩ := lst_at a r q
    obtain ⟨w, rfl, rw'⟩ := rel1 rs
    have hl := r1.length
    split at o
    · rename_i zs gs q2
      split at o
      · rename_i hc
        rcases seq_kind a rw' q2 with ⟨k, _⟩ | ⟨k, p2, us, rfl, s2, r2, z2⟩
        · rw [k] at hc; exact absurd hc.1 (by decide)
        · have hl2 := r2.length
          exact ⟨p, p2, ys, us, rfl, rfl, hp, s2, by rw [sizeLine_eq]; omega, chg_lst a hn o (r1.append r2) (by rw [List.length_append, sizeLine_eq]; omega) .non⟩
      · exact o.elim
    · exact o.elim
  · exact o.elim
def popM (d : D) (ds : List D) (h : AH) : Res D := match lstAt d h, ds with
  | some (n, xs), [] => match xs[xs.length - 1]? with
    | some y => .ok y (h.set n (.lst xs.dropLast))
    | none => .stuck
  | some (n, xs), [.int i] => match seqIndex? i xs.length with
    | some k => match xs[k]? with
      | some y => if -(2 ^ 63) ≤ i ∧ i < 2 ^ 63 then .ok y (h.set n (.lst (xs.eraseIdx k))) else .stuck
      | none => .stuck
    | none => .stuck
  | _, _ => .stuck
theorem RelDs.dropLast : ∀ {xs : List D} {ys : List V}, RelDs e B μ H xs ys → RelDs e B μ H xs.dropLast ys.dropLast
  | _, _, .nil => .nil
  | _, _, .cons r .nil => .nil
  | _, _, .cons r (.cons r' t) => .cons r (RelDs.dropLast (.cons r' t))
theorem mt_popX : MtR X "list.pop" (fun x xs H Q => rPop x xs H Q ∨ rPopAt x xs H Q) := MtR.or mt_pop mt_popAt
theorem sim_pop : SimM e popM (fun x xs H Q => rPop x xs H Q ∨ rPopAt x xs H Q) := fun E B μ H h d ds v vs Q a r rs o => by
  unfold popM at o
  split at o
  · rename_i n xs q
    obtain ⟨p, ys, rfl, hn, hp, r1, z, _⟩ := lst_at a r q
    cases rs
    split at o
    · rename_i y hy
      obtain ⟨w, hw, rw'⟩ := r1.get hy
      refine .inl ⟨p, ys, w, rfl, rfl, hp, by rw [← r1.length]; exact hw, chg_lst a hn o r1.dropLast (by rw [List.length_dropLast]; omega) rw'⟩
    · exact o.elim
  · rename_i n xs i q
    obtain ⟨p, ys, rfl, hn, hp, r1, z, _⟩ := lst_at a r q
    obtain ⟨w, rfl, rw'⟩ := rel1 rs
    cases rw'
    split at o
    · rename_i k hk
      split at o
      · rename_i y hy
        split at o
        · rename_i hi
          obtain ⟨w, hw, rw'⟩ := r1.get hy
          refine .inr ⟨p, ys, i, k, w, rfl, rfl, hp, hi.1, hi.2, by rw [← r1.length]; exact hk, hw, chg_lst a hn o (r1.eraseIdx k) ?_ rw'⟩
          have := len_erase ys k
          omega
        · exact o.elim
      · exact o.elim
    · exact o.elim
  · exact o.elim
def reverseM (d : D) (ds : List D) (h : AH) : Res D := match lstAt d h, ds with
  | some (n, xs), [] => .ok .non (h.set n (.lst xs.reverse))
  | _, _ => .stuck
theorem sim_reverse : SimM e reverseM rReverse := fun E B μ H h d ds v vs Q a r rs o => by
  unfold reverseM at o
  split at o
  · rename_i n xs q
    obtain ⟨p, ys, rfl, hn, hp, r1, z, _⟩ := lst_at a r q
    cases rs
    exact ⟨p, ys, rfl, rfl, hp, chg_lst a hn o r1.reverse (by rw [List.length_reverse]; exact z) .non⟩
  · exact o.elim
def clearM (d : D) (ds : List D) (h : AH) : Res D := match lstAt d h, ds with
  | some (n, xs), [] => .ok .non (h.set n (.lst []))
  | _, _ => .stuck
theorem sim_clear : SimM e clearM rClear := fun E B μ H h d ds v vs Q a r rs o => by
  unfold clearM at o
  split at o
  · rename_i n xs q
    obtain ⟨p, ys, rfl, hn, hp, r1, z, _⟩ := lst_at a r q
    cases rs
    exact ⟨p, ys, rfl, rfl, hp, chg_lst a hn o .nil (Nat.zero_le _) .non⟩
  · exact o.elim
def insertM (d : D) (ds : List D) (h : AH) : Res D := match lstAt d h, ds with
  | some (n, xs), [.int i, y] => if xs.length < 16777216 ∧ 0 ≤ i ∧ i < 2 ^ 63 then .ok .non (h.set n (.lst (xs.take i.toNat ++ [y] ++ xs.drop i.toNat))) else .stuck
  | _, _ => .stuck
theorem sim_insert : SimM e insertM (fun x vs H Q => ∃ (l : Addr) (xs : List V) (i : Int) (y : V), x = .ref l ∧ vs = [.int i, y] ∧ H l = some (.lst xs) ∧ xs.length < sizeLine ∧ 0 ≤ i ∧ i < 2 ^ 63 ∧
    Q .non (upd H l (.lst (xs.take i.toNat ++ [y] ++ xs.drop i.toNat)))) := fun E B μ H h d ds v vs Q a r rs o => by
  unfold insertM at o
  split at o
  · rename_i n xs i y q
    obtain ⟨p, ys, rfl, hn, hp, r1, z, _⟩ := lst_at a r q
    obtain ⟨w, w', rfl, ri, ry⟩ := rel2 rs
    cases ri
    have hl := r1.length
    split at o
    · rename_i hc
      refine ⟨p, ys, i, w', rfl, rfl, hp, by rw [sizeLine_eq]; omega, hc.2.1, hc.2.2, chg_lst a hn o (((r1.take _).append (.cons ry .nil)).append (r1.drop _)) ?_ .non⟩
      rw [List.length_append, List.length_append, List.length_take, List.length_drop, List.length_singleton, sizeLine_eq]
      omega
    · exact o.elim
  · exact o.elim
def removeM (d : D) (ds : List D) (h : AH) : Res D := match lstAt d h, ds with
  | some (n, xs), [.int k] => match intsOf xs with
    | some ns => if ns.idxOf k < ns.length then .ok .non (h.set n (.lst (xs.eraseIdx (ns.idxOf k)))) else .stuck
    | none => .stuck
  | _, _ => .stuck
theorem sim_remove : SimM e removeM rRemI := fun E B μ H h d ds v vs Q a r rs o => by
  unfold removeM at o
  split at o
  · rename_i n xs k q
    obtain ⟨p, ys, rfl, hn, hp, r1, z, _⟩ := lst_at a r q
    obtain ⟨w, rfl, rw'⟩ := rel1 rs
    cases rw'
    split at o
    · rename_i ns hns
      split at o
      · rename_i hc
        have ey := ints_rel hns r1
        subst ey
        refine ⟨p, ns, k, ns.idxOf k, rfl, rfl, hp, ?_, fun m hm hm2 => ?_, ?_⟩
        · rw [List.getElem?_eq_getElem hc, List.getElem_idxOf]
        · have hlt : m < ns.length := (List.getElem?_eq_some_iff.mp hm2).1
          have e1 : ns[m] = k := by rw [List.getElem?_eq_getElem hlt] at hm2; exact Option.some.inj hm2
          have := List.not_of_lt_findIdx (p := (· == k)) (xs := ns) (i := m) (by simpa [List.idxOf] using hm)
          simp [e1] at this
        · rw [← erase_mapI]
          refine chg_lst a hn o (r1.eraseIdx _) ?_ .non
          have := len_erase (ns.map V.int) (ns.idxOf k)
          omega
      · exact o.elim
    · exact o.elim
  · exact o.elim
def countM (d : D) (ds : List D) (h : AH) : Res D := match seqOf d h, ds with
  | some (xs, _), [.int k] => match intsOf xs with
    | some ns => if isT d h = false then .ok (.int (ns.count k : Nat)) h else .stuck
    | none => .stuck
  | _, _ => .stuck
theorem sim_count : SimM e countM (rCntI e.K) := fun E B μ H h d ds v vs Q a r rs o => by
  unfold countM at o
  split at o
  · rename_i xs gs k q
    obtain ⟨w, rfl, rw'⟩ := rel1 rs
    cases rw'
    split at o
    · rename_i ns hns
      split at o
      · rename_i hc
        rcases seq_kind a r q with ⟨k, _⟩ | ⟨k, p, ys, rfl, s1, r1, z1⟩
        · rw [k] at hc; cases hc
        · have ey := ints_rel hns r1
          subst ey
          exact ⟨p, ns, _, rfl, rfl, .inl (.inl s1), o _ μ H .refl a (.int _)⟩
      · exact o.elim
    · exact o.elim
  · exact o.elim
/-! ### index, of data -/
def idxD (zs : List PyData) (x : PyData) : Nat := zs.findIdx fun z => PyData.eqv z x
def indexM (d : D) (ds : List D) (h : AH) : Res D := match ds with
  | [y] => match dataOf h 59 y, dataOf h 60 d with
    | some x, some (.list zs) => if idxD zs x < zs.length then .ok (.int (idxD zs x : Nat)) h else .stuck
    | some x, some (.tuple zs) => if idxD zs x < zs.length then .ok (.int (idxD zs x : Nat)) h else .stuck
    | _, _ => .stuck
  | _ => .stuck
theorem idx_at {zs : List PyData} {x : PyData} (hc : idxD zs x < zs.length) : ∃ z, zs[idxD zs x]? = some z ∧ PyData.eqv z x = true ∧ ∀ (m : Nat) (z' : PyData), m < idxD zs x → zs[m]? = some z' → PyData.eqv z' x = false := by
  refine ⟨zs[idxD zs x], List.getElem?_eq_getElem hc, List.findIdx_getElem (w := hc), fun m z' hm hz => ?_⟩
  have hlt : m < zs.length := (List.getElem?_eq_some_iff.mp hz).1
  have e1 : zs[m] = z' := by rw [List.getElem?_eq_getElem hlt] at hz; exact Option.some.inj hz
  have := List.not_of_lt_findIdx (p := fun z => PyData.eqv z x) (xs := zs) (i := m) hm
  rw [← e1]
  simpa using this
theorem dp_ref {v : V} {x : PyData} {K : PySem.W.Frag} {zs : List PyData} (h : Dp K H v x) (e : x = .list zs ∨ x = .tuple zs) : ∃ p, v = .ref p := by
  cases h with
  | lst _ _ => exact ⟨_, rfl⟩
  | tup _ _ => exact ⟨_, rfl⟩
  | _ => rcases e with e | e <;> cases e
def lindexM (d : D) (ds : List D) (h : AH) : Res D := if tyD h d = some "list" then indexM d ds h else .stuck
theorem sim_lindex : SimM e lindexM (rIndexD e.K) := fun E B μ H h d ds v vs Q a r rs o => by
  unfold lindexM at o
  split at o
  · rename_i ht
    unfold indexM at o
    split at o
    · obtain ⟨w, rfl, rw'⟩ := rel1 rs
      split at o
      · rename_i x zs q1 q2
        split at o
        · rename_i hc
          obtain ⟨z, h1, h2, h3⟩ := idx_at hc
          have dp := dp_of a 60 _ _ _ q2 r
          obtain ⟨p, rfl⟩ := dp_ref dp (.inl rfl)
          exact ⟨p, w, x, zs, idxD zs x, z, rfl, rfl, dp, dp_of a 59 _ _ _ q1 rw', shaped_of a q2 r, shaped_of' 59 (by decide) a q1 rw', h1, h2, h3, o _ μ H .refl a (.int _)⟩
        · exact o.elim
      · rename_i x zs q1 q2
        exfalso
        cases r with
        | tup _ _ _ _ => simp [tyD] at ht
        | tupK _ _ => simp [tyD] at ht
        | lst _ _ _ _ =>
          simp only [dataOf, Option.map_eq_some_iff] at q2
          obtain ⟨_, _, q2⟩ := q2
          cases q2
        | ref _ =>
          simp only [dataOf] at q2
          split at q2
          · rw [Option.map_eq_some_iff] at q2
            obtain ⟨_, _, q2⟩ := q2
            cases q2
          · cases q2
        | _ => first | cases q2 | (simp [dataOf] at q2)
      · exact o.elim
    · exact o.elim
  · exact o.elim
/-- t.index(x): the first place of an equal one -/
def rTIndexD (K : PySem.W.Frag) : V → List V → Hp → VK → Prop := fun x xs H Q => ∃ (a : Addr) (y : V) (d : PyData) (ds : List PyData) (j : Nat) (z : PyData), x = V.ref a ∧ xs = [y] ∧ Dp K H (V.ref a) (.tuple ds) ∧ Dp K H y d ∧
  SeqAt.shaped (.tuple ds) = true ∧ SeqAt.shaped d = true ∧ ds[j]? = some z ∧ PyData.eqv z d = true ∧ (∀ (m : Nat) (z' : PyData), m < j → ds[m]? = some z' → PyData.eqv z' d = false) ∧ Q (.int (j : Nat)) H
theorem mt_tindexD (hu : X.A.units + 65 < cLine) : MtR X "tuple.index" (rTIndexD X.K) := by
  intro pins s σ H x xs v us Q I rx rxs h
  obtain ⟨a, y, d, ds, j, z, rfl, rfl, hl, hy, sl, sd, hz, hzj, hno, q⟩ := h
  cases rx
  obtain ⟨uy, rfl, ry⟩ := rxs.one
  obtain ⟨bs, r1⟩ := Dp.reads I d y uy hy ry
  have hxs : PyData.canLayAll0 ds = true := SeqAt.canLay_of_shaped sl
  have hroom : X.A.units + 1 + min (PyData.depthAll ds) d.depth < cLine := room_in_shaped sd hu
  cases hl with
  | tup hs ha =>
    obtain ⟨its, rv, ⟨⟨cls, dd, data, sls⟩, ho, hc, n, hdt⟩, hlen⟩ := I.tuple hs
    simp only at hc hdt
    subst hc hdt
    obtain ⟨as, h4⟩ := Dp.readsAll I ds _ its ha rv
    have hn : its.length = ds.length := SeqAt.ReadsAll.length ds its as h4
    have hmap : its.map (SeqAt.readOf s.heap) = ds := SeqAt.readsAll_map ds its as hxs h4
    have hvl := rv.length
    have hsl := sizeLine_eq
    obtain ⟨hjd, _⟩ := List.getElem?_eq_some_iff.mp hz
    have hjl : j < its.length := by omega
    have hj : j < its.toArray.size := by simpa using hjl
    have at_ : ∀ (m : Nat) (hm : m < its.toArray.size) (z' : PyData), ds[m]? = some z' → SeqAt.readOf s.heap its.toArray[m] = z' := by
      intro m hm z' hz'
      have hml : m < its.length := by simpa using hm
      rw [← hmap, List.getElem?_map, List.getElem?_eq_getElem hml] at hz'
      have e1 : SeqAt.readOf s.heap its[m] = z' := Option.some.inj (show some (SeqAt.readOf s.heap its[m]) = some z' from hz')
      simpa using e1
    refine call_meets PySem.F.slot_tuple_index ⟨_, ho, rfl⟩ PySem.F.entry_tuple_index (PySem.F.args_tuple_index_2 _ _)
      (TI.tuple_indexAt a its.toArray n dd sls uy (fun u => PyData.eqv (SeqAt.readOf s.heap u) d) j hj ?_ ?_) ⟨ho, SeqAt.items_eqAt (vs := its.toArray) (show ReadsAll s.heap its.toArray.toList ds as from h4) r1 hxs (SeqAt.canLay_of_shaped sd) hroom, ?_⟩
    · show PyData.eqv (SeqAt.readOf s.heap its.toArray[j]) d = true
      rw [at_ j hj z hz]
      exact hzj
    · intro m hm hmj
      have hmd : m < ds.length := by omega
      have hz' : ds[m]? = some ds[m] := List.getElem?_eq_getElem hmd
      show PyData.eqv (SeqAt.readOf s.heap its.toArray[m]) d = false
      rw [at_ m hm _ hz']
      exact hno m _ hmj hz'
    · exact ⟨.int (j : Nat), H, I.tok _, ⟨_, rfl⟩, q⟩
def tindexM (d : D) (ds : List D) (h : AH) : Res D := match d with
  | .tup _ => indexM d ds h
  | _ => .stuck
theorem sim_tindex : SimM e tindexM (rTIndexD e.K) := fun E B μ H h d ds v vs Q a r rs o => by
  unfold tindexM at o
  split at o
  · unfold indexM at o
    split at o
    · obtain ⟨w, rfl, rw'⟩ := rel1 rs
      split at o
      · rename_i q2
        simp only [dataOf, Option.map_eq_some_iff] at q2
        obtain ⟨_, _, q2⟩ := q2
        cases q2
      · rename_i x zs q1 q2
        split at o
        · rename_i hc
          obtain ⟨z, h1, h2, h3⟩ := idx_at hc
          have dp := dp_of a 60 _ _ _ q2 r
          obtain ⟨p, rfl⟩ := dp_ref dp (.inr rfl)
          exact ⟨p, w, x, zs, idxD zs x, z, rfl, rfl, dp, dp_of a 59 _ _ _ q1 rw', shaped_of a q2 r, shaped_of' 59 (by decide) a q1 rw', h1, h2, h3, o _ μ H .refl a (.int _)⟩
        · exact o.elim
      · exact o.elim
    · exact o.elim
  · exact o.elim
end
end G

/-! E13: dicts: what stands in the heap, by both kinds of keys (leaves; tuples). -/
namespace G
open PySem PySem.Spec L2
open PyProof.Rows hiding St
/-! ### the plain lists -/
def leafK : D → Bool
  | .non => true
  | .int _ => true
  | .str _ => true
  | _ => false
def tupKy : D → Bool
  | .tup _ => true
  | _ => false
/-- of one kind, and a key -/
def keyOk (ks : List D) (k : D) : Bool := ((leafK k && ks.all leafK) || (tupKy k && ks.all tupKy)) && (keyOf k).isSome
def dfind : List D → List D → D → Option D
  | k :: ks, v :: vs, q => if keyOf k = keyOf q then some v else dfind ks vs q
  | _, _, _ => none
def dputK : List D → D → List D
  | k :: ks, q => if keyOf k = keyOf q then k :: ks else k :: dputK ks q
  | [], q => [q]
def dputV : List D → List D → D → D → List D
  | k :: ks, v :: vs, q, x => if keyOf k = keyOf q then x :: vs else v :: dputV ks vs q x
  | _, _, _, x => [x]
def ddelK : List D → D → List D
  | k :: ks, q => if keyOf k = keyOf q then ks else k :: ddelK ks q
  | [], _ => []
def ddelV : List D → List D → D → List D
  | k :: ks, v :: vs, q => if keyOf k = keyOf q then vs else v :: ddelV ks vs q
  | _, _, _ => []
/-- the same on what stands in the heap -/
def vfind : List D → List V → D → Option V
  | k :: ks, v :: vs, q => if keyOf k = keyOf q then some v else vfind ks vs q
  | _, _, _ => none
def vputY : List D → List V → D → V → List V
  | k :: ks, y :: ys, q, u => if keyOf k = keyOf q then y :: ys else y :: vputY ks ys q u
  | _, _, _, u => [u]
def vputV : List D → List V → D → V → List V
  | k :: ks, v :: vs, q, x => if keyOf k = keyOf q then x :: vs else v :: vputV ks vs q x
  | _, _, _, x => [x]
def vdel : List D → List V → D → List V
  | k :: ks, v :: vs, q => if keyOf k = keyOf q then vs else v :: vdel ks vs q
  | _, _, _ => []
section
variable {e : En} {B : Bk} {μ : Mu} {H : Hp}
theorem rel_find : ∀ {ks vs : List D} {zs : List V} {q d : D}, RelDs e B μ H vs zs → dfind ks vs q = some d → ∃ z, vfind ks zs q = some z ∧ RelD e B μ H d z
  | [], _, _, _, _, _, h => by unfold dfind at h; cases h
  | _ :: _, _, _, _, _, .nil, h => by unfold dfind at h; cases h
  | k :: ks, _, _, q, d, .cons r t, h => by
    unfold dfind at h
    unfold vfind
    split at h
    · cases h
      rw [if_pos (by assumption)]
      exact ⟨_, rfl, r⟩
    · rw [if_neg (by assumption)]
      exact rel_find t h
theorem rel_miss : ∀ {ks vs : List D} {zs : List V} {q : D}, RelDs e B μ H vs zs → dfind ks vs q = none → vfind ks zs q = none
  | [], _, _, _, _, h => by unfold vfind; rfl
  | _ :: _, _, _, _, .nil, h => by unfold vfind; rfl
  | k :: ks, _, _, q, .cons r t, h => by
    unfold dfind at h
    unfold vfind
    split at h
    · cases h
    · rw [if_neg (by assumption)]
      exact rel_miss t h
theorem rel_putV : ∀ {ks vs : List D} {zs : List V} {q x : D} {z : V}, RelDs e B μ H vs zs → RelD e B μ H x z → RelDs e B μ H (dputV ks vs q x) (vputV ks zs q z)
  | [], _, _, _, _, _, _, r => by unfold dputV vputV; exact .cons r .nil
  | _ :: _, _, _, _, _, _, .nil, r => by unfold dputV vputV; exact .cons r .nil
  | k :: ks, _, _, q, x, z, .cons r0 t, r => by
    unfold dputV vputV
    split
    · exact .cons r t
    · exact .cons r0 (rel_putV t r)
theorem rel_putK : ∀ {ks : List D} {ys : List V} {q : D} {u : V}, RelDs e B μ H ks ys → RelD e B μ H q u → RelDs e B μ H (dputK ks q) (vputY ks ys q u)
  | [], _, _, _, .nil, r => by unfold dputK vputY; exact .cons r .nil
  | k :: ks, _, q, u, .cons r0 t, r => by
    unfold dputK vputY
    split
    · exact .cons r0 t
    · exact .cons r0 (rel_putK t r)
theorem rel_delV : ∀ {ks vs : List D} {zs : List V} {q : D}, RelDs e B μ H vs zs → RelDs e B μ H (ddelV ks vs q) (vdel ks zs q)
  | [], _, _, _, _ => by unfold ddelV vdel; exact .nil
  | _ :: _, _, _, _, .nil => by unfold ddelV vdel; exact .nil
  | k :: ks, _, _, q, .cons r0 t => by
    unfold ddelV vdel
    split
    · exact t
    · exact .cons r0 (rel_delV t)
theorem rel_delK : ∀ {ks : List D} {ys : List V} {q : D}, RelDs e B μ H ks ys → RelDs e B μ H (ddelK ks q) (vdel ks ys q)
  | [], _, _, .nil => by unfold ddelK vdel; exact .nil
  | k :: ks, _, q, .cons r0 t => by
    unfold ddelK vdel
    split
    · exact t
    · exact .cons r0 (rel_delK t)
end
theorem putK_len : ∀ (ks : List D) (q : D), (dputK ks q).length ≤ ks.length + 1
  | [], q => by unfold dputK; simp
  | k :: ks, q => by
    unfold dputK
    split
    · simp
    · simp only [List.length_cons]
      have := putK_len ks q
      omega
theorem delK_len : ∀ (ks : List D) (q : D), (ddelK ks q).length ≤ ks.length
  | [], q => by unfold ddelK; simp
  | k :: ks, q => by
    unfold ddelK
    split
    · simp
    · simp only [List.length_cons]
      have := delK_len ks q
      omega
theorem putK_keys : ∀ (ks : List D) (q : D) (x : Option NestedKey), x ∈ (dputK ks q).map keyOf → x ∈ ks.map keyOf ∨ x = keyOf q
  | [], q, x, h => by unfold dputK at h; simp at h; exact .inr h
  | k :: ks, q, x, h => by
    unfold dputK at h
    split at h
    · exact .inl h
    · rw [List.map_cons, List.mem_cons] at h
      rcases h with h | h
      · exact .inl (by rw [List.map_cons, List.mem_cons]; exact .inl h)
      · rcases putK_keys ks q x h with h | h
        · exact .inl (by rw [List.map_cons, List.mem_cons]; exact .inr h)
        · exact .inr h
theorem putK_nd : ∀ (ks : List D) (q : D), (ks.map keyOf).Nodup → ((dputK ks q).map keyOf).Nodup
  | [], q, _ => by unfold dputK; simp
  | k :: ks, q, h => by
    rw [List.map_cons, List.nodup_cons] at h
    unfold dputK
    split
    · rw [List.map_cons, List.nodup_cons]; exact h
    · rename_i hne
      rw [List.map_cons, List.nodup_cons]
      refine ⟨fun hm => ?_, putK_nd ks q h.2⟩
      rcases putK_keys ks q _ hm with h' | h'
      · exact h.1 h'
      · exact hne h'
theorem delK_sub : ∀ (ks : List D) (q : D), ((ddelK ks q).map keyOf).Sublist (ks.map keyOf)
  | [], q => by unfold ddelK; exact .slnil
  | k :: ks, q => by
    unfold ddelK
    split
    · rw [List.map_cons]; exact .cons _ (.refl _)
    · rw [List.map_cons, List.map_cons]; exact .cons_cons _ (delK_sub ks q)
theorem putK_all {p : D → Bool} : ∀ (ks : List D) (q : D), ks.all p = true → p q = true → (dputK ks q).all p = true
  | [], q, _, h => by unfold dputK; simpa using h
  | k :: ks, q, h, hq => by
    rw [List.all_cons, Bool.and_eq_true] at h
    unfold dputK
    split
    · rw [List.all_cons, Bool.and_eq_true]; exact h
    · rw [List.all_cons, Bool.and_eq_true]; exact ⟨h.1, putK_all ks q h.2 hq⟩
/-! ### leaves -/
def leafOf : D → Leaf
  | .int i => .num i
  | .str x => .text x
  | _ => .none
def vLeaf : D → V
  | .int i => .int i
  | .str x => .str x
  | _ => .non
/-- leaves, no bools -/
def lfKind (prog : Program) (w : World) : KeyKind prog w Leaf where
  is := fun k v => match v with
    | .bool _ => false
    | v => Leaf.isOf k v
  hash := fun k => k.key.hash w
  inj := fun v a b ha hb => by
    cases v with
    | bool _ => cases ha
    | _ => exact (leafKind prog w).inj _ a b ha hb
  byValue := fun k v h => by
    cases v with
    | bool _ => cases h
    | _ => exact (leafKind prog w).byValue k _ h
  pyHash := fun {A E s k v Q} hv h => by
    cases v with
    | bool _ => cases hv
    | _ => exact (leafKind prog w).pyHash hv h
  eqBool := fun {A E s a b u v Q} hu hv h => by
    cases u with
    | bool _ => cases hu
    | _ =>
      cases v with
      | bool _ => cases hv
      | _ => exact (leafKind prog w).eqBool hu hv h
  «strs» := fun k x t v h => by
    have h0 := (leafKind prog w).strs k x t v h
    cases v with
    | bool _ => rfl
    | _ => exact h0
theorem lf_key {k : D} (h : leafK k = true) : keyOf k = some (leafOf k).key := by
  cases k <;> first | rfl | cases h
theorem lf_eq {k q : D} (hk : leafK k = true) (hq : leafK q = true) : leafOf k = leafOf q ↔ keyOf k = keyOf q := by
  rw [lf_key hk, lf_key hq]
  constructor
  · intro h; rw [h]
  · intro h; exact Leaf.key_inj (Option.some.inj h)
theorem lf_is {P : Program} {w : World} {e : En} {B : Bk} {μ : Mu} {H : Hp} {k : D} {y : V} {u : Value} (hk : leafK k = true) (r : RelD e B μ H k y) (ru : RelV y u) : (lfKind P w).is (leafOf k) u = true := by
  cases r with
  | non => cases (show u = Value.none from ru); rfl
  | int i => obtain ⟨t, rfl⟩ := (show ∃ t, u = Value.int i t from ru); exact decide_eq_true rfl
  | str x _ =>
    obtain ⟨t, rfl⟩ := (show ∃ t, u = Value.str x t from ru)
    show Value.isStrOf x (.str x t) = true
    unfold Value.isStrOf
    simp
  | _ => cases hk
theorem lf_rel {P : Program} {w : World} {k : D} {u : Value} (hk : leafK k = true) (h : (lfKind P w).is (leafOf k) u = true) : RelV (vLeaf k) u := by
  cases k with
  | non =>
    cases u with
    | none => rfl
    | _ => cases h
  | int i =>
    cases u with
    | int j t =>
      have e : j = i := of_decide_eq_true h
      subst e
      exact ⟨t, rfl⟩
    | _ => cases h
  | str x =>
    cases u with
    | str z t =>
      obtain ⟨t', q⟩ := Value.isStrOf_shape (show Value.isStrOf x (.str z t) = true from h)
      exact ⟨t', q⟩
    | _ => cases h
  | _ => cases hk
theorem lf_self {e : En} {B : Bk} {μ : Mu} {H : Hp} {k : D} {y : V} (hk : leafK k = true) (r : RelD e B μ H k y) : RelD e B μ H k (vLeaf k) := by
  cases r with
  | non => exact .non
  | int i => exact .int i
  | str x hx => exact .str x hx
  | _ => cases hk
inductive LP : List D → List V → List (Leaf × Value) → Prop
  | nil : LP [] [] []
  | cons {k : D} {z : V} {u : Value} {ks zs kvs} : leafK k = true → RelV z u → LP ks zs kvs → LP (k :: ks) (z :: zs) ((leafOf k, u) :: kvs)
theorem LP.mem {l : Leaf} : ∀ {ks : List D} {zs : List V} {kvs : List (Leaf × Value)}, LP ks zs kvs → l ∈ kvs.map (·.1) → ∃ k ∈ ks, leafK k = true ∧ leafOf k = l
  | _, _, _, .nil, h => by simp at h
  | _, _, _, .cons hk r t, h => by
    rw [List.map_cons, List.mem_cons] at h
    rcases h with h | h
    · exact ⟨_, List.mem_cons_self, hk, h.symm⟩
    · obtain ⟨k, h1, h2⟩ := LP.mem t h
      exact ⟨k, List.mem_cons_of_mem _ h1, h2⟩
theorem LP.nd : ∀ {ks : List D} {zs : List V} {kvs : List (Leaf × Value)}, LP ks zs kvs → (ks.map keyOf).Nodup → (kvs.map (·.1)).Nodup
  | _, _, _, .nil, _ => .nil
  | _, _, _, .cons hk r t, h => by
    rw [List.map_cons, List.nodup_cons] at h ⊢
    refine ⟨fun hm => ?_, LP.nd t h.2⟩
    obtain ⟨k', h1, h2, h3⟩ := LP.mem t hm
    exact h.1 (List.mem_map.mpr ⟨k', h1, (lf_eq h2 hk).mp h3⟩)
theorem LP.len : ∀ {ks : List D} {zs : List V} {kvs : List (Leaf × Value)}, LP ks zs kvs → ks.length = kvs.length
  | _, _, _, .nil => rfl
  | _, _, _, .cons _ _ t => by simp [LP.len t]
theorem LP.find {q : D} (hq : leafK q = true) : ∀ {ks : List D} {zs : List V} {kvs : List (Leaf × Value)}, LP ks zs kvs → RelO (vfind ks zs q) (valueAt kvs (leafOf q))
  | _, _, _, .nil => by unfold vfind; trivial
  | _, _, _, .cons hk r t => by
    unfold vfind
    rw [valueAt_cons]
    split
    · rename_i h
      rw [if_pos ((lf_eq hk hq).mpr h)]
      exact r
    · rename_i h
      rw [if_neg fun z => h ((lf_eq hk hq).mp z)]
      exact LP.find hq t
theorem stored_cons {K : Type} [DecidableEq K] (p : K × Value) (kvs : List (K × Value)) (k : K) (v : Value) (hn : ((p :: kvs).map (·.1)).Nodup) : stored (p :: kvs) k v = if p.1 = k then (p.1, v) :: kvs else p :: stored kvs k v := by
  rw [List.map_cons, List.nodup_cons] at hn
  unfold stored
  by_cases h : p.1 = k
  · simp only [List.any_cons, h, decide_true, Bool.true_or, if_true, List.map_cons]
    congr 1
    refine (List.map_congr_left fun x hx => ?_).trans (List.map_id _)
    rw [if_neg]
    · rfl
    · intro z
      exact hn.1 (List.mem_map.mpr ⟨x, hx, z.trans h.symm⟩)
  · simp only [List.any_cons, h, decide_false, Bool.false_or, if_false, List.map_cons]
    split <;> simp
theorem without_cons {K : Type} [DecidableEq K] (p : K × Value) (kvs : List (K × Value)) (k : K) (hn : ((p :: kvs).map (·.1)).Nodup) : without (p :: kvs) k = if p.1 = k then kvs else p :: without kvs k := by
  rw [List.map_cons, List.nodup_cons] at hn
  by_cases h : p.1 = k
  · rw [if_pos h]
    unfold without
    rw [List.filter_cons, if_neg (by simp [h])]
    exact without_of_not_mem kvs k (h ▸ hn.1)
  · rw [if_neg h]
    unfold without
    rw [List.filter_cons, if_pos (by simp [h])]
theorem LP.put {q : D} {z : V} {u : Value} (hq : leafK q = true) (rz : RelV z u) : ∀ {ks : List D} {zs : List V} {kvs : List (Leaf × Value)}, LP ks zs kvs → (kvs.map (·.1)).Nodup → LP (dputK ks q) (vputV ks zs q z) (stored kvs (leafOf q) u)
  | _, _, _, .nil, _ => by unfold dputK vputV; exact .cons hq rz .nil
  | _, _, _, .cons hk r t, hn => by
    rw [stored_cons _ _ _ _ hn]
    unfold dputK vputV
    split
    · rename_i h
      rw [if_pos ((lf_eq hk hq).mpr h)]
      exact .cons hk rz t
    · rename_i h
      rw [if_neg fun z => h ((lf_eq hk hq).mp z)]
      rw [List.map_cons, List.nodup_cons] at hn
      exact .cons hk r (LP.put hq rz t hn.2)
theorem LP.del {q : D} (hq : leafK q = true) : ∀ {ks : List D} {zs : List V} {kvs : List (Leaf × Value)}, LP ks zs kvs → (kvs.map (·.1)).Nodup → LP (ddelK ks q) (vdel ks zs q) (without kvs (leafOf q))
  | _, _, _, .nil, _ => by unfold ddelK vdel; exact .nil
  | _, _, _, .cons hk r t, hn => by
    rw [without_cons _ _ _ hn]
    unfold ddelK vdel
    split
    · rename_i h
      rw [if_pos ((lf_eq hk hq).mpr h)]
      exact t
    · rename_i h
      rw [if_neg fun z => h ((lf_eq hk hq).mp z)]
      rw [List.map_cons, List.nodup_cons] at hn
      exact .cons hk r (LP.del hq t hn.2)
section
variable {e : En} {B : Bk} {μ : Mu} {H : Hp} {P : Program}
theorem toLP : ∀ {ks : List D} {ys zs : List V} {es : List DictEntry}, EnV e.w ks ys zs es → RelDs e B μ H ks ys → ks.all leafK = true →
    ∃ kvs, LP ks zs kvs ∧ Pairs (lfKind P e.w) es kvs ∧ ∀ en ∈ es, ∃ l, (lfKind P e.w).is l en.key = true ∧ en.hash = (lfKind P e.w).hash l
  | _, _, _, _, .nil, _, _ => ⟨[], .nil, .nil, fun _ h => by simp at h⟩
  | _, _, _, _, .cons (k := k) (en := en) r1 r2 hk hh t, .cons rk rt, ha => by
    rw [List.all_cons, Bool.and_eq_true] at ha
    obtain ⟨kvs, h1, h2, h3⟩ := toLP t rt ha.2
    have his := lf_is (P := P) (w := e.w) ha.1 rk r1
    refine ⟨(leafOf k, en.val) :: kvs, .cons ha.1 r2 h1, .cons his rfl h2, fun x hx => ?_⟩
    rcases List.mem_cons.mp hx with hx | hx
    · subst hx
      refine ⟨leafOf k, his, ?_⟩
      rw [lf_key ha.1] at hk
      cases hk
      exact hh
    · exact h3 x hx
theorem ofLP : ∀ {ks : List D} {zs : List V} {kvs : List (Leaf × Value)} {es : List DictEntry}, LP ks zs kvs → Pairs (lfKind P e.w) es kvs → (∀ en ∈ es, ∃ l, (lfKind P e.w).is l en.key = true ∧ en.hash = (lfKind P e.w).hash l) → EnV e.w ks (ks.map vLeaf) zs es
  | _, _, _, _, .nil, .nil, _ => .nil
  | _, _, _, _, .cons hk r t, .cons h1 h2 t2, ha => by
    obtain ⟨l, i1, i2⟩ := ha _ List.mem_cons_self
    have el := (lfKind P e.w).inj _ _ _ i1 h1
    simp only at el
    refine .cons (lf_rel hk h1) (by rw [h2]; exact r) (lf_key hk) (by rw [i2, el]; rfl) (ofLP t t2 fun x hx => ha x (List.mem_cons_of_mem _ hx))
theorem lf_selfs : ∀ {ks : List D} {ys : List V}, ks.all leafK = true → RelDs e B μ H ks ys → RelDs e B μ H ks (ks.map vLeaf)
  | _, _, _, .nil => .nil
  | _, _, h, .cons r t => by
    rw [List.all_cons, Bool.and_eq_true] at h
    exact .cons (lf_self h.1 r) (lf_selfs h.2 t)
end
/-! ### tuples -/
inductive TP : List D → List V → List V → List (NestedKey × Addr × Value) → Prop
  | nil : TP [] [] [] []
  | cons {k : D} {z : V} {u : Value} {nk : NestedKey} {a : Addr} {ks ys zs xs} : keyOf k = some nk → RelV z u → TP ks ys zs xs → TP (k :: ks) (.ref a :: ys) (z :: zs) ((nk, a, u) :: xs)
theorem TP.len : ∀ {ks : List D} {ys zs : List V} {kvs : List (NestedKey × Addr × Value)}, TP ks ys zs kvs → ks.length = kvs.length
  | _, _, _, _, .nil => rfl
  | _, _, _, _, .cons _ _ t => by simp [TP.len t]
theorem TP.keys : ∀ {ks : List D} {ys zs : List V} {xs : List (NestedKey × Addr × Value)}, TP ks ys zs xs → ks.map keyOf = xs.map fun x => some x.1
  | _, _, _, _, .nil => rfl
  | _, _, _, _, .cons h _ t => by rw [List.map_cons, List.map_cons, h, TP.keys t]
theorem TP.nd {ks : List D} {ys zs : List V} {xs : List (NestedKey × Addr × Value)} (t : TP ks ys zs xs) (h : (ks.map keyOf).Nodup) : (xs.map (·.1)).Nodup := by
  rw [t.keys] at h
  have : (xs.map fun x => some x.1) = (xs.map (·.1)).map some := by rw [List.map_map]; rfl
  rw [this] at h
  exact (List.Pairwise.of_map some (fun a b hab z => hab (by rw [z])) h)
theorem atKey_cons {K : Type} [DecidableEq K] (p : K × Addr × Value) (xs : List (K × Addr × Value)) (k : K) : atKey (p :: xs) k = if p.1 = k then some p.2 else atKey xs k := by
  unfold atKey
  rw [List.find?_cons]
  by_cases h : p.1 = k
  · simp [h]
  · simp [h]
theorem TP.find {q : D} {nq : NestedKey} (hq : keyOf q = some nq) : ∀ {ks : List D} {ys zs : List V} {xs : List (NestedKey × Addr × Value)}, TP ks ys zs xs → RelO (vfind ks zs q) ((atKey xs nq).map (·.2))
  | _, _, _, _, .nil => by unfold vfind; trivial
  | _, _, _, _, .cons hk r t => by
    unfold vfind
    rw [atKey_cons]
    split
    · rename_i h
      rw [hk, hq] at h
      rw [if_pos (Option.some.inj h)]
      exact r
    · rename_i h
      rw [if_neg fun z => h (by rw [hk, hq]; exact congrArg some z)]
      exact TP.find hq t
theorem storedH_cons {K : Type} [DecidableEq K] (p : K × Addr × Value) (xs : List (K × Addr × Value)) (k : K) (a : Addr) (v : Value) (hn : ((p :: xs).map (·.1)).Nodup) : storedH (p :: xs) k a v = if p.1 = k then (p.1, p.2.1, v) :: xs else p :: storedH xs k a v := by
  rw [List.map_cons, List.nodup_cons] at hn
  by_cases h : p.1 = k
  · rw [if_pos h]
    unfold storedH
    rw [if_pos (by rw [atKey_cons, if_pos h]; rfl), List.map_cons, map_putAt_of_not_mem xs k v (h ▸ hn.1), putAt, if_pos h]
  · rw [if_neg h]
    unfold storedH
    rw [atKey_cons, if_neg h]
    split
    · rw [List.map_cons, putAt, if_neg h]
    · rfl
theorem withoutH_cons {K : Type} [DecidableEq K] (p : K × Addr × Value) (xs : List (K × Addr × Value)) (k : K) (hn : ((p :: xs).map (·.1)).Nodup) : withoutH (p :: xs) k = if p.1 = k then xs else p :: withoutH xs k := by
  rw [List.map_cons, List.nodup_cons] at hn
  by_cases h : p.1 = k
  · rw [if_pos h]
    unfold withoutH
    rw [List.filter_cons, if_neg (by simp [h])]
    exact withoutH_of_not_mem xs k (h ▸ hn.1)
  · rw [if_neg h]
    unfold withoutH
    rw [List.filter_cons, if_pos (by simp [h])]
theorem TP.put {q : D} {nq : NestedKey} {a : Addr} {z : V} {u : Value} (hq : keyOf q = some nq) (rz : RelV z u) : ∀ {ks : List D} {ys zs : List V} {xs : List (NestedKey × Addr × Value)}, TP ks ys zs xs → (xs.map (·.1)).Nodup →
    TP (dputK ks q) (vputY ks ys q (.ref a)) (vputV ks zs q z) (storedH xs nq a u)
  | _, _, _, _, .nil, _ => by unfold dputK vputY vputV; exact .cons hq rz .nil
  | _, _, _, _, .cons hk r t, hn => by
    rw [storedH_cons _ _ _ _ _ hn]
    unfold dputK vputY vputV
    split
    · rename_i h
      rw [hk, hq] at h
      rw [if_pos (Option.some.inj h)]
      exact .cons hk rz t
    · rename_i h
      rw [if_neg fun z => h (by rw [hk, hq]; exact congrArg some z)]
      rw [List.map_cons, List.nodup_cons] at hn
      exact .cons hk r (TP.put hq rz t hn.2)
theorem TP.del {q : D} {nq : NestedKey} (hq : keyOf q = some nq) : ∀ {ks : List D} {ys zs : List V} {xs : List (NestedKey × Addr × Value)}, TP ks ys zs xs → (xs.map (·.1)).Nodup →
    TP (ddelK ks q) (vdel ks ys q) (vdel ks zs q) (withoutH xs nq)
  | _, _, _, _, .nil, _ => by unfold ddelK vdel; exact .nil
  | _, _, _, _, .cons hk r t, hn => by
    rw [withoutH_cons _ _ _ hn]
    unfold ddelK vdel
    split
    · rename_i h
      rw [hk, hq] at h
      rw [if_pos (Option.some.inj h)]
      exact t
    · rename_i h
      rw [if_neg fun z => h (by rw [hk, hq]; exact congrArg some z)]
      rw [List.map_cons, List.nodup_cons] at hn
      exact .cons hk r (TP.del hq t hn.2)
section
variable {e : En} {B : Bk} {μ : Mu} {H : Hp} {P : Program}
theorem toTP_cons {k : D} {y z : V} {nk : NestedKey} {en : DictEntry} {ks : List D} {ys zs : List V} {xs : List (NestedKey × Addr × Value)} {a : Addr} (r2 : RelV z en.val) (hk : keyOf k = some nk) (hh : en.hash = nk.hash e.w) (h1 : TP ks ys zs xs) (ey : y = V.ref a) (r1 : RelV y en.key) :
    ∃ xs', TP (k :: ks) (y :: ys) (z :: zs) xs' ∧ en :: xs.map (entryOfKey (nestedKind P e.w)) = xs'.map (entryOfKey (nestedKind P e.w)) := by
  subst ey
  refine ⟨(nk, a, en.val) :: xs, .cons hk r2 h1, ?_⟩
  rw [List.map_cons]
  congr 1
  obtain ⟨hs, ky, vl⟩ := en
  cases (show ky = Value.ref a from r1)
  show (⟨hs, .ref a, vl⟩ : DictEntry) = ⟨nk.hash e.w, .ref a, vl⟩
  rw [show hs = nk.hash e.w from hh]
theorem toTP : ∀ {ks : List D} {ys zs : List V} {es : List DictEntry}, EnV e.w ks ys zs es → RelDs e B μ H ks ys → ks.all tupKy = true →
    ∃ xs, TP ks ys zs xs ∧ es = xs.map (entryOfKey (nestedKind P e.w))
  | _, _, _, _, .nil, _, _ => ⟨[], .nil, rfl⟩
  | _, _, _, _, .cons r1 r2 hk hh t, .cons rk rt, ha => by
    rw [List.all_cons, Bool.and_eq_true] at ha
    obtain ⟨xs, h1, h2⟩ := toTP t rt ha.2
    subst h2
    cases rk with
    | tup => exact toTP_cons r2 hk hh h1 rfl r1
    | tupK => exact toTP_cons r2 hk hh h1 rfl r1
    | _ => cases ha.1
theorem ofTP : ∀ {ks : List D} {ys zs : List V} {xs : List (NestedKey × Addr × Value)}, TP ks ys zs xs → EnV e.w ks ys zs (xs.map (entryOfKey (nestedKind P e.w)))
  | _, _, _, _, .nil => .nil
  | _, _, _, _, .cons hk r t => .cons rfl r hk rfl (ofTP t)
end
/-! ### a tracked key is a key of the heap -/
theorem nk_depth : ∀ (n : Nat) (d : D) (nk : NestedKey), keyOfF n d = some nk → nk.depth ≤ n
  | 0, d, nk, h => by cases h
  | n + 1, d, nk, h => by
    unfold keyOfF at h
    cases d with
    | non => cases h; simp [NestedKey.depth]
    | bl b => cases h; simp [NestedKey.depth]
    | int i => cases h; simp [NestedKey.depth]
    | str x => cases h; simp [NestedKey.depth]
    | tup xs =>
      simp only [Option.map_eq_some_iff] at h
      obtain ⟨ks, h, rfl⟩ := h
      have all : ∀ (xs : List D) (ks : List NestedKey), xs.mapM (keyOfF n) = some ks → NestedKey.depthAll ks ≤ n := by
        intro xs
        induction xs with
        | nil => intro ks h; simp at h; subst h; simp [NestedKey.depthAll]
        | cons x xs ih =>
          intro ks h
          rw [List.mapM_cons] at h
          cases h1 : keyOfF n x with
          | none => rw [h1] at h; cases h
          | some k =>
            rw [h1] at h
            cases h2 : xs.mapM (keyOfF n) with
            | none => rw [h2] at h; cases h
            | some ks' =>
              rw [h2] at h
              cases h
              have d1 := nk_depth n x k h1
              have d2 := ih ks' h2
              simp only [NestedKey.depthAll]; omega
      have h1 := all xs ks h
      simp only [NestedKey.depth]
      omega
    | _ => cases h
section
variable {X : Cx} {pins : List (Addr × Obj)} {σ : L2.St} {H : Hp} {s : Shared} {B : Bk} {μ : Mu}
theorem nis_of (I : Inv X pins σ H s) : ∀ (n : Nat) (d : D) (v : V) (u : Value) (nk : NestedKey), keyOfF n d = some nk → RelD X.en B μ H d v → RelV v u → NestedIs s.heap nk u
  | 0, d, v, u, nk, h, _, _ => by cases h
  | n + 1, d, v, u, nk, h, r, ru => by
    have ih := nis_of I n
    have all : ∀ (xs : List D) (ys : List V) (us : List Value) (ks : List NestedKey), xs.mapM (keyOfF n) = some ks → RelDs X.en B μ H xs ys → Vals ys us → NestedAll s.heap ks us := by
      intro xs
      induction xs with
      | nil => intro ys us ks h r rv; simp at h; subst h; cases r; cases rv; exact .nil
      | cons x xs ihx =>
        intro ys us ks h r rv
        cases r with
        | cons r rs =>
          cases rv with
          | cons rv rvs =>
            rw [List.mapM_cons] at h
            cases h1 : keyOfF n x with
            | none => rw [h1] at h; cases h
            | some k =>
              rw [h1] at h
              cases h2 : xs.mapM (keyOfF n) with
              | none => rw [h2] at h; cases h
              | some ks' =>
                rw [h2] at h
                cases h
                exact .cons (ih x _ _ k h1 r rv) (ihx _ _ _ h2 rs rvs)
    unfold keyOfF at h
    have tup : ∀ {xs : List D} {ys : List V} {a : Addr} {ks : List NestedKey}, SqT X.K H a ys → RelDs X.en B μ H xs ys → xs.mapM (keyOfF n) = some ks → NestedIs s.heap (.tup ks) (.ref a) := fun hs rs h => by
      obtain ⟨its, rv, ⟨o, h1, h2, m, h3⟩, _⟩ := I.tuple hs
      exact .tup h1 h2 h3 (by simpa using all _ _ _ _ h rs rv)
    cases r with
    | non => cases h; cases (show u = Value.none from ru); exact .none
    | bl b => cases h; cases (show u = Value.bool b from ru); exact .bool rfl
    | int i => cases h; obtain ⟨t, rfl⟩ := (show ∃ t, u = Value.int i t from ru); exact .int i t
    | str x _ => cases h; obtain ⟨t, rfl⟩ := (show ∃ t, u = Value.str x t from ru); exact .text x t
    | tup hr pu z rs =>
      cases ru
      simp only [Option.map_eq_some_iff] at h
      obtain ⟨ks, h, rfl⟩ := h
      exact tup (.inl hr.rd) rs h
    | tupK k rs =>
      cases ru
      simp only [Option.map_eq_some_iff] at h
      obtain ⟨ks, h, rfl⟩ := h
      exact tup (.inr k.k) rs h
    | _ => cases h
theorem nkind_of (I : Inv X pins σ H s) {d : D} {a : Addr} {nk : NestedKey} (h : keyOf d = some nk) (r : RelD X.en B μ H d (.ref a)) : (nestedKind X.prog X.w).is s.heap nk a :=
  ⟨nis_of I 8 d (.ref a) (.ref a) nk h r rfl, nk_depth 8 d nk h⟩
/-- a dict's heap: leaves -/
theorem dict_L (I : Inv X pins σ H s) {a : Addr} {ks : List D} {ys zs : List V} {es : Array DictEntry} (t : DAt X.w H a ks ys zs es) (r : RelDs X.en B μ H ks ys) (ha : ks.all leafK = true) :
    ∃ kvs, LP ks zs kvs ∧ s.heap.DictOf (lfKind X.prog X.w) a kvs ∧ kvs.length ≤ sizeLine := by
  obtain ⟨kvs, h1, h2, h3⟩ := toLP (e := X.en) (P := X.prog) t.ens r ha
  obtain ⟨ep, ta⟩ := t.at'
  obtain ⟨⟨o, g1, g2, g3⟩, _⟩ := (show ObjOk X.prog X.w H s.heap a (dHO a es ep) from I.hok a _ ta)
  refine ⟨kvs, h1, ⟨o, es, ep, g1, g2, g3, fun en hen => h3 en (by simpa using hen), h2, h1.nd t.nd⟩, ?_⟩
  have := h2.length
  rw [← this]
  simpa using t.size
theorem dict_T (I : Inv X pins σ H s) {a : Addr} {ks : List D} {ys zs : List V} {es : Array DictEntry} (t : DAt X.w H a ks ys zs es) (r : RelDs X.en B μ H ks ys) (ha : ks.all tupKy = true) :
    ∃ xs, TP ks ys zs xs ∧ s.heap.DictOfH (nestedKind X.prog X.w) a xs ∧ xs.length ≤ sizeLine := by
  obtain ⟨xs, h1, h2⟩ := toTP (e := X.en) (P := X.prog) t.ens r ha
  obtain ⟨ep, ta⟩ := t.at'
  obtain ⟨⟨o, g1, g2, g3⟩, _⟩ := (show ObjOk X.prog X.w H s.heap a (dHO a es ep) from I.hok a _ ta)
  have his : ∀ {ks : List D} {ys zs : List V} {xs : List (NestedKey × Addr × Value)}, TP ks ys zs xs → RelDs X.en B μ H ks ys → ∀ x ∈ xs, (nestedKind X.prog X.w).is s.heap x.1 x.2.1 := by
    intro ks ys zs xs tp
    induction tp with
    | nil => intro _ x hx; simp at hx
    | cons hk rz _ ih =>
      intro r x hx
      cases r with
      | cons rk rt =>
        rcases List.mem_cons.mp hx with hx | hx
        · subst hx; exact nkind_of I hk rk
        · exact ih rt x hx
  refine ⟨xs, h1, ⟨o, es, ep, g1, g2, g3, h2, his h1 r, h1.nd t.nd⟩, ?_⟩
  have : es.toList.length = xs.length := by rw [h2, List.length_map]
  rw [← this]
  simpa using t.size
end
end G

/-! E14: dicts: d[k], k in d, d[k] = v, get, setdefault, pop. -/
namespace G
open PySem PySem.Spec L2
open PyProof.Rows hiding St
theorem keyOk_cases {ks : List D} {k : D} (h : keyOk ks k = true) : ((leafK k = true ∧ ks.all leafK = true) ∨ (tupKy k = true ∧ ks.all tupKy = true)) ∧ ∃ nk, keyOf k = some nk := by
  unfold keyOk at h
  rw [Bool.and_eq_true, Bool.or_eq_true, Bool.and_eq_true, Bool.and_eq_true] at h
  exact ⟨h.1, Option.isSome_iff_exists.mp h.2⟩
theorem tail_of {prog : Program} {w : World} {A : Around} {E : Value → Shared → Prop} {s : Shared} {value slice : Expr} {T id : String} {o i : Value} {Q : Value → Shared → Prop}
    (hl : typeLookup (.type T) "__getitem__" = pure (some (.builtin id))) (hs : subscripted slice false o i = operate [o, i] (getItem o i)) (hT : s.TypeIs o T)
    (h : wpAny (model prog w) A (getItem o i) Q E s) : wpAny (model prog w) A (subscriptTail value slice o i) Q E s := by
  unfold subscriptTail
  refine wpAny_bind ?_
  rw [getitemInPython_of_ne hT.not_modules]
  refine wpAny_bind (wpAny_specialOf hT hl ?_)
  have fin : wpAny (model prog w) A (subscripted slice false o i) (fun r s₃ => wpAny (model prog w) A (letTemporaryGo value o r >>= fun _ => pure r) Q E s₃) E s := by
    rw [hs]
    exact wpAny_operating (wpAny_mono h (fun r s₃ h₃ => wpAny_bind (wpAny_letTemporaryGo (wpAny_pure h₃))) fun _ _ x => x)
  first
    | exact wpAny_pure (wpAny_bind fin)
    | exact wpAny_bind (wpAny_pure (wpAny_bind fin))
    | exact wpAny_bind fin
/-- a dict and a key, in the heap -/
structure DR (e : En) (B : Bk) (μ : Mu) (H : Hp) (a : Addr) (ks : List D) (ys zs : List V) (es : Array DictEntry) (k : D) (y : V) : Prop where
  at' : DAt e.w H a ks ys zs es
  rks : RelDs e B μ H ks ys
  rk : RelD e B μ H k y
  ok : keyOk ks k = true
/-- the dict behind a store -/
def DNew (e : En) (B : Bk) (μ : Mu) (H : Hp) (a : Addr) (ks : List D) (zs : List V) (Q : Hp → Prop) : Prop :=
  ∀ es ep ys, DAt e.w (upd H a (dHO a es ep)) a ks ys zs es → RelDs e B μ H ks ys → Q (upd H a (dHO a es ep))
theorem typeIs_D {X : Cx} {pins : List (Addr × Obj)} {σ : L2.St} {H : Hp} {s : Shared} {w : World} {a : Addr} {ks : List D} {ys zs : List V} {es : Array DictEntry} (I : Inv X pins σ H s) (t : DAt w H a ks ys zs es) : s.TypeIs (.ref a) "dict" := by
  obtain ⟨ep, ta⟩ := t.at'
  obtain ⟨⟨o, h1, h2, _⟩, _⟩ := (show ObjOk X.prog X.w H s.heap a (dHO a es ep) from I.hok a _ ta)
  exact ⟨o, h1, h2.1⟩
theorem dHO_ok {P : Program} {w : World} {H : Hp} {h : Heap} {a : Addr} {o : Obj} {es : Array DictEntry} {ep : Nat} (h1 : h.get? a = some o) (h2 : o.ExactDict) (h3 : o.data = .dict es ep) : ObjOk P w H h a (dHO a es ep) :=
  ⟨⟨o, h1, h2, h3⟩, ⟨o, h1⟩, fun g1 g2 ⟨o, e1, e2, e3⟩ k => ⟨o, k o e1, e2, e3⟩⟩
section
variable {X : Cx} {pins : List (Addr × Obj)} {σ : L2.St} {H : Hp} {s : Shared} {B : Bk} {μ : Mu} {a : Addr} {ks : List D} {ys zs : List V} {es : Array DictEntry} {k : D} {y z : V} {u r : Value} {A : Around} {E : Value → Shared → Prop}
theorem key_ref (h : tupKy k = true) (rk : RelD X.en B μ H k y) (ru : RelV y u) : ∃ b, y = .ref b ∧ u = .ref b := by
  cases rk with
  | tup => cases ru; exact ⟨_, rfl, rfl⟩
  | tupK => cases ru; exact ⟨_, rfl, rfl⟩
  | _ => cases h
theorem roomN (hu : A.units + 10 < cLine) : (nestedKind X.prog X.w).room A.in1 := by show A.units + 1 + 8 < cLine; omega
theorem dw_get {Q : Value → Shared → Prop} (hu : A.units + 10 < cLine) (I : Inv X pins σ H s) (d : DR X.en B μ H a ks ys zs es k y) (ru : RelV y u) (hz : vfind ks zs k = some z) (h : ∀ w' s', Inv X pins σ H s' → RelV z w' → Q w' s') :
    wpAny (model X.prog X.w) A (getItem (.ref a) u) Q E s := by
  obtain ⟨hc, nk, hk⟩ := keyOk_cases d.ok
  rcases hc with ⟨c1, c2⟩ | ⟨c1, c2⟩
  · obtain ⟨kvs, lp, dd, hsz⟩ := dict_L I d.at' d.rks c2
    obtain ⟨w', hw, rw'⟩ := RelO.some_of (v := z) (o := valueAt kvs (leafOf k)) (by rw [← hz]; exact lp.find c1)
    exact wpAny_getItem_of (lf_is c1 d.rk ru) dd.mapOf hw (h w' _ (I.tok _) rw')
  · obtain ⟨b, rfl, rfl⟩ := key_ref c1 d.rk ru
    obtain ⟨xs, tp, dd, hsz⟩ := dict_T I d.at' d.rks c2
    obtain ⟨w', hw, rw'⟩ := RelO.some_of (v := z) (o := (atKey xs nk).map (·.2)) (by rw [← hz]; exact tp.find hk)
    obtain ⟨p, hp, hp2⟩ := Option.map_eq_some_iff.mp hw
    refine wpAny_getItem_heap (roomN hu) (nkind_of I hk d.rk) dd hp ?_
    rw [hp2]
    exact h w' _ (I.tok _) rw'
theorem dw_in {Q : Value → Shared → Prop} (hu : A.units + 10 < cLine) (I : Inv X pins σ H s) (d : DR X.en B μ H a ks ys zs es k y) (ru : RelV y u) (h : ∀ s', Inv X pins σ H s' → Q (.bool (vfind ks zs k).isSome) s') :
    wpAny (model X.prog X.w) A (compareOp .In u (.ref a)) Q E s := by
  obtain ⟨hc, nk, hk⟩ := keyOk_cases d.ok
  rcases hc with ⟨c1, c2⟩ | ⟨c1, c2⟩
  · obtain ⟨kvs, lp, dd, hsz⟩ := dict_L I d.at' d.rks c2
    refine wpAny_in_of (lf_is c1 d.rk ru) d.at'.sys dd.mapOf ?_
    rw [← (lp.find c1).isSome_eq]
    exact h _ (I.tok _)
  · obtain ⟨b, rfl, rfl⟩ := key_ref c1 d.rk ru
    obtain ⟨xs, tp, dd, hsz⟩ := dict_T I d.at' d.rks c2
    refine wpAny_in_heap (roomN hu) (nkind_of I hk d.rk) d.at'.sys dd ?_
    have q := (tp.find hk).isSome_eq
    rw [Option.isSome_map] at q
    rw [← q]
    exact h _ (I.tok _)
theorem dw_notIn {Q : Value → Shared → Prop} (hu : A.units + 10 < cLine) (I : Inv X pins σ H s) (d : DR X.en B μ H a ks ys zs es k y) (ru : RelV y u) (h : ∀ s', Inv X pins σ H s' → Q (.bool (!(vfind ks zs k).isSome)) s') :
    wpAny (model X.prog X.w) A (compareOp .NotIn u (.ref a)) Q E s := by
  obtain ⟨hc, nk, hk⟩ := keyOk_cases d.ok
  rcases hc with ⟨c1, c2⟩ | ⟨c1, c2⟩
  · obtain ⟨kvs, lp, dd, hsz⟩ := dict_L I d.at' d.rks c2
    refine wpAny_notIn_of (lf_is c1 d.rk ru) d.at'.sys dd.mapOf ?_
    rw [← (lp.find c1).isSome_eq]
    exact h _ (I.tok _)
  · obtain ⟨b, rfl, rfl⟩ := key_ref c1 d.rk ru
    obtain ⟨xs, tp, dd, hsz⟩ := dict_T I d.at' d.rks c2
    refine wpAny_notIn_heap (roomN hu) (nkind_of I hk d.rk) d.at'.sys dd ?_
    have q := (tp.find hk).isSome_eq
    rw [Option.isSome_map] at q
    rw [← q]
    exact h _ (I.tok _)
theorem newL_dict {Q : Hp → Prop} {ks' : List D} {zs' : List V} {kvs' : List (Leaf × Value)} {h' : Heap} {t' : Nat} (I : Inv X pins σ H s) (t : DAt X.w H a ks ys zs es) (lp : LP ks' zs' kvs') (dd : h'.DictOf (lfKind X.prog X.w) a kvs') (hs : Heap.SameBut a s.heap h') (hl : kvs'.length ≤ sizeLine) (nd : (ks'.map keyOf).Nodup)
    (rks : RelDs X.en B μ H ks' (ks'.map vLeaf)) (q : DNew X.en B μ H a ks' zs' Q) : ∃ H', Inv X pins σ H' { s with heap := h', toks := t' } ∧ Q H' := by
  obtain ⟨o, es', ep, h1, h2, h3, h4, h5, h6⟩ := dd
  have e1 := h5.length
  obtain ⟨ep0, ta⟩ := t.at'
  refine ⟨upd H a (dHO a es' ep), d_write I (by rw [ta]; exact trivial) hs ⟨o, h1⟩ (dHO_ok h1 h2 h3), q es' ep _ ⟨⟨ep, upd_same⟩, by rw [← e1] at hl; simpa using hl, t.sys, ofLP (e := X.en) (P := X.prog) lp h5 fun en hen => h4 en (by simpa using hen), nd⟩ rks⟩
theorem newT_dict {Q : Hp → Prop} {ks' : List D} {ys' zs' : List V} {xs' : List (NestedKey × Addr × Value)} {h' : Heap} {t' : Nat} (I : Inv X pins σ H s) (t : DAt X.w H a ks ys zs es) (tp : TP ks' ys' zs' xs') (dd : h'.DictOfH (nestedKind X.prog X.w) a xs') (hs : Heap.SameBut a s.heap h') (hl : xs'.length ≤ sizeLine) (nd : (ks'.map keyOf).Nodup)
    (rks : RelDs X.en B μ H ks' ys') (q : DNew X.en B μ H a ks' zs' Q) : ∃ H', Inv X pins σ H' { s with heap := h', toks := t' } ∧ Q H' := by
  obtain ⟨o, es', ep, h1, h2, h3, h4, h5, h6⟩ := dd
  obtain ⟨ep0, ta⟩ := t.at'
  refine ⟨upd H a (dHO a es' ep), d_write I (by rw [ta]; exact trivial) hs ⟨o, h1⟩ (dHO_ok h1 h2 h3), q es' ep _ ⟨⟨ep, upd_same⟩, ?_, t.sys, by rw [h4]; exact ofTP (e := X.en) (P := X.prog) tp, nd⟩ rks⟩
  have : es'.toList.length = xs'.length := by rw [h4, List.length_map]
  rw [← this] at hl
  simpa using hl
theorem dw_set {Q : Unit → Shared → Prop} {R : Hp → Prop} (hu : A.units + 10 < cLine) (I : Inv X pins σ H s) (d : DR X.en B μ H a ks ys zs es k y) (ru : RelV y u) (rz : RelV z r) (hl : ks.length < sizeLine) (q : DNew X.en B μ H a (dputK ks k) (vputV ks zs k z) R) (h : ∀ H' s', Inv X pins σ H' s' → R H' → Q () s') :
    wpAny (model X.prog X.w) A (setItem (.ref a) u r) Q E s := by
  obtain ⟨hc, nk, hk⟩ := keyOk_cases d.ok
  have nd' := putK_nd ks k d.at'.nd
  have pl := putK_len ks k
  rcases hc with ⟨c1, c2⟩ | ⟨c1, c2⟩
  · obtain ⟨kvs, lp, dd, hsz⟩ := dict_L I d.at' d.rks c2
    refine wpAny_setItem_pairs (hsz := hsz) (lf_is c1 d.rk ru) dd fun h' dd' hs => ?_
    have lp' := lp.put c1 rz (lp.nd d.at'.nd)
    have e1 := lp'.len
    obtain ⟨H', J, qq⟩ := newL_dict (t' := s.toks + 1) I d.at' lp' dd' hs (by omega) nd' (lf_selfs (putK_all ks k c2 c1) (rel_putK d.rks d.rk)) q
    exact h H' _ J qq
  · obtain ⟨b, rfl, rfl⟩ := key_ref c1 d.rk ru
    obtain ⟨xs, tp, dd, hsz⟩ := dict_T I d.at' d.rks c2
    refine wpAny_setItem_heap (hsz := hsz) (roomN hu) (nkind_of I hk d.rk) dd fun h' dd' hs => ?_
    have tp' := tp.put (a := b) hk rz (tp.nd d.at'.nd)
    have e1 := tp'.len
    obtain ⟨H', J, qq⟩ := newT_dict (t' := s.toks + (nestedKind X.prog X.w).draws nk) I d.at' tp' dd' hs (by omega) nd' (rel_putK d.rks d.rk) q
    exact h H' _ J qq
theorem dw_get2 {Q : Value → Shared → Prop} {dv : V} {more : List Value} (hu : A.units + 10 < cLine) (I : Inv X pins σ H s) (d : DR X.en B μ H a ks ys zs es k y) (ru : RelV y u) (hm : (more = [] ∧ dv = .non) ∨ (more = [r] ∧ RelV dv r)) (h : ∀ w' s', Inv X pins σ H s' → RelV ((vfind ks zs k).getD dv) w' → Q w' s') :
    wpAny (model X.prog X.w) A (call (.builtin "dict.get") (.ref a :: u :: more)) Q E s := by
  obtain ⟨hc, nk, hk⟩ := keyOk_cases d.ok
  have hT := typeIs_D I d.at'
  rcases hc with ⟨c1, c2⟩ | ⟨c1, c2⟩
  · obtain ⟨kvs, lp, dd, hsz⟩ := dict_L I d.at' d.rks c2
    rcases hm with ⟨rfl, rfl⟩ | ⟨rfl, rd⟩
    · exact call_meetsIn PySem.F.slot_dict_get hT PySem.F.entry_dict_get (PySem.F.args_dict_get_2 _ _) (meets_dict_get (lfKind X.prog X.w) a (lf_is c1 d.rk ru) d.at'.sys) ⟨_, dd.mapOf, h _ _ (I.tok _) ((lp.find c1).getD rfl)⟩
    · exact call_meetsIn PySem.F.slot_dict_get hT PySem.F.entry_dict_get (PySem.F.args_dict_get_3 _ _ _) (meets_dict_get_default (lfKind X.prog X.w) a (lf_is c1 d.rk ru) d.at'.sys r) ⟨_, dd.mapOf, h _ _ (I.tok _) ((lp.find c1).getD rd)⟩
  · obtain ⟨b, rfl, rfl⟩ := key_ref c1 d.rk ru
    obtain ⟨xs, tp, dd, hsz⟩ := dict_T I d.at' d.rks c2
    rcases hm with ⟨rfl, rfl⟩ | ⟨rfl, rd⟩
    · exact call_meetsIn PySem.F.slot_dict_get hT PySem.F.entry_dict_get (PySem.F.args_dict_get_2 _ _) (meetsH_dict_get (nestedKind X.prog X.w) a b d.at'.sys) ⟨roomN hu, nk, xs, nkind_of I hk d.rk, dd, h _ _ (I.tok _) ((tp.find hk).getD rfl)⟩
    · exact call_meetsIn PySem.F.slot_dict_get hT PySem.F.entry_dict_get (PySem.F.args_dict_get_3 _ _ _) (meetsH_dict_get_default (nestedKind X.prog X.w) a b d.at'.sys r) ⟨roomN hu, nk, xs, nkind_of I hk d.rk, dd, h _ _ (I.tok _) ((tp.find hk).getD rd)⟩
theorem dw_setd {Q : Value → Shared → Prop} {R : Hp → Prop} (hu : A.units + 10 < cLine) (I : Inv X pins σ H s) (d : DR X.en B μ H a ks ys zs es k y) (ru : RelV y u) (rz : RelV z r) (hl : ks.length < sizeLine)
    (h1 : ∀ z', vfind ks zs k = some z' → ∀ w' s', Inv X pins σ H s' → RelV z' w' → Q w' s') (q : vfind ks zs k = none → DNew X.en B μ H a (dputK ks k) (vputV ks zs k z) R) (h : ∀ H' s', Inv X pins σ H' s' → R H' → Q r s') :
    wpAny (model X.prog X.w) A (call (.builtin "dict.setdefault") [.ref a, u, r]) Q E s := by
  obtain ⟨hc, nk, hk⟩ := keyOk_cases d.ok
  have nd' := putK_nd ks k d.at'.nd
  have pl := putK_len ks k
  have hT := typeIs_D I d.at'
  rcases hc with ⟨c1, c2⟩ | ⟨c1, c2⟩
  · obtain ⟨kvs, lp, dd, hsz⟩ := dict_L I d.at' d.rks c2
    refine call_meetsIn PySem.F.slot_dict_setdefault hT PySem.F.entry_dict_setdefault (PySem.F.args_dict_setdefault_3 _ _ _) (kt_meets_setdefault (lfKind X.prog X.w) a (lf_is c1 d.rk ru) d.at'.sys r) ⟨kvs, dd, hsz, fun v hv => ?_, fun hv h' dd' hs => ?_⟩
    · have rr := lp.find c1
      rw [hv] at rr
      cases q2 : vfind ks zs k with
      | none => rw [q2] at rr; exact rr.elim
      | some z' => rw [q2] at rr; exact h1 z' q2 v _ (I.tok _) rr
    · have rr := lp.find c1
      rw [hv] at rr
      have q2 : vfind ks zs k = none := by
        cases q2 : vfind ks zs k with
        | none => rfl
        | some z' => rw [q2] at rr; exact rr.elim
      have lp' := lp.put c1 rz (lp.nd d.at'.nd)
      have e1 := lp'.len
      obtain ⟨H', J, qq⟩ := newL_dict (t' := s.toks + 1) I d.at' lp' dd' hs (by omega) nd' (lf_selfs (putK_all ks k c2 c1) (rel_putK d.rks d.rk)) (q q2)
      exact h H' _ J qq
  · obtain ⟨b, rfl, rfl⟩ := key_ref c1 d.rk ru
    obtain ⟨xs, tp, dd, hsz⟩ := dict_T I d.at' d.rks c2
    have rr := tp.find hk
    refine call_setdefault_heap (hsz := hsz) (roomN hu) (nkind_of I hk d.rk) d.at'.sys dd (fun p hp => ?_) fun hv h' dd' hs => ?_
    · rw [hp] at rr
      cases q2 : vfind ks zs k with
      | none => rw [q2] at rr; exact rr.elim
      | some z' => rw [q2] at rr; exact h1 z' q2 _ _ (I.tok _) rr
    · rw [hv] at rr
      have q2 : vfind ks zs k = none := by
        cases q2 : vfind ks zs k with
        | none => rfl
        | some z' => rw [q2] at rr; exact rr.elim
      have tp' := tp.put (a := b) hk rz (tp.nd d.at'.nd)
      have e1 := tp'.len
      obtain ⟨H', J, qq⟩ := newT_dict (t' := s.toks + (nestedKind X.prog X.w).draws nk) I d.at' tp' dd' hs (by omega) nd' (rel_putK d.rks d.rk) (q q2)
      exact h H' _ J qq
theorem lf_part (c1 : leafK k = true) (hn : k ≠ .non) (rk : RelD X.en B μ H k y) (ru : RelV y u) : (keyPart u).isSome = true := by
  cases rk with
  | int i => obtain ⟨t, rfl⟩ := (show ∃ t, u = Value.int i t from ru); rfl
  | str x _ => obtain ⟨t, rfl⟩ := (show ∃ t, u = Value.str x t from ru); rfl
  | non => exact absurd rfl hn
  | _ => cases c1
theorem dw_pop {Q : Value → Shared → Prop} {R : Hp → Prop} {more : List Value} (hu : A.units + 10 < cLine) (I : Inv X pins σ H s) (d : DR X.en B μ H a ks ys zs es k y) (hn : k ≠ .non) (ru : RelV y u) (hm : more = [] ∨ ∃ x, more = [x]) (hz : vfind ks zs k = some z)
    (q : DNew X.en B μ H a (ddelK ks k) (vdel ks zs k) R) (h : ∀ H' w' s', Inv X pins σ H' s' → R H' → RelV z w' → Q w' s') : wpAny (model X.prog X.w) A (call (.builtin "dict.pop") (.ref a :: u :: more)) Q E s := by
  obtain ⟨hc, nk, hk⟩ := keyOk_cases d.ok
  have nd' := List.Sublist.nodup (delK_sub ks k) d.at'.nd
  have pl := delK_len ks k
  have hT := typeIs_D I d.at'
  have ha : argsOk "dict.pop" ⟨.ref a :: u :: more, []⟩ := by
    rcases hm with q | ⟨x, q⟩
    · subst q; exact PySem.F.args_dict_pop_2 _ _
    · subst q; exact PySem.F.args_dict_pop_3 _ _ _
  rcases hc with ⟨c1, c2⟩ | ⟨c1, c2⟩
  · obtain ⟨kvs, lp, dd, hsz⟩ := dict_L I d.at' d.rks c2
    obtain ⟨w', hw, rw'⟩ := RelO.some_of (v := z) (o := valueAt kvs (leafOf k)) (by rw [← hz]; exact lp.find c1)
    refine call_meetsIn PySem.F.slot_dict_pop hT PySem.F.entry_dict_pop ha (meets_dict_pop_there (lfKind X.prog X.w) a (lf_is c1 d.rk ru) more hm (lf_part c1 hn d.rk ru)) ⟨kvs, w', dd, hsz, hw, fun h' dd' hs => ?_⟩
    have lp' := lp.del c1 (lp.nd d.at'.nd)
    have e1 := lp'.len
    have e2 := lp.len
    have all' : (ddelK ks k).all leafK = true := by
      have : ∀ (ks : List D), ks.all leafK = true → (ddelK ks k).all leafK = true := by
        intro ks
        induction ks with
        | nil => intro h; unfold ddelK; rfl
        | cons x ks ih =>
          intro h
          rw [List.all_cons, Bool.and_eq_true] at h
          unfold ddelK
          split
          · exact h.2
          · rw [List.all_cons, Bool.and_eq_true]; exact ⟨h.1, ih h.2⟩
      exact this ks c2
    obtain ⟨H', J, qq⟩ := newL_dict (t' := s.toks + 1) I d.at' lp' dd' hs (by omega) nd' (lf_selfs all' (rel_delK d.rks)) q
    exact h H' w' _ J qq rw'
  · obtain ⟨b, rfl, rfl⟩ := key_ref c1 d.rk ru
    obtain ⟨xs, tp, dd, hsz⟩ := dict_T I d.at' d.rks c2
    obtain ⟨w', hw, rw'⟩ := RelO.some_of (v := z) (o := (atKey xs nk).map (·.2)) (by rw [← hz]; exact tp.find hk)
    obtain ⟨p, hp, rfl⟩ := Option.map_eq_some_iff.mp hw
    refine call_pop_heap (hsz := hsz) hm ha (roomN hu) (nkind_of I hk d.rk) d.at'.sys dd hp fun h' dd' hs => ?_
    have tp' := tp.del hk (tp.nd d.at'.nd)
    have e1 := tp'.len
    have e2 := tp.len
    obtain ⟨H', J, qq⟩ := newT_dict (t' := s.toks + (nestedKind X.prog X.w).draws nk) I d.at' tp' dd' hs (by omega) nd' (rel_delK d.rks) q
    exact h H' _ _ J qq rw'
theorem dw_popD {Q : Value → Shared → Prop} (hu : A.units + 10 < cLine) (I : Inv X pins σ H s) (d : DR X.en B μ H a ks ys zs es k y) (hn : k ≠ .non) (ru : RelV y u) (hz : vfind ks zs k = none) (h : ∀ s', Inv X pins σ H s' → Q r s') :
    wpAny (model X.prog X.w) A (call (.builtin "dict.pop") [.ref a, u, r]) Q E s := by
  obtain ⟨hc, nk, hk⟩ := keyOk_cases d.ok
  have hT := typeIs_D I d.at'
  rcases hc with ⟨c1, c2⟩ | ⟨c1, c2⟩
  · obtain ⟨kvs, lp, dd, hsz⟩ := dict_L I d.at' d.rks c2
    have hv : valueAt kvs (leafOf k) = none := RelO.none_of (by rw [← hz]; exact lp.find c1)
    exact call_meetsIn PySem.F.slot_dict_pop hT PySem.F.entry_dict_pop (PySem.F.args_dict_pop_3 _ _ _) (meets_dict_pop_default (lfKind X.prog X.w) a (lf_is c1 d.rk ru) d.at'.sys (lf_part c1 hn d.rk ru) r) ⟨kvs, dd, hv, h _ (I.tok _)⟩
  · obtain ⟨b, rfl, rfl⟩ := key_ref c1 d.rk ru
    obtain ⟨xs, tp, dd, hsz⟩ := dict_T I d.at' d.rks c2
    have hv : (atKey xs nk).map (·.2) = none := RelO.none_of (by rw [← hz]; exact tp.find hk)
    exact call_pop_default_heap (hsz := hsz) (roomN hu) (nkind_of I hk d.rk) d.at'.sys dd (Option.map_eq_none_iff.mp hv) fun tk => h _ (I.tok _)
end
end G

/-! E15: dicts as rules, and their readings. -/
namespace G
open PySem PySem.Spec L2
open PyProof.Rows hiding St
section
variable {e : En} {B : Bk} {μ : Mu} {H : Hp} {h : AH} {E : XK} {W : WX} {X : Cx}
def dctAt (d : D) (h : AH) : Option (List D × List D) := match d with
  | .dct ks vs => some (ks, vs)
  | .ref n => match h[n]? with
    | some (.dct ks vs) => some (ks, vs)
    | _ => none
  | _ => none
def dctN (d : D) (h : AH) : Option (Nat × List D × List D) := match d with
  | .ref n => match h[n]? with
    | some (.dct ks vs) => some (n, ks, vs)
    | _ => none
  | _ => none
theorem dct_at {d : D} {v : V} {ks vs : List D} (a : AHOk e B μ H h) (r : RelD e B μ H d v) (q : dctAt d h = some (ks, vs)) : ∃ p ys zs es, v = .ref p ∧ DAt e.w H p ks ys zs es ∧ RelDs e B μ H ks ys ∧ RelDs e B μ H vs zs := by
  cases r with
  | dct t pu rk rv => cases q; exact ⟨_, _, _, _, rfl, t, rk, rv⟩
  | @ref n p hn =>
    simp only [dctAt] at q
    split at q
    · rename_i ks' vs' hz
      cases q
      obtain ⟨ys, zs, es, h1, h2, h3⟩ := a.obj _ _ p hz hn
      exact ⟨p, ys, zs, es, rfl, h1, h2, h3⟩
    · cases q
  | _ => cases q
theorem dct_n {d : D} {v : V} {n : Nat} {ks vs : List D} (a : AHOk e B μ H h) (r : RelD e B μ H d v) (q : dctN d h = some (n, ks, vs)) : ∃ p ys zs es, v = .ref p ∧ Lv μ n p ∧ DAt e.w H p ks ys zs es ∧ RelDs e B μ H ks ys ∧ RelDs e B μ H vs zs := by
  cases r with
  | @ref m p hn =>
    simp only [dctN] at q
    split at q
    · rename_i ks' vs' hz
      cases q
      obtain ⟨ys, zs, es, h1, h2, h3⟩ := a.obj _ _ p hz hn
      exact ⟨p, ys, zs, es, rfl, ⟨hn, a.live hz (by simp)⟩, h1, h2, h3⟩
    · cases q
  | _ => cases q
/-- a store into the abstract dict -/
theorem out_dnew {n : Nat} {p : Addr} {ks vs : List D} {zs : List V} {d : D} {v : V} {Q : VK} (a : AHOk e B μ H h) (hn : Lv μ n p) (o : Out e E μ H B (.ok d (h.set n (.dct ks vs))) Q) (rv : RelDs e B μ H vs zs) (rd : RelD e B μ H d v) : DNew e B μ H p ks zs fun H' => Q v H' := by
  intro es ep ys t rk
  have x := Ext.chg (μ := μ) (H := H) (o := dHO p es ep) hn
  exact o v μ _ x (a.chg hn ⟨ys, zs, es, t, rk.mono x, rv.mono x⟩) (rd.mono x)
/-! d[k] -/
def rDIx (e : En) : R2 := fun x y H Q => ∃ B μ a ks ys zs es k z, x = .ref a ∧ DR e B μ H a ks ys zs es k y ∧ vfind ks zs k = some z ∧ Q z H
theorem ix_dict (hu : X.A.units + 10 < cLine) : IxR X (rDIx X.en) := by
  intro value slice pins s σ H x y v u Q I rx ry h hs
  obtain ⟨B, μ, a, ks, ys, zs, es, k, z, rfl, d, hz, q⟩ := h
  cases rx
  exact tail_of PySem.F.slot_dict_getitem.lookup hs (typeIs_D I d.at') (dw_get hu I d ry hz fun w' s' I' rw' => ⟨z, H, I', rw', q⟩)
theorem _root_.L2.IxR.orG {r r' : R2} (h : IxR X r) (h' : IxR X r') : IxR X fun x y H Q => r x y H Q ∨ r' x y H Q := by
  intro value slice pins s σ H x y v u Q I rx ry q hs
  rcases q with q | q
  · exact h value slice pins s σ H x y v u Q I rx ry q hs
  · exact h' value slice pins s σ H x y v u Q I rx ry q hs
/-- x[i]: sequences, texts, the script, dicts -/
def itemD (d1 d2 : D) (h : AH) : Res D := match dctAt d1 h with
  | some (ks, vs) => if keyOk ks d2 then match dfind ks vs d2 with
      | some v => .ok v h
      | none => .stuck
    else .stuck
  | none => ixD d1 d2 h
theorem ix_item (hu : X.A.units + 10 < cLine) : IxR X (fun x y H Q => rIx X.K x y H Q ∨ rDIx X.en x y H Q) := ix_seq.orG (ix_dict hu)
theorem sim_item : Sim2 e itemD (fun x y H Q => rIx e.K x y H Q ∨ rDIx e x y H Q) := fun E B μ H h d1 d2 v1 v2 Q a r1 r2 o => by
  unfold itemD at o
  split at o
  · rename_i ks vs q
    obtain ⟨p, ys, zs, es, rfl, t, rk, rv⟩ := dct_at a r1 q
    split at o
    · rename_i hk
      split at o
      · rename_i v hv
        obtain ⟨z, hz, rz⟩ := rel_find rv hv
        exact .inr ⟨B, μ, p, ks, ys, zs, es, d2, z, rfl, ⟨t, rk, r2, hk⟩, hz, o _ μ H .refl a rz⟩
      · exact o.elim
    · exact o.elim
  · exact .inl (sim_ix E B μ H h d1 d2 v1 v2 Q a r1 r2 o)
/-! k in d -/
def rDIn (e : En) (neg : Bool) : R2 := fun y x H Q => ∃ B μ a ks ys zs es k, x = .ref a ∧ DR e B μ H a ks ys zs es k y ∧ Q (.bl (nb neg (vfind ks zs k).isSome)) H
theorem op_inDct (hu : X.A.units + 65 < cLine) : OpR X (compareOp .In) (fun x y H Q => rInX X.K false x y H Q ∨ rDIn X.en false x y H Q) := (op_inX hu).or (by
  intro pins s σ H y x u v Q I ry rx h
  obtain ⟨B, μ, a, ks, ys, zs, es, k, rfl, d, q⟩ := h
  cases rx
  exact dw_in (by omega) I d ry fun s' I' => ⟨.bl _, H, I', rfl, q⟩)
theorem op_notinDct (hu : X.A.units + 65 < cLine) : OpR X (compareOp .NotIn) (fun x y H Q => rInX X.K true x y H Q ∨ rDIn X.en true x y H Q) := (op_notinX hu).or (by
  intro pins s σ H y x u v Q I ry rx h
  obtain ⟨B, μ, a, ks, ys, zs, es, k, rfl, d, q⟩ := h
  cases rx
  exact dw_notIn (by omega) I d ry fun s' I' => ⟨.bl _, H, I', rfl, q⟩)
def containsD (neg : Bool) (d1 d2 : D) (h : AH) : Res D := match dctAt d2 h with
  | some (ks, vs) => if keyOk ks d1 then .ok (.bl (nb neg (dfind ks vs d1).isSome)) h else .stuck
  | none => inD neg d1 d2 h
theorem find_some {ks vs : List D} {zs : List V} {k : D} (rv : RelDs e B μ H vs zs) : (vfind ks zs k).isSome = (dfind ks vs k).isSome := by
  cases q : dfind ks vs k with
  | none => rw [rel_miss rv q]; rfl
  | some v => obtain ⟨z, hz, _⟩ := rel_find rv q; rw [hz]; rfl
theorem sim_contains {neg : Bool} : Sim2 e (containsD neg) (fun x y H Q => rInX e.K neg x y H Q ∨ rDIn e neg x y H Q) := fun E B μ H h d1 d2 v1 v2 Q a r1 r2 o => by
  unfold containsD at o
  split at o
  · rename_i ks vs q
    obtain ⟨p, ys, zs, es, rfl, t, rk, rv⟩ := dct_at a r2 q
    split at o
    · rename_i hk
      refine .inr ⟨B, μ, p, ks, ys, zs, es, d1, rfl, ⟨t, rk, r1, hk⟩, ?_⟩
      rw [find_some rv]
      exact o _ μ H .refl a (.bl _)
    · exact o.elim
  · exact .inl (sim_in E B μ H h d1 d2 v1 v2 Q a r1 r2 o)
/-! d.get -/
def rDGetM (e : En) : V → List V → Hp → VK → Prop := fun x xs H Q => ∃ B μ a ks ys zs es k y dv, x = .ref a ∧ (xs = [y] ∧ dv = .non ∨ xs = [y, dv]) ∧ DR e B μ H a ks ys zs es k y ∧ Q ((vfind ks zs k).getD dv) H
theorem mt_dget (hu : X.A.units + 10 < cLine) : MtR X "dict.get" (rDGetM X.en) := by
  intro pins s σ H x xs v us Q I rx rs h
  obtain ⟨B, μ, a, ks, ys, zs, es, k, y, dv, rfl, hx, d, q⟩ := h
  cases rx
  rcases hx with ⟨rfl, rfl⟩ | rfl
  · obtain ⟨u, rfl, ru⟩ := rs.one
    exact dw_get2 (r := .none) hu I d ru (.inl ⟨rfl, rfl⟩) fun w' s' I' rw' => ⟨_, H, I', rw', q⟩
  · obtain ⟨u, u2, rfl, ru, ru2⟩ := rs.two
    exact dw_get2 hu I d ru (.inr ⟨rfl, ru2⟩) fun w' s' I' rw' => ⟨_, H, I', rw', q⟩
def dgetM (d : D) (ds : List D) (h : AH) : Res D := match dctAt d h, ds with
  | some (ks, vs), [k] => if keyOk ks k then .ok ((dfind ks vs k).getD .non) h else .stuck
  | some (ks, vs), [k, x] => if keyOk ks k then .ok ((dfind ks vs k).getD x) h else .stuck
  | _, _ => .stuck
theorem rel_getD {ks vs : List D} {zs : List V} {k x : D} {z : V} (rv : RelDs e B μ H vs zs) (rx : RelD e B μ H x z) : RelD e B μ H ((dfind ks vs k).getD x) ((vfind ks zs k).getD z) := by
  cases q : dfind ks vs k with
  | none => rw [rel_miss rv q]; exact rx
  | some v => obtain ⟨z, hz, r⟩ := rel_find rv q; rw [hz]; exact r
theorem sim_dget : SimM e dgetM (rDGetM e) := fun E B μ H h d ds v vs Q a r rs o => by
  unfold dgetM at o
  split at o
  · rename_i ks vs' k q
    obtain ⟨p, ys, zs, es, rfl, t, rk, rv⟩ := dct_at a r q
    obtain ⟨w, rfl, rw'⟩ := rel1 rs
    split at o
    · rename_i hk
      exact ⟨B, μ, p, ks, ys, zs, es, k, w, .non, rfl, .inl ⟨rfl, rfl⟩, ⟨t, rk, rw', hk⟩, o _ μ H .refl a (rel_getD rv .non)⟩
    · exact o.elim
  · rename_i ks vs' k x q
    obtain ⟨p, ys, zs, es, rfl, t, rk, rv⟩ := dct_at a r q
    obtain ⟨w, w2, rfl, rw', rw2⟩ := rel2 rs
    split at o
    · rename_i hk
      exact ⟨B, μ, p, ks, ys, zs, es, k, w, w2, rfl, .inr rfl, ⟨t, rk, rw', hk⟩, o _ μ H .refl a (rel_getD rv rw2)⟩
    · exact o.elim
  · exact o.elim
/-! d.setdefault -/
def rDSetd (e : En) : V → List V → Hp → VK → Prop := fun x xs H Q => ∃ B μ a ks ys zs es k y z, x = .ref a ∧ xs = [y, z] ∧ DR e B μ H a ks ys zs es k y ∧ ks.length < sizeLine ∧
  (∀ z', vfind ks zs k = some z' → Q z' H) ∧ (vfind ks zs k = none → DNew e B μ H a (dputK ks k) (vputV ks zs k z) fun H' => Q z H')
theorem mt_dsetd (hu : X.A.units + 10 < cLine) : MtR X "dict.setdefault" (rDSetd X.en) := by
  intro pins s σ H x xs v us Q I rx rs h
  obtain ⟨B, μ, a, ks, ys, zs, es, k, y, z, rfl, rfl, d, hl, q1, q2⟩ := h
  cases rx
  obtain ⟨u, u2, rfl, ru, ru2⟩ := rs.two
  exact dw_setd hu I d ru ru2 hl (fun z' hz w' s' I' rw' => ⟨z', H, I', rw', q1 z' hz⟩) q2 fun H' s' I' q => ⟨z, H', I', ru2, q⟩
def dsetdM (d : D) (ds : List D) (h : AH) : Res D := match dctN d h, ds with
  | some (n, ks, vs), [k, x] => if keyOk ks k ∧ ks.length < 16777216 then match dfind ks vs k with
      | some v => .ok v h
      | none => .ok x (h.set n (.dct (dputK ks k) (dputV ks vs k x)))
    else .stuck
  | _, _ => .stuck
theorem sim_dsetd : SimM e dsetdM (rDSetd e) := fun E B μ H h d ds v vs Q a r rs o => by
  unfold dsetdM at o
  split at o
  · rename_i n ks vs' k x q
    obtain ⟨p, ys, zs, es, rfl, hn, t, rk, rv⟩ := dct_n a r q
    obtain ⟨w, w2, rfl, rw', rw2⟩ := rel2 rs
    split at o
    · rename_i hk
      refine ⟨B, μ, p, ks, ys, zs, es, k, w, w2, rfl, rfl, ⟨t, rk, rw', hk.1⟩, by rw [sizeLine_eq]; exact hk.2, fun z' hz => ?_, fun hz => ?_⟩
      · cases q2 : dfind ks vs' k with
        | none => rw [rel_miss rv q2] at hz; cases hz
        | some v' =>
          rw [q2] at o
          obtain ⟨z2, hz2, r2⟩ := rel_find rv q2
          rw [hz2] at hz
          cases hz
          exact o _ μ H .refl a r2
      · cases q2 : dfind ks vs' k with
        | none => rw [q2] at o; exact out_dnew a hn o (rel_putV rv rw2) rw2
        | some v' =>
          obtain ⟨z2, hz2, r2⟩ := rel_find rv q2
          rw [hz2] at hz
          cases hz
    · exact o.elim
  · exact o.elim
/-! d.pop -/
def rDPop (e : En) : V → List V → Hp → VK → Prop := fun x xs H Q => ∃ B μ a ks ys zs es k y more, x = .ref a ∧ xs = y :: more ∧ (more = [] ∨ ∃ z, more = [z]) ∧ DR e B μ H a ks ys zs es k y ∧ k ≠ .non ∧
  (∀ z', vfind ks zs k = some z' → DNew e B μ H a (ddelK ks k) (vdel ks zs k) fun H' => Q z' H') ∧ (vfind ks zs k = none → ∃ z, more = [z] ∧ Q z H)
theorem mt_dpop (hu : X.A.units + 10 < cLine) : MtR X "dict.pop" (rDPop X.en) := by
  intro pins s σ H x xs v us Q I rx rs h
  obtain ⟨B, μ, a, ks, ys, zs, es, k, y, more, rfl, rfl, hm, d, hn, q1, q2⟩ := h
  cases rx
  cases rs with
  | cons ru rm =>
    rename_i u ums
    cases hz : vfind ks zs k with
    | some z' =>
      refine dw_pop hu I d hn ru ?_ hz (q1 z' hz) fun H' w' s' I' q rw' => ⟨z', H', I', rw', q⟩
      rcases hm with rfl | ⟨z, rfl⟩
      · exact .inl (Vals.zero rm)
      · obtain ⟨u2, e2, _⟩ := Vals.one rm
        exact .inr ⟨u2, e2⟩
    | none =>
      obtain ⟨z, rfl, q⟩ := q2 hz
      obtain ⟨u2, rfl, ru2⟩ := Vals.one rm
      exact dw_popD hu I d hn ru hz fun s' I' => ⟨z, H, I', ru2, q⟩
def isNonD : D → Bool
  | .non => true
  | _ => false
def dpopM (d : D) (ds : List D) (h : AH) : Res D := match dctN d h, ds with
  | some (n, ks, vs), [k] => if keyOk ks k ∧ isNonD k = false then match dfind ks vs k with
      | some v => .ok v (h.set n (.dct (ddelK ks k) (ddelV ks vs k)))
      | none => .stuck
    else .stuck
  | some (n, ks, vs), [k, x] => if keyOk ks k ∧ isNonD k = false then match dfind ks vs k with
      | some v => .ok v (h.set n (.dct (ddelK ks k) (ddelV ks vs k)))
      | none => .ok x h
    else .stuck
  | _, _ => .stuck
theorem sim_dpop : SimM e dpopM (rDPop e) := fun E B μ H h d ds v vs Q a r rs o => by
  unfold dpopM at o
  split at o
  · rename_i n ks vs' k q
    obtain ⟨p, ys, zs, es, rfl, hn, t, rk, rv⟩ := dct_n a r q
    obtain ⟨w, rfl, rw'⟩ := rel1 rs
    split at o
    · rename_i hk
      refine ⟨B, μ, p, ks, ys, zs, es, k, w, [], rfl, rfl, .inl rfl, ⟨t, rk, rw', hk.1⟩, fun z => by rw [z] at hk; exact absurd hk.2 (by decide), fun z' hz => ?_, fun hz => ?_⟩
      · cases q2 : dfind ks vs' k with
        | none => rw [rel_miss rv q2] at hz; cases hz
        | some v' =>
          rw [q2] at o
          obtain ⟨z2, hz2, r2⟩ := rel_find rv q2
          rw [hz2] at hz
          cases hz
          exact out_dnew a hn o (rel_delV rv) r2
      · cases q2 : dfind ks vs' k with
        | none => rw [q2] at o; exact o.elim
        | some v' =>
          obtain ⟨z2, hz2, r2⟩ := rel_find rv q2
          rw [hz2] at hz
          cases hz
    · exact o.elim
  · rename_i n ks vs' k x q
    obtain ⟨p, ys, zs, es, rfl, hn, t, rk, rv⟩ := dct_n a r q
    obtain ⟨w, w2, rfl, rw', rw2⟩ := rel2 rs
    split at o
    · rename_i hk
      refine ⟨B, μ, p, ks, ys, zs, es, k, w, [w2], rfl, rfl, .inr ⟨w2, rfl⟩, ⟨t, rk, rw', hk.1⟩, fun z => by rw [z] at hk; exact absurd hk.2 (by decide), fun z' hz => ?_, fun hz => ?_⟩
      · cases q2 : dfind ks vs' k with
        | none => rw [rel_miss rv q2] at hz; cases hz
        | some v' =>
          rw [q2] at o
          obtain ⟨z2, hz2, r2⟩ := rel_find rv q2
          rw [hz2] at hz
          cases hz
          exact out_dnew a hn o (rel_delV rv) r2
      · cases q2 : dfind ks vs' k with
        | none => rw [q2] at o; exact ⟨w2, rfl, o _ μ H .refl a rw2⟩
        | some v' =>
          obtain ⟨z2, hz2, r2⟩ := rel_find rv q2
          rw [hz2] at hz
          cases hz
    · exact o.elim
  · exact o.elim
/-! {} -/
def dct0 (m : Bool) : CE := fun _ h => if m then .ok (.ref h.length) (h ++ [.dct [] []]) else .ok (.dct [] []) h
theorem g_dct0 (m : Bool) {pos : Pos} : PE X (.Dict [] [] pos) (rE X.en W (dct0 m)) := by
  refine ⟨fun pins s σ H Q I ⟨B, μ, S, h, st, a, o⟩ => ?_⟩
  refine wpAny_Dict_empty ?_
  have hn := I.hok.fresh (Nat.le_refl s.heap.objs.size)
  have hs : (s.heap.objs.size == sysModules) = false := beq_eq_false_iff_ne.mpr (Ne.symm (Nat.ne_of_lt I.big))
  have I1 := I.laid (a := s.heap.objs.size) (o := dHO s.heap.objs.size #[] 0) (h' := s.heap.push { cls := .type "dict", data := .dict #[] }) (t' := s.toks) (fun _ _ q => Heap.get?_push_of_some _ q) (Nat.le_refl _) (dHO_ok (Heap.get?_push_size _ rfl) ⟨rfl, rfl, rfl⟩ rfl)
  have t : ∀ {H' : Hp}, H' s.heap.objs.size = some (dHO s.heap.objs.size #[] 0) → DAt X.w H' s.heap.objs.size [] [] [] #[] := fun h => ⟨⟨0, h⟩, Nat.zero_le _, hs, .nil, .nil⟩
  refine ⟨.ref s.heap.objs.size, _, I1, rfl, ?_⟩
  unfold dct0 at o
  cases m with
  | false => exact o _ μ _ (Ext.new hn (a.free hn).2) (a.new hn) (.dct (t upd_same) (a.free hn) .nil .nil)
  | true =>
    have xa := Ext.add (o := dHO s.heap.objs.size #[] 0) a hn
    refine o _ (muAdd μ h.length s.heap.objs.size) _ xa (a.add hn ⟨[], [], #[], t upd_same, .nil, .nil⟩) (.ref ?_)
    dsimp only [muAdd]
    rw [if_pos rfl]
end
/-! ### a subscript's store: lists, dicts -/
section
variable {e : En} {B : Bk} {μ : Mu} {H : Hp} {h : AH} {E : XK} {X : Cx} {W : WX}
def storeD (d1 d2 v : D) (h : AH) : Option AH := match dctN d1 h with
  | some (n, ks, vs) => if keyOk ks d2 ∧ ks.length < 16777216 then some (h.set n (.dct (dputK ks d2) (dputV ks vs d2 v))) else none
  | none => match lstAt d1 h, d2 with
    | some (n, xs), .int i => match ixN xs.length i with
      | some j => some (h.set n (.lst (xs.set j v)))
      | none => none
    | _, _ => none
def rDSet (e : En) : TSet := fun x y z H Q => ∃ B μ a ks ys zs es k, x = .ref a ∧ DR e B μ H a ks ys zs es k y ∧ ks.length < sizeLine ∧ DNew e B μ H a (dputK ks k) (vputV ks zs k z) Q
theorem set_dictG (hu : X.A.units + 10 < cLine) : PSet X (rDSet X.en) := by
  intro pins s σ H o i v ov iv u Q I ro ri rv h
  obtain ⟨B, μ, a, ks, ys, zs, es, k, rfl, d, hl, q⟩ := h
  cases ro
  exact dw_set hu I d ri rv hl q fun H' s' I' q' => ⟨H', I', q'⟩
theorem set_any (hu : X.A.units + 10 < cLine) : PSet X (fun x y z H Q => rDSet X.en x y z H Q ∨ rSetL x y z H Q) := by
  intro pins s σ H o i v ov iv u Q I ro ri rv h
  rcases h with h | h
  · exact set_dictG hu pins s σ H o i v ov iv u Q I ro ri rv h
  · exact set_list pins s σ H o i v ov iv u Q I ro ri rv h
theorem sim_store {d1 d2 dv : D} {v1 v2 v : V} {h' : AH} {Q : Hp → Prop} (a : AHOk e B μ H h) (r1 : RelD e B μ H d1 v1) (r2 : RelD e B μ H d2 v2) (rv : RelD e B μ H dv v) (q : storeD d1 d2 dv h = some h') (o : ∀ H', Ext μ H μ H' → AHOk e B μ H' h' → Q H') : rDSet e v1 v2 v H Q ∨ rSetL v1 v2 v H Q := by
  unfold storeD at q
  split at q
  · rename_i n ks vs hq
    split at q
    · rename_i hk
      cases q
      obtain ⟨p, ys, zs, es, rfl, hn, t, rk, rvs⟩ := dct_n a r1 hq
      refine .inl ⟨B, μ, p, ks, ys, zs, es, d2, rfl, ⟨t, rk, r2, hk.1⟩, by rw [sizeLine_eq]; exact hk.2, ?_⟩
      intro es' ep' ys' t' rk'
      have x := Ext.chg (μ := μ) (H := H) (o := dHO p es' ep') hn
      exact o _ x (a.chg hn ⟨ys', _, es', t', rk'.mono x, (rel_putV rvs rv).mono x⟩)
    · cases q
  · split at q
    · rename_i n xs i hq
      split at q
      · rename_i j hj
        cases q
        obtain ⟨p, ys, rfl, hn, hp, rs, z, _⟩ := lst_at a r1 hq
        cases r2
        refine .inr ⟨p, ys, i, j, rfl, rfl, hp, by rw [← rs.length]; exact hj, ?_⟩
        have x := Ext.chg (μ := μ) (H := H) (o := .lst (ys.set j v)) hn
        exact o _ x (a.chg hn ⟨_, upd_same, by rw [List.length_set]; exact z, (RelDs.set rv j rs).mono x⟩)
      · cases q
    · cases q
/-- the target o[i] -/
def subG (cd ci : CE) : CG := fun v S h => ((cd S h).noX).sbind S fun d1 h1 => ((ci S h1).noX).sbind S fun d2 h2 => match storeD d1 d2 v h2 with
  | some h3 => .nx S h3
  | none => .stuck
theorem goes_sub {cd ci : CE} : GoesG (subG cd ci) := fun v S h => by
  unfold subG
  cases q1 : cd S h with
  | ok d h1 =>
    cases q2 : ci S h1 with
    | ok d2 h2 =>
      cases q3 : storeD d d2 v h2 with
      | some h3 => exact .inl ⟨S, h3, by simp only [Res.noX, Res.sbind_ok, q2, q3]⟩
      | none => exact .inr (by simp only [Res.noX, Res.sbind_ok, q2, q3])
    | exc _ _ => exact .inr (by simp only [Res.noX, Res.sbind_ok, q2]; rfl)
    | stuck => exact .inr (by simp only [Res.noX, Res.sbind_ok, q2]; rfl)
  | exc _ _ => exact .inr rfl
  | stuck => exact .inr rfl
theorem OutS.noXE {r : Res D} {k : D → AH → ResS} {s : Sl} {D : Ends} {R : VK} {E : XK} (o : OutS e W μ H B ((r.noX).sbind s k) D)
    (hk : ∀ d h v μ' H', Ext μ H μ' H' → AHOk e B μ' H' h → RelD e B μ' H' d v → OutS e W μ' H' B (k d h) D → R v H') : Out e E μ H B r R := by
  cases r with
  | ok d h' => exact fun v μ2 H2 y a r => hk d h' v μ2 H2 y a r (OutS.mono y o)
  | exc _ _ => exact o.elim
  | stuck => exact o.elim
theorem gg_sub {o i : Expr} {cd ci : CE} {pos : Pos} (hu : X.A.units + 10 < cLine) (ho : PE X o (rE X.en W cd)) (hi : PE X i (rE X.en W ci))
    (ha : ∀ v, assign (.Subscript o i pos) X.env v = (do
      let ov ← holding [v] (eval o X.env)
      let iv ← holding [v, ov] (eval i X.env)
      standAt pos
      holding [v, ov, iv] (setItem ov iv v)
      release [v, ov, iv] []) := by intro _; rfl) : PG X (.Subscript o i pos) (rG X.en W (subG cd ci)) := by
  refine (pg_sub ho hi (set_any hu) ha).imp fun v σ H Q ⟨B, μ, S, h, d, st, a, rd, o⟩ => ?_
  refine ⟨B, μ, S, h, st, a, OutS.noXE o fun d1 h1 v1 μ1 H1 x1 a1 r1 o1 => ?_⟩
  refine ⟨B, μ1, S, h1, st.mono x1, a1, OutS.noXE o1 fun d2 h2 v2 μ2 H2 x2 a2 r2 o2 => ?_⟩
  cases q : storeD d1 d2 d h2 with
  | some h3 =>
    rw [q] at o2
    exact sim_store a2 (r1.mono x2) r2 ((rd.mono x1).mono x2) q fun H' x3 a3 => o2 σ μ2 H' x3 a3 (((st.mono x1).mono x2).mono x3)
  | none => rw [q] at o2; exact o2.elim
end
end G

/-! E16: walks over dicts: items, keys, values; list of them. -/
namespace G
open PySem PySem.Spec L2
open PyProof.Rows hiding St
theorem EnV.len {w : World} : ∀ {ks : List D} {ys zs : List V} {es : List DictEntry}, EnV w ks ys zs es → ks.length = es.length ∧ ys.length = es.length ∧ zs.length = es.length
  | _, _, _, _, .nil => ⟨rfl, rfl, rfl⟩
  | _, _, _, _, .cons _ _ _ _ t => by
    obtain ⟨h1, h2, h3⟩ := EnV.len t
    simp [h1, h2, h3]
theorem EnV.get {w : World} : ∀ {ks : List D} {ys zs : List V} {es : List DictEntry} {i : Nat} {en : DictEntry}, EnV w ks ys zs es → es[i]? = some en → ∃ y z, ys[i]? = some y ∧ zs[i]? = some z ∧ RelV y en.key ∧ RelV z en.val
  | _, _, _, _, 0, _, .cons r1 r2 _ _ _, h => by
    simp at h; subst h; exact ⟨_, _, by simp, by simp, r1, r2⟩
  | _, _, _, _, i + 1, _, .cons _ _ _ _ t, h => by
    obtain ⟨y, z, h1, h2, h3⟩ := EnV.get (i := i) t (by simpa using h)
    exact ⟨y, z, by simpa using h1, by simpa using h2, h3⟩
theorem dHO_raw {X : Cx} {pins : List (Addr × Obj)} {σ : L2.St} {H : Hp} {s : Shared} {d : Addr} {es : Array DictEntry} {ep : Nat} (I : Inv X pins σ H s) (h : H d = some (dHO d es ep)) : s.heap.DictRaw d es ep := by
  obtain ⟨⟨o, h1, h2, h3⟩, _⟩ := (show ObjOk X.prog X.w H s.heap d (dHO d es ep) from I.hok d _ h)
  exact ⟨o, h1, h2, h3⟩
/-! ### items -/
def ItI (d : Addr) (es : Array DictEntry) (ep : Nat) (ys zs : List V) : It :=
  ⟨fun i H => H d = some (dHO d es ep) ∧ i < es.size,
    fun i H v H' => ∃ T y z, ∃ o : Obj, v = .ref T ∧ H T = none ∧ o.dict = none ∧ H' = upd H T (.frz o (.tup [y, z])) ∧ ys[i]? = some y ∧ zs[i]? = some z,
    fun i H => H d = some (dHO d es ep) ∧ i = es.size⟩
def tnI (it d : Addr) (es : Array DictEntry) (ep : Nat) (i : Nat) (h : Heap) : Prop := ∃ ok ov, IsItemIter h it d i es.size ep ok ov
theorem turn_itemsG {P : Program} {w : World} {K : PySem.W.Frag} {elts : List Expr} {kk : Nat} {tpos : Pos} {it d : Addr} {es : Array DictEntry} {ep : Nat} {ks : List D} {ys zs : List V} (hne : d ≠ it) (hen : EnV w ks ys zs es.toList) :
    Turn P w K (.Tuple elts kk tpos) (ItI d es ep ys zs) [it] it (tnI it d es ep) where
  mem := by simp
  obj := fun i h st c hc => by
    obtain ⟨ok, ov, e⟩ := st
    have e' : c = it := by simpa using hc
    rw [e']
    exact ⟨_, e, fun v q => nomatch q⟩
  keep := fun i h h' st k => by
    obtain ⟨ok, ov, e⟩ := st
    exact ⟨ok, ov, k it (by simp) _ e⟩
  item := by
    intro X hP hw hK hc i pins s σ H E I hf st hg
    subst hP hw hK
    obtain ⟨ok, ov, e⟩ := st
    obtain ⟨hd, hi⟩ := hg
    have raw := dHO_raw I hd
    have hlt : it < s.heap.objs.size := Heap.lt_size e
    have W := WalksT.rawItems (prog := X.prog) (w := X.w) (A := X.A.in1) (I.ok.hd hc) it d hne es ep
    refine wpAny_pyNext_items_item_raw e raw hi fun h' hit' ht hsz hk => ?_
    have mid : ((∃ ok ov, IsItemIterOut h' it d (i + 1) es.size ep ok ov s.heap.objs.size) ∧ h'.DictRaw d es ep) ∧ s.heap.objs.size ≠ it := ⟨⟨⟨_, _, hit'⟩, raw.at fun o e => hk d o hne e⟩, Nat.ne_of_gt hlt⟩
    refine ⟨.ref s.heap.objs.size, rfl, (WalksT.rawItems (prog := X.prog) (w := X.w) (A := X.A) (I.ok.hd hc) it d hne es ep).go elts kk tpos i s.heap.objs.size { s with heap := h' } _ _ mid fun h₂ st₂ hk₂ => ?_⟩
    obtain ⟨⟨ok2, ov2, st2⟩, _⟩ := st₂
    obtain ⟨y, z, hy, hz, ry, rz⟩ := hen.get (i := i) (en := es[i]) (by simp [hi])
    have hT := hk₂ s.heap.objs.size _ (by simpa using Nat.ne_of_gt hlt) ht
    have new : ObjOk X.prog X.w (upd H s.heap.objs.size (.frz { cls := .type "tuple", data := .seq #[es[i].key, es[i].val] } (.tup [y, z]))) h₂ s.heap.objs.size (.frz { cls := .type "tuple", data := .seq #[es[i].key, es[i].val] } (.tup [y, z])) :=
      ⟨hT, by show 2 ≤ sizeLine; decide, [es[i].key, es[i].val], .cons ry (.cons rz .nil), _, hT, rfl, _, rfl⟩
    refine ⟨.ref s.heap.objs.size, _, I.turnedNew (t' := s.toks) (ch := [it]) (fun c o hb q => hk₂ c o (by simpa using hb) (hk c o (by simpa using hb) q)) hf (Nat.le_refl _) new, rfl, ⟨_, y, z, _, rfl, I.hok.fresh (Nat.le_refl _), rfl, rfl, hy, hz⟩, ⟨ok2, ov2, st2⟩, fun c hcm => ?_⟩
    have e' : c = it := by simpa using hcm
    rw [e', upd_ne (Nat.ne_of_lt hlt)]
    exact (hf it (by simp)).1
  done := by
    intro X hP hw hK hc i pins s σ H E I hf st hg
    subst hP hw hK
    obtain ⟨ok, ov, e⟩ := st
    obtain ⟨hd, hi⟩ := hg
    refine wpAny_pyNext_items_end_raw (I.ok.hd hc) e (dHO_raw I hd) (by omega) fun h' he' => ⟨rfl, ?_⟩
    exact I.turnedL (t' := s.toks) (ch := [it]) (fun c o hb q => he' c o (by simpa using hb) q) hf
  self := fun A i s Q E st h => let ⟨_, _, e⟩ := st; wpAny_pyIter_itemiter e h
section
variable {e : En} {B : Bk} {μ : Mu} {H : Hp} {h : AH} {E : XK} {W : WX} {X : Cx}
/-- a dict that stays: the items -/
def itemsOf (ks vs : List D) : List D := List.zipWith (fun k v => .tup [k, v]) ks vs
def frzD (d : D) : Option (List D × List D) := match d with
  | .dct ks vs => some (ks, vs)
  | _ => none
def itemsS (c : CE) : CI := fun S h => (c S h).bind fun d h1 => match frzD d with
  | some (ks, vs) => .ok (itemsOf ks vs, []) h1
  | none => .stuck
def iItemsG (w : World) (td : TE) : TI := fun σ H R => td σ H fun x H1 => ∃ d es ep ks ys zs, x = .ref d ∧ H1 d = some (dHO d es ep) ∧ DAt w H1 d ks ys zs es ∧ R (ItI d es ep ys zs) H1
theorem pi_itemsG {e : Expr} {td : TE} {apos cpos : Pos} {elts : List Expr} {kk : Nat} {tpos : Pos} (he : PE X e td) (hbase : attributeBase e "items" X.env (eval e X.env) = eval e X.env := by rfl) (hline : (apos.endLine == cpos.line) = true := by rfl) :
    PI X (.Tuple elts kk tpos) (.Call (.Attribute e "items" apos) [] [] cpos) (iItemsG X.w td) := by
  refine ⟨fun pins s σ H R I h => ?_⟩
  refine wpAny_Call_method (T := "dict") (id := "dict.items") hbase rfl hline PySem.F.plainAttrs_dict PySem.F.slot_dict_items PySem.F.type_dict_items (thn (he.run pins s σ H _ I h) fun u s1 ⟨x, H1, I1, rx, d, es, ep, ks, ys, zs, ex, hd, t, q⟩ => ?_)
  subst ex
  obtain rfl : u = Value.ref d := rx
  have raw := dHO_raw I1 hd
  obtain ⟨o, ho, hc, hdt⟩ := id raw
  refine ⟨raw.typeIs, fun b z => by cases z; exact ⟨o, ho, hc.2.1⟩, ?_⟩
  have I2 : Inv X pins σ H1 { s1 with heap := s1.heap.push { cls := .type "dict_items", data := .fields #[.ref d] } } := I1.kept (t' := s1.toks) fun b ob q => Heap.get?_push_of_some _ q
  have hlt : d < s1.heap.objs.size := Heap.lt_size ho
  have fin : wpAny (model X.prog X.w) X.A (pyIter (.ref s1.heap.objs.size)) (PIE X pins σ (.Tuple elts kk tpos) R) X.xe { s1 with heap := s1.heap.push { cls := .type "dict_items", data := .fields #[.ref d] } } := by
    refine wpAny_pyIter_items_raw (d := d) ⟨_, Heap.get?_push_size _ rfl, rfl, rfl⟩ (raw.at fun _ q => Heap.get?_push_of_some _ q) (pi_one (tk := s1.toks) I2 _ (turn_itemsG (ks := ks) ?_ t.ens) ⟨.none, .none, Heap.get?_push_size _ rfl⟩ q)
    rw [Heap.size_push]
    exact Nat.ne_of_lt (Nat.lt_succ_of_lt hlt)
  show wpAny _ _ (callWith cpos (.builtin "dict.items") [.ref d] [] []) _ X.xe s1
  exact method_meetsIn PySem.F.slot_dict_items PySem.F.entry_dict_items rfl (PySem.evalArgs_none ⟨rfl, raw.typeIs, PySem.F.args_dict_items_1 _, _, meets_dict_items_raw d t.sys, ⟨es, ep, raw⟩, fin⟩)
theorem frz_at {d : D} {v : V} {ks vs : List D} (r : RelD e B μ H d v) (q : frzD d = some (ks, vs)) : ∃ p ys zs es, v = .ref p ∧ DAt e.w H p ks ys zs es ∧ Pure B μ p ∧ RelDs e B μ H ks ys ∧ RelDs e B μ H vs zs := by
  cases r with
  | dct t pu rk rv => cases q; exact ⟨_, _, _, _, rfl, t, pu, rk, rv⟩
  | _ => cases q
theorem wk_items {p : Addr} {ks vs : List D} {ys zs : List V} {es : Array DictEntry} {ep : Nat} (t : DAt e.w H p ks ys zs es) (hp : H p = some (dHO p es ep)) (pu : Pure B μ p) (rk : RelDs e B μ H ks ys) (rv : RelDs e B μ H vs zs) : Wk e B μ H (itemsOf ks vs) [] (ItI p es ep ys zs) := by
  obtain ⟨l1, l2, l3⟩ := t.ens.len
  have l1' : ks.length = es.size := by simpa using l1
  have l4 := rv.length
  have l3' : zs.length = es.size := by simpa using l3
  have hz := t.size
  refine ⟨?_, fun B' μ' H' h' i d kb x a' g hd => ?_, fun B' μ' H' h' i d v H2 kb x a' g hd hy => ?_, fun B' μ' H' h' kb x a' g => ?_⟩
  · unfold itemsOf; rw [List.length_zipWith]; omega
  · have hi := (List.getElem?_eq_some_iff.mp hd).1
    unfold itemsOf at hi
    rw [List.length_zipWith] at hi
    exact ⟨(x.rd hp pu).1, by omega⟩
  · unfold itemsOf at hd
    rw [List.getElem?_zipWith] at hd
    split at hd
    · rename_i u w hu hw
      cases hd
      obtain ⟨y1, hy1, ru⟩ := rk.get hu
      obtain ⟨y2, hy2, rw'⟩ := rv.get hw
      obtain ⟨T, y', z', ob, rfl, hT, hod, rfl, ey, ez⟩ := hy
      rw [hy1] at ey
      rw [hy2] at ez
      cases ey
      cases ez
      exact ⟨Ext.new hT (a'.free hT).2, a'.new hT, new_tup a' hT hod (by show 2 ≤ sizeLine; decide) (.cons ((ru.blk kb).mono x) (.cons ((rw'.blk kb).mono x) .nil))⟩
    · cases hd
  · exact ⟨(x.rd hp pu).1, by unfold itemsOf; rw [List.length_zipWith]; omega⟩
theorem gi_items {x : Expr} {c : CE} {apos cpos : Pos} {elts : List Expr} {kk : Nat} {tpos : Pos} (hx : PE X x (rE X.en W c)) (hbase : attributeBase x "items" X.env (eval x X.env) = eval x X.env := by rfl) (hline : (apos.endLine == cpos.line) = true := by rfl) :
    PI X (.Tuple elts kk tpos) (.Call (.Attribute x "items" apos) [] [] cpos) (rIt X.en W (itemsS c)) := by
  refine (pi_itemsG hx hbase hline).imp fun σ H R ⟨B, μ, S, h, s, a, o⟩ => ?_
  refine ⟨B, μ, S, h, s, a, OutI.bindE o fun d h1 v μ1 H1 x1 a1 r1 o1 => ?_⟩
  split at o1
  · rename_i ks vs q
    obtain ⟨p, ys, zs, es, rfl, t, pu, rk, rv⟩ := frz_at r1 q
    obtain ⟨ep, hp⟩ := t.at'
    exact ⟨p, es, ep, ks, ys, zs, rfl, hp, t, o1 _ μ1 H1 .refl a1 (fun g hg => by simp at hg) (wk_items t hp pu rk rv)⟩
  · exact o1.elim
/-! ### for k in d -/
def ItK (d : Addr) (es : Array DictEntry) (ep : Nat) (ys : List V) : It :=
  ⟨fun i H => H d = some (dHO d es ep) ∧ i < es.size,
    fun i H v H' => H' = H ∧ ys[i]? = some v,
    fun i H => H d = some (dHO d es ep) ∧ i = es.size⟩
theorem turn_keysG {P : Program} {w : World} {K : PySem.W.Frag} {tg : Expr} {it d : Addr} {es : Array DictEntry} {ep : Nat} {ks : List D} {ys zs : List V} (hne : d ≠ it) (hen : EnV w ks ys zs es.toList) :
    Turn P w K tg (ItK d es ep ys) [it] it (fun i h => h.IsKeyIter it d i es.size ep) where
  mem := by simp
  obj := fun i h st c hc => by
    obtain ⟨o, ho, hcl, hd⟩ := st
    have e' : c = it := by simpa using hc
    rw [e']
    exact ⟨_, ho, fun v q => by rw [hd] at q; cases q⟩
  keep := fun i h h' st k => st.at fun o e => k it (by simp) o e
  item := by
    intro X hP hw hK hc i pins s σ H E I hf st hg
    subst hP hw hK
    obtain ⟨hd, hi⟩ := hg
    have raw := dHO_raw I hd
    obtain ⟨oi, hoi, hci, hdi⟩ := id st
    refine wpAny_pyNext_keys_item_raw st raw hi fun h' st' hs' => ?_
    obtain ⟨y, z, hy, hz, ry, rz⟩ := hen.get (i := i) (en := es[i]) (by simp [hi])
    refine ⟨es[i].key, rfl, ?_⟩
    obtain ⟨oi', hoi', hci', hdi'⟩ := id st'
    refine go_of hoi' hci' hdi' (by decide) ?_
    refine ⟨y, H, I.turnedL (t' := s.toks) (ch := [it]) (fun c o hb q => hs'.extBut c o (by simpa using hb) q) hf, ry, ⟨rfl, hy⟩, st', fun c hcm => ?_⟩
    exact (hf c hcm).1
  done := by
    intro X hP hw hK hc i pins s σ H E I hf st hg
    subst hP hw hK
    obtain ⟨hd, hi⟩ := hg
    refine wpAny_pyNext_keys_end_raw (I.ok.hd hc) st (dHO_raw I hd) (by omega) fun h' he' => ⟨rfl, ?_⟩
    exact I.turnedL (t' := s.toks) (ch := [it]) (fun c o hb q => he' c o (by simpa using hb) q) hf
  self := fun A i s Q E st h => wpAny_pyIter_keyiter st h
def iKeysG (w : World) (td : TE) : TI := fun σ H R => td σ H fun x H1 => ∃ d es ep ks ys zs, x = .ref d ∧ H1 d = some (dHO d es ep) ∧ DAt w H1 d ks ys zs es ∧ R (ItK d es ep ys) H1
theorem pi_keysG {e tg : Expr} {td : TE} (he : PE X e td) : PI X tg e (iKeysG X.w td) := by
  refine ⟨fun pins s σ H R I h => ?_⟩
  refine thn (he.run pins s σ H _ I h) fun u s1 ⟨x, H1, I1, rx, d, es, ep, ks, ys, zs, ex, hd, t, q⟩ => ?_
  subst ex
  obtain rfl : u = Value.ref d := rx
  have raw := dHO_raw I1 hd
  obtain ⟨o, ho, hc, hdt⟩ := id raw
  have hlt : d < s1.heap.objs.size := Heap.lt_size ho
  exact wpAny_pyIter_dict_raw t.sys raw (pi_one (tk := s1.toks) I1 _ (turn_keysG (ks := ks) (Nat.ne_of_lt hlt) t.ens) ⟨_, Heap.get?_push_size _ rfl, rfl, rfl⟩ q)
def keysS (c : CE) : CI := fun S h => (c S h).bind fun d h1 => match frzD d with
  | some (ks, vs) => .ok (ks, []) h1
  | none => .stuck
theorem gi_keys {x tg : Expr} {c : CE} (hx : PE X x (rE X.en W c)) : PI X tg x (rIt X.en W (keysS c)) := by
  refine (pi_keysG hx).imp fun σ H R ⟨B, μ, S, h, s, a, o⟩ => ?_
  refine ⟨B, μ, S, h, s, a, OutI.bindE o fun d h1 v μ1 H1 x1 a1 r1 o1 => ?_⟩
  split at o1
  · rename_i ks vs q
    obtain ⟨p, ys, zs, es, rfl, t, pu, rk, rv⟩ := frz_at r1 q
    obtain ⟨ep, hp⟩ := t.at'
    obtain ⟨l1, l2, l3⟩ := t.ens.len
    have l1' : ks.length = es.size := by simpa using l1
    have hz := t.size
    refine ⟨p, es, ep, ks, ys, zs, rfl, hp, t, o1 _ μ1 H1 .refl a1 (fun g hg => by simp at hg) ⟨by omega, fun B' μ' H' h' i d kb x a' g hd => ?_, fun B' μ' H' h' i d v H2 kb x a' g hd hy => ?_, fun B' μ' H' h' kb x a' g => ?_⟩⟩
    · have hi := (List.getElem?_eq_some_iff.mp hd).1
      exact ⟨(x.rd hp pu).1, by omega⟩
    · obtain ⟨rfl, hy⟩ := hy
      obtain ⟨y1, hy1, ru⟩ := rk.get hd
      rw [hy1] at hy
      cases hy
      exact ⟨.refl, a', (ru.blk kb).mono x⟩
    · exact ⟨(x.rd hp pu).1, by omega⟩
  · exact o1.elim
end
end G

/-! E17: sorted of data: sequences, a dict's keys, a dict's items. -/
namespace G
open PySem PySem.Spec L2
open PyProof.Rows hiding St
open PySem.W (AllAlike Sortable dataLe dataKind EachIs sortingHeap)
/-- the values sorted by their data -/
def vsort (ps : List (V × PyData)) : List V := (ps.mergeSort (dataLe false (·.2))).map (·.1)
def dsort (ps : List (D × PyData)) : List D := (ps.mergeSort (dataLe false (·.2))).map (·.1)
section
variable {e : En} {B : Bk} {μ : Mu} {H : Hp}
theorem rel_sort {xs : List D} {ys : List V} {zs : List PyData} (r : RelDs e B μ H xs ys) (hz : zs.length = xs.length) : RelDs e B μ H (dsort (xs.zip zs)) (vsort (ys.zip zs)) := by
  have hl := r.length
  let ts : List (D × V × PyData) := xs.zip (ys.zip zs)
  have e1 : (ts.mergeSort (dataLe false fun t : D × V × PyData => t.2.2)).map (fun t => (t.1, t.2.2)) = (xs.zip zs).mergeSort (dataLe false fun t : D × PyData => t.2) := by
    refine (List.map_mergeSort (r := dataLe false fun t : D × V × PyData => t.2.2) (s := dataLe false fun t : D × PyData => t.2) (f := fun t => (t.1, t.2.2)) fun a _ b _ => rfl).trans ?_
    congr 1
    show (xs.zip (ys.zip zs)).map _ = _
    refine List.ext_getElem (by simp; omega) fun i h1 h2 => by simp
  have e2 : (ts.mergeSort (dataLe false fun t : D × V × PyData => t.2.2)).map (fun t => (t.2.1, t.2.2)) = (ys.zip zs).mergeSort (dataLe false fun t : V × PyData => t.2) := by
    refine (List.map_mergeSort (r := dataLe false fun t : D × V × PyData => t.2.2) (s := dataLe false fun t : V × PyData => t.2) (f := fun t => (t.2.1, t.2.2)) fun a _ b _ => rfl).trans ?_
    congr 1
    show (xs.zip (ys.zip zs)).map _ = _
    refine List.ext_getElem (by simp; omega) fun i h1 h2 => by simp
  unfold dsort vsort
  rw [← e1, ← e2, List.map_map, List.map_map]
  have all : ∀ (us : List (D × V × PyData)), (∀ t ∈ us, RelD e B μ H t.1 t.2.1) → RelDs e B μ H (us.map fun t => t.1) (us.map fun t => t.2.1) := by
    intro us
    induction us with
    | nil => intro _; exact .nil
    | cons t us ih => intro h; exact .cons (h t List.mem_cons_self) (ih fun t ht => h t (List.mem_cons_of_mem _ ht))
  refine all _ fun t ht => ?_
  rw [List.mem_mergeSort] at ht
  obtain ⟨i, hi⟩ := List.mem_iff_getElem?.mp ht
  show RelD e B μ H t.1 t.2.1
  have hi : (xs.zip (ys.zip zs))[i]? = some t := hi
  rw [List.getElem?_zip_eq_some] at hi
  obtain ⟨h1, h2⟩ := hi
  rw [List.getElem?_zip_eq_some] at h2
  obtain ⟨y, hy, ry⟩ := r.get h1
  rw [hy] at h2
  cases h2.1
  exact ry
theorem dsort_length (xs : List D) (zs : List PyData) (hz : zs.length = xs.length) : (dsort (xs.zip zs)).length = xs.length := by
  unfold dsort
  rw [List.length_map, List.length_mergeSort, List.length_zip]
  omega
theorem vsort_length (xs : List V) (zs : List PyData) (hz : zs.length = xs.length) : (vsort (xs.zip zs)).length = xs.length := by
  unfold vsort
  rw [List.length_map, List.length_mergeSort, List.length_zip]
  omega
end
section
variable {X : Cx} {pins : List (Addr × Obj)} {σ : L2.St} {H : Hp} {s : Shared}
theorem each_of {ys : List V} : ∀ {us : List Value} {zs : List PyData}, Vals ys us → DpAll X.K H ys zs → Inv X pins σ H s → EachIs (fun (v : Value) (b : V × PyData) => RelV b.1 v ∧ ∃ as, Reads s.heap v b.2 as) us (ys.zip zs) := by
  intro us zs rv dp I
  induction ys generalizing us zs with
  | nil => cases rv; cases dp; exact .nil
  | cons y ys ih =>
    cases rv with
    | cons r rv =>
      cases dp with
      | cons d dp => exact .cons ⟨r, Dp.reads I _ _ _ d r⟩ (ih rv dp)
theorem vals_of {us : List Value} {bs : List (V × PyData)} (h : EachIs (fun (v : Value) (b : V × PyData) => RelV b.1 v) us bs) : Vals (bs.map (·.1)) us := by
  induction h with
  | nil => exact .nil
  | cons r _ ih => exact .cons r ih
theorem each_imp {α β : Type} {R S : α → β → Prop} (k : ∀ a b, R a b → S a b) {us : List α} {bs : List β} (h : EachIs R us bs) : EachIs S us bs := by
  induction h with
  | nil => exact .nil
  | cons r _ ih => exact .cons (k _ _ r) ih
/-- what is wanted of the data -/
structure SortOk (zs : List PyData) : Prop where
  al : AllAlike zs
  so : Sortable zs
  dp : PyData.depthAll zs ≤ 60
theorem depth_mem : ∀ {zs : List PyData} {d : PyData} {n : Nat}, PyData.depthAll zs ≤ n → d ∈ zs → d.depth ≤ n
  | z :: zs, d, n, h, hm => by
    simp only [PyData.depthAll] at h
    rcases List.mem_cons.mp hm with rfl | hm
    · omega
    · exact depth_mem (by omega) hm
/-- the sort of the collected items: a new list -/
theorem sort_new {Q : VK} {E : Value → Shared → Prop} {us : List Value} {ys : List V} {zs : List PyData} (hu : X.A.units + 65 < cLine) (I : Inv X pins σ H s) (rv : Vals ys us) (dp : DpAll X.K H ys zs) (hz : zs.length = ys.length) (ok : SortOk zs) (hl : ys.length ≤ sizeLine)
    (q : ∀ p, H p = none → Q (.ref p) (upd H p (.lst (vsort (ys.zip zs))))) :
    wpAny (model X.prog X.w) X.A.in1 (call (.builtin "list.sort") [.ref s.heap.objs.size]) (fun _ s' => EP X pins σ Q (.ref s.heap.objs.size) s') E { s with heap := s.heap.push { cls := .type "list", data := .seq us.toArray } } := by
  have hul := rv.length
  have ho : (s.heap.push (PyProof.Rows.seqObj "list" us.toArray 0)).get? s.heap.objs.size = some (PyProof.Rows.seqObj "list" us.toArray 0) := Heap.get?_push_size _ rfl
  have hzl : ((ys.zip zs).map (·.2)) = zs := by rw [List.map_snd_zip]; omega
  have er : EachIs (fun (v : Value) (b : V × PyData) => ∃ as, Reads (sortingHeap (s.heap.push (PyProof.Rows.seqObj "list" us.toArray 0)) s.heap.objs.size us) v b.2 as) us (ys.zip zs) :=
    each_imp (fun v b ⟨_, as, r⟩ => ⟨as, PyProof.Rows.Reads.keeps (fun c o hc => PySem.W.sortingHeap_old (Nat.ne_of_lt (Heap.lt_size hc)) (Heap.get?_push_of_some _ hc)) r⟩) (each_of rv dp I)
  have e0 : EachIs (fun (v : Value) (b : V × PyData) => RelV b.1 v) us (ys.zip zs) := each_imp (fun _ _ h => h.1) (each_of rv dp I)
  have hal : AllAlike ((ys.zip zs).map (·.2)) := by rw [hzl]; exact ok.al
  have hk : Sortable ((ys.zip zs).map (·.2)) := by rw [hzl]; exact ok.so
  refine wpAny_call_entry PyProof.Rows.slot_list_sort ⟨_, ho, rfl⟩ PyProof.Rows.entry_list_sort (PySem.W.list_sort_vals (κ := dataKind (sortingHeap (s.heap.push (PyProof.Rows.seqObj "list" us.toArray 0)) s.heap.objs.size us) ((ys.zip zs).map (·.2))) ho
    (PySem.W.SortsAt.data (s := { s with heap := sortingHeap (s.heap.push (PyProof.Rows.seqObj "list" us.toArray 0)) s.heap.objs.size us }) (PySem.W.each_map (R := fun v d => ∃ as, Reads (sortingHeap (s.heap.push (PyProof.Rows.seqObj "list" us.toArray 0)) s.heap.objs.size us) v d as) (fun b : V × PyData => b.2) er) hal hk ?_) (by rw [← hul]; exact hl) ⟨.none, rfl, ?_⟩) (PyProof.Rows.args_list_sort _)
  · intro d hd
    rw [hzl] at hd
    have := depth_mem ok.dp hd
    show X.A.in1.in1.units + d.depth < cLine
    simp only [Around.in1_units]
    omega
  · have out := PySem.W.sortVals_data false e0 er hal
    obtain ⟨ne, hne⟩ := PyProof.Rows.sortedHeap_at (vs := us) (out := (PySem.W.sortVals (dataKind (sortingHeap (s.heap.push (PyProof.Rows.seqObj "list" us.toArray 0)) s.heap.objs.size us) ((ys.zip zs).map (·.2))) false us us).toArray) ho
    refine ⟨.ref s.heap.objs.size, upd H s.heap.objs.size (.lst (vsort (ys.zip zs))), I.laid (t' := s.toks) (fun b o e => ?_) (Nat.le_refl _) ?_, rfl, q _ (I.hok.fresh (Nat.le_refl _))⟩
    · have hlt := Heap.lt_size e
      exact (PyProof.Rows.sortedHeap_old (Nat.ne_of_lt hlt) (by rw [Heap.size_push]; exact Nat.lt_succ_of_lt hlt)).trans (Heap.get?_push_of_some _ e)
    · refine ⟨by rw [vsort_length _ _ hz]; exact hl, _, ne, vals_of out, hne⟩
/-- sorted(x): the items collected, then sorted -/
theorem sorted_of {Q : VK} {v : Value} {G : Heap → List Value → Prop} (hu : X.A.units + 65 < cLine) (I : Inv X pins σ H s)
    (col : ∀ (R : List Value → Shared → Prop) (E : Value → Shared → Prop), (∀ h' tk us, (∀ b o, s.heap.get? b = some o → h'.get? b = some o) → G h' us → R us { s with heap := h', toks := tk }) → wpAny (model X.prog X.w) X.A.in1 (collect v) R E s)
    (fin : ∀ h' tk us, Inv X pins σ H { s with heap := h', toks := tk } → G h' us → ∃ (H' : Hp) (ys : List V) (zs : List PyData), Inv X pins σ H' { s with heap := h', toks := tk } ∧ Vals ys us ∧ DpAll X.K H' ys zs ∧ zs.length = ys.length ∧ SortOk zs ∧ ys.length ≤ sizeLine ∧
      ∀ p, H' p = none → Q (.ref p) (upd H' p (.lst (vsort (ys.zip zs))))) :
    wpAny (model X.prog X.w) X.A (call (.builtin "sorted") [v]) (EP X pins σ Q) X.xe s := by
  refine Calls.call_function_entry PyProof.Rows.kind_sorted PyProof.Rows.plain_sorted PyProof.Rows.entry_sorted (PyProof.Rows.args_sorted1 _) ?_
  unfold Builtin.«sorted»
  refine wpAny_bind (m := checkCount "sorted" 1 1 _) (wpAny_pure ?_)
  refine wpAny_bind (col _ _ fun h' tk us hk hG => ?_)
  have I1 : Inv X pins σ H { s with heap := h', toks := tk } := I.kept hk
  obtain ⟨H', ys, zs, I2, rv, dp, hz, ok, hl, q⟩ := fin h' tk us I1 hG
  have hul := rv.length
  refine wpAny_bind (wpAny_newList ?_ (by rw [← hul]; exact hl))
  refine wpAny_bind (wpAny_holding (wpAny_mono (sort_new (E := X.xe) hu I2 rv dp hz ok hl q) (fun _ s' x => ?_) fun _ _ e => e))
  exact wpAny_pure ⟨_, rfl, x⟩
def rSortG (K : PySem.W.Frag) : List V → Hp → VK → Prop := fun vs H Q => ∃ p ys zs, vs = [.ref p] ∧ (SqL K H p ys ∨ SqT K H p ys) ∧ DpAll K H ys zs ∧ zs.length = ys.length ∧ SortOk zs ∧ ∀ q, H q = none → Q (.ref q) (upd H q (.lst (vsort (ys.zip zs))))
theorem call_sortG (hu : X.A.units + 65 < cLine) : CallR X (.builtin "sorted") (rSortG X.K) := by
  intro pins s σ H vs us Q I r h
  obtain ⟨p, ys, zs, rfl, hp, dp, hz, ok, q⟩ := h
  obtain ⟨u, rfl, rx⟩ := vals1 r
  cases rx
  have go : ∀ {T : String} {o : Obj} {its : List Value} {n : Nat}, T = "list" ∨ T = "tuple" → s.heap.get? p = some o → o.cls = .type T → o.data = .seq its.toArray n → Vals ys its → ys.length ≤ sizeLine → wpAny (model X.prog X.w) X.A (call (.builtin "sorted") [.ref p]) (EP X pins σ Q) X.xe s := fun {T o its n} hT ho hc hd rv hl => by
    have hul := rv.length
    refine sorted_of (G := fun _ us => us = its) hu I (fun R E k => PySem.wpAny_collect_seq p hT ho hc hd (fun h' hk => k h' s.toks _ hk (by simp)) (by rw [List.size_toArray, ← hul]; exact hl)) fun h' tk us I1 e => ?_
    subst e
    exact ⟨H, ys, zs, I1, rv, dp, hz, ok, hl, q⟩
  rcases hp with hp | hp
  · obtain ⟨its, rv, ⟨o, n, h1, h2, h3, h4⟩, hl⟩ := I.list hp
    exact go (.inl rfl) h1 h2 h4 rv hl
  · obtain ⟨its, rv, ⟨o, h1, h2, n, h4⟩, hl⟩ := I.tuple hp
    exact go (.inr rfl) h1 h2 h4 rv hl
end
section
variable {e : En} {B : Bk} {μ : Mu} {H : Hp} {h : AH} {E : XK} {W : WX} {X : Cx}
theorem dpAll_rel (a : AHOk e B μ H h) (n : Nat) : ∀ {xs : List D} {ys : List V} {zs : List PyData}, xs.mapM (dataOf h n) = some zs → RelDs e B μ H xs ys → DpAll e.K H ys zs := fun q rs => dpAll_of (fun d v x q r => dp_of a n d v x q r) q rs
theorem mapM_len {α β : Type} {f : α → Option β} : ∀ {xs : List α} {zs : List β}, xs.mapM f = some zs → zs.length = xs.length
  | [], zs, h => by simp at h; subst h; rfl
  | x :: xs, zs, h => by
    rw [List.mapM_cons] at h
    cases h1 : f x with
    | none => rw [h1] at h; cases h
    | some z =>
      rw [h1] at h
      cases h2 : xs.mapM f with
      | none => rw [h2] at h; cases h
      | some zs' =>
        rw [h2] at h
        cases h
        simp [mapM_len h2]
theorem depthAll_rel (a : AHOk e B μ H h) (n : Nat) : ∀ {xs : List D} {ys : List V} {zs : List PyData}, xs.mapM (dataOf h n) = some zs → RelDs e B μ H xs ys → PyData.depthAll zs ≤ n
  | [], _, zs, q, r => by simp at q; subst q; simp [PyData.depthAll]
  | x :: xs, _, zs, q, .cons r rs => by
    rw [List.mapM_cons] at q
    cases h1 : dataOf h n x with
    | none => rw [h1] at q; cases q
    | some z =>
      rw [h1] at q
      cases h2 : xs.mapM (dataOf h n) with
      | none => rw [h2] at q; cases q
      | some zs' =>
        rw [h2] at q
        cases q
        obtain ⟨d1, _⟩ := depth_of a n x _ z h1 r
        have d2 := depthAll_rel a n h2 rs
        simp only [PyData.depthAll]
        omega
open Classical in
/-- sorted of the items xs -/
noncomputable def sortRes (m : Bool) (xs : List D) (h : AH) : Res D := match xs.mapM (dataOf h 55) with
  | some zs => if AllAlike zs ∧ Sortable zs then newL m (dsort (xs.zip zs)) h else .stuck
  | none => .stuck
noncomputable def sortF (m : Bool) : List D → AH → Res D := fun ds h => match ds with
  | [d] => match seqOf d h with
    | some (xs, _) => sortRes m xs h
    | none => .stuck
  | _ => .stuck
theorem sort_rel {m : Bool} {xs : List D} {ys : List V} {Q : VK} (a : AHOk e B μ H h) (rs : RelDs e B μ H xs ys) (z : ys.length ≤ sizeLine) (o : Out e E μ H B (sortRes m xs h) Q) : ∃ zs, DpAll e.K H ys zs ∧ zs.length = ys.length ∧ SortOk zs ∧ ∀ q, H q = none → Q (.ref q) (upd H q (.lst (vsort (ys.zip zs)))) := by
  unfold sortRes at o
  split at o
  · rename_i zs q
    split at o
    · rename_i hc
      have hl := mapM_len q
      have hr := rs.length
      have hd := depthAll_rel a 55 q rs
      exact ⟨zs, dpAll_rel a 55 q rs, by omega, ⟨hc.1, hc.2, by omega⟩, fun p hp => out_newL a o (rel_sort rs hl) (by rw [vsort_length _ _ (by omega)]; exact z) hp⟩
    · exact o.elim
  · exact o.elim
theorem sim_sort {m : Bool} : SimC e (sortF m) (rSortG e.K) := fun E B μ H h ds vs Q a rs o => by
  unfold sortF at o
  split at o
  · obtain ⟨v, rfl, r⟩ := rel1 rs
    split at o
    · rename_i xs gs q
      obtain ⟨p, ys, rfl, hs, r1, z⟩ := seq_sq a r q
      obtain ⟨zs, h1, h2, h3, h4⟩ := sort_rel a r1 (by rw [← r1.length]; exact z) o
      exact ⟨p, ys, zs, rfl, hs, h1, h2, h3, h4⟩
    · exact o.elim
  · exact o.elim
end
end G

/-! E18: list(d), sorted(d), len(d), dict(d), dict(pairs). -/
namespace G
open PySem PySem.Spec L2
open PyProof.Rows hiding St
section
variable {e : En} {B : Bk} {μ : Mu} {H : Hp} {h : AH} {E : XK} {W : WX} {X : Cx} {pins : List (Addr × Obj)} {σ : L2.St} {s : Shared}
/-! ### the keys and values collected -/
theorem keys_vals {w : World} {P : Nat → Value → Prop} {acc : List Value} {us : List V} (hl : acc.length = us.length) (h : ∀ (j : Nat) (v : Value), acc[j]? = some v → ∃ y, us[j]? = some y ∧ RelV y v) : Vals us acc := by
  induction us generalizing acc with
  | nil =>
    cases acc with
    | nil => exact .nil
    | cons _ _ => simp at hl
  | cons u us ih =>
    cases acc with
    | nil => simp at hl
    | cons a acc =>
      obtain ⟨y, h1, h2⟩ := h 0 a (by simp)
      simp at h1
      subst h1
      exact .cons h2 (ih (by simpa using hl) fun j v hj => by
        obtain ⟨y, h1, h2⟩ := h (j + 1) v (by simpa using hj)
        exact ⟨y, by simpa using h1, h2⟩)
theorem raw_keys {w : World} {ks : List D} {ys zs : List V} {es : Array DictEntry} {acc : Array Value} (hen : EnV w ks ys zs es.toList) (h : ItemsOf (fun i v => ∃ hi : i < es.size, v = es[i].key) acc es.size) : Vals ys acc.toList := by
  obtain ⟨l1, l2, l3⟩ := hen.len
  refine keys_vals (w := w) (P := fun _ _ => True) (by rw [Array.length_toList, h.1]; simpa using l2.symm) fun j v hj => ?_
  obtain ⟨hi, rfl⟩ := h.2 j v (by rw [← Array.getElem?_toList]; exact hj)
  obtain ⟨y, z, hy, _, ry, _⟩ := hen.get (i := j) (en := es[j]) (by simp [hi])
  exact ⟨y, hy, ry⟩
theorem raw_vals {w : World} {ks : List D} {ys zs : List V} {es : Array DictEntry} {acc : Array Value} (hen : EnV w ks ys zs es.toList) (h : ItemsOf (fun i v => ∃ hi : i < es.size, v = es[i].val) acc es.size) : Vals zs acc.toList := by
  obtain ⟨l1, l2, l3⟩ := hen.len
  refine keys_vals (w := w) (P := fun _ _ => True) (by rw [Array.length_toList, h.1]; simpa using l3.symm) fun j v hj => ?_
  obtain ⟨hi, rfl⟩ := h.2 j v (by rw [← Array.getElem?_toList]; exact hj)
  obtain ⟨y, z, _, hz, _, rz⟩ := hen.get (i := j) (en := es[j]) (by simp [hi])
  exact ⟨z, hz, rz⟩
theorem DAt.raw {d : Addr} {ks : List D} {ys zs : List V} {es : Array DictEntry} {w : World} (I : Inv X pins σ H s) (t : DAt w H d ks ys zs es) : ∃ ep, s.heap.DictRaw d es ep := by
  obtain ⟨ep, q⟩ := t.at'
  exact ⟨ep, dHO_raw I q⟩
/-! ### list(d) -/
def rListK (w : World) : List V → Hp → VK → Prop := fun vs H Q => ∃ d ks ys zs es, vs = [.ref d] ∧ DAt w H d ks ys zs es ∧ ∀ p, H p = none → Q (.ref p) (upd H p (.lst ys))
theorem call_listK (hc : X.calm = true) : CallR X (.type "list") (rListK X.w) := by
  intro pins s σ H vs us Q I r h
  obtain ⟨d, ks, ys, zs, es, rfl, t, q⟩ := h
  obtain ⟨u, rfl, rx⟩ := vals1 r
  cases rx
  obtain ⟨ep, raw⟩ := t.raw I
  refine PySem.W.kdl_call (KdlSrc.rawDict (ep := ep) t.sys) (I.ok.hd hc) raw t.size fun h' tk acc' c' kp eq it => ?_
  have rv := raw_keys t.ens it
  have hl := rv.length
  obtain ⟨l1, l2, l3⟩ := t.ens.len
  refine ⟨.ref s.heap.objs.size, upd H s.heap.objs.size (.lst ys), I.laid (t' := tk) kp (Nat.le_refl _) ⟨by rw [l2]; simpa using t.size, acc'.toList, c', rv, by simpa using eq⟩, rfl, q _ (I.hok.fresh (Nat.le_refl _))⟩
def listDF (m : Bool) : List D → AH → Res D := fun ds h => match ds with
  | [d] => match dctAt d h with
    | some (ks, _) => newL m ks h
    | none => listF m ds h
  | _ => .stuck
def rListX (e : En) : List V → Hp → VK → Prop := fun xs H Q => (∃ p ys, xs = [.ref p] ∧ (SqL e.K H p ys ∨ SqT e.K H p ys) ∧ ∀ l, H l = none → Q (.ref l) (upd H l (.lst ys))) ∨ rListK e.w xs H Q
theorem call_listX (hc : X.calm = true) : CallR X (.type "list") (rListX X.en) := call_list_of.orG (call_listK hc)
theorem sim_listX {m : Bool} : SimC e (listDF m) (rListX e) := fun E B μ H h ds vs Q a rs o => by
  unfold listDF at o
  split at o
  · split at o
    · rename_i ks vs' q
      obtain ⟨v, rfl, r⟩ := rel1 rs
      obtain ⟨p, ys, zs, es, rfl, t, rk, rv⟩ := dct_at a r q
      obtain ⟨l1, l2, l3⟩ := t.ens.len
      exact .inr ⟨p, ks, ys, zs, es, rfl, t, fun l hl => out_newL a o rk (by rw [l2]; simpa using t.size) hl⟩
    · exact .inl (sim_list E B μ H h _ vs Q a rs o)
  · exact o.elim
/-! ### sorted(d) -/
def rSortK (e : En) : List V → Hp → VK → Prop := fun vs H Q => ∃ d ks ys zs es ps, vs = [.ref d] ∧ DAt e.w H d ks ys zs es ∧ DpAll e.K H ys ps ∧ ps.length = ys.length ∧ SortOk ps ∧ ∀ q, H q = none → Q (.ref q) (upd H q (.lst (vsort (ys.zip ps))))
theorem call_sortK (hc : X.calm = true) (hu : X.A.units + 65 < cLine) : CallR X (.builtin "sorted") (rSortK X.en) := by
  intro pins s σ H vs us Q I r h
  obtain ⟨d, ks, ys, zs, es, ps, rfl, t, dp, hz, ok, q⟩ := h
  obtain ⟨u, rfl, rx⟩ := vals1 r
  cases rx
  obtain ⟨ep, raw⟩ := t.raw I
  refine sorted_of (G := fun _ us => Vals ys us) hu I (fun R E k => PySem.W.kdu_collect (A := X.A.in1) (KdlSrc.rawDict (ep := ep) t.sys) (I.ok.hd hc) raw t.size fun h' tk acc hk it => k h' tk _ hk (raw_keys t.ens it)) fun h' tk us I1 rv => ?_
  obtain ⟨l1, l2, l3⟩ := t.ens.len
  exact ⟨H, ys, ps, I1, rv, dp, hz, ok, by rw [l2]; simpa using t.size, q⟩
noncomputable def sortDF (m : Bool) : List D → AH → Res D := fun ds h => match ds with
  | [d] => match dctAt d h with
    | some (ks, _) => sortRes m ks h
    | none => sortF m ds h
  | _ => .stuck
theorem call_sortX (hc : X.calm = true) (hu : X.A.units + 65 < cLine) : CallR X (.builtin "sorted") (fun vs H Q => rSortG X.K vs H Q ∨ rSortK X.en vs H Q) := (call_sortG hu).orG (call_sortK hc hu)
theorem sim_sortX {m : Bool} : SimC e (sortDF m) (fun vs H Q => rSortG e.K vs H Q ∨ rSortK e vs H Q) := fun E B μ H h ds vs Q a rs o => by
  unfold sortDF at o
  split at o
  · split at o
    · rename_i ks vs' q
      obtain ⟨v, rfl, r⟩ := rel1 rs
      obtain ⟨p, ys, zs, es, rfl, t, rk, rv⟩ := dct_at a r q
      obtain ⟨l1, l2, l3⟩ := t.ens.len
      obtain ⟨ps, h1, h2, h3, h4⟩ := sort_rel a rk (by rw [l2]; simpa using t.size) o
      exact .inr ⟨p, ks, ys, zs, es, ps, rfl, t, h1, h2, h3, h4⟩
    · exact .inl (sim_sort E B μ H h _ vs Q a rs o)
  · exact o.elim
/-! ### len(d), leaves -/
def rLenD (e : En) : List V → Hp → VK → Prop := fun vs H Q => ∃ B μ d ks ys zs es, vs = [.ref d] ∧ DAt e.w H d ks ys zs es ∧ RelDs e B μ H ks ys ∧ ks.all leafK = true ∧ Q (.int ks.length) H
theorem call_lenLf : CallR X (.builtin "len") (rLenD X.en) := by
  intro pins s σ H vs us Q I r h
  obtain ⟨B, μ, d, ks, ys, zs, es, rfl, t, rk, ha, q⟩ := h
  obtain ⟨u, rfl, rx⟩ := vals1 r
  cases rx
  obtain ⟨kvs, lp, dd, hsz⟩ := dict_L I t rk ha
  refine call_len_dict t.sys dd (by rw [sizeLine_eq] at hsz; omega) ?_
  rw [← lp.len]
  exact ⟨.int ks.length, H, I.tok _, ⟨_, rfl⟩, q⟩
def lenDF : List D → AH → Res D := fun ds h => match ds with
  | [d] => match dctAt d h with
    | some (ks, _) => if ks.all leafK then .ok (.int ks.length) h else .stuck
    | none => lenF ds h
  | _ => .stuck
theorem call_lenDX : CallR X (.builtin "len") (fun vs H Q => rLenX X.K vs H Q ∨ rLenD X.en vs H Q) := call_lenX.orG call_lenLf
theorem sim_lenDX : SimC e lenDF (fun vs H Q => rLenX e.K vs H Q ∨ rLenD e vs H Q) := fun E B μ H h ds vs Q a rs o => by
  unfold lenDF at o
  split at o
  · split at o
    · rename_i ks vs' q
      obtain ⟨v, rfl, r⟩ := rel1 rs
      obtain ⟨p, ys, zs, es, rfl, t, rk, rv⟩ := dct_at a r q
      split at o
      · exact .inr ⟨B, μ, p, ks, ys, zs, es, rfl, t, rk, by assumption, o _ μ H .refl a (.int _)⟩
      · exact o.elim
    · exact .inl (sim_len E B μ H h _ vs Q a rs o)
  · exact o.elim
/-! ### new dicts -/
def newDct (m : Bool) (ks vs : List D) (h : AH) : Res D := if m then .ok (.ref h.length) (h ++ [.dct ks vs]) else .ok (.dct ks vs) h
def DNew0 (e : En) (B : Bk) (μ : Mu) (H : Hp) (ks : List D) (zs : List V) (Q : VK) : Prop :=
  ∀ p es ep ys, H p = none → DAt e.w (upd H p (dHO p es ep)) p ks ys zs es → RelDs e B μ H ks ys → Q (.ref p) (upd H p (dHO p es ep))
theorem out_newD {m : Bool} {ks vs : List D} {zs : List V} {Q : VK} (a : AHOk e B μ H h) (o : Out e E μ H B (newDct m ks vs h) Q) (rv : RelDs e B μ H vs zs) : DNew0 e B μ H ks zs Q := by
  intro p es ep ys hp t rk
  unfold newDct at o
  have xn := Ext.new (μ := μ) (o := dHO p es ep) hp (a.free hp).2
  cases m with
  | false => exact o _ μ _ xn (a.new hp) (.dct t (a.free hp) (rk.mono xn) (rv.mono xn))
  | true =>
    have xa := Ext.add (o := dHO p es ep) a hp
    refine o (.ref p) (muAdd μ h.length p) _ xa (a.add hp ⟨ys, zs, es, t, rk.mono xa, rv.mono xa⟩) (.ref ?_)
    dsimp only [muAdd]
    rw [if_pos rfl]
theorem bigS (I : Inv X pins σ H s) : (s.heap.objs.size == sysModules) = false := beq_eq_false_iff_ne.mpr (Ne.symm (Nat.ne_of_lt I.big))
theorem laid_L {Q : VK} {ks' : List D} {zs' : List V} {kvs' : List (Leaf × Value)} {h' : Heap} {t' : Nat} (I : Inv X pins σ H s) (lp : LP ks' zs' kvs') (dd : h'.DictOf (lfKind X.prog X.w) s.heap.objs.size kvs') (hk : ∀ b o, s.heap.get? b = some o → h'.get? b = some o) (hl : kvs'.length ≤ sizeLine) (nd : (ks'.map keyOf).Nodup)
    (rks : RelDs X.en B μ H ks' (ks'.map vLeaf)) (q : DNew0 X.en B μ H ks' zs' Q) : EP X pins σ Q (.ref s.heap.objs.size) { s with heap := h', toks := t' } := by
  obtain ⟨o, es', ep, h1, h2, h3, h4, h5, h6⟩ := dd
  have e1 := h5.length
  have hn := I.hok.fresh (Nat.le_refl s.heap.objs.size)
  exact ⟨.ref s.heap.objs.size, upd H s.heap.objs.size (dHO s.heap.objs.size es' ep), I.laid hk (Nat.le_refl _) (dHO_ok h1 h2 h3), rfl,
    q _ es' ep _ hn ⟨⟨ep, upd_same⟩, by rw [← e1] at hl; simpa using hl, bigS I, ofLP (e := X.en) (P := X.prog) lp h5 fun en hen => h4 en (by simpa using hen), nd⟩ rks⟩
theorem laid_T {Q : VK} {ks' : List D} {ys' zs' : List V} {xs' : List (NestedKey × Addr × Value)} {h' : Heap} {t' : Nat} (I : Inv X pins σ H s) (tp : TP ks' ys' zs' xs') (dd : h'.DictOfH (nestedKind X.prog X.w) s.heap.objs.size xs') (hk : ∀ b o, s.heap.get? b = some o → h'.get? b = some o) (hl : xs'.length ≤ sizeLine) (nd : (ks'.map keyOf).Nodup)
    (rks : RelDs X.en B μ H ks' ys') (q : DNew0 X.en B μ H ks' zs' Q) : EP X pins σ Q (.ref s.heap.objs.size) { s with heap := h', toks := t' } := by
  obtain ⟨o, es', ep, h1, h2, h3, h4, h5, h6⟩ := dd
  have hn := I.hok.fresh (Nat.le_refl s.heap.objs.size)
  refine ⟨.ref s.heap.objs.size, upd H s.heap.objs.size (dHO s.heap.objs.size es' ep), I.laid hk (Nat.le_refl _) (dHO_ok h1 h2 h3), rfl,
    q _ es' ep _ hn ⟨⟨ep, upd_same⟩, ?_, bigS I, by rw [h4]; exact ofTP (e := X.en) (P := X.prog) tp, nd⟩ rks⟩
  have : es'.toList.length = xs'.length := by rw [h4, List.length_map]
  rw [← this] at hl
  simpa using hl
/-! ### dict(d): leaves -/
def rDictD (e : En) : List V → Hp → VK → Prop := fun vs H Q => ∃ B μ d ks ys zs es, vs = [.ref d] ∧ DAt e.w H d ks ys zs es ∧ RelDs e B μ H ks ys ∧ ks.all leafK = true ∧ DNew0 e B μ H ks zs Q
theorem call_dictLf : CallR X (.type "dict") (rDictD X.en) := by
  intro pins s σ H vs us Q I r h
  obtain ⟨B, μ, d, ks, ys, zs, es, rfl, t, rk, ha, q⟩ := h
  obtain ⟨u, rfl, rx⟩ := vals1 r
  cases rx
  obtain ⟨kvs, lp, dd, hsz⟩ := dict_L I t rk ha
  refine kt_call_dict t.sys dd hsz fun h' dd' hs => ?_
  exact laid_L (t' := s.toks) I lp dd' (fun b o hb => (hs.2 b (Nat.ne_of_lt (Heap.lt_size hb))).trans (Heap.get?_push_of_some _ hb)) hsz t.nd (lf_selfs ha rk) q
/-! ### dict(pairs) -/
/-- pairs put one after the other -/
def dmerge : List D → List D → List D → List D → List D × List D
  | ks, vs, k :: kk, v :: vv => dmerge (dputK ks k) (dputV ks vs k v) kk vv
  | ks, vs, _, _ => (ks, vs)
def vmergeY : List D → List V → List D → List V → List V
  | ks, ys, k :: kk, u :: uu => vmergeY (dputK ks k) (vputY ks ys k u) kk uu
  | _, ys, _, _ => ys
def vmergeV : List D → List V → List D → List V → List V
  | ks, zs, k :: kk, z :: zz => vmergeV (dputK ks k) (vputV ks zs k z) kk zz
  | _, zs, _, _ => zs
def kmerge : List D → List D → List D
  | ks, k :: kk => kmerge (dputK ks k) kk
  | ks, [] => ks
theorem dmerge_fst : ∀ (kk vv ks vs : List D), kk.length = vv.length → (dmerge ks vs kk vv).1 = kmerge ks kk
  | [], [], ks, vs, _ => by unfold dmerge kmerge; rfl
  | k :: kk, v :: vv, ks, vs, h => by unfold dmerge kmerge; exact dmerge_fst kk vv _ _ (by simpa using h)
theorem rel_merge : ∀ {kk vv : List D} {zz : List V} {ks vs : List D} {zs : List V}, RelDs e B μ H vs zs → RelDs e B μ H vv zz → RelDs e B μ H (dmerge ks vs kk vv).2 (vmergeV ks zs kk zz)
  | [], _, _, ks, vs, zs, r, _ => by unfold dmerge vmergeV; exact r
  | k :: kk, _, _, ks, vs, zs, r, .nil => by unfold dmerge vmergeV; exact r
  | k :: kk, _, _, ks, vs, zs, r, .cons r1 t => by unfold dmerge vmergeV; exact rel_merge (rel_putV r r1) t
theorem rel_mergeK : ∀ {kk : List D} {uu : List V} {ks : List D} {ys : List V}, RelDs e B μ H ks ys → RelDs e B μ H kk uu → RelDs e B μ H (kmerge ks kk) (vmergeY ks ys kk uu)
  | _, _, ks, ys, r, .nil => by unfold kmerge vmergeY; exact r
  | _, _, ks, ys, r, .cons r1 t => by unfold kmerge vmergeY; exact rel_mergeK (rel_putK r r1) t
theorem kmerge_nd : ∀ (kk ks : List D), (ks.map keyOf).Nodup → ((kmerge ks kk).map keyOf).Nodup
  | [], ks, h => by unfold kmerge; exact h
  | k :: kk, ks, h => by unfold kmerge; exact kmerge_nd kk _ (putK_nd ks k h)
theorem kmerge_len : ∀ (kk ks : List D), (kmerge ks kk).length ≤ ks.length + kk.length
  | [], ks => by unfold kmerge; simp
  | k :: kk, ks => by
    unfold kmerge
    have h1 := kmerge_len kk (dputK ks k)
    have h2 := putK_len ks k
    rw [List.length_cons]
    omega
theorem kmerge_all {p : D → Bool} : ∀ (kk ks : List D), ks.all p = true → kk.all p = true → (kmerge ks kk).all p = true
  | [], ks, h, _ => by unfold kmerge; exact h
  | k :: kk, ks, h, h2 => by
    rw [List.all_cons, Bool.and_eq_true] at h2
    unfold kmerge
    exact kmerge_all kk _ (putK_all ks k h h2.1) h2.2
theorem LP.merge : ∀ {kk : List D} {zz : List V} {more : List (Leaf × Value)} {ks : List D} {zs : List V} {kvs : List (Leaf × Value)}, LP kk zz more → LP ks zs kvs → (ks.map keyOf).Nodup → LP (kmerge ks kk) (vmergeV ks zs kk zz) (merged kvs more)
  | _, _, _, ks, zs, kvs, .nil, l, _ => by unfold kmerge vmergeV; exact l
  | _, _, _, ks, zs, kvs, .cons hk r t, l, nd => by
    unfold kmerge vmergeV
    have := LP.merge t (l.put hk r (l.nd nd)) (putK_nd ks _ nd)
    exact this
theorem TP.merge : ∀ {kk : List D} {uu zz : List V} {more : List (NestedKey × Addr × Value)} {ks : List D} {ys zs : List V} {xs : List (NestedKey × Addr × Value)}, TP kk uu zz more → TP ks ys zs xs → (ks.map keyOf).Nodup → TP (kmerge ks kk) (vmergeY ks ys kk uu) (vmergeV ks zs kk zz) (storedAllH xs more)
  | _, _, _, _, ks, ys, zs, kvs, .nil, l, _ => by unfold kmerge vmergeY vmergeV; exact l
  | _, _, _, _, ks, ys, zs, kvs, .cons (a := a) hk r t, l, nd => by
    unfold kmerge vmergeY vmergeV
    have := TP.merge t (l.put (a := a) hk r (l.nd nd)) (putK_nd ks _ nd)
    exact this
/-- the items of a list are tuples of two -/
def pairsD : List D → Option (List D × List D)
  | [] => some ([], [])
  | .tup [k, v] :: r => (pairsD r).map fun p => (k :: p.1, v :: p.2)
  | _ => none
/-- where pairs stand -/
inductive PairsV (K : PySem.W.Frag) (H : Hp) : List V → List V → List V → Prop
  | nil : PairsV K H [] [] []
  | cons {a : Addr} {y z : V} {us ys zs} : SqT K H a [y, z] → PairsV K H us ys zs → PairsV K H (.ref a :: us) (y :: ys) (z :: zs)
theorem pairs_rel : ∀ {xs : List D} {us : List V} {kk vv : List D}, pairsD xs = some (kk, vv) → RelDs e B μ H xs us → ∃ ys zs, PairsV e.K H us ys zs ∧ RelDs e B μ H kk ys ∧ RelDs e B μ H vv zs
  | [], _, kk, vv, h, r => by
    cases r
    cases h
    exact ⟨[], [], .nil, .nil, .nil⟩
  | x :: xs, _, kk, vv, h, r => by
    unfold pairsD at h
    split at h
    · rename_i heq
      cases heq
    · rename_i k v r' heq
      cases heq
      rw [Option.map_eq_some_iff] at h
      obtain ⟨p, h, he⟩ := h
      cases he
      cases r with
      | cons r0 rs =>
        obtain ⟨ys, zs, h1, h2, h3⟩ := pairs_rel h rs
        have go : ∀ {a : Addr} {us' : List V}, SqT e.K H a us' → RelDs e B μ H [k, v] us' → ∃ ys zs, PairsV e.K H (.ref a :: _) ys zs ∧ RelDs e B μ H (k :: p.1) ys ∧ RelDs e B μ H (v :: p.2) zs := fun {a us'} hs hr => by
          obtain ⟨y, z, rfl, ry, rz⟩ := rel2 hr
          exact ⟨y :: ys, z :: zs, .cons hs h1, .cons ry h2, .cons rz h3⟩
        cases r0 with
        | tup hr _ _ rr => exact go (.inl hr.rd) rr
        | tupK kt rr => exact go (.inr kt.k) rr
    · cases h
theorem pairsD_len : ∀ {xs kk vv : List D}, pairsD xs = some (kk, vv) → kk.length = xs.length ∧ vv.length = xs.length
  | [], kk, vv, h => by cases h; exact ⟨rfl, rfl⟩
  | x :: xs, kk, vv, h => by
    unfold pairsD at h
    split at h
    · rename_i heq
      cases heq
    · rename_i k v r' heq
      cases heq
      rw [Option.map_eq_some_iff] at h
      obtain ⟨p, h, he⟩ := h
      cases he
      obtain ⟨h1, h2⟩ := pairsD_len (kk := p.1) (vv := p.2) h
      simp [h1, h2]
    · cases h
/-- the real pairs -/
theorem pairsV_at (I : Inv X pins σ H s) : ∀ {us ys zs : List V} {items : List Value}, PairsV X.K H us ys zs → Vals us items → ∃ (Ts : List Addr) (ps : List (Value × Value)), items = Ts.map Value.ref ∧ Ts.length = ps.length ∧ Vals ys (ps.map (·.1)) ∧ Vals zs (ps.map (·.2)) ∧ ∀ (j : Nat) (t : Addr) (p : Value × Value), Ts[j]? = some t → ps[j]? = some p → s.heap.IsTuple t #[p.1, p.2]
  | _, _, _, _, .nil, rv => by
    cases rv
    exact ⟨[], [], rfl, rfl, .nil, .nil, fun j t p h => by simp at h⟩
  | _, _, _, _, .cons hs t, rv => by
    cases rv with
    | cons r rv =>
      cases r
      obtain ⟨Ts, ps, h1, h2, h3, h4, h5⟩ := pairsV_at I t rv
      obtain ⟨its, r2, ht, _⟩ := I.tuple hs
      obtain ⟨u1, u2, rfl, ry, rz⟩ := vals2 r2
      refine ⟨_ :: Ts, (u1, u2) :: ps, by rw [h1]; rfl, by simp [h2], .cons ry h3, .cons rz h4, fun j t p hj hp => ?_⟩
      cases j with
      | zero =>
        simp at hj hp
        subst hj hp
        obtain ⟨o, g1, g2, n, g3⟩ := ht
        exact ⟨o, g1, g2, n, g3⟩
      | succ j => exact h5 j t p (by simpa using hj) (by simpa using hp)
theorem lp_of_pairs : ∀ {kk : List D} {ys zs : List V} {ps : List (Value × Value)}, RelDs e B μ H kk ys → Vals ys (ps.map (·.1)) → Vals zs (ps.map (·.2)) → kk.all leafK = true →
    ∃ more : List (Leaf × Value), LP kk zs more ∧ more.length = ps.length ∧ ∀ (j : Nat) (p : Value × Value), ps[j]? = some p → ∃ l, more[j]? = some (l, p.2) ∧ (lfKind X.prog X.w).is l p.1 = true
  | [], _, zs, ps, r, ry, rz, _ => by
    cases r
    cases ps with
    | nil => cases rz; exact ⟨[], .nil, rfl, fun j p h => by simp at h⟩
    | cons p ps => cases ry
  | k :: kk, _, zs, ps, .cons r t, ry, rz, ha => by
    rw [List.all_cons, Bool.and_eq_true] at ha
    cases ps with
    | nil => cases ry
    | cons p ps =>
      cases ry with
      | cons r1 ry =>
        cases rz with
        | cons r2 rz =>
          obtain ⟨more, h1, h2, h3⟩ := lp_of_pairs t ry rz ha.2
          refine ⟨(leafOf k, p.2) :: more, .cons ha.1 r2 h1, by simp [h2], fun j q hj => ?_⟩
          cases j with
          | zero =>
            simp at hj
            subst hj
            exact ⟨leafOf k, by simp, lf_is ha.1 r r1⟩
          | succ j =>
            obtain ⟨l, h4, h5⟩ := h3 j q (by simpa using hj)
            exact ⟨l, by simpa using h4, h5⟩
theorem tp_of_pairs (I : Inv X pins σ H s) : ∀ {kk : List D} {ys zs : List V} {ps : List (Value × Value)}, RelDs X.en B μ H kk ys → Vals ys (ps.map (·.1)) → Vals zs (ps.map (·.2)) → kk.all tupKy = true → kk.all (fun k => (keyOf k).isSome) = true →
    ∃ more : List (NestedKey × Addr × Value), TP kk ys zs more ∧ more.length = ps.length ∧ (∀ (j : Nat) (p : Value × Value), ps[j]? = some p → ∃ k b, more[j]? = some (k, b, p.2) ∧ p.1 = .ref b) ∧ ∀ x ∈ more, (nestedKind X.prog X.w).is s.heap x.1 x.2.1
  | [], _, zs, ps, r, ry, rz, _, _ => by
    cases r
    cases ps with
    | nil => cases rz; exact ⟨[], .nil, rfl, fun j p h => by simp at h, fun x h => by simp at h⟩
    | cons p ps => cases ry
  | k :: kk, _, zs, ps, .cons r t, ry, rz, ha, hb => by
    rw [List.all_cons, Bool.and_eq_true] at ha hb
    cases ps with
    | nil => cases ry
    | cons p ps =>
      cases ry with
      | cons r1 ry =>
        cases rz with
        | cons r2 rz =>
          obtain ⟨more, h1, h2, h3, h4⟩ := tp_of_pairs I t ry rz ha.2 hb.2
          obtain ⟨nk, hk⟩ := Option.isSome_iff_exists.mp hb.1
          obtain ⟨b, e1, e2⟩ := key_ref ha.1 r r1
          subst e1
          refine ⟨(nk, b, p.2) :: more, .cons hk r2 h1, by simp [h2], fun j q hj => ?_, fun x hx => ?_⟩
          · cases j with
            | zero =>
              simp at hj
              subst hj
              exact ⟨nk, b, by simp, e2⟩
            | succ j =>
              obtain ⟨k', b', h5, h6⟩ := h3 j q (by simpa using hj)
              exact ⟨k', b', by simpa using h5, h6⟩
          · rcases List.mem_cons.mp hx with hx | hx
            · subst hx; exact nkind_of I hk r
            · exact h4 x hx
def keysOk (ks : List D) : Bool := (ks.all leafK || ks.all tupKy) && ks.all fun k => (keyOf k).isSome
def rDictP (e : En) : List V → Hp → VK → Prop := fun vs H Q => ∃ B μ p us ys zs kk, vs = [.ref p] ∧ SqL e.K H p us ∧ PairsV e.K H us ys zs ∧ RelDs e B μ H kk ys ∧ keysOk kk = true ∧ DNew0 e B μ H (kmerge [] kk) (vmergeV [] [] kk zs) Q
theorem call_dictPG (hc : X.calm = true) (hu : X.A.units + 65 < cLine) : CallR X (.type "dict") (rDictP X.en) := by
  intro pins s σ H vs us0 Q I r h
  obtain ⟨B, μ, p, us, ys, zs, kk, rfl, hs, pv, rk, hok, q⟩ := h
  obtain ⟨u, rfl, rx⟩ := vals1 r
  cases rx
  obtain ⟨its, rv, ⟨o, n, h1, h2, h3, h4⟩, hl⟩ := I.list hs
  obtain ⟨Ts, ps, e1, e2, r1, r2, hp⟩ := pairsV_at I pv rv
  have lz : us.length = ps.length := by have := rv.length; rw [e1, List.length_map] at this; omega
  have lk : kk.length = ps.length := by have := r1.length; rw [List.length_map] at this; have := rk.length; omega
  unfold keysOk at hok
  rw [Bool.and_eq_true, Bool.or_eq_true] at hok
  obtain ⟨hcs, hsome⟩ := hok
  have okP : PlainSeq "list" s.heap p its.toArray ∧ PairItems s.heap its.toArray (fun j => Ts.getD j 0) ps := by
    refine ⟨⟨o, n, h1, h2, h3, h4⟩, by rw [e1, List.size_toArray, List.length_map]; exact e2, fun j k v hj => ?_⟩
    have hlt : j < Ts.length := by rw [e2]; exact (List.getElem?_eq_some_iff.mp hj).1
    refine ⟨by rw [e1]; simp [hlt], .inl ?_⟩
    exact hp j _ _ (by simp [hlt]) hj
  have hsz : ps.length ≤ sizeLine := by rw [← lz]; exact hl
  rcases hcs with ha | ha
  · obtain ⟨more, lp, lm, hm⟩ := lp_of_pairs (X := X) rk r1 r2 ha
    refine PySem.call_dict_pairs (knd := lfKind X.prog X.w) (kvs := more) (PairArg.list p its.toArray (fun j => Ts.getD j 0) ps) (I.ok.hd hc) okP ⟨lm, fun i key v hi => ?_⟩ hsz fun h' tk dd hk => ?_
    · obtain ⟨l, h5, h6⟩ := hm i (key, v) hi
      exact ⟨l, h5, h6⟩
    · have lp' := lp.merge .nil .nil
      refine laid_L (t' := tk) I lp' dd (fun b o e => hk b o (by simp) e) ?_ (kmerge_nd kk [] .nil) (lf_selfs (kmerge_all kk [] rfl ha) (rel_mergeK .nil rk)) q
      have := merged_length_le ([] : List (Leaf × Value)) more
      rw [List.length_nil] at this
      omega
  · obtain ⟨more, tp, lm, hm, his⟩ := tp_of_pairs I rk r1 r2 ha hsome
    refine call_dict_pairsH (knd := nestedKind X.prog X.w) (ps := more) (PairArg.list p its.toArray (fun j => Ts.getD j 0) ps) (I.ok.hd hc) (by show X.A.units + 1 + 1 + 8 < cLine; omega) okP ⟨lm, fun i key v hi => ?_⟩ (fun h' hk x hx => ?_) hsz fun h' tk dd hk => ?_
    · obtain ⟨k', b, h5, h6⟩ := hm i (key, v) hi
      exact ⟨k', b, h5, h6⟩
    · exact nestedKind_stays.stays (fun b o vs m e _ => hk b o (Nat.ne_of_lt (Heap.lt_size e)) (by simp) e) (his x hx)
    · have tp' := tp.merge .nil .nil
      refine laid_T (t' := tk) I tp' dd (fun b o e => hk b o (by simp) e) ?_ (kmerge_nd kk [] .nil) (rel_mergeK .nil rk) q
      have e3 := tp'.len
      have e4 := kmerge_len kk []
      rw [List.length_nil] at e4
      omega
def dictF (m : Bool) : List D → AH → Res D := fun ds h => match ds with
  | [d] => match dctAt d h with
    | some (ks, vs) => if ks.all leafK then newDct m ks vs h else .stuck
    | none => match seqOf d h with
      | some (xs, _) => match pairsD xs with
        | some (kk, vv) => if isT d h = false ∧ keysOk kk then newDct m (dmerge [] [] kk vv).1 (dmerge [] [] kk vv).2 h else .stuck
        | none => .stuck
      | none => .stuck
  | _ => .stuck
theorem call_dictX (hc : X.calm = true) (hu : X.A.units + 65 < cLine) : CallR X (.type "dict") (fun vs H Q => rDictD X.en vs H Q ∨ rDictP X.en vs H Q) := call_dictLf.orG (call_dictPG hc hu)
theorem sim_dictX {m : Bool} : SimC e (dictF m) (fun vs H Q => rDictD e vs H Q ∨ rDictP e vs H Q) := fun E B μ H h ds vs Q a rs o => by
  unfold dictF at o
  split at o
  · obtain ⟨v, rfl, r⟩ := rel1 rs
    split at o
    · rename_i ks vs' q
      obtain ⟨p, ys, zs, es, rfl, t, rk, rv⟩ := dct_at a r q
      split at o
      · exact .inl ⟨B, μ, p, ks, ys, zs, es, rfl, t, rk, by assumption, out_newD a o rv⟩
      · exact o.elim
    · split at o
      · rename_i xs gs q
        split at o
        · rename_i kk vv q2
          split at o
          · rename_i hc
            rcases seq_kind a r q with ⟨k, _⟩ | ⟨k, p, us, rfl, s1, r1, z⟩
            · rw [k] at hc; exact absurd hc.1 (by decide)
            · obtain ⟨ys, zs, h1, h2, h3⟩ := pairs_rel q2 r1
              obtain ⟨l1, l2⟩ := pairsD_len q2
              refine .inr ⟨B, μ, p, us, ys, zs, kk, rfl, .inl (.inl s1), h1, h2, hc.2, ?_⟩
              rw [← dmerge_fst kk vv [] [] (by omega)]
              exact out_newD a o (rel_merge .nil h3)
          · exact o.elim
        · exact o.elim
      · exact o.elim
  · exact o.elim
end
end G

/-! E19: many new tuples of two at once: sorted(d.items()), list(d.items()), list(zip(a, b)). -/
namespace G
open PySem PySem.Spec L2
open PyProof.Rows hiding St
/-- new tuples of two are tracked -/
def layT : Hp → List (Addr × Obj) → List V → List V → Hp
  | H, (a, o) :: L, y :: ys, z :: zs => layT (upd H a (.frz o (.tup [y, z]))) L ys zs
  | H, _, _, _ => H
section
variable {e : En} {B : Bk} {μ : Mu} {H : Hp} {h : AH} {E : XK} {W : WX} {X : Cx} {pins : List (Addr × Obj)} {σ : L2.St} {s : Shared}
theorem layT_none : ∀ {L : List (Addr × Obj)} {H : Hp} {ys zs : List V} {b : Addr}, H b = none → b ∉ L.map (·.1) → layT H L ys zs b = none
  | [], H, _, _, b, hb, _ => by unfold layT; exact hb
  | (a, o) :: L, H, [], _, b, hb, _ => by unfold layT; exact hb
  | (a, o) :: L, H, _ :: _, [], b, hb, _ => by unfold layT; exact hb
  | (a, o) :: L, H, y :: ys, z :: zs, b, hb, hm => by
    rw [List.map_cons, List.mem_cons, not_or] at hm
    unfold layT
    exact layT_none (by rw [upd_ne hm.1]; exact hb) hm.2
theorem lay_rel : ∀ {L : List (Addr × Obj)} {H : Hp} {ks vs : List D} {ys zs : List V}, AHOk e B μ H h → RelDs e B μ H ks ys → RelDs e B μ H vs zs → L.length = ks.length → ks.length = vs.length → (L.map (·.1)).Nodup → (∀ p ∈ L, p.2.dict = none ∧ H p.1 = none) →
    Ext μ H μ (layT H L ys zs) ∧ AHOk e B μ (layT H L ys zs) h ∧ RelDs e B μ (layT H L ys zs) (itemsOf ks vs) (L.map fun p => V.ref p.1)
  | [], H, ks, vs, ys, zs, a, rk, rv, hl, hl2, _, _ => by
    cases rk with
    | nil =>
      unfold layT itemsOf
      exact ⟨.refl, a, .nil⟩
    | cons _ _ => simp at hl
  | (p, o) :: L, H, ks, vs, ys, zs, a, rk, rv, hl, hl2, nd, hf => by
    cases rk with
    | nil => simp at hl
    | @cons k1 y1 ks ys r1 rk =>
      cases rv with
      | nil => simp at hl2
      | @cons v1 z1 vs zs r2 rv =>
        rw [List.map_cons, List.nodup_cons] at nd
        obtain ⟨hd, hp⟩ := hf (p, o) List.mem_cons_self
        have x1 := Ext.new (μ := μ) (o := .frz o (.tup [y1, z1])) hp (a.free hp).2
        have t1 := new_tup a hp hd (by show 2 ≤ sizeLine; decide) (.cons r1 (.cons r2 .nil))
        obtain ⟨x2, a2, rs⟩ := lay_rel (L := L) (a.new hp) (rk.mono x1) (rv.mono x1) (by simpa using hl) (by simpa using hl2) nd.2 fun q hq => by
          obtain ⟨q1, q2⟩ := hf q (List.mem_cons_of_mem _ hq)
          exact ⟨q1, by rw [upd_ne fun z => nd.1 (List.mem_map.mpr ⟨q, hq, z⟩)]; exact q2⟩
        unfold layT itemsOf
        exact ⟨x1.trans x2, a2, .cons (t1.mono x2) rs⟩
theorem takeF {h' : Heap} {tk : Nat} {H0 : Hp} (I0 : Inv X pins σ H0 s) : ∀ {L : List (Addr × Obj)} {H1 : Hp} {ys zs : List V}, Inv X pins σ H1 { s with heap := h', toks := tk } → (L.map (·.1)).Nodup → L.length = ys.length → ys.length = zs.length →
    (∀ p ∈ L, s.heap.objs.size ≤ p.1 ∧ H1 p.1 = none) → (∀ (j : Nat) (p : Addr × Obj) (y z : V), L[j]? = some p → ys[j]? = some y → zs[j]? = some z → ∃ u v, RelV y u ∧ RelV z v ∧ p.2 = { cls := .type "tuple", data := .seq #[u, v] } ∧ h'.get? p.1 = some p.2) →
    Inv X pins σ (layT H1 L ys zs) { s with heap := h', toks := tk }
  | [], H1, ys, zs, I1, _, _, _, _, _ => by unfold layT; exact I1
  | (a, o) :: L, H1, ys, zs, I1, nd, hl, hl2, hf, hp => by
    cases ys with
    | nil => simp at hl
    | cons y ys =>
      cases zs with
      | nil => simp at hl2
      | cons z zs =>
        rw [List.map_cons, List.nodup_cons] at nd
        obtain ⟨h1, h2⟩ := hf (a, o) List.mem_cons_self
        obtain ⟨u, v, ru, rv, eo, ho⟩ := hp 0 (a, o) y z rfl rfl rfl
        simp only at eo ho
        subst eo
        have new : ∀ H2, ObjOk X.prog X.w H2 h' a (.frz { cls := .type "tuple", data := .seq #[u, v] } (.tup [y, z])) := fun H2 => ⟨ho, by show 2 ≤ sizeLine; decide, [u, v], .cons ru (.cons rv .nil), _, ho, rfl, _, rfl⟩
        unfold layT
        refine takeF I0 (I1.take (h' := h') (t' := tk) (fun b ob _ e => e) (I0.fpOk h1 h2) (new _)) nd.2 (by simpa using hl) (by simpa using hl2) (fun q hq => ?_) fun j p y' z' hj hy hz => hp (j + 1) p y' z' (by simpa using hj) (by simpa using hy) (by simpa using hz)
        obtain ⟨q1, q2⟩ := hf q (List.mem_cons_of_mem _ hq)
        exact ⟨q1, by rw [upd_ne fun z => nd.1 (List.mem_map.mpr ⟨q, hq, z⟩)]; exact q2⟩
/-- what is wished of so many new tuples -/
def TupsNew (H : Hp) (ys zs : List V) (R : Hp → List V → Prop) : Prop := ∀ L : List (Addr × Obj), L.length = ys.length → (L.map (·.1)).Nodup → (∀ p ∈ L, p.2.dict = none ∧ H p.1 = none) → R (layT H L ys zs) (L.map fun p => V.ref p.1)
/-- the made pairs, tracked -/
theorem made_take {lo : Addr} {es : Array DictEntry} {h' : Heap} {tk : Nat} {as : List Addr} {w : World} {ks : List D} {ys zs : List V} (I : Inv X pins σ H s) (hk : ∀ b o, s.heap.get? b = some o → h'.get? b = some o) (hen : EnV w ks ys zs es.toList) (hl : as.length = es.size) (hlo : s.heap.objs.size ≤ lo) (g : DT.Made es lo h' as) :
    ∃ L : List (Addr × Obj), L.map (·.1) = as ∧ L.length = ys.length ∧ (L.map (·.1)).Nodup ∧ (∀ p ∈ L, p.2.dict = none ∧ H p.1 = none) ∧ Inv X pins σ (layT H L ys zs) { s with heap := h', toks := tk } ∧ Vals (L.map fun p => V.ref p.1) (as.map Value.ref) := by
  obtain ⟨l1, l2, l3⟩ := hen.len
  have l1' : ys.length = es.size := by simpa using l2
  have l3' : zs.length = es.size := by simpa using l3
  have I1 : Inv X pins σ H { s with heap := h', toks := tk } := I.kept hk
  let ob : Nat → Obj := fun j => match es[j]? with
    | some en => { cls := .type "tuple", data := .seq #[en.key, en.val] }
    | none => default
  let L : List (Addr × Obj) := as.mapIdx fun j a => (a, ob j)
  have eL : L.map (·.1) = as := by
    refine List.ext_getElem (by simp [L]) fun i h1 h2 => by simp [L]
  have lL : L.length = as.length := by simp [L]
  have gt : ∀ (j : Nat) (p : Addr × Obj), L[j]? = some p → ∃ en, es[j]? = some en ∧ as[j]? = some p.1 ∧ p.2 = { cls := .type "tuple", data := .seq #[en.key, en.val] } ∧ h'.get? p.1 = some p.2 := fun j p hj => by
    simp only [L, List.getElem?_mapIdx, Option.map_eq_some_iff] at hj
    obtain ⟨a, ha, rfl⟩ := hj
    obtain ⟨en, h1, h2⟩ := g.pairs j a ha
    have e2 : ob j = { cls := .type "tuple", data := .seq #[en.key, en.val] } := by simp only [ob, h1]
    exact ⟨en, h1, ha, e2, by rw [h2, e2]⟩
  have nd : (L.map (·.1)).Nodup := by rw [eL]; exact List.Pairwise.imp (fun h => Nat.ne_of_lt h) g.rise
  have fr : ∀ p ∈ L, lo < p.1 := fun p hp => g.above p.1 (by rw [← eL]; exact List.mem_map.mpr ⟨p, hp, rfl⟩)
  have hn : ∀ p ∈ L, H p.1 = none := fun p hp => I.hok.fresh (Nat.le_of_lt (Nat.lt_of_le_of_lt hlo (fr p hp)))
  refine ⟨L, eL, by omega, nd, fun p hp => ⟨?_, hn p hp⟩, takeF I I1 nd (by omega) (by omega) (fun p hp => ⟨Nat.le_of_lt (Nat.lt_of_le_of_lt hlo (fr p hp)), hn p hp⟩) fun j p y z hj hy hz => ?_, ?_⟩
  · obtain ⟨j, hj⟩ := List.mem_iff_getElem?.mp hp
    obtain ⟨en, _, _, e2, _⟩ := gt j p hj
    rw [e2]
  · obtain ⟨en, h1, h2, h3, h4⟩ := gt j p hj
    obtain ⟨y', z', hy', hz', ry, rz⟩ := hen.get (i := j) (en := en) (by simpa using h1)
    rw [hy] at hy'
    rw [hz] at hz'
    cases hy'
    cases hz'
    exact ⟨en.key, en.val, ry, rz, h3, h4⟩
  · rw [← eL, List.map_map]
    have : ∀ (L : List (Addr × Obj)), Vals (L.map fun p => V.ref p.1) (L.map (Value.ref ∘ fun p => p.1)) := by
      intro L
      induction L with
      | nil => exact .nil
      | cons p L ih => exact .cons rfl ih
    exact this L
/-! ### sorted(x.items()) -/
def rItemsV (e : En) : V → List V → Hp → VK → Prop := fun x xs H Q => ∃ d ks ys zs es, x = .ref d ∧ xs = [] ∧ DAt e.w H d ks ys zs es ∧ ∀ p, H p = none → Q (.ref p) (upd H p (DX.itemsO p d))
theorem mt_itemsV : MtR X "dict.items" (rItemsV X.en) := by
  intro pins s σ H x xs v us Q I rx rxs h
  obtain ⟨d, ks, ys, zs, es, rfl, rfl, t, q⟩ := h
  cases rx
  cases rxs
  obtain ⟨ep, raw⟩ := t.raw I
  refine DT.callItems (es := es) (ep := ep) t.sys raw ?_
  have hf : H s.heap.objs.size = none := I.hok.fresh (Nat.le_refl _)
  exact ⟨.ref s.heap.objs.size, upd H s.heap.objs.size (DX.itemsO s.heap.objs.size d), I.laid (t' := s.toks) (fun b u e => Heap.get?_push_of_some _ e) (Nat.le_refl _) (DX.itemsO_ok (Heap.get?_push_size _ rfl)), rfl, q _ hf⟩
/-- of the pairs as data, in the heap behind -/
def PairData (K : PySem.W.Frag) (m : List V → List V) (Q : VK) : Hp → List V → Prop := fun H us => ∃ ps, DpAll K H us ps ∧ ps.length = us.length ∧ SortOk ps ∧ ∀ q, H q = none → Q (.ref q) (upd H q (.lst (vsort (us.zip ps))))
def rSortIt (e : En) : List V → Hp → VK → Prop := fun vs H Q => ∃ p d ks ys zs es, vs = [.ref p] ∧ H p = some (DX.itemsO p d) ∧ DAt e.w H d ks ys zs es ∧ TupsNew H ys zs (PairData e.K id Q)
theorem call_sortIt (hc : X.calm = true) (hu : X.A.units + 65 < cLine) : CallR X (.builtin "sorted") (rSortIt X.en) := by
  intro pins s σ H vs us Q I r h
  obtain ⟨p, d, ks, ys, zs, es, rfl, hp, t, q⟩ := h
  obtain ⟨u, rfl, rx⟩ := vals1 r
  cases rx
  obtain ⟨ep, raw⟩ := t.raw I
  have view : s.heap.IsItemsView p d := (show ObjOk X.prog X.w H s.heap p (DX.itemsO p d) from I.hok p _ hp).1
  refine sorted_of (G := fun h' us => (∀ b o, s.heap.get? b = some o → h'.get? b = some o) ∧ ∃ as : List Addr, us = as.map Value.ref ∧ as.length = es.size ∧ DT.Made es s.heap.objs.size h' as) hu I (fun R E k => DT.collectI (A := X.A.in1) (I.ok.hd hc) view raw t.size fun h' tk as hk _ hl g => k h' tk _ hk ⟨hk, as, rfl, hl, g⟩) fun h' tk us I1 ⟨hk, as, eu, hl, g⟩ => ?_
  subst eu
  obtain ⟨L, eL, lL, nd, fr, I2, rv⟩ := made_take (tk := tk) I hk t.ens hl (Nat.le_refl _) g
  obtain ⟨ps, h1, h2, h3, h4⟩ := q L lL nd fr
  obtain ⟨l1, l2, l3⟩ := t.ens.len
  refine ⟨_, _, ps, I2, rv, h1, h2, h3, ?_, h4⟩
  rw [List.length_map, lL, l2]
  simpa using t.size
/-- sorted(x.items()) -/
noncomputable def sortItC (m : Bool) (c : CE) : CE := fun S h => (c S h).bind fun d h1 => match dctAt d h1 with
  | some (ks, vs) => sortRes m (itemsOf ks vs) h1
  | none => .stuck
theorem dataOf_weak {h : AH} {n : Nat} {d : D} : True := trivial
theorem g_sortIt (m : Bool) {x : Expr} {c : CE} {p apos cpos pos : Pos} (hc : X.calm = true) (hu : X.A.units + 65 < cLine) (hx : PE X x (rE X.en W c)) (hm : X.mg "sorted" = none) (hg : Gl X "sorted" := by rfl)
    (hbase : attributeBase x "items" X.env (eval x X.env) = eval x X.env := by rfl) (hline : (apos.endLine == cpos.line) = true := by rfl)
    (he : starEach [.Call (.Attribute x "items" apos) [] [] cpos] X.env = (false, eval (.Call (.Attribute x "items" apos) [] [] cpos) X.env) :: starEach [] X.env := by rfl) (hpl : (backTo pos (starEach [] X.env)).any (·.1) = false := by rfl) :
    PE X (.Call (.Name "sorted" p) [.Call (.Attribute x "items" apos) [] [] cpos] [] pos) (rE X.en W (sortItC m c)) := by
  have h1 : PE X (.Call (.Attribute x "items" apos) [] [] cpos) _ := pe_mG0 (tyN_ok "dict") PySem.F.plainAttrs_dict PySem.F.slot_dict_items PySem.F.type_dict_items mt_itemsV hx hbase hline
  refine (pe_callB (call_sortIt hc hu) hg hm (by rfl) (pa_cons h1 pa_nil he) (by decide) (by decide) he hpl).imp fun σ H Q ⟨B, μ, S, h, s, a, o⟩ => ?_
  refine ⟨B, μ, S, h, s, a, o.bind fun d h1 v μ1 H1 x1 a1 r1 o1 => ?_⟩
  split at o1
  · rename_i ks vs q
    obtain ⟨p, ys, zs, es, rfl, t, rk, rv⟩ := dct_at a1 r1 q
    obtain ⟨ep, hd⟩ := t.at'
    refine ⟨.dct hd, p, ks, ys, zs, es, rfl, rfl, t, fun q hq => ?_⟩
    have x2 := Ext.new (μ := μ1) (o := DX.itemsO q p) hq (a1.free hq).2
    have t2 : DAt X.en.w (upd H1 q (DX.itemsO q p)) p ks ys zs es := t.move fun u hu => by rw [upd_ne (ne_of_none hu hq)]; exact hu
    refine ⟨q, p, ks, ys, zs, es, rfl, upd_same, t2, fun L lL nd fr => ?_⟩
    have lk := rk.length
    have lv := rv.length
    obtain ⟨l1, l2, l3⟩ := t.ens.len
    obtain ⟨x3, a3, rs⟩ := lay_rel (a1.new (o := DX.itemsO q p) hq) (rk.mono x2) (rv.mono x2) (by omega) (by omega) nd fr
    have o3 := Out.mono (x2.trans x3) o1 fun _ _ q => q
    have hz : (L.map fun p => V.ref p.1).length ≤ sizeLine := by rw [List.length_map, lL, l2]; simpa using t.size
    exact sort_rel a3 rs hz o3
  · exact o1.elim
end
end G

/-! E20: list(zip(a, b)), a and b lists. -/
namespace G
open PySem PySem.Spec L2
open PyProof.Rows hiding St
theorem zip_no_len : typeLookup (.type "zip") "__len__" = pure none := am_miss_of_fast (by decide +kernel)
theorem zip_no_hint : typeLookup (.type "zip") "__length_hint__" = pure none := am_miss_of_fast (by decide +kernel)
section
variable {prog : Program} {w : World} {A : Around} {E : Value → Shared → Prop} {s : Shared} {z TI TO i1 i2 l1 l2 S : Addr} {xs ys : Array Value}
theorem hint_zip {Q : Bool → Shared → Prop} (hT : s.TypeIs (.ref z) "zip") (h : Q true s) : wpAny (model prog w) A (Builtin.List.listLengthHint (.ref z)) Q E s := by
  unfold Builtin.List.listLengthHint
  refine wpAny_bind (wpAny_specialOf hT zip_no_len ?_)
  show wpAny _ _ (specialOf (.ref z) "__length_hint__" >>= _) _ _ _
  refine wpAny_bind (wpAny_specialOf hT zip_no_hint ?_)
  exact wpAny_pure h
/-- a zip of two lists at its turn i; S the list that is filled -/
def ZSt (z TI TO i1 i2 l1 l2 S : Addr) (xs ys : Array Value) (i : Nat) (h : Heap) : Prop :=
  IsPair h TI (.ref i1) (.ref i2) ∧ h.IsListIter i1 l1 i ∧ h.IsListIter i2 l2 i ∧ h.IsList l1 xs ∧ h.IsList l2 ys ∧
    ((IsZip h z TI TO .none ∧ ∃ a b, IsPair h TO a b) ∨ ∃ T f oT, IsZipHeld h z TI TO T f ∧ h.get? T = some oT ∧ T ≠ z ∧ T ≠ i1 ∧ T ≠ i2 ∧ T ≠ S)
structure ZOff (z TI TO i1 i2 l1 l2 S : Addr) : Prop where
  z' : z < S
  TI' : TI < S
  TO' : TO < S
  i1' : i1 < S
  i2' : i2 < S
  l1' : l1 < S
  l2' : l2 < S
theorem ZSt.keep {i : Nat} {h h' : Heap} (f : ZOff z TI TO i1 i2 l1 l2 S) (st : ZSt z TI TO i1 i2 l1 l2 S xs ys i h) (hk : ∀ b o, b ≠ S → h.get? b = some o → h'.get? b = some o) : ZSt z TI TO i1 i2 l1 l2 S xs ys i h' := by
  obtain ⟨hTI, h1, h2, hl1, hl2, hz⟩ := st
  refine ⟨hk _ _ (Nat.ne_of_lt f.TI') hTI, h1.at fun o e => hk _ o (Nat.ne_of_lt f.i1') e, h2.at fun o e => hk _ o (Nat.ne_of_lt f.i2') e, hl1.at fun o e => hk _ o (Nat.ne_of_lt f.l1') e, hl2.at fun o e => hk _ o (Nat.ne_of_lt f.l2') e, ?_⟩
  rcases hz with ⟨hz, a, b, hTO⟩ | ⟨T, fl, oT, hz, hT, r1, r2, r3, r4⟩
  · exact .inl ⟨hk _ _ (Nat.ne_of_lt f.z') hz, a, b, hk _ _ (Nat.ne_of_lt f.TO') hTO⟩
  · exact .inr ⟨T, fl, oT, hk _ _ (Nat.ne_of_lt f.z') hz, hk _ _ r4 hT, r1, r2, r3, r4⟩
theorem zst_item {i : Nat} {Q : Option Value → Shared → Prop} (D : ZipApart z TI TO i1 i2 l1 l2) (hS : S < s.heap.objs.size) (st : ZSt z TI TO i1 i2 l1 l2 S xs ys i s.heap) {x y : Value} (hx : xs[i]? = some x) (hy : ys[i]? = some y)
    (hQ : ∀ h', ZSt z TI TO i1 i2 l1 l2 S xs ys (i + 1) h' → IsPair h' s.heap.objs.size x y → (∀ c o, c ≠ z → c ≠ TO → c ≠ i1 → c ≠ i2 → s.heap.get? c = some o → h'.get? c = some o) → Q (some (.ref s.heap.objs.size)) { s with heap := h' }) :
    wpAny (model prog w) A (pyNext (.ref z)) Q E s := by
  obtain ⟨hTI, h1, h2, hl1, hl2, hz⟩ := st
  have lt : ∀ {c o}, s.heap.get? c = some o → s.heap.objs.size ≠ c := fun e => Nat.ne_of_gt (Heap.lt_size e)
  have n1 : s.heap.objs.size ≠ i1 := let ⟨_, e, _⟩ := h1; lt e
  have n2 : s.heap.objs.size ≠ i2 := let ⟨_, e, _⟩ := h2; lt e
  rcases hz with ⟨hz, a, b, hTO⟩ | ⟨T, f, oT, hz, hT, r1, r2, r3, r4⟩
  · refine wpAny_pyNext_zip_item D hz hTI hTO h1 h2 hl1 hl2 hx hy fun h' a1 a2 a3 a4 a5 a6 hk => ?_
    exact hQ h' ⟨hk _ _ D.TIz D.TITO D.TIi1 D.TIi2 hTI, a3, a4, hl1.at fun o e => hk _ o D.l1z D.l1TO D.l1i1 D.l1i2 e, hl2.at fun o e => hk _ o D.l2z D.l2TO D.l2i1 D.l2i2 e,
      .inr ⟨s.heap.objs.size, false, _, a1, a5, lt hz, n1, n2, Nat.ne_of_gt hS⟩⟩ a5 hk
  · refine wpAny_pyNext_zip_item_held D hz hT hTI h1 h2 hl1 hl2 hx hy fun h' a1 a3 a4 a5 a6 hk => ?_
    exact hQ h' ⟨hk _ _ D.TIz D.TIi1 D.TIi2 hTI, a3, a4, hl1.at fun o e => hk _ o D.l1z D.l1i1 D.l1i2 e, hl2.at fun o e => hk _ o D.l2z D.l2i1 D.l2i2 e,
      .inr ⟨T, true, oT, a1, hk _ _ r1 r2 r3 hT, r1, r2, r3, r4⟩⟩ a5 fun c o c1 c2 c3 c4 e => hk c o c1 c3 c4 e
theorem zst_done {i : Nat} {Q : Option Value → Shared → Prop} (hh : A.handled = none) (D : ZipApart z TI TO i1 i2 l1 l2) (st : ZSt z TI TO i1 i2 l1 l2 S xs ys i s.heap) (hend : xs[i]? = none ∨ ys[i]? = none)
    (hQ : ∀ h', (∀ c o, c ≠ z → c ≠ TO → c ≠ i1 → c ≠ i2 → s.heap.get? c = some o → h'.get? c = some o) → Q none { s with heap := h' }) :
    wpAny (model prog w) A (pyNext (.ref z)) Q E s := by
  obtain ⟨hTI, h1, h2, hl1, hl2, hz⟩ := st
  rcases hz with ⟨hz, a, b, hTO⟩ | ⟨T, f, oT, hz, hT, r1, r2, r3, r4⟩
  · exact wpAny_pyNext_zip_end hh D hz hTI hTO h1 h2 hl1 hl2 hend fun h' hk => hQ h' hk
  · exact wpAny_pyNext_zip_end_held hh D hz hT hTI h1 h2 hl1 hl2 hend fun h' hk => hQ h' fun c o c1 c2 c3 c4 e => hk c o c1 c3 c4 e
structure MadeZ (xs ys : Array Value) (lo : Addr) (h : Heap) (as : List Addr) : Prop where
  rise : as.Pairwise (· < ·)
  above : ∀ a ∈ as, lo < a
  pairs : ∀ (j : Nat) (a : Addr), as[j]? = some a → ∃ x y, xs[j]? = some x ∧ ys[j]? = some y ∧ h.get? a = some { cls := .type "tuple", data := .seq #[x, y] }
theorem zip_loop {R : Result → Shared → Prop} (hh : A.handled = none) (D : ZipApart z TI TO i1 i2 l1 l2) (f : ZOff z TI TO i1 i2 l1 l2 S) (hn : min xs.size ys.size ≤ sizeLine) (res : Value) {h₁ : Heap}
    (hR : ∀ h' tk acc c as, (∀ b o, b ≠ S → b ≠ z → b ≠ TO → b ≠ i1 → b ≠ i2 → h₁.get? b = some o → h'.get? b = some o) → h'.get? S = some { cls := .type "list", dict := none, data := .seq acc c, slots := #[] } → as.length = min xs.size ys.size → MadeZ xs ys S h' as →
      acc.toList = as.map Value.ref → R (.ok (.ret res)) { s with heap := h', toks := tk }) :
    ∀ (k i : Nat) (h : Heap) (tk c : Nat) (acc : Array Value) (as : List Addr), min xs.size ys.size - i = k → i ≤ min xs.size ys.size → ZSt z TI TO i1 i2 l1 l2 S xs ys i h → (∀ b o, b ≠ S → b ≠ z → b ≠ TO → b ≠ i1 → b ≠ i2 → h₁.get? b = some o → h.get? b = some o) →
      h.get? S = some { cls := .type "list", dict := none, data := .seq acc c, slots := #[] } → acc.toList = as.map Value.ref → as.length = i → MadeZ xs ys S h as →
      codeAny (model prog w) A (.builtin "list.extend.loop" ⟨[.ref S, .ref z, res], []⟩) R { s with heap := h, toks := tk } := by
  have Sz := Nat.ne_of_gt f.z'
  have STO := Nat.ne_of_gt f.TO'
  have Si1 := Nat.ne_of_gt f.i1'
  have Si2 := Nat.ne_of_gt f.i2'
  have up : ∀ {a : Addr} (h0 : S < a), a ≠ z ∧ a ≠ TO ∧ a ≠ i1 ∧ a ≠ i2 := fun h0 => ⟨Nat.ne_of_gt (Nat.lt_trans f.z' h0), Nat.ne_of_gt (Nat.lt_trans f.TO' h0), Nat.ne_of_gt (Nat.lt_trans f.i1' h0), Nat.ne_of_gt (Nat.lt_trans f.i2' h0)⟩
  intro k
  induction k with
  | zero =>
    intro i h tk c acc as hk hi hst hkeep hS hacc hal hG
    refine codeAny_builtin PySem.F.entry_extend_loop ?_
    rw [Around.under_plainId PySem.F.plain_extend_loop _]
    show wpAny _ A.in1 (pyNext (.ref z) >>= _) _ _ _
    have hend : xs[i]? = none ∨ ys[i]? = none := by
      rcases Nat.le_total xs.size ys.size with q | q
      · exact .inl (Array.getElem?_eq_none (by omega))
      · exact .inr (Array.getElem?_eq_none (by omega))
    refine wpAny_bind (zst_done (s := { s with heap := h, toks := tk }) (A := A.in1) hh D hst hend fun h' he => ?_)
    refine wpAny_pure (hR h' tk acc c as (fun b o b0 b1 b2 b3 b4 e => he b o b1 b2 b3 b4 (hkeep b o b0 b1 b2 b3 b4 e)) (he S _ Sz STO Si1 Si2 hS) (by omega) ⟨hG.rise, hG.above, fun j a hj => ?_⟩ hacc)
    obtain ⟨x, y, e1, e2, e3⟩ := hG.pairs j a hj
    obtain ⟨u1, u2, u3, u4⟩ := up (hG.above a (List.mem_of_getElem? hj))
    exact ⟨x, y, e1, e2, he a _ u1 u2 u3 u4 e3⟩
  | succ k ih =>
    intro i h tk c acc as hk hi hst hkeep hS hacc hal hG
    have hsz : acc.size = i := by rw [← Array.length_toList, hacc, List.length_map, hal]
    have hx : xs[i]? = some xs[i] := Array.getElem?_eq_getElem (by omega)
    have hy : ys[i]? = some ys[i] := Array.getElem?_eq_getElem (by omega)
    have hSl : S < h.objs.size := Heap.lt_size hS
    refine codeAny_builtin PySem.F.entry_extend_loop ?_
    rw [Around.under_plainId PySem.F.plain_extend_loop _]
    show wpAny _ A.in1 (pyNext (.ref z) >>= _) _ _ _
    refine wpAny_bind (zst_item (s := { s with heap := h, toks := tk }) D hSl hst hx hy fun h' hst' ht hkp => ?_)
    dsimp only at ht hkp ⊢
    have hS' := hkp S _ Sz STO Si1 Si2 hS
    have up2 : ∀ b o, b ≠ S → h'.get? b = some o → (h'.update S (Obj.mapSeq (·.push (Value.ref h.objs.size)))).get? b = some o := fun b o hb e => (Heap.get?_update_other _ _ (Ne.symm hb)).trans e
    show wpAny _ A.in1 (updateSeq S (·.push (Value.ref h.objs.size)) >>= _) _ _ _
    refine wpAny_bind ?_
    refine wpAny_updateSeq hS' rfl (wpAny_pure ⟨plainId_quiet PySem.F.plain_extend_loop _, ih (i + 1) _ tk _ (acc.push (Value.ref h.objs.size)) (as ++ [h.objs.size]) (by omega) (by omega) (hst'.keep f up2)
      (fun b o b0 b1 b2 b3 b4 e => up2 b o b0 (hkp b o b1 b2 b3 b4 (hkeep b o b0 b1 b2 b3 b4 e))) (Heap.get?_update_self _ hS' rfl) (by rw [Array.toList_push, hacc, List.map_append]; rfl) (by rw [List.length_append, hal]; rfl) ⟨?_, ?_, ?_⟩⟩) (by rw [hsz]; omega) (by show (acc.push (Value.ref h.objs.size)).size ≤ sizeLine + 1; rw [Array.size_push, hsz]; omega)
    · refine List.pairwise_append.mpr ⟨hG.rise, List.pairwise_singleton _ _, fun a ha b hb => ?_⟩
      rw [List.mem_singleton.mp hb]
      obtain ⟨j, hj⟩ := List.mem_iff_getElem?.mp ha
      obtain ⟨_, _, _, _, e⟩ := hG.pairs j a hj
      exact Heap.lt_size e
    · intro a ha
      rcases List.mem_append.mp ha with ha | ha
      · exact hG.above a ha
      · rw [List.mem_singleton.mp ha]; exact hSl
    · intro j b hj
      rcases Nat.lt_trichotomy j as.length with h1 | h1 | h1
      · rw [List.getElem?_append_left h1] at hj
        obtain ⟨x', y', e1, e2, e3⟩ := hG.pairs j b hj
        have hb := hG.above b (List.mem_of_getElem? hj)
        obtain ⟨u1, u2, u3, u4⟩ := up hb
        exact ⟨x', y', e1, e2, up2 b _ (Nat.ne_of_gt hb) (hkp b _ u1 u2 u3 u4 e3)⟩
      · subst h1
        have hb : h.objs.size = b := by simpa using hj
        subst hb
        subst hal
        exact ⟨_, _, hx, hy, up2 _ _ (Nat.ne_of_gt hSl) ht⟩
      · have hnone : (as ++ [h.objs.size])[j]? = none := List.getElem?_eq_none (by rw [List.length_append, List.length_singleton]; omega)
        rw [hnone] at hj; cases hj
theorem zip_ext {R : Result → Shared → Prop} (hh : A.handled = none) (D : ZipApart z TI TO i1 i2 l1 l2) (f : ZOff z TI TO i1 i2 l1 l2 S) (hn : min xs.size ys.size ≤ sizeLine) (st : ZSt z TI TO i1 i2 l1 l2 S xs ys 0 s.heap) (hz0 : IsZip s.heap z TI TO .none) (res : Value) (c₀ : Nat) (hS : s.heap.get? S = some { cls := .type "list", data := .seq #[] c₀ })
    (hR : ∀ h' tk acc c as, (∀ b o, b ≠ S → b ≠ z → b ≠ TO → b ≠ i1 → b ≠ i2 → s.heap.get? b = some o → h'.get? b = some o) → h'.get? S = some { cls := .type "list", dict := none, data := .seq acc c, slots := #[] } → as.length = min xs.size ys.size → MadeZ xs ys S h' as →
      acc.toList = as.map Value.ref → R (.ok (.ret res)) { s with heap := h', toks := tk }) :
    wpAny (model prog w) A.in1 (Builtin.List.listExtendWith (.ref S) (.ref z) res)
      (fun fin s' => match fin with | .done f => R (.ok f) s' | .again c' => c'.quiet = true ∧ codeAny (model prog w) A c' R s') (fun e s' => R (.error e) s') s := by
  have hT : s.TypeIs (.ref z) "zip" := ⟨_, hz0, rfl⟩
  have key : ∀ (h : Heap) (c₁ tk : Nat), (∀ b o, b ≠ S → s.heap.get? b = some o → h.get? b = some o) → h.get? S = some { cls := .type "list", data := .seq #[] c₁ } → codeAny (model prog w) A (.builtin "list.extend.loop" ⟨[.ref S, .ref z, res], []⟩) R { s with heap := h, toks := tk } := by
    intro h c₁ tk hk hS₁
    exact zip_loop (s := s) (h₁ := s.heap) hh D f hn res hR (min xs.size ys.size) 0 h tk c₁ #[] [] (Nat.sub_zero _) (Nat.zero_le _) (st.keep f hk) (fun b o b0 _ _ _ _ e => hk b o b0 e) hS₁ rfl rfl ⟨List.Pairwise.nil, (fun _ ha => nomatch ha), fun j a hj => by simp at hj⟩
  unfold Builtin.List.listExtendWith
  refine wpAny_bind (wpAny_typeOf (T := "zip") hT ?_)
  have h1 : Builtin.List.listSameRef (.ref S) (.ref z) = false := by simp [Builtin.List.listSameRef, Nat.ne_of_gt f.z']
  have h2 : (Value.type "zip" == Value.type "list") = false := by decide
  have h3 : (Value.type "zip" == Value.type "tuple") = false := by decide
  simp only [h1, h2, h3, Bool.or_false, Bool.false_eq_true, if_false]
  refine wpAny_bind (wpAny_pyIter_zip hz0 ?_)
  refine wpAny_bind (wpAny_holding (hint_zip hT ?_))
  refine wpAny_ite_split (fun _ => ?_) (fun _ => wpAny_pure ⟨plainId_quiet PySem.F.plain_extend_loop _, key _ c₀ _ (fun b o _ e => e) hS⟩)
  refine wpAny_bind (wpAny_rule ?_)
  refine wpAny_bind ?_
  show wpAny _ _ (updateSeq S (·.push .none) >>= fun _ => updateSeq S (·.pop)) _ _ _
  refine wpAny_bind (wpAny_updateSeq hS rfl ?_)
  have hS₂ := Heap.get?_update_self (Obj.mapSeq (·.push Value.none)) hS rfl
  refine wpAny_updateSeq (hz := by seq_fits) hS₂ rfl ?_
  have hS₃ := Heap.get?_update_self (Obj.mapSeq (·.pop)) hS₂ rfl
  refine wpAny_pure ⟨plainId_quiet PySem.F.plain_extend_loop _, key _ _ _ (fun b o hb e => ?_) hS₃⟩
  exact (Heap.get?_update_other _ _ (Ne.symm hb)).trans ((Heap.get?_update_other _ _ (Ne.symm hb)).trans e)
theorem zip_init {R : Result → Shared → Prop} (hh : A.handled = none) (D : ZipApart z TI TO i1 i2 l1 l2) (f : ZOff z TI TO i1 i2 l1 l2 S) (hn : min xs.size ys.size ≤ sizeLine) (st : ZSt z TI TO i1 i2 l1 l2 S xs ys 0 s.heap) (hz0 : IsZip s.heap z TI TO .none) (hS : s.heap.get? S = some { cls := .type "list", data := .seq #[] })
    (hR : ∀ h' tk acc c as, (∀ b o, b ≠ S → b ≠ z → b ≠ TO → b ≠ i1 → b ≠ i2 → s.heap.get? b = some o → h'.get? b = some o) → h'.get? S = some { cls := .type "list", dict := none, data := .seq acc c, slots := #[] } → as.length = min xs.size ys.size → MadeZ xs ys S h' as →
      acc.toList = as.map Value.ref → R (.ok (.ret .none)) { s with heap := h', toks := tk }) :
    wpAny (model prog w) A.in1 (Builtin.«list.__init__» ⟨[.ref S, .ref z], []⟩)
      (fun fin s' => match fin with | .done f => R (.ok f) s' | .again c' => c'.quiet = true ∧ codeAny (model prog w) A c' R s') (fun e s' => R (.error e) s') s := by
  show wpAny _ _ (do let old ← Builtin.List.listItems (.ref S); Builtin.List.listUpdate (.ref S) (fun _ => #[]); letGo old.toList.reverse; Builtin.List.listExtendWith (.ref S) (.ref z) .none) _ _ s
  refine wpAny_bind ?_
  unfold Builtin.List.listItems
  refine wpAny_bind (wpAny_seqItems hS rfl (wpAny_pure ?_))
  show wpAny _ _ (updateSeq S (fun _ => #[]) >>= fun _ => letGo (#[] : Array Value).toList.reverse >>= fun _ => Builtin.List.listExtendWith (.ref S) (.ref z) .none) _ _ s
  refine wpAny_bind (wpAny_updateSeq hS rfl ?_)
  have hS₂ := Heap.get?_update_self (Obj.mapSeq (fun _ => (#[] : Array Value))) hS rfl
  have oth : ∀ b o, b ≠ S → s.heap.get? b = some o → (s.heap.update S (Obj.mapSeq (fun _ => (#[] : Array Value)))).get? b = some o := fun b o hb e => (Heap.get?_update_other _ _ (Ne.symm hb)).trans e
  refine wpAny_bind (wpAny_letGo ?_)
  refine zip_ext hh D f hn (st.keep f oth) (oth _ _ (Nat.ne_of_lt f.z') hz0) .none _ hS₂ fun h' tk acc c as hk hS' hl hG hacc => ?_
  exact hR h' tk acc c as (fun b o b0 b1 b2 b3 b4 e => hk b o b0 b1 b2 b3 b4 (oth b o b0 e)) hS' hl hG hacc
end
section
variable {e : En} {B : Bk} {μ : Mu} {H : Hp} {h : AH} {E : XK} {W : WX} {X : Cx} {pins : List (Addr × Obj)} {σ : L2.St} {s : Shared}
/-- the made pairs of two lists, tracked -/
theorem madeZ_take {lo : Addr} {xs ys : Array Value} {us vs : List V} {h' : Heap} {tk : Nat} {as : List Addr} (I : Inv X pins σ H s) (I1 : Inv X pins σ H { s with heap := h', toks := tk }) (rx : Vals us xs.toList) (ry : Vals vs ys.toList) (hl : as.length = min xs.size ys.size) (hlo : s.heap.objs.size ≤ lo) (g : MadeZ xs ys lo h' as) :
    ∃ L : List (Addr × Obj), L.map (·.1) = as ∧ L.length = min us.length vs.length ∧ (L.map (·.1)).Nodup ∧ (∀ p ∈ L, p.2.dict = none ∧ H p.1 = none) ∧ Inv X pins σ (layT H L (us.take (min us.length vs.length)) (vs.take (min us.length vs.length))) { s with heap := h', toks := tk } ∧ Vals (L.map fun p => V.ref p.1) (as.map Value.ref) := by
  have lx := rx.length
  have ly := ry.length
  simp only [Array.length_toList] at lx ly
  let ob : Nat → Obj := fun j => match xs[j]?, ys[j]? with
    | some x, some y => { cls := .type "tuple", data := .seq #[x, y] }
    | _, _ => default
  let L : List (Addr × Obj) := as.mapIdx fun j a => (a, ob j)
  have eL : L.map (·.1) = as := by
    refine List.ext_getElem (by simp [L]) fun i h1 h2 => by simp [L]
  have lL : L.length = as.length := by simp [L]
  have gt : ∀ (j : Nat) (p : Addr × Obj), L[j]? = some p → ∃ x y, xs[j]? = some x ∧ ys[j]? = some y ∧ as[j]? = some p.1 ∧ p.2 = { cls := .type "tuple", data := .seq #[x, y] } ∧ h'.get? p.1 = some p.2 := fun j p hj => by
    simp only [L, List.getElem?_mapIdx, Option.map_eq_some_iff] at hj
    obtain ⟨a, ha, rfl⟩ := hj
    obtain ⟨x, y, h1, h2, h3⟩ := g.pairs j a ha
    have e2 : ob j = { cls := .type "tuple", data := .seq #[x, y] } := by simp only [ob, h1, h2]
    exact ⟨x, y, h1, h2, ha, e2, by rw [h3, e2]⟩
  have nd : (L.map (·.1)).Nodup := by rw [eL]; exact List.Pairwise.imp (fun h => Nat.ne_of_lt h) g.rise
  have fr : ∀ p ∈ L, lo < p.1 := fun p hp => g.above p.1 (by rw [← eL]; exact List.mem_map.mpr ⟨p, hp, rfl⟩)
  have hn : ∀ p ∈ L, H p.1 = none := fun p hp => I.hok.fresh (Nat.le_of_lt (Nat.lt_of_le_of_lt hlo (fr p hp)))
  refine ⟨L, eL, by omega, nd, fun p hp => ⟨?_, hn p hp⟩, takeF I I1 nd (by rw [List.length_take]; omega) (by rw [List.length_take, List.length_take]; omega) (fun p hp => ⟨Nat.le_of_lt (Nat.lt_of_le_of_lt hlo (fr p hp)), hn p hp⟩) fun j p y z hj hy hz => ?_, ?_⟩
  · obtain ⟨j, hj⟩ := List.mem_iff_getElem?.mp hp
    obtain ⟨_, _, _, _, _, e2, _⟩ := gt j p hj
    rw [e2]
  · obtain ⟨x, y', h1, h2, h3, h4, h5⟩ := gt j p hj
    have hjm : j < min us.length vs.length := by
      have := (List.getElem?_eq_some_iff.mp hy).1
      rw [List.length_take] at this
      omega
    rw [List.getElem?_take_of_lt hjm] at hy hz
    obtain ⟨u, hu, ru⟩ := rx.get hy
    obtain ⟨v, hv, rv⟩ := ry.get hz
    rw [Array.getElem?_toList, h1] at hu
    rw [Array.getElem?_toList, h2] at hv
    cases hu
    cases hv
    exact ⟨x, y', ru, rv, h4, h5⟩
  · rw [← eL, List.map_map]
    have : ∀ (L : List (Addr × Obj)), Vals (L.map fun p => V.ref p.1) (L.map (Value.ref ∘ fun p => p.1)) := by
      intro L
      induction L with
      | nil => exact .nil
      | cons p L ih => exact .cons rfl ih
    exact this L
theorem zkk {N c M : Nat} (h : c < N) (hM : M = N + 5) : c ≠ M ∧ c ≠ N + 4 ∧ c ≠ N + 3 ∧ c ≠ N ∧ c ≠ N + 1 := ⟨by omega, by omega, by omega, by omega, by omega⟩
theorem zapart {N a b : Nat} (la : a < N) (lb : b < N) : ZipApart (N + 4) (N + 2) (N + 3) N (N + 1) a b :=
  { TIz := (show (N + 2 : Nat) ≠ N + 4 by omega), TOz := (show (N + 3 : Nat) ≠ N + 4 by omega), i1z := (show (N : Nat) ≠ N + 4 by omega), i2z := (show (N + 1 : Nat) ≠ N + 4 by omega), TITO := (show (N + 2 : Nat) ≠ N + 3 by omega), TIi1 := (show (N + 2 : Nat) ≠ N by omega), TIi2 := (show (N + 2 : Nat) ≠ N + 1 by omega), TOi1 := (show (N + 3 : Nat) ≠ N by omega), TOi2 := (show (N + 3 : Nat) ≠ N + 1 by omega), i12 := (show (N : Nat) ≠ N + 1 by omega), l1z := (show (a : Nat) ≠ N + 4 by omega), l1TO := (show (a : Nat) ≠ N + 3 by omega), l1i1 := (show (a : Nat) ≠ N by omega), l1i2 := (show (a : Nat) ≠ N + 1 by omega), l2z := (show (b : Nat) ≠ N + 4 by omega), l2TO := (show (b : Nat) ≠ N + 3 by omega), l2i1 := (show (b : Nat) ≠ N by omega), l2i2 := (show (b : Nat) ≠ N + 1 by omega) }
theorem zoff {N a b : Nat} (la : a < N) (lb : b < N) : ZOff (N + 4) (N + 2) (N + 3) N (N + 1) a b (N + 5) :=
  { z' := (show (N + 4 : Nat) < N + 5 by omega), TI' := (show (N + 2 : Nat) < N + 5 by omega), TO' := (show (N + 3 : Nat) < N + 5 by omega), i1' := (show (N : Nat) < N + 5 by omega), i2' := (show (N + 1 : Nat) < N + 5 by omega), l1' := (show (a : Nat) < N + 5 by omega), l2' := (show (b : Nat) < N + 5 by omega) }
/-- list(zip(a, b)) -/
def rListZip (K : PySem.W.Frag) : List V → Hp → VK → Prop := fun vs H Q => ∃ a b us ws, vs = [.ref a, .ref b] ∧ SqL K H a us ∧ SqL K H b ws ∧
  TupsNew H (us.take (min us.length ws.length)) (ws.take (min us.length ws.length)) fun H1 ts => ∀ q, H1 q = none → Q (.ref q) (upd H1 q (.lst ts))
theorem pe_listZip {a b : Expr} {ta : TA} {p p2 pos pos2 : Pos} (hc : X.calm = true) (hg : Gl X "list") (hm : X.mg "list" = none) (hg2 : Gl X "zip") (hm2 : X.mg "zip" = none) (ha : PA X [a, b] ta)
    (hs : starEach [a, b] X.env = (false, eval a X.env) :: starEach [b] X.env := by rfl) (hpl : (backTo pos2 (starEach [b] X.env)).any (·.1) = false := by rfl)
    (hs1 : starEach [.Call (.Name "zip" p2) [a, b] [] pos2] X.env = (false, eval (.Call (.Name "zip" p2) [a, b] [] pos2) X.env) :: starEach [] X.env := by rfl) (hpl1 : (backTo pos (starEach [] X.env)).any (·.1) = false := by rfl) :
    PE X (.Call (.Name "list" p) [.Call (.Name "zip" p2) [a, b] [] pos2] [] pos) (fun σ H Q => ta σ H fun vs H1 => rListZip X.K vs H1 Q) := by
  refine ⟨fun pins s σ H Q I h => ?_⟩
  refine Call_ (ld_blt I hg hm PyProof.Rows.boot_list (PyProof.Rows.callWith_type1 ?_ hs1 hpl1))
  refine PyProof.Rows.args_cons ?_ hs1
  refine Call_ (ld_blt I hg2 hm2 PyProof.Rows.boot_zip (PyProof.Rows.callWith_type1 (thn (ha.run pos2 pins s σ H _ I h) fun us s1 ⟨vs, H1, I1, r1, q1⟩ => ?_) hs hpl))
  obtain ⟨a, b, us', ws, rfl, hqa, hqb, q⟩ := q1
  obtain ⟨u1, u2, rfl, r1, r2⟩ := vals2 r1
  cases r1
  cases r2
  obtain ⟨its, rv, pa, hz1⟩ := I1.list hqa
  obtain ⟨its2, rv2, pb, hz2⟩ := I1.list hqb
  have la : a < s1.heap.objs.size := let ⟨_, _, e, _⟩ := pa; Heap.lt_size e
  have lb : b < s1.heap.objs.size := let ⟨_, _, e, _⟩ := pb; Heap.lt_size e
  refine zip_begins2 (begins_list a its.toArray) (begins_list b its2.toArray) pa.isList pb.isList fun h' hz hTI hTO h1 h2 hsz hk => PyProof.Rows.args_nil ?_
  have I2 : Inv X pins σ H1 { s1 with heap := h' } := I1.kept (t' := s1.toks) hk
  -- the list that is filled
  have hS : (h'.push { cls := .type "list", data := .seq #[] }).get? h'.objs.size = some { cls := .type "list", data := .seq #[] } := Heap.get?_push_size _ rfl
  have up : ∀ b o, h'.get? b = some o → (h'.push { cls := .type "list", data := .seq #[] }).get? b = some o := fun b o e => Heap.get?_push_of_some _ e
  have D := zapart la lb
  have f : ZOff (s1.heap.objs.size + 4) (s1.heap.objs.size + 2) (s1.heap.objs.size + 3) s1.heap.objs.size (s1.heap.objs.size + 1) a b h'.objs.size := by rw [hsz]; exact zoff la lb
  have st0 : ZSt (s1.heap.objs.size + 4) (s1.heap.objs.size + 2) (s1.heap.objs.size + 3) s1.heap.objs.size (s1.heap.objs.size + 1) a b h'.objs.size its.toArray its2.toArray 0 h' :=
    ⟨hTI, ⟨_, h1, rfl, rfl⟩, ⟨_, h2, rfl, rfl⟩, pa.isList.at fun o e => hk _ o e, pb.isList.at fun o e => hk _ o e, .inl ⟨hz, _, _, hTO⟩⟩
  have hn : min its.toArray.size its2.toArray.size ≤ sizeLine := by
    have := rv.length
    rw [List.size_toArray]
    omega
  show wpAny _ X.A (call (.type "list") [.ref (s1.heap.objs.size + 4)]) _ _ _
  refine callType_codes (Q₁ := fun obj s₁ => obj = .ref h'.objs.size ∧ s₁ = { s1 with heap := h'.push { cls := .type "list", data := .seq #[] } }) PySem.F.called_list (PySem.F.typeCall_list_1 _) PySem.F.entry_list_init
    (code_list_new _ ⟨rfl, rfl⟩) fun obj s₁ h₁ => ?_
  obtain ⟨rfl, rfl⟩ := h₁
  refine ⟨⟨_, hS, rfl⟩, PySem.F.args_list_init_2 _ _, zip_init (A := X.A.in1) (I1.ok.hd hc) D f hn (st0.keep f fun b o _ e => up b o e) (up _ _ hz) hS fun h2 tk acc c as hk2 hS' hl hG hacc => ⟨rfl, ?_⟩⟩
  have kk : ∀ c o, s1.heap.get? c = some o → h2.get? c = some o := fun c o e => by
    obtain ⟨n1, n2, n3, n4, n5⟩ := zkk (Heap.lt_size e) hsz
    exact hk2 c o n1 n2 n3 n4 n5 (up _ _ (hk _ _ e))
  have I3 : Inv X pins σ H1 { s1 with heap := h2, toks := tk } := I1.kept kk
  have lv := rv.length
  have lv2 := rv2.length
  have hlo : s1.heap.objs.size ≤ h'.objs.size := by rw [hsz]; exact Nat.le_add_right _ _
  obtain ⟨L, eL, lL, nd, fr, I4, rL⟩ := madeZ_take (tk := tk) I1 I3 rv rv2 hl hlo hG
  have lt : (us'.take (min us'.length ws.length)).length = min us'.length ws.length := by rw [List.length_take]; omega
  have hq := q L (by rw [lL, lt]) nd fr
  have hno : layT H1 L (us'.take (min us'.length ws.length)) (ws.take (min us'.length ws.length)) h'.objs.size = none := by
    refine layT_none (I1.hok.fresh hlo) fun hm => ?_
    rw [eL] at hm
    exact Nat.lt_irrefl _ (hG.above _ hm)
  have hfp : FpOk X pins (layT H1 L (us'.take (min us'.length ws.length)) (ws.take (min us'.length ws.length))) h'.objs.size := I1.fpOk hlo hno
  have new : ObjOk X.prog X.w (upd (layT H1 L (us'.take (min us'.length ws.length)) (ws.take (min us'.length ws.length))) h'.objs.size (.lst (L.map fun p => V.ref p.1))) h2 h'.objs.size (.lst (L.map fun p => V.ref p.1)) := by
    refine ⟨by rw [List.length_map, lL]; omega, acc.toList, c, by rw [hacc]; exact rL, by simpa using hS'⟩
  exact ⟨.ref h'.objs.size, _, I4.take (h' := h2) (t' := tk) (fun b o _ e => e) hfp new, rfl, hq _ hno⟩
def listZipF (m : Bool) : List D → AH → Res D := fun ds h => match ds with
  | [a, b] => match seqOf a h, seqOf b h with
    | some (xs, _), some (ys, _) => if isT a h = false ∧ isT b h = false then newL m (itemsOf xs ys) h else .stuck
    | _, _ => .stuck
  | _ => .stuck
theorem itemsOf_take (ks vs : List D) : itemsOf ks vs = itemsOf (ks.take (min ks.length vs.length)) (vs.take (min ks.length vs.length)) := by
  unfold itemsOf
  refine List.ext_getElem (by simp) fun i h1 h2 => by simp
theorem sim_listZip {m : Bool} : SimC e (listZipF m) (rListZip e.K) := fun E B μ H h ds vs Q a rs o => by
  unfold listZipF at o
  split at o
  · obtain ⟨v, v', rfl, r, r'⟩ := rel2 rs
    split at o
    · rename_i xs gs ys gs' q1 q2
      split at o
      · rename_i hc
        rcases seq_kind a r q1 with ⟨k, _⟩ | ⟨k, p1, us, rfl, s1, r1, z1⟩
        · rw [k] at hc; exact absurd hc.1 (by decide)
        · rcases seq_kind a r' q2 with ⟨k, _⟩ | ⟨k, p2, ws, rfl, s2, r2, z2⟩
          · rw [k] at hc; exact absurd hc.2 (by decide)
          · refine ⟨p1, p2, us, ws, rfl, .inl (.inl s1), .inl (.inl s2), fun L lL nd fr q hq => ?_⟩
            have l1 := r1.length
            have l2 := r2.length
            rw [itemsOf_take, l1, l2] at o
            rw [List.length_take] at lL
            obtain ⟨x3, a3, rs3⟩ := lay_rel (L := L) a (r1.take (min us.length ws.length)) (r2.take (min us.length ws.length)) (by rw [List.length_take]; omega) (by rw [List.length_take, List.length_take]; omega) nd fr
            exact out_newL a3 (Out.mono x3 o fun _ _ q => q) rs3 (by rw [List.length_map]; omega) hq
      · exact o.elim
    · exact o.elim
  · exact o.elim
theorem g_listZip (m : Bool) {a b : Expr} {ca : CA} {p p2 pos pos2 : Pos} (hc : X.calm = true) (hm : X.mg "list" = none) (hm2 : X.mg "zip" = none) (ha : PA X [a, b] (rA X.en W ca)) (hg : Gl X "list" := by rfl) (hg2 : Gl X "zip" := by rfl)
    (hs : starEach [a, b] X.env = (false, eval a X.env) :: starEach [b] X.env := by rfl) (hpl : (backTo pos2 (starEach [b] X.env)).any (·.1) = false := by rfl)
    (hs1 : starEach [.Call (.Name "zip" p2) [a, b] [] pos2] X.env = (false, eval (.Call (.Name "zip" p2) [a, b] [] pos2) X.env) :: starEach [] X.env := by rfl) (hpl1 : (backTo pos (starEach [] X.env)).any (·.1) = false := by rfl) :
    PE X (.Call (.Name "list" p) [.Call (.Name "zip" p2) [a, b] [] pos2] [] pos) (rE X.en W (apC (listZipF m) ca)) :=
  (pe_listZip hc hg hm hg2 hm2 ha hs hpl hs1 hpl1).imp (r_ap sim_listZip)
end
end G

/-! E21: objects are frozen; instances: fields, methods, makes; calls without arguments; what is never reached. -/
namespace G
open PySem PySem.Spec L2
open PyProof.Rows hiding St
section
variable {e : En} {B : Bk} {μ : Mu} {H : Hp} {h : AH} {E : XK} {W : WX} {X : Cx}
/-! ### freezing -/
def muFz (μ : Mu) (n : Nat) : Mu := ⟨μ.at_, fun i => μ.fz i ∨ i = n⟩
theorem Ext.fz {n : Nat} : Ext μ H (muFz μ n) H := ⟨fun _ _ h => h, fun _ _ h p => ⟨h, fun i q => .inl (p i q)⟩⟩
theorem AHOk.fz (x : AHOk e B μ H h) {n : Nat} (hn : n < h.length) : AHOk e B (muFz μ n) H (h.set n .dead) where
  dom := fun i => by rw [List.length_set]; exact x.dom i
  fzd := fun i z => by
    by_cases hi : n = i
    · subst hi; exact List.getElem?_set_self hn
    · rw [List.getElem?_set_ne hi]
      exact x.fzd i (z.resolve_right fun w => hi w.symm)
  inj := x.inj
  nb := x.nb
  obj := fun i u b h1 h2 => by
    by_cases hi : n = i
    · subst hi
      rw [List.getElem?_set_self hn] at h1
      cases h1
      trivial
    · rw [List.getElem?_set_ne hi] at h1
      exact (x.obj i u b h1 h2).move Ext.fz fun _ q => q
  tr := x.tr
  bt := x.bt
/-- the frozen form of a value, the heap without the object -/
def fzD (d : D) (h : AH) : D × AH := match d with
  | .ref n => match h[n]? with
    | some (.lst xs) => (.lst xs, h.set n .dead)
    | some (.dct ks vs) => (.dct ks vs, h.set n .dead)
    | _ => (d, h)
  | d => (d, h)
theorem fz_rel {d : D} {v : V} (a : AHOk e B μ H h) (r : RelD e B μ H d v) : ∃ μ', Ext μ H μ' H ∧ AHOk e B μ' H (fzD d h).2 ∧ RelD e B μ' H (fzD d h).1 v := by
  cases r with
  | @ref n p hn =>
    have pz : ∀ {ob : O}, h[n]? = some ob → Pure B (muFz μ n) p := fun q => ⟨a.nb n p hn, fun i z => .inr (a.inj i n p z hn)⟩
    simp only [fzD]
    split
    · rename_i xs q
      obtain ⟨ys, h1, h2, h3⟩ := a.obj n _ p q hn
      exact ⟨_, .fz, a.fz (List.getElem?_eq_some_iff.mp q).1, .lst h1 (pz q) h2 (h3.mono .fz)⟩
    · rename_i ks vs q
      obtain ⟨ys, zs, es, h1, h2, h3⟩ := a.obj n _ p q hn
      exact ⟨_, .fz, a.fz (List.getElem?_eq_some_iff.mp q).1, .dct h1 (pz q) (h2.mono .fz) (h3.mono .fz)⟩
    · exact ⟨μ, .refl, a, .ref hn⟩
  | non => exact ⟨μ, .refl, a, .non⟩
  | bl b => exact ⟨μ, .refl, a, .bl b⟩
  | int i => exact ⟨μ, .refl, a, .int i⟩
  | str x q => exact ⟨μ, .refl, a, .str x q⟩
  | ty n => exact ⟨μ, .refl, a, .ty n⟩
  | glb q => exact ⟨μ, .refl, a, .glb q⟩
  | tup q p z r => exact ⟨μ, .refl, a, .tup q p z r⟩
  | tupK q r => exact ⟨μ, .refl, a, .tupK q r⟩
  | lst q p z r => exact ⟨μ, .refl, a, .lst q p z r⟩
  | dct t p q r => exact ⟨μ, .refl, a, .dct t p q r⟩
  | scrF q p => exact ⟨μ, .refl, a, .scrF q p⟩
  | scrK q => exact ⟨μ, .refl, a, .scrK q⟩
/-- an expression's value is frozen -/
def fzE (c : CE) : CE := fun S h => (c S h).bind fun d h1 => .ok (fzD d h1).1 (fzD d h1).2
theorem Out.fz {r : Res D} {Q : VK} (o : Out e E μ H B (r.bind fun d h1 => .ok (fzD d h1).1 (fzD d h1).2) Q) : Out e E μ H B r Q := by
  cases r with
  | ok d h' =>
    intro v μ' H' x a r
    obtain ⟨μ2, x2, a2, r2⟩ := fz_rel a r
    exact o v μ2 H' (x.trans x2) a2 r2
  | exc _ _ => exact o
  | stuck => exact o
theorem g_fz {x : Expr} {c : CE} (hx : PE X x (rE X.en W c)) : PE X x (rE X.en W (fzE c)) :=
  hx.imp fun σ H Q ⟨B, μ, S, h, s, a, o⟩ => ⟨B, μ, S, h, s, a, Out.fz o⟩
/-- the slot i's value is frozen -/
def fzV (i : Nat) (c : CS) : CS := fun S h => match S[i]? with
  | some (some d) => c (S.set i (some (fzD d h).1)) (fzD d h).2
  | _ => c S h
theorem StRel.put {S : Sl} {σ : L2.St} {i : Nat} {d : D} {v : V} (s : StRel e B μ H S σ) (hv : σ[i]? = some (some v)) (r : RelD e B μ H d v) : StRel e B μ H (S.set i (some d)) σ := by
  have := s.set i r
  have e1 : σ.set i (some v) = σ := by
    apply List.ext_getElem?
    intro j
    by_cases hj : i = j
    · subst hj
      rw [List.getElem?_set_self (List.getElem?_eq_some_iff.mp hv).1, hv]
    · rw [List.getElem?_set_ne hj]
  rw [e1] at this
  exact this
theorem r_fzV {i : Nat} {c : CS} : ∀ D σ H, rS e W (fzV i c) D σ H → rS e W c D σ H := by
  rintro D σ H ⟨B, μ, S, h, s, a, o⟩
  unfold fzV at o
  split at o
  · rename_i d q
    obtain ⟨v, hv, r⟩ := s.2 i d q
    obtain ⟨μ2, x2, a2, r2⟩ := fz_rel a r
    exact ⟨B, μ2, _, _, (s.mono x2).put hv r2, a2, OutS.mono x2 o⟩
  · exact ⟨B, μ, S, h, s, a, o⟩
theorem g_fzV (i : Nat) {st : Stmt} {c : CS} (hx : PS X st (rS X.en W c)) : PS X st (rS X.en W (fzV i c)) := hx.imp r_fzV
theorem gs_fzV (i : Nat) {sts : List Stmt} {c : CS} (hx : PSs X sts (rS X.en W c)) : PSs X sts (rS X.en W (fzV i c)) := hx.imp r_fzV
/-! ### what is never reached -/
def deadE : CE := fun _ _ => .stuck
def deadS : CS := fun _ _ => .stuck
theorem g_deadE {x : Expr} : PE X x (rE X.en W deadE) := ⟨fun pins s σ H Q I ⟨B, μ, S, h, st, a, o⟩ => o.elim⟩
theorem gt_deadE {x : Expr} : PT X x (rT X.en W fun _ _ => .stuck) := ⟨fun pins s σ H Q I ⟨B, μ, S, h, st, a, o⟩ => o.elim⟩
theorem g_deadS {x : Stmt} : PS X x (rS X.en W deadS) := ⟨fun pins s σ H D I ⟨B, μ, S, h, st, a, o⟩ => o.elim⟩
theorem gs_dead {x : List Stmt} : PSs X x (rS X.en W deadS) := ⟨fun pins s σ H D I ⟨B, μ, S, h, st, a, o⟩ => o.elim⟩
/-! ### fields -/
theorem RelF.lookup {f : Str} {d : D} : ∀ {fs : List (Str × D)} {gs : List (Str × V)}, RelF e B μ H fs gs → fs.lookup f = some d → ∃ v, gs.lookup f = some v ∧ RelD e B μ H d v
  | _, _, .nil, q => by cases q
  | _, _, .cons (f := g) r t, q => by
    rw [List.lookup_cons] at q ⊢
    split at q
    · cases q; exact ⟨_, rfl, r⟩
    · exact RelF.lookup t q
theorem RelF.lookup_none {f : Str} : ∀ {fs : List (Str × D)} {gs : List (Str × V)}, RelF e B μ H fs gs → fs.lookup f = none → gs.lookup f = none
  | _, _, .nil, _ => rfl
  | _, _, .cons (f := g) r t, q => by
    rw [List.lookup_cons] at q ⊢
    split at q
    · cases q
    · exact RelF.lookup_none t q
theorem RelF.length : ∀ {fs : List (Str × D)} {gs : List (Str × V)}, RelF e B μ H fs gs → fs.length = gs.length
  | _, _, .nil => rfl
  | _, _, .cons r t => by simp [RelF.length t]
def putFD (f : Str) (d : D) : List (Str × D) → List (Str × D)
  | [] => [(f, d)]
  | (g, x) :: r => if g = f then (g, d) :: r else (g, x) :: putFD f d r
theorem RelF.put {f : Str} {d : D} {v : V} (rd : RelD e B μ H d v) : ∀ {fs : List (Str × D)} {gs : List (Str × V)}, RelF e B μ H fs gs → RelF e B μ H (putFD f d fs) (putF f v gs)
  | _, _, .nil => .cons rd .nil
  | _, _, .cons (f := g) r t => by
    unfold putFD putF
    split
    · exact .cons rd t
    · exact .cons r (RelF.put rd t)
/-- the instance's fields -/
def insAt (c : Str) (d : D) (h : AH) : Option (Nat × List (Str × D)) := match d with
  | .ref n => match h[n]? with
    | some (.ins c' fs) => if c' = c then some (n, fs) else none
    | _ => none
  | _ => none
theorem ins_at {c : Str} {d : D} {v : V} {n : Nat} {fs : List (Str × D)} (a : AHOk e B μ H h) (r : RelD e B μ H d v) (q : insAt c d h = some (n, fs)) : ∃ p C dx gs, v = .ref p ∧ Lv μ n p ∧ H p = some (.ins C dx gs) ∧ e.mg c = some (.ref C) ∧ RelF e B μ H fs gs := by
  cases r with
  | @ref k p hn =>
    simp only [insAt] at q
    split at q
    · rename_i c' fs' hz
      split at q
      · rename_i hc
        cases q
        subst hc
        obtain ⟨C, dx, gs, h1, h2, h3⟩ := a.obj _ _ p hz hn
        exact ⟨p, C, dx, gs, rfl, ⟨hn, a.live hz (by simp)⟩, h1, h2, h3⟩
      · cases q
    · cases q
  | _ => cases q
def fldD (c f : Str) (d : D) (h : AH) : Res D := match insAt c d h with
  | some (_, fs) => match fs.lookup f with
    | some v => .ok v h
    | none => .stuck
  | none => .stuck
def fldC (c f : Str) (a : CE) : CE := fun S h => (a S h).bind fun d h1 => fldD c f d h1
theorem g_fld (c : Str) {C : Addr} {x : Expr} {f : Str} {pos : Pos} {ca : CE} (hC : X.mg c = some (.ref C)) (cl : Cls X.K C) (na : NoAttr X.K C f) (he : PE X x (rE X.en W ca)) (hb : attributeBase x f X.env (eval x X.env) = eval x X.env := by rfl) : PE X (.Attribute x f pos) (rE X.en W (fldC c f ca)) := by
  refine (pe_fld he hb).imp fun σ H Q ⟨B, μ, S, h, s, a, o⟩ => ?_
  refine ⟨B, μ, S, h, s, a, o.bind fun d1 h1 v1 μ1 H1 x1 a1 r1 o1 => ?_⟩
  unfold fldD at o1
  split at o1
  · rename_i n fs q
    obtain ⟨p, C', dx, gs, rfl, hn, hp, hC', rf⟩ := ins_at a1 r1 q
    split at o1
    · rename_i y hy
      obtain ⟨v, hv, rv⟩ := rf.lookup hy
      rw [show X.en.mg c = X.mg c from rfl, hC] at hC'
      cases hC'
      exact ⟨p, C, dx, gs, v, rfl, hp, cl, na, hv, o1 v μ1 H1 .refl a1 rv⟩
    · exact o1.elim
  · exact o1.elim
/-- o.f = value -/
def sfldC (c f : Str) (a v : CE) : CS := fun S h => (v S h).sbind S fun y h1 => (a S h1).sbind S fun d h2 => match insAt c d h2 with
  | some (n, fs) => if fs.length < 1000 then .nx S (h2.set n (.ins c (putFD f y fs))) else .stuck
  | none => .stuck
theorem chg_ins {c f : Str} {C p dx : Addr} {gs : List (Str × V)} {fs : List (Str × D)} {n : Nat} {y : D} {w : V} (a : AHOk e B μ H h) (hn : Lv μ n p) (hC : e.mg c = some (.ref C)) (rf : RelF e B μ H fs gs) (ry : RelD e B μ H y w) :
    AHOk e B μ (upd H p (.ins C dx (putF f w gs))) (h.set n (.ins c (putFD f y fs))) :=
  a.chg hn ⟨C, dx, _, upd_same, hC, (rf.put ry).mono (Ext.chg hn)⟩
theorem g_sfld (c : Str) {C : Addr} {x y : Expr} {f : Str} {pos pos' : Pos} {ca cv : CE} (hC : X.mg c = some (.ref C)) (cl : Cls X.K C) (na : NoAttr X.K C f) (he : PE X x (rE X.en W ca)) (hv : PE X y (rE X.en W cv))
    (hs : swapsWith y (some (.Attribute x f pos')) pos.line X.env = pure false := by rfl) : PS X (.Assign [.Attribute x f pos'] y pos) (rS X.en W (sfldC c f ca cv)) := by
  refine (ps_fld he hv hs).imp fun D σ H ⟨B, μ, S, h, s, a, o⟩ => ?_
  refine ⟨B, μ, S, h, s, a, OutS.bindE s o fun d1 h1 v1 μ1 H1 x1 a1 r1 o1 => ?_⟩
  have s1 := s.mono x1
  refine ⟨B, μ1, S, h1, s1, a1, OutS.bindE s1 o1 fun d2 h2 v2 μ2 H2 x2 a2 r2 o2 => ?_⟩
  split at o2
  · rename_i n fs q
    split at o2
    · rename_i hz
      obtain ⟨p, C', dx, gs, rfl, hn, hp, hC', rf⟩ := ins_at a2 r2 q
      rw [show X.en.mg c = X.mg c from rfl, hC] at hC'
      cases hC'
      refine ⟨p, C, dx, gs, rfl, hp, cl, na, by rw [← rf.length]; exact hz, ?_⟩
      exact o2 σ μ2 _ (Ext.chg hn) (chg_ins a2 hn hC rf (r1.mono x2)) ((s1.mono x2).mono (Ext.chg hn))
    · exact o2.elim
  · exact o2.elim
/-- o.f += value, whole numbers -/
def afldC (c f : Str) (a v : CE) : CS := fun S h => (a S h).sbind S fun d h1 => match insAt c d h1 with
  | some (_, fs) => match fs.lookup f with
    | some (.int i) => (v S h1).sbind S fun y h2 => match y with
      | .int j => match insAt c d h2 with
        | some (n, fs2) => if fs2.length < 1000 then .nx S (h2.set n (.ins c (putFD f (.int (i + j)) fs2))) else .stuck
        | none => .stuck
      | _ => .stuck
    | _ => .stuck
  | none => .stuck
theorem g_afld (c : Str) {C : Addr} {x y : Expr} {f : Str} {pos pos' : Pos} {ca cv : CE} (hC : X.mg c = some (.ref C)) (cl : Cls X.K C) (na : NoAttr X.K C f) (he : PE X x (rE X.en W ca)) (hv : PE X y (rE X.en W cv)) :
    PS X (.AugAssign (.Attribute x f pos') .Add y pos) (rS X.en W (afldC c f ca cv)) := by
  refine (ps_fldaug he hv in_add).imp fun D σ H ⟨B, μ, S, h, s, a, o⟩ => ?_
  refine ⟨B, μ, S, h, s, a, OutS.bindE s o fun d1 h1 v1 μ1 H1 x1 a1 r1 o1 => ?_⟩
  have s1 := s.mono x1
  split at o1
  · rename_i n fs q
    obtain ⟨p, C', dx, gs, rfl, hn, hp, hC', rf⟩ := ins_at a1 r1 q
    rw [show X.en.mg c = X.mg c from rfl, hC] at hC'
    cases hC'
    split at o1
    · rename_i i hi
      obtain ⟨w, hw, rw'⟩ := rf.lookup hi
      cases rw'
      refine ⟨p, C, dx, gs, .int i, rfl, hp, cl, na, hw, B, μ1, S, h1, s1, a1, OutS.bindE s1 o1 fun d2 h2 v2 μ2 H2 x2 a2 r2 o2 => ?_⟩
      split at o2
      · rename_i j
        cases r2
        split at o2
        · rename_i n2 fs2 q2
          split at o2
          · rename_i hz
            obtain ⟨p2, C2, dx2, gs2, e2, hn2, hp2, hC2, rf2⟩ := ins_at a2 (r1.mono x2) q2
            cases e2
            rw [show X.en.mg c = X.mg c from rfl, hC] at hC2
            cases hC2
            refine ⟨i, j, rfl, rfl, dx2, gs2, hp2, by rw [← rf2.length]; exact hz, ?_⟩
            exact o2 σ μ2 _ (Ext.chg hn2) (chg_ins a2 hn2 hC rf2 (.int _)) ((s1.mono x2).mono (Ext.chg hn2))
          · exact o2.elim
        · exact o2.elim
      · exact o2.elim
    · exact o1.elim
  · exact o1.elim
end
end G

/-! E22: methods of own classes, makes, calls without arguments. -/
namespace G
open PySem PySem.Spec L2
open PyProof.Rows hiding St
section
variable {X : Cx} {CXx : CXT} {k : Nat} {f C : Addr} {fd : FuncData} {ps : List Str} {sp : Sp} {E : L2.St → XK} {x m : Str} {p pos apos : Pos} {y o : Expr} {ys : List Expr} {ta : TE} {t : TA}
theorem pe_callS0 (F : FnOk X.prog X.w X.K X.mg X.base CXx k f fd ps sp) (hr : Room k X.A) (hg : Gl X x) (hm : X.mg x = some (.ref f)) (hk : PySem.W.keepIn X.K (.ref f) = true) (hb : Binds X.K fd ps []) (hx : ∀ σ, PassesAt CXx X σ (E σ))
    (hdb : (x == ("__debug__" : Str)) = false := by decide) : PE X (.Call (.Name x p) [] [] pos) (tCallS sp E tNil) := by
  refine ⟨fun pins s σ H Q I h => ?_⟩
  refine wpAny_Call_Name_kw (ld_glob I hg hm ?_ hdb)
  exact PySem.W.callWith_K0 I.kIn hk (run_fnS (us := []) F hr hb (hx σ) I .nil h)
def tMethS (C : Addr) (m : Str) (sp : Sp) (E : L2.St → XK) (ta : TE) (t : TA) : TE := fun σ H Q => ta σ H fun x H1 => ∃ a dx fs, x = .ref a ∧ H1 a = some (.ins C dx fs) ∧ fs.lookup m = none ∧ t σ H1 fun vs H2 => sp (x :: vs) H2 Q (E σ)
theorem pe_methS {pl : Sem Bool} (he : PE X o ta) (c : Cls X.K C) (hm : Meth X.K C m f) (F : FnOk X.prog X.w X.K X.mg X.base CXx k f fd ps sp) (hr : Room k X.A) (hb : Binds X.K fd ps []) (hx : ∀ σ, PassesAt CXx X σ (E σ)) (ha : PA X (y :: ys) t)
    (hst : starEach (y :: ys) X.env = (false, eval y X.env) :: starEach ys X.env := by rfl) (hpl : (backTo pos (starEach ys X.env)).any (·.1) = false := by rfl)
    (ht : eval (.Call (.Attribute o m apos) (y :: ys) [] pos) X.env = (do
      let ov ← eval o X.env
      standAt apos.atName
      let (f, first) ← holding [ov] (getMethod ov m pl)
      callWith pos f first (backTo pos (starEach (y :: ys) X.env)) (backToKw pos (keywordEach [] X.env))) := by rfl) :
    PE X (.Call (.Attribute o m apos) (y :: ys) [] pos) (tMethS C m sp E ta t) := by
  refine ⟨fun pins s σ H Q I h => ?_⟩
  refine PySem.W.methodCall_KW (pl := pl) (thn (he.run pins s σ H _ I h) fun u s1 ⟨x, H1, I1, rx, a, dx, fs, ex, ea, l, q⟩ => ?_) ht
  subst ex
  obtain rfl : u = Value.ref a := rx
  refine getmeth_ok I1 ea c hm l ?_
  refine PySem.W.callWith_K (first := [.ref a]) (h₀ := X.base) I.ok.mod.kin hm.kp (thn (ha.run pos pins s1 σ H1 _ I1 q) fun us s2 ⟨vs, H2, I2, r, q2⟩ => ⟨I2.kIn, ?_⟩) hst hpl
  exact run_fnS (us := .ref a :: us) (vs := .ref a :: vs) F hr hb (hx σ) I2 (.cons rfl r) q2
theorem pe_methS0 {pl : Sem Bool} (he : PE X o ta) (c : Cls X.K C) (hm : Meth X.K C m f) (F : FnOk X.prog X.w X.K X.mg X.base CXx k f fd ps sp) (hr : Room k X.A) (hb : Binds X.K fd ps []) (hx : ∀ σ, PassesAt CXx X σ (E σ))
    (ht : eval (.Call (.Attribute o m apos) [] [] pos) X.env = (do
      let ov ← eval o X.env
      standAt apos.atName
      let (f, first) ← holding [ov] (getMethod ov m pl)
      callWith pos f first (backTo pos (starEach [] X.env)) (backToKw pos (keywordEach [] X.env))) := by rfl) :
    PE X (.Call (.Attribute o m apos) [] [] pos) (tMethS C m sp E ta tNil) := by
  refine ⟨fun pins s σ H Q I h => ?_⟩
  refine PySem.W.methodCall_KW (pl := pl) (thn (he.run pins s σ H _ I h) fun u s1 ⟨x, H1, I1, rx, a, dx, fs, ex, ea, l, q⟩ => ?_) ht
  subst ex
  obtain rfl : u = Value.ref a := rx
  refine getmeth_ok I1 ea c hm l ?_
  exact PySem.W.callWith_K0 (first := [.ref a]) I1.kIn hm.kp (run_fnS (us := [.ref a]) (vs := [.ref a]) F hr hb (hx σ) I1 (.cons rfl .nil) q)
theorem run_makeS {pins : List (Addr × Obj)} {σ : L2.St} {H : Hp} {s : Shared} {Q : VK} {us : List Value} {vs : List V} (M : Mk X.K C f) (F : FnOk X.prog X.w X.K X.mg X.base CXx k f fd ps sp) (hr : Room (k + 1) X.A) (hb : Binds X.K fd ps [])
    (hx : PassesAt CXx X σ (E σ)) (I : Inv X pins σ H s) (r : Vals vs us)
    (hc : ∀ H' e s' sI, Inv X pins σ H' sI → CXx X.stack H' sI (E σ) e s' → X.xe e s')
    (h : ∀ x dx, H x = none → H dx = none → dx ≠ x → sp (.ref x :: vs) (upd (upd H dx (.own x)) x (.ins C dx [])) (fun v H2 => v = .non ∧ Q (.ref x) H2) (E σ)) :
    wpAny (model X.prog X.w) X.A (call (.ref C) us) (EP X pins σ Q) X.xe s := by
  have hq := h (s.heap.objs.size + 1) s.heap.objs.size (I.hok.fresh (Nat.le_succ _)) (I.hok.fresh (Nat.le_refl _)) (Nat.ne_of_lt (Nat.lt_succ_self _))
  have I2 := Inv.made (C := C) I
  have r2 : Vals (V.ref (s.heap.objs.size + 1) :: vs) (Value.ref (s.heap.objs.size + 1) :: us) := .cons rfl r
  have hl : (Value.ref (s.heap.objs.size + 1) :: us ++ []).length = ps.length := by
    have e := r2.length
    rw [F.len _ _ _ _ hq] at e
    rw [List.append_nil]
    exact e.symm
  have b := hb _ (Value.ref (s.heap.objs.size + 1) :: us) I2.kIn hl
  rw [List.append_nil] at b
  refine wpAny_call (make_map (f := f) I.kIn M.makes M.init (beq_iff_eq.mp M.fn) (codeAny_mono (F.run _ X.stack _ _ ⟨Value.ref (s.heap.objs.size + 1) :: us, []⟩ (Value.ref (s.heap.objs.size + 1) :: us) _ _ (E σ) (hr.make C us [])
    (I2.env0.make C us []) b r2 hq) fun r s' hq' => ?_))
  cases r with
  | error e => exact hc _ e s' _ I2 hq'
  | ok fl =>
    cases fl with
    | ret u =>
      obtain ⟨v, H', I3, rv, ev, q3⟩ := I2.after hq'
      subst ev
      exact ⟨rv, ⟨V.ref (s.heap.objs.size + 1), H', I3, rfl, q3⟩⟩
    | next => exact False.elim hq'
    | brk => exact False.elim hq'
    | cont => exact False.elim hq'
def tMakeS (C : Addr) (sp : Sp) (E : L2.St → XK) (t : TA) : TE := fun σ H Q => t σ H fun vs H1 => ∀ x dx, H1 x = none → H1 dx = none → dx ≠ x →
  sp (.ref x :: vs) (upd (upd H1 dx (.own x)) x (.ins C dx [])) (fun v H2 => v = .non ∧ Q (.ref x) H2) (E σ)
theorem pe_makeS (M : Mk X.K C f) (F : FnOk X.prog X.w X.K X.mg X.base CXx k f fd ps sp) (hr : Room (k + 1) X.A) (hg : Gl X x) (hm : X.mg x = some (.ref C)) (hb : Binds X.K fd ps []) (hx : ∀ σ, PassesAt CXx X σ (E σ))
    (ha : PA X (y :: ys) t) (hdb : (x == ("__debug__" : Str)) = false := by decide) (he : starEach (y :: ys) X.env = (false, eval y X.env) :: starEach ys X.env := by rfl) (hpl : (backTo pos (starEach ys X.env)).any (·.1) = false := by rfl) :
    PE X (.Call (.Name x p) (y :: ys) [] pos) (tMakeS C sp E t) := by
  refine ⟨fun pins s σ H Q I h => ?_⟩
  refine wpAny_Call_Name_kw (ld_glob I hg hm ?_ hdb)
  refine PySem.W.callWith_K (h₀ := X.base) I.ok.mod.kin M.kp (thn (ha.run pos pins s σ H _ I h) fun us s1 ⟨vs, H1, I1, r, q⟩ => ⟨I1.kIn, ?_⟩) he hpl
  exact run_makeS M F hr hb (hx σ) I1 r (fun H' e s' sI J c => hx σ _ H' sI e s' J c) q
theorem pe_makeS0 (M : Mk X.K C f) (F : FnOk X.prog X.w X.K X.mg X.base CXx k f fd ps sp) (hr : Room (k + 1) X.A) (hg : Gl X x) (hm : X.mg x = some (.ref C)) (hb : Binds X.K fd ps []) (hx : ∀ σ, PassesAt CXx X σ (E σ))
    (hdb : (x == ("__debug__" : Str)) = false := by decide) : PE X (.Call (.Name x p) [] [] pos) (tMakeS C sp E tNil) := by
  refine ⟨fun pins s σ H Q I h => ?_⟩
  refine wpAny_Call_Name_kw (ld_glob I hg hm ?_ hdb)
  exact PySem.W.callWith_K0 I.kIn M.kp (run_makeS (us := []) M F hr hb (hx σ) I .nil (fun H' e s' sI J c => hx σ _ H' sI e s' J c) h)
end
section
variable {e : En} {B : Bk} {μ : Mu} {H : Hp} {h : AH} {E : XK} {W : WX} {X : Cx}
variable {k j : Nat} {f C : Addr} {fd : FuncData} {ps : List Str} {φ : Fn} {x : Str} {p pos apos : Pos} {y o : Expr} {ys : List Expr} {cs : CA} {co : CE}
theorem r_nilA {e : En} {f : List D → AH → Res D} {r : List V → Hp → VK → Prop} (hs : SimC e f r) : ∀ σ H Q, rE e W (apC f nilA) σ H Q → tNil σ H fun vs H1 => r vs H1 Q := by
  rintro σ H Q ⟨B, μ, S, h, s, a, o⟩
  exact hs _ B μ H h [] [] Q a .nil o
theorem g_call0 (F : FnOk X.prog X.w X.K X.mg X.base (L2.CX X.prog X.w) k f fd ps (spOf X.en φ)) (tk : Takes X W) (hr : Room k X.A) (hm : X.mg x = some (.ref f)) (hk : PySem.W.keepIn X.K (.ref f) = true) (hb : Binds X.K fd ps []) (hg : Gl X x := by rfl)
    (hdb : (x == ("__debug__" : Str)) = false := by decide) : PE X (.Call (.Name x p) [] [] pos) (rE X.en W (callC φ nilA)) := by
  refine (pe_callS0 F hr hg hm hk hb (fun σ => passAt tk σ) hdb).imp fun σ H Q ⟨B, μ, S, h, s, a, o⟩ => ?_
  exact ⟨B, μ, [], h, .nil, a, o⟩
/-- o.m(..): an instance of the class c that has no field m -/
def methC (c m : Str) (φ : Fn) (o : CE) (cs : CA) : CE := fun S h => (o S h).bind fun d h1 => match insAt c d h1 with
  | some (_, fs) => if fs.lookup m = none then (cs S h1).bind fun ds h2 => φ (d :: ds) h2 else .stuck
  | none => .stuck
theorem r_meth {c m : Str} (hC : X.mg c = some (.ref C)) : ∀ σ H Q, rE X.en W (methC c m φ co cs) σ H Q → tMethS C m (spOf X.en φ) (WE W) (rE X.en W co) (rA X.en W cs) σ H Q := by
  rintro σ H Q ⟨B, μ, S, h, s, a, o⟩
  refine ⟨B, μ, S, h, s, a, o.bind fun d1 h1 v1 μ1 H1 x1 a1 r1 o1 => ?_⟩
  split at o1
  · rename_i n fs q
    obtain ⟨p, C', dx, gs, rfl, hn, hp, hC', rf⟩ := ins_at a1 r1 q
    rw [show X.en.mg c = X.mg c from rfl, hC] at hC'
    cases hC'
    split at o1
    · rename_i hl
      refine ⟨p, dx, gs, rfl, hp, rf.lookup_none hl, B, μ1, S, h1, s.mono x1, a1, o1.bindA fun ds h2 vs μ2 H2 x2 a2 r2 o2 => ?_⟩
      exact ⟨B, μ2, d1 :: ds, h2, .cons (r1.mono x2) r2, a2, o2⟩
    · exact o1.elim
  · exact o1.elim
theorem g_meth (c : Str) {m : Str} {pl : Sem Bool} (hC : X.mg c = some (.ref C)) (cl : Cls X.K C) (hm : Meth X.K C m f) (F : FnOk X.prog X.w X.K X.mg X.base (L2.CX X.prog X.w) k f fd ps (spOf X.en φ)) (tk : Takes X W) (hr : Room k X.A) (hb : Binds X.K fd ps []) (he : PE X o (rE X.en W co)) (ha : PA X (y :: ys) (rA X.en W cs))
    (hst : starEach (y :: ys) X.env = (false, eval y X.env) :: starEach ys X.env := by rfl) (hpl : (backTo pos (starEach ys X.env)).any (·.1) = false := by rfl)
    (ht : eval (.Call (.Attribute o m apos) (y :: ys) [] pos) X.env = (do
      let ov ← eval o X.env
      standAt apos.atName
      let (f, first) ← holding [ov] (getMethod ov m pl)
      callWith pos f first (backTo pos (starEach (y :: ys) X.env)) (backToKw pos (keywordEach [] X.env))) := by rfl) :
    PE X (.Call (.Attribute o m apos) (y :: ys) [] pos) (rE X.en W (methC c m φ co cs)) :=
  (pe_methS (pl := pl) he cl hm F hr hb (fun σ => passAt tk σ) ha hst hpl ht).imp (r_meth hC)
theorem g_meth0 (c : Str) {m : Str} {pl : Sem Bool} (hC : X.mg c = some (.ref C)) (cl : Cls X.K C) (hm : Meth X.K C m f) (F : FnOk X.prog X.w X.K X.mg X.base (L2.CX X.prog X.w) k f fd ps (spOf X.en φ)) (tk : Takes X W) (hr : Room k X.A) (hb : Binds X.K fd ps []) (he : PE X o (rE X.en W co))
    (ht : eval (.Call (.Attribute o m apos) [] [] pos) X.env = (do
      let ov ← eval o X.env
      standAt apos.atName
      let (f, first) ← holding [ov] (getMethod ov m pl)
      callWith pos f first (backTo pos (starEach [] X.env)) (backToKw pos (keywordEach [] X.env))) := by rfl) :
    PE X (.Call (.Attribute o m apos) [] [] pos) (rE X.en W (methC c m φ co nilA)) := by
  refine (pe_methS0 (pl := pl) he cl hm F hr hb (fun σ => passAt tk σ) ht).imp fun σ H Q q => ?_
  obtain ⟨B, μ, S, h, s, a, o⟩ := q
  refine ⟨B, μ, S, h, s, a, o.bind fun d1 h1 v1 μ1 H1 x1 a1 r1 o1 => ?_⟩
  split at o1
  · rename_i n fs q
    obtain ⟨p, C', dx, gs, rfl, hn, hp, hC', rf⟩ := ins_at a1 r1 q
    rw [show X.en.mg c = X.mg c from rfl, hC] at hC'
    cases hC'
    split at o1
    · rename_i hl
      exact ⟨p, dx, gs, rfl, hp, rf.lookup_none hl, B, μ1, [d1], h1, .cons r1 .nil, a1, o1⟩
    · exact o1.elim
  · exact o1.elim
/-- c(..): a new instance, then its __init__ -/
def makeC (c : Str) (φ : Fn) (cs : CA) : CE := fun S h => (cs S h).bind fun ds h1 => (φ (.ref h1.length :: ds) (h1 ++ [.ins c []])).bind fun d h2 => match d with
  | .non => .ok (.ref h1.length) h2
  | _ => .stuck
theorem made_rel {c : Str} {ds : List D} {vs : List V} {Q : VK} {x dx : Addr} (hC : e.mg c = some (.ref C)) (a : AHOk e B μ H h) (r : RelDs e B μ H ds vs) (hx : H x = none) (hd : H dx = none) (hne : dx ≠ x)
    (o : Out e E μ H B ((φ (.ref h.length :: ds) (h ++ [.ins c []])).bind fun d h2 => match d with | .non => .ok (.ref h.length) h2 | _ => .stuck) Q) :
    spOf e φ (.ref x :: vs) (upd (upd H dx (.own x)) x (.ins C dx [])) (fun v H2 => v = .non ∧ Q (.ref x) H2) E := by
  have a1 := a.new (o := .own x) hd
  have x1 := Ext.new (μ := μ) (o := HO.own x) hd (a.free hd).2
  have hx1 : (upd H dx (HO.own x)) x = none := by rw [upd_ne (fun z : x = dx => hne z.symm)]; exact hx
  have x2 := Ext.add (o := .ins C dx []) a1 hx1
  have a2 := a1.add (o := .ins C dx []) (ob := .ins c []) hx1 ⟨C, dx, [], upd_same, hC, .nil⟩
  have rx : RelD e B (muAdd μ h.length x) (upd (upd H dx (.own x)) x (.ins C dx [])) (.ref h.length) (.ref x) := .ref (by dsimp only [muAdd]; rw [if_pos rfl])
  refine ⟨B, _, _, _, .cons rx (r.mono (x1.trans x2)), a2, ?_⟩
  cases q : φ (.ref h.length :: ds) (h ++ [.ins c []]) with
  | ok d h2 =>
    rw [q, Res.bind_ok] at o
    intro v μ3 H3 x3 a3 r3
    cases d <;> first | exact o.elim | skip
    cases r3
    exact ⟨rfl, o _ μ3 H3 ((x1.trans x2).trans x3) a3 (rx.mono x3)⟩
  | exc y h2 =>
    rw [q] at o
    exact fun cls d μ3 H3 x3 a3 r3 => o cls d μ3 H3 ((x1.trans x2).trans x3) a3 r3
  | stuck => rw [q] at o; exact o
theorem g_make {c : Str} (M : Mk X.K C f) (F : FnOk X.prog X.w X.K X.mg X.base (L2.CX X.prog X.w) k f fd ps (spOf X.en φ)) (tk : Takes X W) (hr : Room (k + 1) X.A) (hC : X.mg c = some (.ref C)) (hb : Binds X.K fd ps []) (ha : PA X (y :: ys) (rA X.en W cs)) (hg : Gl X c := by rfl)
    (hdb : (c == ("__debug__" : Str)) = false := by decide) (he : starEach (y :: ys) X.env = (false, eval y X.env) :: starEach ys X.env := by rfl) (hpl : (backTo pos (starEach ys X.env)).any (·.1) = false := by rfl) :
    PE X (.Call (.Name c p) (y :: ys) [] pos) (rE X.en W (makeC c φ cs)) := by
  refine (pe_makeS M F hr hg hC hb (fun σ => passAt tk σ) ha hdb he hpl).imp fun σ H Q ⟨B, μ, S, h, s, a, o⟩ => ?_
  refine ⟨B, μ, S, h, s, a, o.bindA fun ds h1 vs μ1 H1 x1 a1 r1 o1 => fun x dx hx hd hne => ?_⟩
  exact made_rel hC a1 r1 hx hd hne o1
theorem g_make0 {c : Str} (M : Mk X.K C f) (F : FnOk X.prog X.w X.K X.mg X.base (L2.CX X.prog X.w) k f fd ps (spOf X.en φ)) (tk : Takes X W) (hr : Room (k + 1) X.A) (hC : X.mg c = some (.ref C)) (hb : Binds X.K fd ps []) (hg : Gl X c := by rfl)
    (hdb : (c == ("__debug__" : Str)) = false := by decide) : PE X (.Call (.Name c p) [] [] pos) (rE X.en W (makeC c φ nilA)) := by
  refine (pe_makeS0 M F hr hg hC hb (fun σ => passAt tk σ) hdb).imp fun σ H Q ⟨B, μ, S, h, s, a, o⟩ => ?_
  exact fun x dx hx hd hne => made_rel hC a .nil hx hd hne o
end
end G

/-! E23: raise of an own class with a text; try .. except X. -/
namespace G
open PySem PySem.Spec L2
open PyProof.Rows hiding St
section
variable {e : En} {B : Bk} {μ : Mu} {H : Hp} {h : AH} {E : XK} {W : WX} {X : Cx}
def raiseC (c : Str) : CS := fun S h => .exc ⟨c, []⟩ S h
theorem g_raise {c m : Str} {C : Addr} {bmB : List Value} {BB newId initId : String} {j : Nat} {p p2 pos pos' : Pos} (hc : X.calm = true) (tk : Takes X W) (F : ExcBaseFacts BB newId initId bmB) (q : PySem.W.excIn X.K C bmB newId = true) (gC : X.mg c = some (.ref C)) (kC : PySem.W.keepIn X.K (.ref C) = true) (r : Raises X (.ref C)) (hg : Gl X c := by rfl)
    (hdb : (c == ("__debug__" : Str)) = false := by decide) : PS X (.Raise (some (.Call (.Name c p) [.Constant (.str m) j p2] [] pos)) none pos') (rS X.en W (raiseC c)) := by
  refine (ps_raise hc tk (pmk_own F q gC kC r hg hdb)).imp fun D σ H ⟨B, μ, S, h, s, a, o⟩ => ?_
  exact o (.ref C) none σ μ H .refl a ⟨C, gC, rfl, .inl rfl⟩ s
def tryC (catches : Str → Option Bool) (body suite : CS) : CS := fun S h => match body S h with
  | .exc x S' h' => match catches x.cls with
    | some true => match suite S' h' with
      | .exc _ _ _ => .stuck
      | r => r
    | some false => .exc x S' h'
    | none => .stuck
  | r => r
theorem g_tryOnly {x : Str} {C : Value} {body suite : List Stmt} {b₀ : Stmt} {np pos pos' : Pos} {cb cu : CS} (catches : Str → Option Bool) (hs : X.stack = X.env :: X.outer) (hf : X.env.frame = some X.env.locals) (hc : Names X x C) (tk : Takes X W)
    (hcat : ∀ c b C', catches c = some b → X.mg c = some (.ref C') → PySem.W.exmOne X.K (.ref C') C = some b)
    (hb : ∀ (W' : WX) (pn : List (Addr × Obj)) (xe : Value → Shared → Prop), Takes (X.tr pn xe) W' → PSs (X.tr pn xe) body (rS X.en W' cb))
    (hsu : ∀ (a : Addr) (oe : Obj) (pn : List (Addr × Obj)), PSs (X.suite a ((a, oe) :: pn)) (b₀ :: suite) (rS X.en (fun _ _ _ _ => False) cu)) :
    PS X (.Try body [.ExceptHandler (some (.Name x np)) none (b₀ :: suite) pos'] [] [] pos) (rS X.en W (tryC catches cb cu)) := by
  refine (ps_try_only (tb := fun W' => rS X.en W' cb) (ts := fun _ _ _ => rS X.en (fun _ _ _ _ => False) cu) hs hf hc tk (fun W' pn xe t _ => hb W' pn xe t) (fun a oe cls d pn _ _ => hsu a oe pn)).imp fun D σ H ⟨B, μ, S, h, s, a, o⟩ => ?_
  refine ⟨B, μ, S, h, s, a, ?_⟩
  unfold tryC at o
  cases q : cb S h with
  | exc x S' h' =>
    rw [q] at o
    intro cls d σ' μ' H' xt a' xr s'
    obtain ⟨C', hC', rfl, hx⟩ := xr
    simp only at o
    split at o
    · rename_i hcx
      refine ⟨true, hcat _ _ _ hcx hC', fun _ b _ => ?_, fun z => by cases z⟩
      refine ⟨B, μ', S', h', s', a', ?_⟩
      cases q2 : cu S' h' with
      | exc _ _ _ => rw [q2] at o; exact o.elim
      | _ => rw [q2] at o; exact OutS.mono (W := fun _ _ _ _ => False) xt o
    · rename_i hcx
      exact ⟨false, hcat _ _ _ hcx hC', (fun z => by cases z), fun _ => o _ d σ' μ' H' xt a' ⟨C', hC', rfl, hx⟩ s'⟩
    · exact o.elim
  | nx _ _ => rw [q] at o; exact o
  | rt _ _ => rw [q] at o; exact o
  | bk _ _ => rw [q] at o; exact o
  | ct _ _ => rw [q] at o; exact o
  | stuck => rw [q] at o; exact o
end
end G

/-! E24: one way or another; names of types, constants of the module; minus; the end of a def trimmed. -/
namespace G
open PySem PySem.Spec L2
open PyProof.Rows hiding St
section
variable {e : En} {B : Bk} {μ μ' : Mu} {H H' : Hp} {h : AH} {E : XK} {W : WX} {X : Cx}
/-- the first of two that is not stuck -/
def altC (a b : CE) : CE := fun S h => match a S h with
  | .stuck => b S h
  | r => r
theorem g_alt {x : Expr} {c d : CE} (h1 : PE X x (rE X.en W c)) (h2 : PE X x (rE X.en W d)) : PE X x (rE X.en W (altC c d)) := by
  refine ⟨fun pins s σ H Q I ⟨B, μ, S, h, st, a, o⟩ => ?_⟩
  unfold altC at o
  split at o
  · exact h2.run pins s σ H Q I ⟨B, μ, S, h, st, a, o⟩
  · exact h1.run pins s σ H Q I ⟨B, μ, S, h, st, a, o⟩
/-- names -/
theorem g_ty {x : Str} {T : String} {pos : Pos} (hm : X.mg x = none) (hv : bootBuiltins x = some (.type T)) (hg : Gl X x := by rfl) (hn : x ≠ "__name__" := by decide) (hd : (x == ("__debug__" : Str)) = false := by decide) : PE X (.Name x pos) (rE X.en W (cstC (.ty T))) :=
  (pe_bltn (v := .ty T) hg hm hv rfl hn hd).imp fun σ H Q ⟨B, μ, S, h, s, a, o⟩ => o _ μ H .refl a (.ty T)
theorem g_cls {x : Str} {C : Addr} {pos : Pos} (hm : X.mg x = some (.ref C)) (hg : Gl X x := by rfl) (hd : (x == ("__debug__" : Str)) = false := by decide) : PE X (.Name x pos) (rE X.en W (cstC (.glb x))) :=
  (pe_glob (v := .ref C) hg hm rfl hd).imp fun σ H Q ⟨B, μ, S, h, s, a, o⟩ => o _ μ H .refl a (.glb hm)
theorem g_gtup {x : Str} {t : Addr} {xs : List D} {ys : List V} {pos : Pos} (hm : X.mg x = some (.ref t)) (hk : KTup X.K t ys) (hr : ∀ B μ H, RelDs X.en B μ H xs ys) (hg : Gl X x := by rfl) (hd : (x == ("__debug__" : Str)) = false := by decide) : PE X (.Name x pos) (rE X.en W (cstC (.tup xs))) :=
  (pe_glob (v := .ref t) hg hm rfl hd).imp fun σ H Q ⟨B, μ, S, h, s, a, o⟩ => o _ μ H .refl a (.tupK hk (hr B μ H))
theorem g_gstr {x y : Str} {pos : Pos} {tk : Tok} (hm : X.mg x = some (.str y tk)) (hy : okS y := by exact ⟨by decide +kernel, by decide +kernel⟩) (hg : Gl X x := by rfl) (hd : (x == ("__debug__" : Str)) = false := by decide) : PE X (.Name x pos) (rE X.en W (cstC (.str y))) :=
  (pe_glob (v := .str y) hg hm ⟨_, rfl⟩ hd).imp fun σ H Q ⟨B, μ, S, h, s, a, o⟩ => o _ μ H .refl a (.str y hy)
/-- minus -/
def negC (c : CE) : CE := fun S h => (c S h).bind fun d h1 => match d with
  | .int i => .ok (.int (-i)) h1
  | _ => .stuck
theorem g_neg {x : Expr} {c : CE} {pos : Pos} (hx : PE X x (rE X.en W c)) : PE X (.UnaryOp .USub x pos) (rE X.en W (negC c)) := by
  refine (pe_un un_neg hx).imp fun σ H Q ⟨B, μ, S, h, s, a, o⟩ => ?_
  refine ⟨B, μ, S, h, s, a, o.bind fun d h1 v μ1 H1 x1 a1 r1 o1 => ?_⟩
  cases r1 with
  | int i => exact ⟨i, rfl, o1 _ μ1 H1 .refl a1 (.int _)⟩
  | _ => exact o1.elim
/-! ### the end of a def: what is new and no longer told is left out -/
mutual
def D.lowN (N : Nat) : D → Bool
  | .ref n => decide (n < N)
  | .tup xs => D.lows N xs
  | .lst xs => D.lows N xs
  | .dct ks vs => D.lows N ks && D.lows N vs
  | .exn _ xs => D.lows N xs
  | _ => true
def D.lows (N : Nat) : List D → Bool
  | [] => true
  | x :: xs => D.lowN N x && D.lows N xs
end
def belowF (N : Nat) (fs : List (Str × D)) : Bool := fs.all fun p => D.lowN N p.2
def O.lowN (N : Nat) : O → Bool
  | .lst xs => D.lows N xs
  | .dct ks vs => D.lows N ks && D.lows N vs
  | .ins _ fs => belowF N fs
  | .dead => true
def muCut (μ : Mu) (N : Nat) : Mu := ⟨fun i => if i < N then μ i else none, fun i => i < N ∧ μ.fz i⟩
theorem cut_some {N i : Nat} {a : Addr} (q : muCut μ N i = some a) : i < N ∧ μ i = some a := by
  dsimp only [muCut] at q
  split at q
  · exact ⟨by assumption, q⟩
  · cases q
theorem cut_of {N i : Nat} {a : Addr} (h : i < N) (q : μ i = some a) : muCut μ N i = some a := by
  dsimp only [muCut]
  rw [if_pos h]
  exact q
theorem NoMu.cut {N : Nat} {a : Addr} (q : NoMu μ a) : NoMu (muCut μ N) a := fun i z => ⟨(cut_some z).1, q i (cut_some z).2⟩
mutual
theorem RelD.trim {N : Nat} : ∀ {d : D} {v : V}, RelD e B μ H d v → d.lowN N = true → RelD e B (muCut μ N) H d v
  | _, _, .non, _ => .non
  | _, _, .bl b, _ => .bl b
  | _, _, .int i, _ => .int i
  | _, _, .str s h, _ => .str s h
  | _, _, .ty n, _ => .ty n
  | _, _, .glb h, _ => .glb h
  | _, _, .tup h p z r, q => .tup h ⟨p.1, p.2.cut⟩ z (RelDs.trim r (by rw [D.lowN] at q; exact q))
  | _, _, .dct t p r1 r2, q => by
    rw [D.lowN, Bool.and_eq_true] at q
    exact .dct t ⟨p.1, p.2.cut⟩ (RelDs.trim r1 q.1) (RelDs.trim r2 q.2)
  | _, _, .tupK k r, q => .tupK k (RelDs.trim r (by rw [D.lowN] at q; exact q))
  | _, _, .lst h p z r, q => .lst h ⟨p.1, p.2.cut⟩ z (RelDs.trim r (by rw [D.lowN] at q; exact q))
  | _, _, .ref h, q => .ref (cut_of (by rw [D.lowN] at q; exact of_decide_eq_true q) h)
  | _, _, .scrF h p, _ => .scrF h ⟨p.1, p.2.cut⟩
  | _, _, .scrK h, _ => .scrK h
theorem RelDs.trim {N : Nat} : ∀ {d : List D} {v : List V}, RelDs e B μ H d v → D.lows N d = true → RelDs e B (muCut μ N) H d v
  | _, _, .nil, _ => .nil
  | _, _, .cons r t, q => by
    rw [D.lows, Bool.and_eq_true] at q
    exact .cons (RelD.trim r q.1) (RelDs.trim t q.2)
end
mutual
theorem RelD.bel {N : Nat} (hN : ∀ i a, μ i = some a → i < N) : ∀ {d : D} {v : V}, RelD e B μ H d v → d.lowN N = true
  | _, _, .non => by rw [D.lowN] <;> simp
  | _, _, .bl b => by rw [D.lowN] <;> simp
  | _, _, .int i => by rw [D.lowN] <;> simp
  | _, _, .str s h => by rw [D.lowN] <;> simp
  | _, _, .ty n => by rw [D.lowN] <;> simp
  | _, _, .glb h => by rw [D.lowN] <;> simp
  | _, _, .tup h p z r => by rw [D.lowN]; exact RelDs.bel hN r
  | _, _, .dct t p r1 r2 => by rw [D.lowN, RelDs.bel hN r1, RelDs.bel hN r2]; rfl
  | _, _, .tupK k r => by rw [D.lowN]; exact RelDs.bel hN r
  | _, _, .lst h p z r => by rw [D.lowN]; exact RelDs.bel hN r
  | _, _, .ref h => by rw [D.lowN]; exact decide_eq_true (hN _ _ h)
  | _, _, .scrF h p => by rw [D.lowN] <;> simp
  | _, _, .scrK h => by rw [D.lowN] <;> simp
theorem RelDs.bel {N : Nat} (hN : ∀ i a, μ i = some a → i < N) : ∀ {d : List D} {v : List V}, RelDs e B μ H d v → D.lows N d = true
  | _, _, .nil => by rw [D.lows]
  | _, _, .cons r t => by rw [D.lows, RelD.bel hN r, RelDs.bel hN t]; rfl
end
theorem RelF.trim {N : Nat} : ∀ {fs : List (Str × D)} {gs : List (Str × V)}, RelF e B μ H fs gs → belowF N fs = true → RelF e B (muCut μ N) H fs gs
  | _, _, .nil, _ => .nil
  | _, _, .cons r t, q => by
    unfold belowF at q
    rw [List.all_cons, Bool.and_eq_true] at q
    exact .cons (r.trim q.1) (RelF.trim t q.2)
theorem RelF.bel {N : Nat} (hN : ∀ i a, μ i = some a → i < N) : ∀ {fs : List (Str × D)} {gs : List (Str × V)}, RelF e B μ H fs gs → belowF N fs = true
  | _, _, .nil => rfl
  | _, _, .cons r t => by
    unfold belowF
    rw [List.all_cons, r.bel hN]
    exact RelF.bel hN t
theorem RelO'.cut {N : Nat} {a : Addr} {o : O} (r : RelO' e B μ H a o) (q : o.lowN N = true) : RelO' e B (muCut μ N) H a o := by
  cases o with
  | lst xs => obtain ⟨ys, h1, h2, h3⟩ := r; exact ⟨ys, h1, h2, h3.trim q⟩
  | dct ks vs =>
    obtain ⟨ys, zs, es, h1, h2, h3⟩ := r
    unfold O.lowN at q
    rw [Bool.and_eq_true] at q
    exact ⟨ys, zs, es, h1, h2.trim q.1, h3.trim q.2⟩
  | ins c fs => obtain ⟨C, dx, gs, h1, h2, h3⟩ := r; exact ⟨C, dx, gs, h1, h2, h3.trim q⟩
  | dead => trivial
theorem RelO'.bel {N : Nat} (hN : ∀ i a, μ i = some a → i < N) {a : Addr} {o : O} (r : RelO' e B μ H a o) : o.lowN N = true := by
  cases o with
  | lst xs => obtain ⟨ys, h1, h2, h3⟩ := r; exact h3.bel hN
  | dct ks vs => obtain ⟨ys, zs, es, h1, h2, h3⟩ := r; show (D.lows N ks && D.lows N vs) = true; rw [h2.bel hN, h3.bel hN]; rfl
  | ins c fs => obtain ⟨C, dx, gs, h1, h2, h3⟩ := r; exact h3.bel hN
  | dead => rfl
/-- what is told anew is left out: the heap ahead was h -/
def trimOk (h h' : AH) (d : D) : Prop := h.length ≤ h'.length ∧ d.lowN h.length = true ∧ ∀ i, i < h.length → h'[i]? = h[i]? ∨ ∃ o, h'[i]? = some o ∧ o.lowN h.length = true
theorem AHOk.cut {h' : AH} (a' : AHOk e B μ' H' h') {N : Nat} (hN : N ≤ h'.length) (q : ∀ i o, i < N → h'[i]? = some o → o.lowN N = true) : AHOk e B (muCut μ' N) H' (h'.take N) where
  dom := fun i => by
    rw [List.length_take, Nat.min_eq_left hN]
    constructor
    · intro hi
      obtain ⟨b, hb⟩ := (a'.dom i).mp (by omega)
      exact ⟨b, cut_of hi hb⟩
    · rintro ⟨b, hb⟩
      exact (cut_some hb).1
  fzd := fun i z => by
    rw [List.getElem?_take_of_lt z.1]
    exact a'.fzd i z.2
  inj := fun i j b h1 h2 => a'.inj i j b (cut_some h1).2 (cut_some h2).2
  nb := fun i b h1 => a'.nb i b (cut_some h1).2
  obj := fun i o b h1 h2 => by
    obtain ⟨hi, hb⟩ := cut_some h2
    rw [List.getElem?_take_of_lt hi] at h1
    exact (a'.obj i o b h1 hb).cut (q i o hi h1)
  tr := fun i b h1 => a'.tr i b (cut_some h1).2
  bt := a'.bt
theorem Ext.cut {N : Nat} (x : Ext μ H μ' H') (hN : ∀ i a, μ i = some a → i < N) : Ext μ H (muCut μ' N) H' :=
  ⟨fun i b q => cut_of (hN i b q) (x.sub i b q), fun b o hb q => let ⟨h1, h2⟩ := x.stay b o hb q; ⟨h1, h2.cut⟩⟩
open Classical in
noncomputable def trimF (f : Fn) : Fn := fun ds h => match f ds h with
  | .ok d h' => if trimOk h h' d then .ok d (h'.take h.length) else .ok d h'
  | r => r
theorem keeps_trim {n : Nat} {body : CS} : Keeps n body (trimF (runF n body)) := by
  intro e E B μ H ds vs h Q rs a o
  unfold trimF at o
  cases q : runF n body ds h with
  | exc x h' => rw [q] at o; exact o
  | stuck => rw [q] at o; exact o
  | ok d h' =>
    rw [q] at o
    simp only at o
    split at o
    · rename_i ht
      obtain ⟨t1, t2, t3⟩ := ht
      have hN : ∀ i b, μ i = some b → i < h.length := fun i b z => (a.dom i).mpr ⟨b, z⟩
      intro v μ' H' x a' r
      refine o v (muCut μ' h.length) H' (x.cut hN) (a'.cut t1 fun i ob hi hob => ?_) (r.trim t2)
      rcases t3 i hi with z | ⟨ob', z, zb⟩
      · rw [hob] at z
        obtain ⟨b, hb⟩ := (a.dom i).mp hi
        exact (a.obj i ob b z.symm hb).bel hN
      · rw [hob] at z
        cases z
        exact zb
    · exact o
theorem trim_pure {f : Fn} {ds : List D} {d : D} {h j : AH} (hf : f ds h = .ok d (h ++ j)) (hd : d.lowN h.length = true) : trimF f ds h = .ok d h := by
  unfold trimF
  rw [hf]
  simp only
  rw [if_pos, List.take_left]
  exact ⟨by simp, hd, fun i hi => .inl (List.getElem?_append_left hi)⟩
end
end G

/-! E25: a dict against an empty one; displays of dicts with texts as keys. -/
namespace G
open PySem PySem.Spec L2
open PyProof.Rows hiding St
section
variable {e : En} {B : Bk} {μ μ' : Mu} {H H' : Hp} {h : AH} {E : XK} {W : WX} {X : Cx}
def eqX (neg : Bool) (d1 d2 : D) (h : AH) : Res D := match dctAt d1 h, dctAt d2 h with
  | some (ks, _), some ([], _) => if ks.all leafK then .ok (.bl (nb neg ks.isEmpty)) h else .stuck
  | _, _ => if neg then neD d1 d2 h else eqD d1 d2 h
def rEqE (e : En) (neg : Bool) : R2 := fun x y H Q => ∃ B μ a b ks ys zs es ys' zs' es', x = .ref a ∧ y = .ref b ∧ DAt e.w H a ks ys zs es ∧ RelDs e B μ H ks ys ∧ ks.all leafK = true ∧ DAt e.w H b [] ys' zs' es' ∧ RelDs e B μ H [] ys' ∧ Q (.bl (nb neg ks.isEmpty)) H
theorem op_eqE (hu : X.A.units < cLine) : OpR X (compareOp .Eq) (rEqE X.en false) := by
  intro pins s σ H x y v u Q I rx ry h
  obtain ⟨B, μ, a, b, ks, ys, zs, es, ys', zs', es', rfl, rfl, t, rk, ha, t', rk', q⟩ := h
  obtain rfl : v = Value.ref a := rx
  obtain rfl : u = Value.ref b := ry
  obtain ⟨kvs, lp, dd, _⟩ := dict_L I t rk ha
  obtain ⟨kvs', lp', dd', _⟩ := dict_L I t' rk' rfl
  cases lp'
  have hl := lp.len
  refine PySem.W.keq_eq (knd := lfKind X.prog X.w) (r := true) t.sys t'.sys dd dd' hu (fun z => ?_) (fin_bl I q ?_)
  · cases kvs with
    | nil => exact .nil
    | cons _ _ => simp at z
  · cases ks <;> cases kvs <;> simp_all [nb]
theorem op_neE (hu : X.A.units < cLine) : OpR X (compareOp .NotEq) (rEqE X.en true) := by
  intro pins s σ H x y v u Q I rx ry h
  obtain ⟨B, μ, a, b, ks, ys, zs, es, ys', zs', es', rfl, rfl, t, rk, ha, t', rk', q⟩ := h
  obtain rfl : v = Value.ref a := rx
  obtain rfl : u = Value.ref b := ry
  obtain ⟨kvs, lp, dd, _⟩ := dict_L I t rk ha
  obtain ⟨kvs', lp', dd', _⟩ := dict_L I t' rk' rfl
  cases lp'
  have hl := lp.len
  refine PySem.W.keq_ne (knd := lfKind X.prog X.w) (r := true) t.sys t'.sys dd dd' hu (fun z => ?_) (fin_bl I q ?_)
  · cases kvs with
    | nil => exact .nil
    | cons _ _ => simp at z
  · cases ks <;> cases kvs <;> simp_all [nb]
theorem sim_eqE {neg : Bool} {r : R2} (hs : Sim2 e (if neg then neD else eqD) r) : Sim2 e (eqX neg) (fun x y H Q => r x y H Q ∨ rEqE e neg x y H Q) := fun E B μ H h d1 d2 v1 v2 Q a r1 r2 o => by
  unfold eqX at o
  split at o
  · rename_i ks vs vs' q1 q2
    obtain ⟨p, ys, zs, es, rfl, t, rk, rv⟩ := dct_at a r1 q1
    obtain ⟨p', ys', zs', es', rfl, t', rk', rv'⟩ := dct_at a r2 q2
    split at o
    · rename_i ha
      exact .inr ⟨B, μ, p, p', ks, ys, zs, es, ys', zs', es', rfl, rfl, t, rk, ha, t', rk', o _ μ H .refl a (.bl _)⟩
    · exact o.elim
  · refine .inl (hs E B μ H h d1 d2 v1 v2 Q a r1 r2 ?_)
    cases neg <;> exact o
theorem op_eqX (hu : X.A.units + 64 < cLine) : OpR X (compareOp .Eq) (fun x y H Q => rEqD X.K x y H Q ∨ rEqE X.en false x y H Q) := (op_eqD hu).or (op_eqE (by omega))
theorem op_neX (hu : X.A.units + 64 < cLine) : OpR X (compareOp .NotEq) (fun x y H Q => rNeD X.K x y H Q ∨ rEqE X.en true x y H Q) := (op_neD hu).or (op_neE (by omega))
theorem sim_eqX : Sim2 e (eqX false) (fun x y H Q => rEqD e.K x y H Q ∨ rEqE e false x y H Q) := sim_eqE (neg := false) sim_eq
theorem sim_neX : Sim2 e (eqX true) (fun x y H Q => rNeD e.K x y H Q ∨ rEqE e true x y H Q) := sim_eqE (neg := true) sim_ne
/-! ### {'k': v, ..} -/
def valsC : List CE → CA
  | [] => fun _ h => .ok [] h
  | c :: cs => fun S h => ((c S h).noX).bind fun x h1 => (valsC cs S h1).bind fun xs h2 => .ok (x :: xs) h2
def keysD (xs : List (Str × CE)) : List D := xs.map fun p => .str p.1
def dispC (m : Bool) (xs : List (Str × CE)) : CE := fun S h => (valsC (xs.map (·.2)) S h).bind fun ds h1 => newDct m (dmerge [] [] (keysD xs) ds).1 (dmerge [] [] (keysD xs) ds).2 h1
theorem valsC_noX : ∀ {cs : List CE} {S : Sl} {h h2 : AH} {x : Exn}, valsC cs S h ≠ .exc x h2
  | [], S, h, h2, x => by unfold valsC; intro q; cases q
  | c :: cs, S, h, h2, x => by
    unfold valsC
    intro q
    cases e1 : (c S h).noX with
    | exc y h3 => cases e2 : c S h <;> rw [e2] at e1 <;> cases e1
    | stuck => rw [e1] at q; cases q
    | ok b h3 =>
      rw [e1, Res.bind_ok] at q
      cases e3 : valsC cs S h3 with
      | exc y h4 => exact valsC_noX e3
      | stuck => rw [e3] at q; cases q
      | ok ys h4 => rw [e3] at q; cases q
theorem r_pairs {σ : L2.St} {S : Sl} : ∀ {xs : List (Str × CE)} {μ : Mu} {H : Hp} {h hf : AH} {ds : List D} {Q : List (V × V) → Hp → Prop}, (∀ p ∈ xs, okS p.1) → StRel e B μ H S σ → AHOk e B μ H h → valsC (xs.map (·.2)) S h = .ok ds hf →
    (∀ vs μ' H', Ext μ H μ' H' → AHOk e B μ' H' hf → RelDs e B μ' H' ds vs → Q ((xs.map fun p => V.str p.1).zip vs) H') → tPairs (xs.map fun p => (rE e W (cstC (.str p.1)), rE e W p.2)) σ H Q
  | [], μ, H, h, hf, ds, Q, _, s, a, q, o => by
    unfold valsC at q
    cases q
    exact o [] μ H .refl a .nil
  | p :: xs, μ, H, h, hf, ds, Q, hk, s, a, q, o => by
    rw [List.map_cons] at q
    unfold valsC at q
    cases e1 : (p.2 S h).noX with
    | exc _ _ => rw [e1] at q; cases q
    | stuck => rw [e1] at q; cases q
    | ok x h1 =>
      rw [e1, Res.bind_ok] at q
      cases e2 : valsC (xs.map (·.2)) S h1 with
      | exc _ _ => rw [e2] at q; cases q
      | stuck => rw [e2] at q; cases q
      | ok ys h2 =>
        rw [e2, Res.bind_ok] at q
        cases q
        refine ⟨B, μ, S, h, s, a, ?_⟩
        intro v1 μ1 H1 x1 a1 r1
        cases r1
        refine ⟨B, μ1, S, h, s.mono x1, a1, ?_⟩
        rw [Res.noX_ok e1]
        intro v2 μ2 H2 x2 a2 r2
        have x12 := x1.trans x2
        refine r_pairs (fun p hp => hk p (List.mem_cons_of_mem _ hp)) (s.mono x12) a2 e2 fun vs μ3 H3 x3 a3 r3 => ?_
        exact o (v2 :: vs) μ3 H3 (x12.trans x3) a3 (.cons (r2.mono x3) r3)
/-- the blocked dict at p is done -/
theorem out_blkD {m : Bool} {p : Addr} {ks vs : List D} {zs : List V} {Q : VK} {H1 : Hp} {μ1 : Mu} (a : AHOk e (bkAdd B p) μ H h) (hB : ¬ B p) (x : Ext μ1 H1 μ H) (hp : H1 p = none) (o : Out e E μ1 H1 B (newDct m ks vs h) Q) (rv : RelDs e (bkAdd B p) μ H vs zs) : DNew e (bkAdd B p) μ H p ks zs fun H' => Q (.ref p) H' := by
  intro es ep ys t rk
  have hb : bkAdd B p p := .inr rfl
  have a2 := a.chgB (o := dHO p es ep) hb
  have x2 : Ext μ1 H1 μ (upd H p (dHO p es ep)) := x.over hp
  have rk2 := rk.chgB (o := dHO p es ep) hb
  have rv2 := rv.chgB (o := dHO p es ep) hb
  unfold newDct at o
  cases m with
  | false => exact o _ μ _ x2 (a2.weak fun _ z => .inl z) (.dct t ⟨hB, fun i z => (a.nb i p z (.inr rfl)).elim⟩ (rk2.weak fun _ z => .inl z) (rv2.weak fun _ z => .inl z))
  | true =>
    refine o (.ref p) (muAdd μ h.length p) _ (x2.adopt (mu_none a2) hp) (a2.adopt hB ⟨ys, zs, es, t, rk2, rv2⟩) (.ref ?_)
    dsimp only [muAdd]
    rw [if_pos rfl]
theorem lp_of_disp {P : Program} {w : World} : ∀ {xs : List (Str × CE)} {vs : List V} {ws : List (Value × Value)}, xs.length = vs.length → VV ((xs.map fun p => V.str p.1).zip vs) ws → ∃ kvs : List (Leaf × Value), Carries (lfKind P w) ws kvs ∧ LP (keysD xs) vs kvs
  | [], [], _, _, r => by cases r; exact ⟨[], trivial, .nil⟩
  | [], _ :: _, _, h, _ => by cases h
  | _ :: _, [], _, h, _ => by cases h
  | p :: xs, v :: vs, _, hl, r => by
    rw [List.map_cons, List.zip_cons_cons] at r
    cases r with
    | @cons a b as bs h1 t =>
      obtain ⟨kvs, c, l⟩ := lp_of_disp (P := P) (w := w) (by simpa using hl) t
      obtain ⟨b1, b2⟩ := b
      refine ⟨(leafOf (.str p.1), b2) :: kvs, ⟨?_, rfl, c⟩, ?_⟩
      · obtain ⟨tk, rfl⟩ := (show ∃ tk, b1 = Value.str p.1 tk from h1.1)
        simp [lfKind, leafOf, Leaf.isOf, Value.isStrOf]
      · exact .cons rfl h1.2 l
theorem rel_keys : ∀ {xs : List (Str × CE)}, (∀ p ∈ xs, okS p.1) → RelDs e B μ H (keysD xs) (xs.map fun p => V.str p.1)
  | [], _ => .nil
  | p :: xs, hk => .cons (.str _ (hk p List.mem_cons_self)) (rel_keys fun p hp => hk p (List.mem_cons_of_mem _ hp))
theorem g_disp (m : Bool) {keys : List (Option Expr)} {values : List Expr} {pos : Pos} (xs : List (Str × CE)) (hp : PPs X pos keys values (xs.map fun p => (rE X.en W (cstC (.str p.1)), rE X.en W p.2))) (hk : ∀ p ∈ xs, okS p.1) (hx : xs.length ≤ 15) (hall : keys.all (·.isSome) = true := by rfl) (hl : keys.length = values.length := by rfl) (h0 : keys ≠ [] := by simp)
    (h15 : keys.length ≤ 15 := by decide) : PE X (.Dict keys values pos) (rE X.en W (dispC m xs)) := by
  refine ⟨fun pins s σ H Q I ⟨B, μ, S, h, st, a, o⟩ => ?_⟩
  have hn := I.hok.fresh (Nat.le_refl s.heap.objs.size)
  have hs : (s.heap.objs.size == sysModules) = false := beq_eq_false_iff_ne.mpr (Ne.symm (Nat.ne_of_lt I.big))
  have I1 := I.laid (a := s.heap.objs.size) (o := dHO s.heap.objs.size #[] 0) (h' := s.heap.push { cls := .type "dict", data := .dict #[] }) (t' := s.toks) (fun _ _ q => Heap.get?_push_of_some _ q) (Nat.le_refl _) (dHO_ok (Heap.get?_push_size _ rfl) ⟨rfl, rfl, rfl⟩ rfl)
  have a1 := a.block (o := dHO s.heap.objs.size #[] 0) hn
  have st1 := (st.blk (Blk.add hn)).mono (Ext.new (o := dHO s.heap.objs.size #[] 0) hn (a.free hn).2)
  unfold dispC at o
  cases e1 : valsC (xs.map (·.2)) S h with
  | exc _ _ => exact absurd e1 valsC_noX
  | stuck => rw [e1] at o; exact o.elim
  | ok ds hf =>
    rw [e1, Res.bind_ok] at o
    refine wpAny_Dict_walk (knd := lfKind X.prog X.w) hall hl h0 h15 (thn (hp.run pins _ σ _ (fun ps H2 => ∃ vs μ2, ps = (xs.map fun p => V.str p.1).zip vs ∧ Ext μ (upd H s.heap.objs.size (dHO s.heap.objs.size #[] 0)) μ2 H2 ∧ AHOk X.en (bkAdd B s.heap.objs.size) μ2 H2 hf ∧ RelDs X.en (bkAdd B s.heap.objs.size) μ2 H2 ds vs) I1 (r_pairs hk st1 a1 e1 fun vs μ2 H2 x2 a2 r2 => ⟨vs, μ2, rfl, x2, a2, r2⟩))
      fun ws s2 ⟨ps, H2, I2, rel, vs, μ2, ep, x2, a2, r2⟩ => ?_)
    subst ep
    have hlen : xs.length = vs.length := by
      rw [← r2.length]
      have : ∀ {cs : List CE} {S : Sl} {h h2 : AH} {ds : List D}, valsC cs S h = .ok ds h2 → cs.length = ds.length := by
        intro cs
        induction cs with
        | nil => intro S h h2 ds q; unfold valsC at q; cases q; rfl
        | cons c cs ih =>
          intro S h h2 ds q
          unfold valsC at q
          cases e1 : (c S h).noX with
          | exc _ _ => rw [e1] at q; cases q
          | stuck => rw [e1] at q; cases q
          | ok b h3 =>
            rw [e1, Res.bind_ok] at q
            cases e3 : valsC cs S h3 with
            | exc _ _ => rw [e3] at q; cases q
            | stuck => rw [e3] at q; cases q
            | ok ys h4 => rw [e3, Res.bind_ok] at q; cases q; simp [ih e3]
      have := this e1
      simpa using this
    obtain ⟨kvs, cr, lp⟩ := lp_of_disp (P := X.prog) (w := X.w) hlen rel
    have hp2 := (x2.stay s.heap.objs.size _ upd_same fun i z => (a1.nb i _ z (.inr rfl)).elim).1
    have t2 : DAt X.w H2 s.heap.objs.size [] [] [] #[] := ⟨⟨0, hp2⟩, Nat.zero_le _, hs, .nil, .nil⟩
    obtain ⟨kvs0, lp0, dd0, _⟩ := dict_L (B := bkAdd B s.heap.objs.size) (μ := μ2) I2 t2 .nil rfl
    cases lp0
    refine ⟨kvs, cr, dd0, fun h' dd' hs' => ?_⟩
    have nd' := kmerge_nd (keysD xs) [] List.nodup_nil
    have lp' := lp.merge .nil List.nodup_nil
    have rkeys : RelDs X.en (bkAdd B s.heap.objs.size) μ2 H2 (keysD xs) (xs.map fun p => V.str p.1) := rel_keys hk
    have e2 := lp'.len
    have hkl := kmerge_len (keysD xs) []
    have hkl2 : (keysD xs).length = xs.length := by unfold keysD; simp
    have all1 : (keysD xs).all leafK = true := by unfold keysD; simp [leafK]
    have hds : (keysD xs).length = ds.length := by rw [hkl2, hlen, ← r2.length]
    have xx : Ext μ H μ2 H2 := (Ext.new hn (a.free hn).2).trans x2
    rw [dmerge_fst _ _ _ _ hds] at o
    obtain ⟨H', J, qq⟩ := newL_dict (t' := s2.toks + ws.length) I2 t2 lp' dd' hs' (by rw [← e2, sizeLine_eq]; simp at hkl; omega) nd' (lf_selfs (kmerge_all _ _ rfl all1) (rel_mergeK .nil rkeys)) (out_blkD a2 (a.free hn).1 xx hn o (rel_merge .nil r2))
    exact ⟨.ref s.heap.objs.size, H', J, rfl, qq⟩
end
end G

/-! E26: what the generated text leans on: callees in a package, fields in a package, the end of a def. -/
namespace G
open PySem PySem.Spec L2
open PyProof.Rows hiding St
/-- a def that may be called by its name -/
structure Cal (P : Program) (w : World) (K : PySem.W.Frag) (mg : Str → Option Value) (base : Heap) (k : Nat) (x : Str) (ps : List Str) (φ : Fn) : Prop where
  ex : ∃ (f : Addr) (fd : FuncData), FnOk P w K mg base (L2.CX P w) k f fd ps (spOf ⟨K, mg, w⟩ φ) ∧ mg x = some (.ref f) ∧ PySem.W.keepIn K (.ref f) = true ∧ Binds K fd ps []
/-- a method of a class -/
structure MCal (P : Program) (w : World) (K : PySem.W.Frag) (mg : Str → Option Value) (base : Heap) (k : Nat) (c m : Str) (ps : List Str) (φ : Fn) : Prop where
  ex : ∃ (C f : Addr) (fd : FuncData), mg c = some (.ref C) ∧ Cls K C ∧ Meth K C m f ∧ FnOk P w K mg base (L2.CX P w) k f fd ps (spOf ⟨K, mg, w⟩ φ) ∧ Binds K fd ps []
/-- a class that is made -/
structure KCal (P : Program) (w : World) (K : PySem.W.Frag) (mg : Str → Option Value) (base : Heap) (k : Nat) (c : Str) (ps : List Str) (φ : Fn) : Prop where
  ex : ∃ (C f : Addr) (fd : FuncData), mg c = some (.ref C) ∧ Mk K C f ∧ FnOk P w K mg base (L2.CX P w) k f fd ps (spOf ⟨K, mg, w⟩ φ) ∧ Binds K fd ps []
/-- a field's name -/
structure Fld (K : PySem.W.Frag) (mg : Str → Option Value) (c f : Str) : Prop where
  ex : ∃ C : Addr, mg c = some (.ref C) ∧ Cls K C ∧ NoAttr K C f
section
variable {e : En} {B : Bk} {μ : Mu} {H : Hp} {h : AH} {E : XK} {W : WX} {X : Cx}
variable {k j : Nat} {ps : List Str} {φ : Fn} {x c m f : Str} {p pos apos pos' : Pos} {y o : Expr} {ys : List Expr} {cs : CA} {co cv : CE}
theorem g_cal (F : Cal X.prog X.w X.K X.mg X.base j x ps φ) (tk : Takes X W) (hr : Room k X.A) (ha : PA X (y :: ys) (rA X.en W cs)) (hjk : j ≤ k := by decide) (hg : Gl X x := by rfl)
    (hdb : (x == ("__debug__" : Str)) = false := by decide) (he : starEach (y :: ys) X.env = (false, eval y X.env) :: starEach ys X.env := by rfl) (hpl : (backTo pos (starEach ys X.env)).any (·.1) = false := by rfl) :
    PE X (.Call (.Name x p) (y :: ys) [] pos) (rE X.en W (callC φ cs)) := by
  obtain ⟨a, fd, h1, h2, h3, h4⟩ := F.ex
  exact g_call h1 tk (hr.mono hjk) h2 h3 h4 ha hg hdb he hpl
theorem g_cal0 (F : Cal X.prog X.w X.K X.mg X.base j x ps φ) (tk : Takes X W) (hr : Room k X.A) (hjk : j ≤ k := by decide) (hg : Gl X x := by rfl)
    (hdb : (x == ("__debug__" : Str)) = false := by decide) : PE X (.Call (.Name x p) [] [] pos) (rE X.en W (callC φ nilA)) := by
  obtain ⟨a, fd, h1, h2, h3, h4⟩ := F.ex
  exact g_call0 h1 tk (hr.mono hjk) h2 h3 h4 hg hdb
theorem g_mcal {pl : Sem Bool} (F : MCal X.prog X.w X.K X.mg X.base j c m ps φ) (tk : Takes X W) (hr : Room k X.A) (he : PE X o (rE X.en W co)) (ha : PA X (y :: ys) (rA X.en W cs)) (hjk : j ≤ k := by decide)
    (hst : starEach (y :: ys) X.env = (false, eval y X.env) :: starEach ys X.env := by rfl) (hpl : (backTo pos (starEach ys X.env)).any (·.1) = false := by rfl)
    (ht : eval (.Call (.Attribute o m apos) (y :: ys) [] pos) X.env = (do
      let ov ← eval o X.env
      standAt apos.atName
      let (f, first) ← holding [ov] (getMethod ov m pl)
      callWith pos f first (backTo pos (starEach (y :: ys) X.env)) (backToKw pos (keywordEach [] X.env))) := by rfl) :
    PE X (.Call (.Attribute o m apos) (y :: ys) [] pos) (rE X.en W (methC c m φ co cs)) := by
  obtain ⟨C, a, fd, h1, h2, h3, h4, h5⟩ := F.ex
  exact g_meth (pl := pl) c h1 h2 h3 h4 tk (hr.mono hjk) h5 he ha hst hpl ht
theorem g_mcal0 {pl : Sem Bool} (F : MCal X.prog X.w X.K X.mg X.base j c m ps φ) (tk : Takes X W) (hr : Room k X.A) (he : PE X o (rE X.en W co)) (hjk : j ≤ k := by decide)
    (ht : eval (.Call (.Attribute o m apos) [] [] pos) X.env = (do
      let ov ← eval o X.env
      standAt apos.atName
      let (f, first) ← holding [ov] (getMethod ov m pl)
      callWith pos f first (backTo pos (starEach [] X.env)) (backToKw pos (keywordEach [] X.env))) := by rfl) :
    PE X (.Call (.Attribute o m apos) [] [] pos) (rE X.en W (methC c m φ co nilA)) := by
  obtain ⟨C, a, fd, h1, h2, h3, h4, h5⟩ := F.ex
  exact g_meth0 (pl := pl) c h1 h2 h3 h4 tk (hr.mono hjk) h5 he ht
theorem g_kcal (F : KCal X.prog X.w X.K X.mg X.base j c ps φ) (tk : Takes X W) (hr : Room k X.A) (ha : PA X (y :: ys) (rA X.en W cs)) (hjk : j + 1 ≤ k := by decide) (hg : Gl X c := by rfl)
    (hdb : (c == ("__debug__" : Str)) = false := by decide) (he : starEach (y :: ys) X.env = (false, eval y X.env) :: starEach ys X.env := by rfl) (hpl : (backTo pos (starEach ys X.env)).any (·.1) = false := by rfl) :
    PE X (.Call (.Name c p) (y :: ys) [] pos) (rE X.en W (makeC c φ cs)) := by
  obtain ⟨C, a, fd, h1, h2, h3, h4⟩ := F.ex
  exact g_make h2 h3 tk (hr.mono hjk) h1 h4 ha hg hdb he hpl
theorem g_kcal0 (F : KCal X.prog X.w X.K X.mg X.base j c ps φ) (tk : Takes X W) (hr : Room k X.A) (hjk : j + 1 ≤ k := by decide) (hg : Gl X c := by rfl)
    (hdb : (c == ("__debug__" : Str)) = false := by decide) : PE X (.Call (.Name c p) [] [] pos) (rE X.en W (makeC c φ nilA)) := by
  obtain ⟨C, a, fd, h1, h2, h3, h4⟩ := F.ex
  exact g_make0 h2 h3 tk (hr.mono hjk) h1 h4 hg hdb
theorem g_field (F : Fld X.K X.mg c f) (he : PE X o (rE X.en W co)) (hb : attributeBase o f X.env (eval o X.env) = eval o X.env := by rfl) : PE X (.Attribute o f pos) (rE X.en W (fldC c f co)) := by
  obtain ⟨C, h1, h2, h3⟩ := F.ex
  exact g_fld c h1 h2 h3 he hb
theorem g_setf (F : Fld X.K X.mg c f) (he : PE X o (rE X.en W co)) (hv : PE X y (rE X.en W cv)) (hs : swapsWith y (some (.Attribute o f pos')) pos.line X.env = pure false := by rfl) : PS X (.Assign [.Attribute o f pos'] y pos) (rS X.en W (sfldC c f co cv)) := by
  obtain ⟨C, h1, h2, h3⟩ := F.ex
  exact g_sfld c h1 h2 h3 he hv hs
theorem g_augf (F : Fld X.K X.mg c f) (he : PE X o (rE X.en W co)) (hv : PE X y (rE X.en W cv)) : PS X (.AugAssign (.Attribute o f pos') .Add y pos) (rS X.en W (afldC c f co cv)) := by
  obtain ⟨C, h1, h2, h3⟩ := F.ex
  exact g_afld c h1 h2 h3 he hv
end
/-- as many arguments as parameters -/
def argF (m : Nat) (f : Fn) : Fn := fun ds h => if ds.length = m then f ds h else .stuck
theorem argF_len {m : Nat} {f : Fn} {ds : List D} {h : AH} (q : argF m f ds h ≠ .stuck) : ds.length = m := by
  unfold argF at q
  split at q
  · assumption
  · exact absurd rfl q
theorem keeps_arg {n m : Nat} {body : CS} {f : Fn} (k : Keeps n body f) : Keeps n body (argF m f) := by
  intro e E B μ H ds vs h Q rs a o
  unfold argF at o
  split at o
  · exact k e E B μ H ds vs h Q rs a o
  · exact o.elim
/-- a def by its body: all of N's slots, the contract trimmed or as it is -/
theorem def_ok {P : Program} {w : World} {K : PySem.W.Frag} {mg : Str → Option Value} {base : Heap} {x qual : Str} {st : Stmt} {f : Addr} {fd : FuncData} {N ps : List Str} {k : Nat} {b : CS} {φ : Fn} (F : Fun K x qual st f fd) (S : FnScope N ps (defScope st)) (hk : Keeps N.length b φ) (hl : ∀ ds h, φ ds h ≠ .stuck → ds.length = ps.length)
    (body : ∀ (cdv : Value) (A : Around) (outer : List Env) (s : Shared) (H : Hp) (E : XK), Room k (A.deeper (envOfC qual (defScope st) s.heap.objs.size f cdv)) → Takes (cxOf (L2.CX P w) P w K mg base N qual (defScope st) f cdv A outer s H E) (fun c d _ H => E c d H) →
      PSs (cxOf (L2.CX P w) P w K mg base N qual (defScope st) f cdv A outer s H E) (defBody st) (rS ⟨K, mg, w⟩ (fun c d _ H => E c d H) b)) : FnOk P w K mg base (L2.CX P w) (k + 1) f fd ps (spOf ⟨K, mg, w⟩ φ) := by
  refine F.okX S (fun vs H Q E h => spOf_len (W := fun _ _ _ _ => False) hl h) (fun cdv A outer s H vs Q E hr h => ?_)
  exact ⟨_, body cdv A outer s H E hr (takes_of rfl rfl rfl rfl), r_body rfl hk h⟩
theorem def_stuck {P : Program} {w : World} {K : PySem.W.Frag} {mg : Str → Option Value} {base : Heap} {x qual : Str} {st : Stmt} {f : Addr} {fd : FuncData} {N ps : List Str} {k : Nat} (F : Fun K x qual st f fd) (S : FnScope N ps (defScope st)) : FnOk P w K mg base (L2.CX P w) (k + 1) f fd ps (spOf ⟨K, mg, w⟩ fun _ _ => .stuck) := by
  refine F.okX S (fun vs H Q E h => ?_) (fun cdv A outer s H vs Q E hr h => ?_)
  · obtain ⟨_, _, _, _, _, _, o⟩ := h
    exact o.elim
  · obtain ⟨_, _, _, _, _, _, o⟩ := h
    exact o.elim
end G

/-! E27: three names at once; the loop's source one way or another. -/
namespace G
open PySem PySem.Spec L2
open PyProof.Rows hiding St
section
variable {e : En} {B : Bk} {μ : Mu} {H : Hp} {h : AH} {E : XK} {W : WX} {X : Cx}
def par3C (i j l : Nat) (cs : CA) : CS := fun S h => (cs S h).sbind S fun ds h1 => match ds with
  | [a, b, c] => .nx (((S.set i (some a)).set j (some b)).set l (some c)) h1
  | _ => .stuck
theorem g_par3 (i j l : Nat) {y z t : Str} {a b c : Expr} {ca : CA} {px py pz pt pos : Pos} {kt k2 pt2} (hc : X.calm = true) (hN : X.N.Nodup) (ha : PA X [a, b, c] (rA X.en W ca)) (hi : X.N[i]? = some y := by rfl) (hj : X.N[j]? = some z := by rfl) (hl : X.N[l]? = some t := by rfl) (hij : i ≠ j := by decide) (hil : i ≠ l := by decide) (hjl : j ≠ l := by decide)
    (hx : X.env.scope.names.lookup y = some .local := by rfl) (hy : X.env.scope.names.lookup z = some .local := by rfl) (hz : X.env.scope.names.lookup t = some .local := by rfl)
    (hw : swappedStores [.Tuple [.Name y px, .Name z py, .Name t pz] kt pt] (.Tuple [a, b, c] k2 pt2) X.env = pure (some [y, z, t]) := by rfl)
    (hs : swapsWithSole [.Tuple [.Name y px, .Name z py, .Name t pz] kt pt] (.Tuple [a, b, c] k2 pt2) pos.line X.env = pure false := by rfl) :
    PS X (.Assign [.Tuple [.Name y px, .Name z py, .Name t pz] kt pt] (.Tuple [a, b, c] k2 pt2) pos) (rS X.en W (par3C i j l ca)) := by
  refine (ps_par3 hc hN hi hj hl hij hil hjl hx hy hz ha hw hs).imp fun D σ H q => ?_
  obtain ⟨B, μ, S, h, s, a, o⟩ := q
  refine ⟨B, μ, S, h, s, a, OutS.bindA s o fun d1 h1 v1 μ1 H1 x1 a1 r1 o1 => ?_⟩
  cases r1 with
  | nil => exact o1.elim
  | cons ra rr => cases rr with
    | nil => exact o1.elim
    | cons rb rr => cases rr with
      | nil => exact o1.elim
      | cons rc rr => cases rr with
        | nil => exact ⟨_, _, _, rfl, o1 _ μ1 H1 .refl a1 ((((s.mono x1).set i ra).set j rb).set l rc)⟩
        | cons _ _ => exact o1.elim
def altI (a b : CI) : CI := fun S h => match a S h with
  | .stuck => b S h
  | r => r
theorem gi_alt {tg x : Expr} {c d : CI} (h1 : PI X tg x (rIt X.en W c)) (h2 : PI X tg x (rIt X.en W d)) : PI X tg x (rIt X.en W (altI c d)) := by
  refine ⟨fun pins s σ H R I ⟨B, μ, S, h, st, a, o⟩ => ?_⟩
  unfold altI at o
  split at o
  · exact h2.run pins s σ H R I ⟨B, μ, S, h, st, a, o⟩
  · exact h1.run pins s σ H R I ⟨B, μ, S, h, st, a, o⟩
theorem fdivN_ok : ∀ i j : Int, (j ≠ 0 ∧ j.natAbs < 1073741824) → CDivN i j := fun _ _ h => h
theorem mod_ok : ∀ i j : Int, 0 < j → (fun _ j : Int => 0 < j) i j := fun _ _ h => h
theorem pow_ok : ∀ i j : Int, (0 ≤ j ∧ j ≤ 1000000 ∧ i.natAbs < 2 ^ 64) → CPow i j := fun _ _ h => h
theorem sim_pow : Sim2 e powD (rI CPow fun i j => .int (i ^ j.toNat)) := sim_intC pow_ok
end
end G

/-! E28: short forms that the generator's text uses. -/
namespace G
open PySem PySem.Spec L2
open PyProof.Rows hiding St
theorem hu_w {k m : Nat} {A : Around} (hr : Room k A) (hm : m ≤ 200 := by decide) : A.units + m < cLine := by have := hr.un; omega
/-- an own exception class that is raised with a text -/
structure ExcT (K : PySem.W.Frag) (mg : Str → Option Value) (c : Str) : Prop where
  ex : ∃ (C : Addr) (bmB : List Value) (BB newId initId : String), ExcBaseFacts BB newId initId bmB ∧ PySem.W.excIn K C bmB newId = true ∧ mg c = some (.ref C) ∧ PySem.W.keepIn K (.ref C) = true ∧ PySem.W.subIn K (.ref C) (.type "BaseException") = some true ∧ PySem.W.typeIn K (.ref C) = some (.type "type")
/-- an own exception class that is caught -/
structure CatchT (K : PySem.W.Frag) (mg : Str → Option Value) (c : Str) : Prop where
  ex : ∃ C : Addr, mg c = some (.ref C) ∧ PySem.W.exmOne K (.ref C) (.ref C) = some true
section
variable {e : En} {B : Bk} {μ : Mu} {H : Hp} {h : AH} {E : XK} {W : WX} {X : Cx}
theorem g_raiseT {c m : Str} {j : Nat} {p p2 pos pos' : Pos} (T : ExcT X.K X.mg c) (hc : X.calm = true) (tk : Takes X W) (hg : Gl X c := by rfl) (hdb : (c == ("__debug__" : Str)) = false := by decide) :
    PS X (.Raise (some (.Call (.Name c p) [.Constant (.str m) j p2] [] pos)) none pos') (rS X.en W (raiseC c)) := by
  obtain ⟨C, bmB, BB, n1, n2, h1, h2, h3, h4, h5, h6⟩ := T.ex
  exact g_raise hc tk h1 h2 h3 h4 (raises_own h5 h6) hg hdb
def catch1 (c : Str) : Str → Option Bool := fun x => if x = c then some true else none
theorem g_tryT {c : Str} {body suite : List Stmt} {b₀ : Stmt} {np pos pos' : Pos} {cb cu : CS} (T : CatchT X.K X.mg c) (hs : X.stack = X.env :: X.outer) (hf : X.env.frame = some X.env.locals) (tk : Takes X W)
    (hb : ∀ (W' : WX) (pn : List (Addr × Obj)) (xe : Value → Shared → Prop), Takes (X.tr pn xe) W' → PSs (X.tr pn xe) body (rS X.en W' cb))
    (hsu : ∀ (a : Addr) (oe : Obj) (pn : List (Addr × Obj)), PSs (X.suite a ((a, oe) :: pn)) (b₀ :: suite) (rS X.en (fun _ _ _ _ => False) cu)) (hg : Gl X c := by rfl) (hdb : (c == ("__debug__" : Str)) = false := by decide) :
    PS X (.Try body [.ExceptHandler (some (.Name c np)) none (b₀ :: suite) pos'] [] [] pos) (rS X.en W (tryC (catch1 c) cb cu)) := by
  obtain ⟨C, h1, h2⟩ := T.ex
  refine g_tryOnly (C := .ref C) (catch1 c) hs hf ⟨hg, hdb, .inl h1⟩ tk (fun c' b C' hc hC' => ?_) hb hsu
  unfold catch1 at hc
  split at hc
  · rename_i hcc
    subst hcc
    cases hc
    rw [h1] at hC'
    cases hC'
    exact h2
  · cases hc
theorem pg_nameS (i : Nat) {x : Str} {pos : Pos} (hN : X.N.Nodup) (hi : X.N[i]? = some x := by rfl) (hx : Loc X.env.scope x := by first | exact Or.inl rfl | exact Or.inr rfl) (hf : X.fn x = true ∨ X.env.scope.names.lookup x = some .local := by first | exact .inl rfl | exact .inr rfl | assumption) : PG X (.Name x pos) (gName i) := pg_name hN hi hx hf
end
theorem okKeys_of {xs : List (Str × CE)} (h : (xs.map fun p => p.1).all (fun x => decide (x.length ≤ sizeLine) && PyData.strOk x) = true) : ∀ p ∈ xs, okS p.1 := fun p hp => by
  have := List.all_eq_true.mp h p.1 (List.mem_map.mpr ⟨p, hp, rfl⟩)
  rw [Bool.and_eq_true] at this
  exact ⟨of_decide_eq_true this.1, this.2⟩
theorem mt_remI {X : Cx} : MtR X "list.remove" rRemI := L2.mt_remove
end G

/-! E29: facts of the text for Txt. -/
namespace G
open PySem PySem.Spec L2
open PyProof.Rows hiding St
theorem exm_self {K : PySem.W.Frag} {S : Addr} (h1 : PySem.W.subIn K (.ref S) (.type "BaseException") = some true) (h2 : PySem.W.isClsIn K S = true) (h3 : PySem.W.typeIn K (.ref S) = some (.type "type")) (h4 : PySem.W.subIn K (.ref S) (.ref S) = some true) :
    PySem.W.exmOne K (.ref S) (.ref S) = some true := by
  have e1 : (PySem.W.subIn K (.ref S) (.type "BaseException") == some true) = true := by rw [h1] <;> rfl
  have e2 : ((PySem.W.clsIn K S).isSome && PySem.W.typeIn K (.ref S) == some (.type "type")) = true := by
    have h2' : (PySem.W.clsIn K S).isSome = true := h2
    rw [h2', h3] <;> rfl
  show (if (PySem.W.subIn K (.ref S) (.type "BaseException") == some true) = true then (if ((PySem.W.clsIn K S).isSome && PySem.W.typeIn K (.ref S) == some (.type "type")) = true then PySem.W.subIn K (.ref S) (.ref S) else none) else none) = some true
  rw [if_pos e1, if_pos e2]
  exact h4
def strOfV : Value → Option Str
  | .str x _ => some x
  | _ => none
theorem vals_strs : ∀ {us : List Value} {xs : List Str}, us.map strOfV = xs.map some → Vals (xs.map V.str) us
  | [], [], _ => .nil
  | [], _ :: _, h => by cases h
  | _ :: _, [], h => by cases h
  | u :: us, x :: xs, h => by
    rw [List.map_cons, List.map_cons, List.cons.injEq] at h
    obtain ⟨h1, h2⟩ := h
    refine .cons ?_ (vals_strs h2)
    cases u with
    | str y t =>
      simp [strOfV] at h1
      subst h1
      exact ⟨t, rfl⟩
    | _ => simp [strOfV] at h1
theorem ktup_strs {K : PySem.W.Frag} {t : Addr} {its : Array Value} {n : Nat} {xs : List Str} (h : K.lookup t = some { cls := .type "tuple", data := .seq its n }) (hv : its.toList.map strOfV = xs.map some) (hz : its.size ≤ sizeLine) : KTup K t (xs.map V.str) :=
  ⟨_, its, n, h, rfl, rfl, rfl, hz, vals_strs hv⟩
end G

/-! E30: the law's head: the contract of law told of the script alone. -/
namespace G
open PySem PySem.Spec L2
open PyProof.Rows hiding St
def spScr (K : PySem.W.Frag) : Sp := fun vs H Q _ => ∃ (a : Addr) (ns : List Int), vs = [.ref a] ∧ SqL K H a (ns.map V.int) ∧ ns.length ≤ 63 ∧ Only H ∧ ∀ H', Q (.bl true) H'
theorem scr_sp {e : En} {φ : Fn} (hφ : ∀ ns : List Int, ns.length ≤ 63 → ∃ h', φ [.scr ns] [] = .ok (.bl true) h') {vs : List V} {H : Hp} {Q : VK} {E : XK} (h : spScr e.K vs H Q E) : spOf e φ vs H Q E := by
  obtain ⟨a, ns, rfl, hs, hl, ho, q⟩ := h
  obtain ⟨h', hh⟩ := hφ ns hl
  refine ⟨fun _ => False, ⟨fun _ => none, fun _ => False⟩, [.scr ns], [], .cons ?_ .nil, ?_, ?_⟩
  · rcases hs with (hs | ⟨o, hs⟩) | hs
    · rcases ho a with z | ⟨o, xs, z⟩
      · rw [z] at hs; cases hs
      · rw [z] at hs; cases hs
    · exact .scrF hs ⟨fun b => b, fun i z => by cases z⟩
    · exact .scrK hs
  · exact { dom := fun i => ⟨fun z => absurd z (Nat.not_lt_zero i), fun ⟨_, z⟩ => (by cases z)⟩, fzd := fun i (z : False) => z.elim, inj := fun i j a z => (by cases z), nb := fun i a z => (by cases z), obj := fun i o a z => (by rw [List.getElem?_nil] at z; cases z), tr := fun i a z => (by cases z), bt := fun a (z : False) => z.elim }
  · rw [hh]
    intro v μ' H' x a' r
    cases r
    exact q H'
theorem walk {l : PySem.W.OpenLaw} {q : Program} {loose : List Str} {XP : (Str → Option Value) → Heap → Prop} {YP : World → Heap → Prop} {d : DefRec} {K : Params → PySem.W.Frag} {k : Nat} {φ : Fn} (hφ : ∀ ns : List Int, ns.length ≤ 63 → ∃ h', φ [.scr ns] [] = .ok (.bl true) h')
    (hn : l.most = some 63) (hdf : d.params.defaults = []) (hr : Room k callerA) (hY : ∀ (w : World) (h : Heap), YP w h → (K w.params).In h)
    (F : ∀ (w : World) (mg : Str → Option Value) (fa : Addr) (h : Heap), (K w.params).In h → h.Ns mainGlobals mg → mg d.name = some (.ref fa) →
      ∃ fd : FuncData, (∀ (s : Shared) (u : Value), BindsTo s fd ⟨[u], []⟩ [("script", u)]) ∧ ∀ base : Heap, (K w.params).In base → base.Ns mainGlobals mg → FnOk l.prog w (K w.params) mg base (L2.CX l.prog w) k fa fd ["script"] (spOf ⟨K w.params, mg, w⟩ φ)) :
    PySem.W.WalkO q loose XP YP l.row.toRowW d [] (fun f vs => PySem.call f vs) :=
  L2.walk_of (n := 63) (k := k) (x := "script") (CX := fun w => L2.CX l.prog w) (sp := fun w => spScr (K w.params)) hn (by decide) hdf hr hY
    (fun w mg fa h X G hm => let ⟨fd, h1, h2⟩ := F w mg fa h X G hm; ⟨fd, h1, fun base b1 b2 => (h2 base b1 b2).imp fun vs H Q E z => scr_sp (e := ⟨K w.params, mg, w⟩) hφ z⟩)
    (fun w H a ns hl ho hS => ⟨a, ns, rfl, hS, hl, ho, fun _ => rfl⟩)
    (fun w H s e s' h => by obtain ⟨_, _, _, _, _, _, _, _, _, _, _, _, z⟩ := h; exact z.elim)
end G

/-! E31: a list of anything against an empty one. -/
namespace G
open PySem PySem.Spec L2
open PyProof.Rows hiding St
open PySem.SeqAt (eq_listAt eq_list_lengthsAt RcNeAt)
section
variable {e : En} {B : Bk} {μ μ' : Mu} {H H' : Hp} {h : AH} {E : XK} {W : WX} {X : Cx}
def emptyL (d1 d2 : D) (h : AH) : Option Bool := match seqOf d1 h, seqOf d2 h with
  | some (xs, _), some ([], _) => if isT d1 h = false ∧ isT d2 h = false then some xs.isEmpty else none
  | _, _ => none
def eqY (neg : Bool) (d1 d2 : D) (h : AH) : Res D := match emptyL d1 d2 h with
  | some b => .ok (.bl (nb neg b)) h
  | none => eqX neg d1 d2 h
def rEqL (e : En) (neg : Bool) : R2 := fun x y H Q => ∃ a b xs, x = .ref a ∧ y = .ref b ∧ SqL e.K H a xs ∧ SqL e.K H b [] ∧ Q (.bl (nb neg xs.isEmpty)) H
theorem op_eqL (hu : X.A.units < cLine) : OpR X (compareOp .Eq) (rEqL X.en false) := by
  intro pins s σ H x y v u Q I rx ry h
  obtain ⟨a, b, xs, rfl, rfl, h1, h2, q⟩ := h
  obtain rfl : v = Value.ref a := rx
  obtain rfl : u = Value.ref b := ry
  obtain ⟨its, v1, p1, _⟩ := SK.inv .L I h1
  obtain ⟨its2, v2, p2, _⟩ := SK.inv .L I h2
  have e2 : its2 = [] := by cases v2; rfl
  subst e2
  by_cases z : its = []
  · subst z
    have e1 : xs = [] := by cases v1; rfl
    subst e1
    exact eq_listAt (e := fun _ => true) p1 p2 rfl hu (fun j h1 _ => absurd h1 (by simp)) (fin_bl I q (by simp [nb]))
  · have e1 : xs.isEmpty = false := by cases v1 with
      | nil => exact absurd rfl z
      | cons _ _ => rfl
    exact eq_list_lengthsAt p1 p2 (by simpa using z) hu (fin_bl I q (by simp [nb, e1]))
theorem op_neL (hu : X.A.units < cLine) : OpR X (compareOp .NotEq) (rEqL X.en true) := by
  intro pins s σ H x y v u Q I rx ry h
  obtain ⟨a, b, xs, rfl, rfl, h1, h2, q⟩ := h
  obtain rfl : v = Value.ref a := rx
  obtain rfl : u = Value.ref b := ry
  obtain ⟨its, v1, p1, _⟩ := SK.inv .L I h1
  obtain ⟨its2, v2, p2, _⟩ := SK.inv .L I h2
  have e2 : its2 = [] := by cases v2; rfl
  subst e2
  by_cases z : its = []
  · subst z
    have e1 : xs = [] := by cases v1; rfl
    subst e1
    exact PySem.SeqAt.RcNeAt.lists (e := fun _ => true) p1 p2 rfl hu (fun j h1 _ => absurd h1 (by simp)) X.prog X.w _ _ (fin_bl I q (by simp [nb]))
  · have e1 : xs.isEmpty = false := by cases v1 with
      | nil => exact absurd rfl z
      | cons _ _ => rfl
    exact PySem.SeqAt.RcNeAt.lists_lengths p1 p2 (by simpa using z) hu X.prog X.w _ _ (fin_bl I q (by simp [nb, e1]))
theorem sim_eqL {neg : Bool} {r : R2} (hs : Sim2 e (eqX neg) r) : Sim2 e (eqY neg) (fun x y H Q => r x y H Q ∨ rEqL e neg x y H Q) := fun E B μ H h d1 d2 v1 v2 Q a r1 r2 o => by
  unfold eqY at o
  split at o
  · rename_i b q
    unfold emptyL at q
    split at q
    · rename_i xs g1 g2 s1 s2
      split at q
      · rename_i hT
        cases q
        rcases seq_kind a r1 s1 with ⟨t1, _⟩ | ⟨_, p, ys, rfl, hp, rs, _⟩
        · rw [hT.1] at t1; cases t1
        rcases seq_kind a r2 s2 with ⟨t2, _⟩ | ⟨_, p', ys', rfl, hp', rs', _⟩
        · rw [hT.2] at t2; cases t2
        cases rs'
        refine .inr ⟨p, p', ys, rfl, rfl, .of hp, .of hp', ?_⟩
        have : ys.isEmpty = xs.isEmpty := by cases rs <;> rfl
        rw [this]
        exact o _ μ H .refl a (.bl _)
      · cases q
    · cases q
  · exact .inl (hs E B μ H h d1 d2 v1 v2 Q a r1 r2 o)
theorem op_eqY (hu : X.A.units + 64 < cLine) : OpR X (compareOp .Eq) (fun x y H Q => (rEqD X.K x y H Q ∨ rEqE X.en false x y H Q) ∨ rEqL X.en false x y H Q) := (op_eqX hu).or (op_eqL (by omega))
theorem op_neY (hu : X.A.units + 64 < cLine) : OpR X (compareOp .NotEq) (fun x y H Q => (rNeD X.K x y H Q ∨ rEqE X.en true x y H Q) ∨ rEqL X.en true x y H Q) := (op_neX hu).or (op_neL (by omega))
theorem sim_eqY : Sim2 e (eqY false) (fun x y H Q => (rEqD e.K x y H Q ∨ rEqE e false x y H Q) ∨ rEqL e false x y H Q) := sim_eqL (neg := false) sim_eqX
theorem sim_neY : Sim2 e (eqY true) (fun x y H Q => (rNeD e.K x y H Q ∨ rEqE e true x y H Q) ∨ rEqL e true x y H Q) := sim_eqL (neg := true) sim_neX
end
end G

/-! printed by gen.py -/
namespace K87
open PySem PySem.Spec L2 G
open PyProof.Rows hiding St
def top (i : Nat) : Stmt := PySem.Challenge.pw_pivotfold_k87_whole_numbers_go_on_and_ba.main.body.getD i (.Pass ⟨0, 0, 0, 0⟩)
abbrev s__law_cell_at : Stmt := top 39
abbrev s__law_box : Stmt := top 40
abbrev s_look_parted : Stmt := top 21
abbrev s_look_order : Stmt := top 22
abbrev s_look_ways : Stmt := top 32
abbrev s_places_of : Stmt := top 14
abbrev s_at_places : Stmt := top 15
abbrev s_parts_of : Stmt := top 16
abbrev s_wide_of : Stmt := top 25
abbrev s_is_number : Stmt := top 9
abbrev s_sum_of : Stmt := top 28
abbrev s_put_together : Stmt := top 30
abbrev s_cell_of : Stmt := top 34
abbrev s_unlike_ones : Stmt := top 23
abbrev s_heads_by : Stmt := top 24
abbrev s_numbers_by : Stmt := top 17
abbrev s_rows_at : Stmt := top 33
abbrev s_folded_by : Stmt := top 35
abbrev s_Keeper_init : Stmt := inClass (top 37) 0
abbrev s__law_take : Stmt := top 41
abbrev s__law_same : Stmt := top 42
abbrev s_Keeper_wide_now : Stmt := inClass (top 37) 9
abbrev s_Keeper_rows_now : Stmt := inClass (top 37) 10
abbrev s_Keeper_rows_of : Stmt := inClass (top 37) 11
abbrev s__law_cell_of : Stmt := top 43
abbrev s__law_stands : Stmt := top 45
abbrev s_Keeper_place_of : Stmt := inClass (top 37) 1
abbrev s_Keeper_cell_of : Stmt := inClass (top 37) 2
abbrev s_Keeper_found_anew : Stmt := inClass (top 37) 3
abbrev s_Keeper_put_at : Stmt := inClass (top 37) 4
abbrev s_Keeper_put_row : Stmt := inClass (top 37) 6
abbrev s__law_changes : Stmt := top 44
abbrev s_Keeper_taken : Stmt := inClass (top 37) 5
abbrev s_Keeper_undo : Stmt := inClass (top 37) 8
abbrev s__law_back : Stmt := top 47
abbrev s_Keeper_take_row : Stmt := inClass (top 37) 7
abbrev s__law_deed : Stmt := top 46
abbrev s__law_is_gone : Stmt := top 48
abbrev s_law : Stmt := top 49
structure Txt (K : PySem.W.Frag) (mg : Str → Option Value) : Prop where
  d__law_cell_at : ∃ (f : Addr) (fd : FuncData), mg "_law_cell_at" = some (.ref f) ∧ Fun K "_law_cell_at" "_law_cell_at" s__law_cell_at f fd
  d__law_box : ∃ (f : Addr) (fd : FuncData), mg "_law_box" = some (.ref f) ∧ Fun K "_law_box" "_law_box" s__law_box f fd
  d_look_parted : ∃ (f : Addr) (fd : FuncData), mg "look_parted" = some (.ref f) ∧ Fun K "look_parted" "look_parted" s_look_parted f fd
  d_look_order : ∃ (f : Addr) (fd : FuncData), mg "look_order" = some (.ref f) ∧ Fun K "look_order" "look_order" s_look_order f fd
  d_look_ways : ∃ (f : Addr) (fd : FuncData), mg "look_ways" = some (.ref f) ∧ Fun K "look_ways" "look_ways" s_look_ways f fd
  d_places_of : ∃ (f : Addr) (fd : FuncData), mg "places_of" = some (.ref f) ∧ Fun K "places_of" "places_of" s_places_of f fd
  d_at_places : ∃ (f : Addr) (fd : FuncData), mg "at_places" = some (.ref f) ∧ Fun K "at_places" "at_places" s_at_places f fd
  d_parts_of : ∃ (f : Addr) (fd : FuncData), mg "parts_of" = some (.ref f) ∧ Fun K "parts_of" "parts_of" s_parts_of f fd
  d_wide_of : ∃ (f : Addr) (fd : FuncData), mg "wide_of" = some (.ref f) ∧ Fun K "wide_of" "wide_of" s_wide_of f fd
  d_is_number : ∃ (f : Addr) (fd : FuncData), mg "is_number" = some (.ref f) ∧ Fun K "is_number" "is_number" s_is_number f fd
  d_sum_of : ∃ (f : Addr) (fd : FuncData), mg "sum_of" = some (.ref f) ∧ Fun K "sum_of" "sum_of" s_sum_of f fd
  d_put_together : ∃ (f : Addr) (fd : FuncData), mg "put_together" = some (.ref f) ∧ Fun K "put_together" "put_together" s_put_together f fd
  d_cell_of : ∃ (f : Addr) (fd : FuncData), mg "cell_of" = some (.ref f) ∧ Fun K "cell_of" "cell_of" s_cell_of f fd
  d_unlike_ones : ∃ (f : Addr) (fd : FuncData), mg "unlike_ones" = some (.ref f) ∧ Fun K "unlike_ones" "unlike_ones" s_unlike_ones f fd
  d_heads_by : ∃ (f : Addr) (fd : FuncData), mg "heads_by" = some (.ref f) ∧ Fun K "heads_by" "heads_by" s_heads_by f fd
  d_numbers_by : ∃ (f : Addr) (fd : FuncData), mg "numbers_by" = some (.ref f) ∧ Fun K "numbers_by" "numbers_by" s_numbers_by f fd
  d_rows_at : ∃ (f : Addr) (fd : FuncData), mg "rows_at" = some (.ref f) ∧ Fun K "rows_at" "rows_at" s_rows_at f fd
  d_folded_by : ∃ (f : Addr) (fd : FuncData), mg "folded_by" = some (.ref f) ∧ Fun K "folded_by" "folded_by" s_folded_by f fd
  d_Keeper_init : ∃ (C f : Addr) (fd : FuncData), mg "Keeper" = some (.ref C) ∧ Mk K C f ∧ Fun K "__init__" "Keeper.__init__" s_Keeper_init f fd
  d__law_take : ∃ (f : Addr) (fd : FuncData), mg "_law_take" = some (.ref f) ∧ Fun K "_law_take" "_law_take" s__law_take f fd
  d__law_same : ∃ (f : Addr) (fd : FuncData), mg "_law_same" = some (.ref f) ∧ Fun K "_law_same" "_law_same" s__law_same f fd
  d_Keeper_wide_now : ∃ (C f : Addr) (fd : FuncData), mg "Keeper" = some (.ref C) ∧ Cls K C ∧ Meth K C "wide_now" f ∧ Fun K "wide_now" "Keeper.wide_now" s_Keeper_wide_now f fd
  d_Keeper_rows_now : ∃ (C f : Addr) (fd : FuncData), mg "Keeper" = some (.ref C) ∧ Cls K C ∧ Meth K C "rows_now" f ∧ Fun K "rows_now" "Keeper.rows_now" s_Keeper_rows_now f fd
  d_Keeper_rows_of : ∃ (C f : Addr) (fd : FuncData), mg "Keeper" = some (.ref C) ∧ Cls K C ∧ Meth K C "rows_of" f ∧ Fun K "rows_of" "Keeper.rows_of" s_Keeper_rows_of f fd
  d__law_cell_of : ∃ (f : Addr) (fd : FuncData), mg "_law_cell_of" = some (.ref f) ∧ Fun K "_law_cell_of" "_law_cell_of" s__law_cell_of f fd
  d__law_stands : ∃ (f : Addr) (fd : FuncData), mg "_law_stands" = some (.ref f) ∧ Fun K "_law_stands" "_law_stands" s__law_stands f fd
  d_Keeper_place_of : ∃ (C f : Addr) (fd : FuncData), mg "Keeper" = some (.ref C) ∧ Cls K C ∧ Meth K C "place_of" f ∧ Fun K "place_of" "Keeper.place_of" s_Keeper_place_of f fd
  d_Keeper_cell_of : ∃ (C f : Addr) (fd : FuncData), mg "Keeper" = some (.ref C) ∧ Cls K C ∧ Meth K C "cell_of" f ∧ Fun K "cell_of" "Keeper.cell_of" s_Keeper_cell_of f fd
  d_Keeper_found_anew : ∃ (C f : Addr) (fd : FuncData), mg "Keeper" = some (.ref C) ∧ Cls K C ∧ Meth K C "found_anew" f ∧ Fun K "found_anew" "Keeper.found_anew" s_Keeper_found_anew f fd
  d_Keeper_put_at : ∃ (C f : Addr) (fd : FuncData), mg "Keeper" = some (.ref C) ∧ Cls K C ∧ Meth K C "put_at" f ∧ Fun K "put_at" "Keeper.put_at" s_Keeper_put_at f fd
  d_Keeper_put_row : ∃ (C f : Addr) (fd : FuncData), mg "Keeper" = some (.ref C) ∧ Cls K C ∧ Meth K C "put_row" f ∧ Fun K "put_row" "Keeper.put_row" s_Keeper_put_row f fd
  d__law_changes : ∃ (f : Addr) (fd : FuncData), mg "_law_changes" = some (.ref f) ∧ Fun K "_law_changes" "_law_changes" s__law_changes f fd
  d_Keeper_taken : ∃ (C f : Addr) (fd : FuncData), mg "Keeper" = some (.ref C) ∧ Cls K C ∧ Meth K C "taken" f ∧ Fun K "taken" "Keeper.taken" s_Keeper_taken f fd
  d_Keeper_undo : ∃ (C f : Addr) (fd : FuncData), mg "Keeper" = some (.ref C) ∧ Cls K C ∧ Meth K C "undo" f ∧ Fun K "undo" "Keeper.undo" s_Keeper_undo f fd
  d__law_back : ∃ (f : Addr) (fd : FuncData), mg "_law_back" = some (.ref f) ∧ Fun K "_law_back" "_law_back" s__law_back f fd
  d_Keeper_take_row : ∃ (C f : Addr) (fd : FuncData), mg "Keeper" = some (.ref C) ∧ Cls K C ∧ Meth K C "take_row" f ∧ Fun K "take_row" "Keeper.take_row" s_Keeper_take_row f fd
  d__law_deed : ∃ (f : Addr) (fd : FuncData), mg "_law_deed" = some (.ref f) ∧ Fun K "_law_deed" "_law_deed" s__law_deed f fd
  d__law_is_gone : ∃ (f : Addr) (fd : FuncData), mg "_law_is_gone" = some (.ref f) ∧ Fun K "_law_is_gone" "_law_is_gone" s__law_is_gone f fd
  d_law : ∃ (f : Addr) (fd : FuncData), mg "law" = some (.ref f) ∧ Fun K "law" "law" s_law f fd
  m_abs : mg "abs" = none
  m_all : mg "all" = none
  m_any : mg "any" = none
  m_bool : mg "bool" = none
  m_dict : mg "dict" = none
  m_enumerate : mg "enumerate" = none
  m_int : mg "int" = none
  m_isinstance : mg "isinstance" = none
  m_len : mg "len" = none
  m_list : mg "list" = none
  m_min : mg "min" = none
  m_range : mg "range" = none
  m_sorted : mg "sorted" = none
  m_str : mg "str" = none
  m_sum : mg "sum" = none
  m_tuple : mg "tuple" = none
  m_zip : mg "zip" = none
  a_Keeper_by_place : Fld K mg "Keeper" "by_place"
  a_Keeper_cells : Fld K mg "Keeper" "cells"
  a_Keeper_coming : Fld K mg "Keeper" "coming"
  a_Keeper_past : Fld K mg "Keeper" "past"
  a_Keeper_places : Fld K mg "Keeper" "places"
  a_Keeper_rows : Fld K mg "Keeper" "rows"
  a_Keeper_table : Fld K mg "Keeper" "table"
  a_Keeper_told : Fld K mg "Keeper" "told"
  x_NoRow : ExcT K mg "NoRow"
  k_NoRow : CatchT K mg "NoRow"
  v_RISING : ∃ tk, mg "RISING" = some (.str "rising" tk)
  v_SEEN : ∃ tk, mg "SEEN" = some (.str "seen" tk)
  v_WAYS : ∃ t, mg "WAYS" = some (.ref t) ∧ KTup K t [.str "first", .str "last", .str "sum", .str "count", .str "least", .str "greatest", .str "unlike"]
def v_RISING : D := .str "rising"
theorem g_const_RISING {X : Cx} {W : WX} {pos : Pos} (T : Txt X.K X.mg) (hg : Gl X "RISING" := by rfl) : PE X (.Name "RISING" pos) (rE X.en W (cstC v_RISING)) := let ⟨_, h⟩ := T.v_RISING; g_gstr h (hg := hg)
def v_SEEN : D := .str "seen"
theorem g_const_SEEN {X : Cx} {W : WX} {pos : Pos} (T : Txt X.K X.mg) (hg : Gl X "SEEN" := by rfl) : PE X (.Name "SEEN" pos) (rE X.en W (cstC v_SEEN)) := let ⟨_, h⟩ := T.v_SEEN; g_gstr h (hg := hg)
def v_WAYS : D := .tup [.str "first", .str "last", .str "sum", .str "count", .str "least", .str "greatest", .str "unlike"]
theorem g_const_WAYS {X : Cx} {W : WX} {pos : Pos} (T : Txt X.K X.mg) (hg : Gl X "WAYS" := by rfl) : PE X (.Name "WAYS" pos) (rE X.en W (cstC v_WAYS)) := let ⟨_, h, k⟩ := T.v_WAYS; g_gtup h k (fun B μ H => by repeat (first | exact .nil | refine .cons (.str _ ⟨by decide +kernel, by decide +kernel⟩) ?_)) (hg := hg)
theorem sc__law_cell_at : FnScope ["script", "k"] ["script", "k"] (defScope s__law_cell_at) := ⟨rfl, rfl, rfl, by decide +kernel, rfl, by decide +kernel, by decide +kernel⟩
noncomputable def b__law_cell_at : CS := (seqC (ifS (asB (op2 (cmpD (fun i j => decide (i < j)) fun x y => decide (x < y)) (varC 1) (apC lenDF (consA (varC 0) nilA))))
  (retC (op2 itemD (varC 0) (varC 1)))
  skipC)
  (retC (cstC (.int 0))))
noncomputable def φ__law_cell_at : Fn := argF 2 (trimF (runF 2 b__law_cell_at))
theorem ok__law_cell_at {P : Program} {w : World} {K : PySem.W.Frag} {mg : Str → Option Value} {base : Heap} {f : Addr} {fd : FuncData} (T : Txt K mg) (F : Fun K "_law_cell_at" "_law_cell_at" s__law_cell_at f fd) : FnOk P w K mg base (L2.CX P w) 2 f fd ["script", "k"] (spOf ⟨K, mg, w⟩ φ__law_cell_at) :=
  def_ok (k := 1) F sc__law_cell_at (keeps_arg keeps_trim) (fun _ _ => argF_len) fun cdv A outer s H E hr tk =>
    (gs_cons (g_ifS (gt_cmp op_ltX sim_cmp (g_var 1) (g_callB call_lenDX sim_lenDX rfl T.m_len (by rfl) (ga_cons (g_var 0) ga_nil)) (nomark _))
    (gs_one (g_ret (g_ix (ix_item (hu_w hr)) sim_item (g_var 0) (g_var 1) (fun _ _ => rfl))))
    gs_nil)
    (gs_one (g_ret g_int)))
theorem c__law_cell_at {P : Program} {w : World} {K : PySem.W.Frag} {mg : Str → Option Value} {base : Heap} (T : Txt K mg) : Cal P w K mg base 2 "_law_cell_at" ["script", "k"] φ__law_cell_at := by
  obtain ⟨f, fd, h1, F⟩ := T.d__law_cell_at
  exact ⟨f, fd, ok__law_cell_at T F, h1, F.kp, F.binds fun _ _ _ _ _ _ us hl => match us, hl with | [_, _], _ => rfl⟩
theorem sc__law_box : FnScope ["script", "k", "number"] ["script", "k"] (defScope s__law_box) := ⟨rfl, rfl, rfl, by decide +kernel, rfl, by decide +kernel, by decide +kernel⟩
noncomputable def b__law_box : CS := (seqC (asgC (callC φ__law_cell_at (consA (varC 0) (consA (varC 1) nilA))) (nameG 2))
  (retC (lstC true (consA (op2 (mulD false) (apC absF (consA (varC 2) nilA)) (apC intF (consA (op2 (cmpD (fun i j => decide (j ≤ i)) fun x y => !decide (x < y)) (apC absF (consA (varC 2) nilA)) (op2 powD (cstC (.int 10)) (cstC (.int 18)))) nilA))) (consA (op2 (addD false) (op2 (addD false) (op2 modD (varC 2) (cstC (.int 2305843009213693951))) (op2 (mulD false) (cstC (.int 39373)) (varC 1))) (cstC (.int 17))) (consA (cstC (.int 0)) nilA))))))
noncomputable def φ__law_box : Fn := argF 2 (runF 3 b__law_box)
theorem ok__law_box {P : Program} {w : World} {K : PySem.W.Frag} {mg : Str → Option Value} {base : Heap} {f : Addr} {fd : FuncData} (T : Txt K mg) (F : Fun K "_law_box" "_law_box" s__law_box f fd) : FnOk P w K mg base (L2.CX P w) 3 f fd ["script", "k"] (spOf ⟨K, mg, w⟩ φ__law_box) :=
  def_ok (k := 2) F sc__law_box (keeps_arg Keeps.self) (fun _ _ => argF_len) fun cdv A outer s H E hr tk =>
    (gs_cons (g_set 2 sc__law_box.nd (g_cal (c__law_cell_at T) tk hr (ga_cons (g_var 0) (ga_cons (g_var 1) ga_nil))))
    (gs_one (g_ret (g_lst true (ga_cons (g_op op_mulX sim_mul (g_callB call_abs sim_abs rfl T.m_abs (by rfl) (ga_cons (g_var 2) ga_nil)) (g_callTy call_intX sim_int rfl T.m_int (by rfl) (ga_cons (g_cmp op_geX sim_cmp (g_callB call_abs sim_abs rfl T.m_abs (by rfl) (ga_cons (g_var 2) ga_nil)) (g_op op_pow sim_pow g_int g_int) (nomark _)) ga_nil))) (ga_cons (g_op op_addX sim_add (g_op op_addX sim_add (g_op op_mod (sim_intC fun _ _ h => h) (g_var 2) g_int) (g_op op_mulX sim_mul g_int (g_var 1))) g_int) (ga_cons g_int ga_nil)))))))
theorem c__law_box {P : Program} {w : World} {K : PySem.W.Frag} {mg : Str → Option Value} {base : Heap} (T : Txt K mg) : Cal P w K mg base 3 "_law_box" ["script", "k"] φ__law_box := by
  obtain ⟨f, fd, h1, F⟩ := T.d__law_box
  exact ⟨f, fd, ok__law_box T F, h1, F.kp, F.binds fun _ _ _ _ _ _ us hl => match us, hl with | [_, _], _ => rfl⟩
theorem sc_look_parted : FnScope ["table", "key", "names", "values", "some", "name"] ["table", "key", "names", "values"] (defScope s_look_parted) := ⟨rfl, rfl, rfl, by decide +kernel, rfl, by decide +kernel, by decide +kernel⟩
noncomputable def b_look_parted : CS := (seqC (asgC (op2 (addD false) (op2 (addD false) (apC (listDF false) (consA (varC 1) nilA)) (apC (listDF false) (consA (varC 2) nilA))) (apC (listDF false) (consA (varC 3) nilA))) (nameG 4))
  (ifS (orT (asB (op2 (eqX false) (apC lenDF (consA (varC 3) nilA)) (cstC (.int 0)))) (orT (asB (op2 (eqX true) (apC lenDF (consA (varC 4) nilA)) (apC lenDF (consA (op2 itemD (varC 0) (cstC (.int 0))) nilA)))) (asT (apC anyF (consA (compC false (seqS (op2 itemD (varC 0) (cstC (.int 0)))) [5] (.n 5) yesT (op2 (containsD true) (varC 5) (varC 4))) nilA)))))
  deadS
  skipC))
noncomputable def φ_look_parted : Fn := argF 4 (trimF (runF 6 b_look_parted))
theorem ok_look_parted {P : Program} {w : World} {K : PySem.W.Frag} {mg : Str → Option Value} {base : Heap} {f : Addr} {fd : FuncData} (T : Txt K mg) (F : Fun K "look_parted" "look_parted" s_look_parted f fd) : FnOk P w K mg base (L2.CX P w) 2 f fd ["table", "key", "names", "values"] (spOf ⟨K, mg, w⟩ φ_look_parted) :=
  def_ok (k := 1) F sc_look_parted (keeps_arg keeps_trim) (fun _ _ => argF_len) fun cdv A outer s H E hr tk =>
    (gs_cons (g_set 4 sc_look_parted.nd (g_op op_addX sim_add (g_op op_addX sim_add (g_callTy (call_listX rfl) sim_listX rfl T.m_list (by rfl) (ga_cons (g_var 1) ga_nil)) (g_callTy (call_listX rfl) sim_listX rfl T.m_list (by rfl) (ga_cons (g_var 2) ga_nil))) (g_callTy (call_listX rfl) sim_listX rfl T.m_list (by rfl) (ga_cons (g_var 3) ga_nil))))
    (gs_one (g_ifS (PW.pt (gw_or (gt_cmp (op_eqX (hu_w hr)) sim_eqX (g_callB call_lenDX sim_lenDX rfl T.m_len (by rfl) (ga_cons (g_var 3) ga_nil)) g_int (nomark _)) (gw_or (gt_cmp (op_neX (hu_w hr)) sim_neX (g_callB call_lenDX sim_lenDX rfl T.m_len (by rfl) (ga_cons (g_var 4) ga_nil)) (g_callB call_lenDX sim_lenDX rfl T.m_len (by rfl) (ga_cons (g_ix (ix_item (hu_w hr)) sim_item (g_var 0) g_int (fun _ _ => rfl)) ga_nil)) (nomark _)) (gw_or1 (gt_truth (g_callB (cr_any rfl) sim_any rfl T.m_any (by rfl) (ga_cons (g_lc false (own := [("name", 5)]) (t := (.n 5)) (W0 := fun _ _ _ _ => False) rfl sc_look_parted.nd (gi_seq (g_ix (ix_item (hu_w hr)) sim_item (g_var 0) g_int (fun _ _ => rfl))) (blkOk_by (N := ["table", "key", "names", "values", "some", "name"]) (sc := defScope s_look_parted) (by decide +kernel)) (fun _ _ _ _ _ => (hg_name 5 sc_look_parted.nd)) (fun _ _ _ _ _ => gts_nil) (fun _ _ _ _ _ => (g_cmp (op_notinDct (hu_w hr)) sim_contains (g_var 5) (g_var 4) (by rfl)))) ga_nil)))))))
    (gs_one g_deadS)
    gs_nil)))
theorem c_look_parted {P : Program} {w : World} {K : PySem.W.Frag} {mg : Str → Option Value} {base : Heap} (T : Txt K mg) : Cal P w K mg base 2 "look_parted" ["table", "key", "names", "values"] φ_look_parted := by
  obtain ⟨f, fd, h1, F⟩ := T.d_look_parted
  exact ⟨f, fd, ok_look_parted T F, h1, F.kp, F.binds fun _ _ _ _ _ _ us hl => match us, hl with | [_, _, _, _], _ => rfl⟩
theorem sc_look_order : FnScope ["order"] ["order"] (defScope s_look_order) := ⟨rfl, rfl, rfl, by decide +kernel, rfl, by decide +kernel, by decide +kernel⟩
noncomputable def b_look_order : CS := (ifS (asB (op2 (containsD true) (varC 0) (tupC (consA (cstC v_SEEN) (consA (cstC v_RISING) nilA)))))
  deadS
  skipC)
noncomputable def φ_look_order : Fn := argF 1 (trimF (runF 1 b_look_order))
theorem ok_look_order {P : Program} {w : World} {K : PySem.W.Frag} {mg : Str → Option Value} {base : Heap} {f : Addr} {fd : FuncData} (T : Txt K mg) (F : Fun K "look_order" "look_order" s_look_order f fd) : FnOk P w K mg base (L2.CX P w) 2 f fd ["order"] (spOf ⟨K, mg, w⟩ φ_look_order) :=
  def_ok (k := 1) F sc_look_order (keeps_arg keeps_trim) (fun _ _ => argF_len) fun cdv A outer s H E hr tk =>
    (gs_one (g_ifS (gt_cmp (op_notinDct (hu_w hr)) sim_contains (g_var 0) (g_tup (ga_cons (g_const_SEEN T) (ga_cons (g_const_RISING T) ga_nil))) (by rfl))
    (gs_one g_deadS)
    gs_nil))
theorem c_look_order {P : Program} {w : World} {K : PySem.W.Frag} {mg : Str → Option Value} {base : Heap} (T : Txt K mg) : Cal P w K mg base 2 "look_order" ["order"] φ_look_order := by
  obtain ⟨f, fd, h1, F⟩ := T.d_look_order
  exact ⟨f, fd, ok_look_order T F, h1, F.kp, F.binds fun _ _ _ _ _ _ us hl => match us, hl with | [_], _ => rfl⟩
theorem sc_look_ways : FnScope ["values", "ways", "way"] ["values", "ways"] (defScope s_look_ways) := ⟨rfl, rfl, rfl, by decide +kernel, rfl, by decide +kernel, by decide +kernel⟩
noncomputable def b_look_ways : CS := (ifS (orT (asB (op2 (eqX true) (apC lenDF (consA (varC 1) nilA)) (apC lenDF (consA (varC 0) nilA)))) (asT (apC anyF (consA (compC false (seqS (varC 1)) [2] (.n 2) yesT (op2 (containsD true) (varC 2) (cstC v_WAYS))) nilA))))
  deadS
  skipC)
noncomputable def φ_look_ways : Fn := argF 2 (trimF (runF 3 b_look_ways))
theorem ok_look_ways {P : Program} {w : World} {K : PySem.W.Frag} {mg : Str → Option Value} {base : Heap} {f : Addr} {fd : FuncData} (T : Txt K mg) (F : Fun K "look_ways" "look_ways" s_look_ways f fd) : FnOk P w K mg base (L2.CX P w) 2 f fd ["values", "ways"] (spOf ⟨K, mg, w⟩ φ_look_ways) :=
  def_ok (k := 1) F sc_look_ways (keeps_arg keeps_trim) (fun _ _ => argF_len) fun cdv A outer s H E hr tk =>
    (gs_one (g_ifS (PW.pt (gw_or (gt_cmp (op_neX (hu_w hr)) sim_neX (g_callB call_lenDX sim_lenDX rfl T.m_len (by rfl) (ga_cons (g_var 1) ga_nil)) (g_callB call_lenDX sim_lenDX rfl T.m_len (by rfl) (ga_cons (g_var 0) ga_nil)) (nomark _)) (gw_or1 (gt_truth (g_callB (cr_any rfl) sim_any rfl T.m_any (by rfl) (ga_cons (g_lc false (own := [("way", 2)]) (t := (.n 2)) (W0 := fun _ _ _ _ => False) rfl sc_look_ways.nd (gi_seq (g_var 1)) (blkOk_by (N := ["values", "ways", "way"]) (sc := defScope s_look_ways) (by decide +kernel)) (fun _ _ _ _ _ => (hg_name 2 sc_look_ways.nd)) (fun _ _ _ _ _ => gts_nil) (fun _ _ _ _ _ => (g_cmp (op_notinDct (hu_w hr)) sim_contains (g_var 2) (g_const_WAYS T) (by rfl)))) ga_nil))))))
    (gs_one g_deadS)
    gs_nil))
theorem c_look_ways {P : Program} {w : World} {K : PySem.W.Frag} {mg : Str → Option Value} {base : Heap} (T : Txt K mg) : Cal P w K mg base 2 "look_ways" ["values", "ways"] φ_look_ways := by
  obtain ⟨f, fd, h1, F⟩ := T.d_look_ways
  exact ⟨f, fd, ok_look_ways T F, h1, F.kp, F.binds fun _ _ _ _ _ _ us hl => match us, hl with | [_, _], _ => rfl⟩
theorem sc_places_of : FnScope ["table", "names", "name"] ["table", "names"] (defScope s_places_of) := ⟨rfl, rfl, rfl, by decide +kernel, rfl, by decide +kernel, by decide +kernel⟩
noncomputable def b_places_of : CS := (seqC (forC (seqS (varC 1)) (nameG 2)
  (ifS (asB (op2 (containsD true) (varC 2) (op2 itemD (varC 0) (cstC (.int 0)))))
  deadS
  skipC))
  (retC (compC false (seqS (varC 1)) [2] (.n 2) yesT (altC (mthC "list" lindexM (op2 itemD (varC 0) (cstC (.int 0))) (consA (varC 2) nilA)) (mthC "tuple" tindexM (op2 itemD (varC 0) (cstC (.int 0))) (consA (varC 2) nilA))))))
noncomputable def φ_places_of : Fn := argF 2 (trimF (runF 3 b_places_of))
theorem ok_places_of {P : Program} {w : World} {K : PySem.W.Frag} {mg : Str → Option Value} {base : Heap} {f : Addr} {fd : FuncData} (T : Txt K mg) (F : Fun K "places_of" "places_of" s_places_of f fd) : FnOk P w K mg base (L2.CX P w) 2 f fd ["table", "names"] (spOf ⟨K, mg, w⟩ φ_places_of) :=
  def_ok (k := 1) F sc_places_of (keeps_arg keeps_trim) (fun _ _ => argF_len) fun cdv A outer s H E hr tk =>
    (gs_cons (g_for (passes_of rfl) rfl (gi_seq (g_var 1)) (gg_name 2 sc_places_of.nd) (goes_name 2)
    (gs_one (g_ifS (gt_cmp (op_notinDct (hu_w hr)) sim_contains (g_var 2) (g_ix (ix_item (hu_w hr)) sim_item (g_var 0) g_int (fun _ _ => rfl)) (by rfl))
    (gs_one g_deadS)
    gs_nil)))
    (gs_one (g_ret (g_lc false (own := [("name", 2)]) (t := (.n 2)) (W0 := fun _ _ _ _ => False) rfl sc_places_of.nd (gi_seq (g_var 1)) (blkOk_by (N := ["table", "names", "name"]) (sc := defScope s_places_of) (by decide +kernel)) (fun _ _ _ _ _ => (hg_name 2 sc_places_of.nd)) (fun _ _ _ _ _ => gts_nil) (fun _ _ _ _ _ => (g_alt (g_mth PySem.F.plainAttrs_list PySem.F.slot_list_index PySem.F.type_list_index (mt_indexD (hu_w hr)) sim_lindex (g_ix (ix_item (hu_w hr)) sim_item (g_var 0) g_int (fun _ _ => rfl)) (ga_cons (g_var 2) ga_nil) (by decide) (by decide)) (g_mth PySem.F.plainAttrs_tuple PySem.F.slot_tuple_index PySem.F.type_tuple_index (mt_tindexD (hu_w hr)) sim_tindex (g_ix (ix_item (hu_w hr)) sim_item (g_var 0) g_int (fun _ _ => rfl)) (ga_cons (g_var 2) ga_nil) (by decide) (by decide))))))))
theorem c_places_of {P : Program} {w : World} {K : PySem.W.Frag} {mg : Str → Option Value} {base : Heap} (T : Txt K mg) : Cal P w K mg base 2 "places_of" ["table", "names"] φ_places_of := by
  obtain ⟨f, fd, h1, F⟩ := T.d_places_of
  exact ⟨f, fd, ok_places_of T F, h1, F.kp, F.binds fun _ _ _ _ _ _ us hl => match us, hl with | [_, _], _ => rfl⟩
theorem sc_at_places : FnScope ["row", "places", "place"] ["row", "places"] (defScope s_at_places) := ⟨rfl, rfl, rfl, by decide +kernel, rfl, by decide +kernel, by decide +kernel⟩
noncomputable def b_at_places : CS := (retC (apC tupleF (consA (compC false (seqS (varC 1)) [2] (.n 2) yesT (op2 itemD (varC 0) (varC 2))) nilA)))
noncomputable def φ_at_places : Fn := argF 2 (trimF (runF 3 b_at_places))
theorem ok_at_places {P : Program} {w : World} {K : PySem.W.Frag} {mg : Str → Option Value} {base : Heap} {f : Addr} {fd : FuncData} (T : Txt K mg) (F : Fun K "at_places" "at_places" s_at_places f fd) : FnOk P w K mg base (L2.CX P w) 2 f fd ["row", "places"] (spOf ⟨K, mg, w⟩ φ_at_places) :=
  def_ok (k := 1) F sc_at_places (keeps_arg keeps_trim) (fun _ _ => argF_len) fun cdv A outer s H E hr tk =>
    (gs_one (g_ret (g_callTy call_tupleF sim_tuple rfl T.m_tuple (by rfl) (ga_cons (g_lc false (own := [("place", 2)]) (t := (.n 2)) (W0 := fun _ _ _ _ => False) rfl sc_at_places.nd (gi_seq (g_var 1)) (blkOk_by (N := ["row", "places", "place"]) (sc := defScope s_at_places) (by decide +kernel)) (fun _ _ _ _ _ => (hg_name 2 sc_at_places.nd)) (fun _ _ _ _ _ => gts_nil) (fun _ _ _ _ _ => (g_ix (ix_item (hu_w hr)) sim_item (g_var 0) (g_var 2) (fun _ _ => rfl)))) ga_nil))))
theorem c_at_places {P : Program} {w : World} {K : PySem.W.Frag} {mg : Str → Option Value} {base : Heap} (T : Txt K mg) : Cal P w K mg base 2 "at_places" ["row", "places"] φ_at_places := by
  obtain ⟨f, fd, h1, F⟩ := T.d_at_places
  exact ⟨f, fd, ok_at_places T F, h1, F.kp, F.binds fun _ _ _ _ _ _ us hl => match us, hl with | [_, _], _ => rfl⟩
theorem sc_parts_of : FnScope ["table", "names", "places", "row"] ["table", "names"] (defScope s_parts_of) := ⟨rfl, rfl, rfl, by decide +kernel, rfl, by decide +kernel, by decide +kernel⟩
noncomputable def b_parts_of : CS := (seqC (asgC (callC φ_places_of (consA (varC 0) (consA (varC 1) nilA))) (nameG 2))
  (retC (compC false (seqS (op2 itemD (varC 0) (cstC (.int 1)))) [3] (.n 3) yesT (callC φ_at_places (consA (varC 3) (consA (varC 2) nilA))))))
noncomputable def φ_parts_of : Fn := argF 2 (trimF (runF 4 b_parts_of))
theorem ok_parts_of {P : Program} {w : World} {K : PySem.W.Frag} {mg : Str → Option Value} {base : Heap} {f : Addr} {fd : FuncData} (T : Txt K mg) (F : Fun K "parts_of" "parts_of" s_parts_of f fd) : FnOk P w K mg base (L2.CX P w) 3 f fd ["table", "names"] (spOf ⟨K, mg, w⟩ φ_parts_of) :=
  def_ok (k := 2) F sc_parts_of (keeps_arg keeps_trim) (fun _ _ => argF_len) fun cdv A outer s H E hr tk =>
    (gs_cons (g_set 2 sc_parts_of.nd (g_cal (c_places_of T) tk hr (ga_cons (g_var 0) (ga_cons (g_var 1) ga_nil))))
    (gs_one (g_ret (g_lc false (own := [("row", 3)]) (t := (.n 3)) (W0 := fun _ _ _ _ => False) rfl sc_parts_of.nd (gi_seq (g_ix (ix_item (hu_w hr)) sim_item (g_var 0) g_int (fun _ _ => rfl))) (blkOk_by (N := ["table", "names", "places", "row"]) (sc := defScope s_parts_of) (by decide +kernel)) (fun _ _ _ _ _ => (hg_name 3 sc_parts_of.nd)) (fun _ _ _ _ _ => gts_nil) (fun _ _ _ _ _ => (g_cal (c_at_places T) takes0 hr (ga_cons (g_var 3) (ga_cons (g_var 2) ga_nil))))))))
theorem c_parts_of {P : Program} {w : World} {K : PySem.W.Frag} {mg : Str → Option Value} {base : Heap} (T : Txt K mg) : Cal P w K mg base 3 "parts_of" ["table", "names"] φ_parts_of := by
  obtain ⟨f, fd, h1, F⟩ := T.d_parts_of
  exact ⟨f, fd, ok_parts_of T F, h1, F.kp, F.binds fun _ _ _ _ _ _ us hl => match us, hl with | [_, _], _ => rfl⟩
theorem sc_wide_of : FnScope ["columns", "parts", "heads", "cells", "rows", "part", "head"] ["columns", "parts", "heads", "cells"] (defScope s_wide_of) := ⟨rfl, rfl, rfl, by decide +kernel, rfl, by decide +kernel, by decide +kernel⟩
noncomputable def b_wide_of : CS := (seqC (asgC (compC false (seqS (varC 1)) [5] (.n 5) yesT (tupC (consA (varC 5) (consA (apC tupleF (consA (compC false (seqS (varC 2)) [6] (.n 6) yesT (mthC "dict" dgetM (varC 3) (consA (tupC (consA (varC 5) (consA (varC 6) nilA))) nilA))) nilA)) nilA)))) (nameG 4))
  (retC (tupC (consA (apC tupleF (consA (op2 itemD (varC 0) (cstC (.int 0))) nilA)) (consA (apC tupleF (consA (op2 itemD (varC 0) (cstC (.int 1))) nilA)) (consA (apC tupleF (consA (op2 itemD (varC 0) (cstC (.int 2))) nilA)) (consA (apC tupleF (consA (varC 2) nilA)) (consA (apC tupleF (consA (varC 4) nilA)) nilA))))))))
noncomputable def φ_wide_of : Fn := argF 4 (trimF (runF 7 b_wide_of))
theorem ok_wide_of {P : Program} {w : World} {K : PySem.W.Frag} {mg : Str → Option Value} {base : Heap} {f : Addr} {fd : FuncData} (T : Txt K mg) (F : Fun K "wide_of" "wide_of" s_wide_of f fd) : FnOk P w K mg base (L2.CX P w) 2 f fd ["columns", "parts", "heads", "cells"] (spOf ⟨K, mg, w⟩ φ_wide_of) :=
  def_ok (k := 1) F sc_wide_of (keeps_arg keeps_trim) (fun _ _ => argF_len) fun cdv A outer s H E hr tk =>
    (gs_cons (g_setLc false 4 (own := [("part", 5)]) (t := (.n 5)) (W0 := fun _ _ _ _ => False) rfl sc_wide_of.nd (gi_seq (g_var 1)) (blkOk_by (N := ["columns", "parts", "heads", "cells", "rows", "part", "head"]) (sc := defScope s_wide_of) (by decide +kernel)) (fun _ _ _ _ _ => (hg_name 5 sc_wide_of.nd)) (fun _ _ _ _ _ => gts_nil) (fun _ _ _ _ _ => (g_tup (ga_cons (g_var 5) (ga_cons (g_callTy call_tupleF sim_tuple rfl T.m_tuple (by rfl) (ga_cons (g_lc false (own := [("head", 6)]) (t := (.n 6)) (W0 := fun _ _ _ _ => False) rfl sc_wide_of.nd (gi_seq (g_var 2)) (blkOk_by (N := ["columns", "parts", "heads", "cells", "rows", "part", "head"]) (by with_unfolding_all rfl)) (fun _ _ _ _ _ => (hg_name 6 sc_wide_of.nd)) (fun _ _ _ _ _ => gts_nil) (fun _ _ _ _ _ => (g_mth PySem.F.plainAttrs_dict PySem.F.slot_dict_get PySem.F.type_dict_get (mt_dget (hu_w hr)) sim_dget (g_var 3) (ga_cons (g_tup (ga_cons (g_var 5) (ga_cons (g_var 6) ga_nil))) ga_nil) (by decide) (by decide)))) ga_nil)) ga_nil)))))
    (gs_one (g_ret (g_tup (ga_cons (g_callTy call_tupleF sim_tuple rfl T.m_tuple (by rfl) (ga_cons (g_ix (ix_item (hu_w hr)) sim_item (g_var 0) g_int (fun _ _ => rfl)) ga_nil)) (ga_cons (g_callTy call_tupleF sim_tuple rfl T.m_tuple (by rfl) (ga_cons (g_ix (ix_item (hu_w hr)) sim_item (g_var 0) g_int (fun _ _ => rfl)) ga_nil)) (ga_cons (g_callTy call_tupleF sim_tuple rfl T.m_tuple (by rfl) (ga_cons (g_ix (ix_item (hu_w hr)) sim_item (g_var 0) g_int (fun _ _ => rfl)) ga_nil)) (ga_cons (g_callTy call_tupleF sim_tuple rfl T.m_tuple (by rfl) (ga_cons (g_var 2) ga_nil)) (ga_cons (g_callTy call_tupleF sim_tuple rfl T.m_tuple (by rfl) (ga_cons (g_var 4) ga_nil)) ga_nil)))))))))
theorem c_wide_of {P : Program} {w : World} {K : PySem.W.Frag} {mg : Str → Option Value} {base : Heap} (T : Txt K mg) : Cal P w K mg base 2 "wide_of" ["columns", "parts", "heads", "cells"] φ_wide_of := by
  obtain ⟨f, fd, h1, F⟩ := T.d_wide_of
  exact ⟨f, fd, ok_wide_of T F, h1, F.kp, F.binds fun _ _ _ _ _ _ us hl => match us, hl with | [_, _, _, _], _ => rfl⟩
theorem sc_is_number : FnScope ["thing"] ["thing"] (defScope s_is_number) := ⟨rfl, rfl, rfl, by decide +kernel, rfl, by decide +kernel, by decide +kernel⟩
noncomputable def b_is_number : CS := (retC (andV (apC isiF (consA (varC 0) (consA (cstC (.ty "int")) nilA))) (notV (apC isiF (consA (varC 0) (consA (cstC (.ty "bool")) nilA))))))
noncomputable def φ_is_number : Fn := argF 1 (trimF (runF 1 b_is_number))
theorem ok_is_number {P : Program} {w : World} {K : PySem.W.Frag} {mg : Str → Option Value} {base : Heap} {f : Addr} {fd : FuncData} (T : Txt K mg) (F : Fun K "is_number" "is_number" s_is_number f fd) : FnOk P w K mg base (L2.CX P w) 2 f fd ["thing"] (spOf ⟨K, mg, w⟩ φ_is_number) :=
  def_ok (k := 1) F sc_is_number (keeps_arg keeps_trim) (fun _ _ => argF_len) fun cdv A outer s H E hr tk =>
    (gs_one (g_ret (g_and (g_callB call_isiG sim_isi rfl T.m_isinstance (by rfl) (ga_cons (g_var 0) (ga_cons (g_ty T.m_int (by rfl)) ga_nil))) (g_one (g_not (g_callB call_isiG sim_isi rfl T.m_isinstance (by rfl) (ga_cons (g_var 0) (ga_cons (g_ty T.m_bool (by rfl)) ga_nil))))))))
theorem c_is_number {P : Program} {w : World} {K : PySem.W.Frag} {mg : Str → Option Value} {base : Heap} (T : Txt K mg) : Cal P w K mg base 2 "is_number" ["thing"] φ_is_number := by
  obtain ⟨f, fd, h1, F⟩ := T.d_is_number
  exact ⟨f, fd, ok_is_number T F, h1, F.kp, F.binds fun _ _ _ _ _ _ us hl => match us, hl with | [_], _ => rfl⟩
theorem sc_sum_of : FnScope ["some", "there", "value"] ["some"] (defScope s_sum_of) := ⟨rfl, rfl, rfl, by decide +kernel, rfl, by decide +kernel, by decide +kernel⟩
noncomputable def b_sum_of : CS := (seqC (asgC (compC false (seqS (varC 0)) [2] (.n 2) (asB (op2 (isD true) (varC 2) (cstC .non))) (varC 2)) (nameG 1))
  (seqC (ifS (notT (asT (apC allF (consA (compC false (seqS (varC 1)) [2] (.n 2) yesT (callC φ_is_number (consA (varC 2) nilA))) nilA))))
  deadS
  skipC)
  (retC (apC sumF (consA (varC 1) nilA)))))
noncomputable def φ_sum_of : Fn := argF 1 (trimF (runF 3 b_sum_of))
theorem ok_sum_of {P : Program} {w : World} {K : PySem.W.Frag} {mg : Str → Option Value} {base : Heap} {f : Addr} {fd : FuncData} (T : Txt K mg) (F : Fun K "sum_of" "sum_of" s_sum_of f fd) : FnOk P w K mg base (L2.CX P w) 3 f fd ["some"] (spOf ⟨K, mg, w⟩ φ_sum_of) :=
  def_ok (k := 2) F sc_sum_of (keeps_arg keeps_trim) (fun _ _ => argF_len) fun cdv A outer s H E hr tk =>
    (gs_cons (g_setLc false 1 (own := [("value", 2)]) (t := (.n 2)) (W0 := fun _ _ _ _ => False) rfl sc_sum_of.nd (gi_seq (g_var 0)) (blkOk_by (N := ["some", "there", "value"]) (sc := defScope s_sum_of) (by decide +kernel)) (fun _ _ _ _ _ => (hg_name 2 sc_sum_of.nd)) (fun _ _ _ _ _ => (gts_one (gt_cmp op_isnotX sim_isnot (g_var 2) g_non (nomark _)))) (fun _ _ _ _ _ => (g_var 2)))
    (gs_cons (g_ifS (gt_not (gt_truth (g_callB (cr_all rfl) sim_all rfl T.m_all (by rfl) (ga_cons (g_lc false (own := [("value", 2)]) (t := (.n 2)) (W0 := fun _ _ _ _ => False) rfl sc_sum_of.nd (gi_seq (g_var 1)) (blkOk_by (N := ["some", "there", "value"]) (sc := defScope s_sum_of) (by decide +kernel)) (fun _ _ _ _ _ => (hg_name 2 sc_sum_of.nd)) (fun _ _ _ _ _ => gts_nil) (fun _ _ _ _ _ => (g_cal (c_is_number T) takes0 hr (ga_cons (g_var 2) ga_nil)))) ga_nil))))
    (gs_one g_deadS)
    gs_nil)
    (gs_one (g_ret (g_callB (cr_sum rfl) sim_sum rfl T.m_sum (by rfl) (ga_cons (g_var 1) ga_nil))))))
theorem c_sum_of {P : Program} {w : World} {K : PySem.W.Frag} {mg : Str → Option Value} {base : Heap} (T : Txt K mg) : Cal P w K mg base 3 "sum_of" ["some"] φ_sum_of := by
  obtain ⟨f, fd, h1, F⟩ := T.d_sum_of
  exact ⟨f, fd, ok_sum_of T F, h1, F.kp, F.binds fun _ _ _ _ _ _ us hl => match us, hl with | [_], _ => rfl⟩
theorem sc_put_together : FnScope ["some", "way", "there", "value"] ["some", "way"] (defScope s_put_together) := ⟨rfl, rfl, rfl, by decide +kernel, rfl, by decide +kernel, by decide +kernel⟩
noncomputable def b_put_together : CS := (seqC (ifS (asB (op2 (containsD true) (varC 1) (cstC v_WAYS)))
  deadS
  skipC)
  (seqC (ifS (asB (op2 (eqX false) (varC 1) (cstC (.str "sum"))))
  (retC (callC φ_sum_of (consA (varC 0) nilA)))
  skipC)
  (seqC (ifS (asB (op2 (eqX false) (varC 1) (cstC (.str "first"))))
  (retC (op2 itemD (varC 0) (cstC (.int 0))))
  skipC)
  (seqC (ifS (asB (op2 (eqX false) (varC 1) (cstC (.str "last"))))
  (retC (op2 itemD (varC 0) (negC (cstC (.int 1)))))
  skipC)
  (seqC (asgC (compC false (seqS (varC 0)) [3] (.n 3) (asB (op2 (isD true) (varC 3) (cstC .non))) (varC 3)) (nameG 2))
  (seqC (ifS (asB (op2 (eqX false) (varC 1) (cstC (.str "count"))))
  (retC (apC lenDF (consA (varC 2) nilA)))
  skipC)
  (seqC (ifS (asB (op2 (eqX false) (varC 1) (cstC (.str "unlike"))))
  (retC (apC lenDF (consA deadE nilA)))
  skipC)
  (retC (ifC (asB (op2 (eqX false) (varC 1) (cstC (.str "greatest")))) deadE deadE)))))))))
noncomputable def φ_put_together : Fn := argF 2 (trimF (runF 4 b_put_together))
theorem ok_put_together {P : Program} {w : World} {K : PySem.W.Frag} {mg : Str → Option Value} {base : Heap} {f : Addr} {fd : FuncData} (T : Txt K mg) (F : Fun K "put_together" "put_together" s_put_together f fd) : FnOk P w K mg base (L2.CX P w) 4 f fd ["some", "way"] (spOf ⟨K, mg, w⟩ φ_put_together) :=
  def_ok (k := 3) F sc_put_together (keeps_arg keeps_trim) (fun _ _ => argF_len) fun cdv A outer s H E hr tk =>
    (gs_cons (g_ifS (gt_cmp (op_notinDct (hu_w hr)) sim_contains (g_var 1) (g_const_WAYS T) (by rfl))
    (gs_one g_deadS)
    gs_nil)
    (gs_cons (g_ifS (gt_cmp (op_eqX (hu_w hr)) sim_eqX (g_var 1) g_str (nomark _))
    (gs_one (g_ret (g_cal (c_sum_of T) tk hr (ga_cons (g_var 0) ga_nil))))
    gs_nil)
    (gs_cons (g_ifS (gt_cmp (op_eqX (hu_w hr)) sim_eqX (g_var 1) g_str (nomark _))
    (gs_one (g_ret (g_ix (ix_item (hu_w hr)) sim_item (g_var 0) g_int (fun _ _ => rfl))))
    gs_nil)
    (gs_cons (g_ifS (gt_cmp (op_eqX (hu_w hr)) sim_eqX (g_var 1) g_str (nomark _))
    (gs_one (g_ret (g_ix (ix_item (hu_w hr)) sim_item (g_var 0) (g_neg g_int) (fun _ _ => rfl))))
    gs_nil)
    (gs_cons (g_setLc false 2 (own := [("value", 3)]) (t := (.n 3)) (W0 := fun _ _ _ _ => False) rfl sc_put_together.nd (gi_seq (g_var 0)) (blkOk_by (N := ["some", "way", "there", "value"]) (sc := defScope s_put_together) (by decide +kernel)) (fun _ _ _ _ _ => (hg_name 3 sc_put_together.nd)) (fun _ _ _ _ _ => (gts_one (gt_cmp op_isnotX sim_isnot (g_var 3) g_non (nomark _)))) (fun _ _ _ _ _ => (g_var 3)))
    (gs_cons (g_ifS (gt_cmp (op_eqX (hu_w hr)) sim_eqX (g_var 1) g_str (nomark _))
    (gs_one (g_ret (g_callB call_lenDX sim_lenDX rfl T.m_len (by rfl) (ga_cons (g_var 2) ga_nil))))
    gs_nil)
    (gs_cons (g_ifS (gt_cmp (op_eqX (hu_w hr)) sim_eqX (g_var 1) g_str (nomark _))
    (gs_one (g_ret (g_callB call_lenDX sim_lenDX rfl T.m_len (by rfl) (ga_cons g_deadE ga_nil))))
    gs_nil)
    (gs_one (g_ret (g_if (gt_cmp (op_eqX (hu_w hr)) sim_eqX (g_var 1) g_str (nomark _)) g_deadE g_deadE))))))))))
theorem c_put_together {P : Program} {w : World} {K : PySem.W.Frag} {mg : Str → Option Value} {base : Heap} (T : Txt K mg) : Cal P w K mg base 4 "put_together" ["some", "way"] φ_put_together := by
  obtain ⟨f, fd, h1, F⟩ := T.d_put_together
  exact ⟨f, fd, ok_put_together T F, h1, F.kp, F.binds fun _ _ _ _ _ _ us hl => match us, hl with | [_, _], _ => rfl⟩
theorem sc_cell_of : FnScope ["rows", "numbers", "ways", "place", "way", "number"] ["rows", "numbers", "ways"] (defScope s_cell_of) := ⟨rfl, rfl, rfl, by decide +kernel, rfl, by decide +kernel, by decide +kernel⟩
noncomputable def b_cell_of : CS := (retC (apC tupleF (consA (compC false (enumS (consA (varC 2) nilA)) [3, 4] (.t [3, 4]) yesT (callC φ_put_together (consA (compC false (seqS (varC 1)) [5] (.n 5) yesT (op2 itemD (op2 itemD (varC 0) (varC 5)) (varC 3))) (consA (varC 4) nilA)))) nilA)))
noncomputable def φ_cell_of : Fn := argF 3 (trimF (runF 6 b_cell_of))
theorem ok_cell_of {P : Program} {w : World} {K : PySem.W.Frag} {mg : Str → Option Value} {base : Heap} {f : Addr} {fd : FuncData} (T : Txt K mg) (F : Fun K "cell_of" "cell_of" s_cell_of f fd) : FnOk P w K mg base (L2.CX P w) 5 f fd ["rows", "numbers", "ways"] (spOf ⟨K, mg, w⟩ φ_cell_of) :=
  def_ok (k := 4) F sc_cell_of (keeps_arg keeps_trim) (fun _ _ => argF_len) fun cdv A outer s H E hr tk =>
    (gs_one (g_ret (g_callTy call_tupleF sim_tuple rfl T.m_tuple (by rfl) (ga_cons (g_lc false (own := [("place", 3), ("way", 4)]) (t := (.t [3, 4])) (W0 := fun _ _ _ _ => False) rfl sc_cell_of.nd (gi_enum T.m_enumerate (ga_cons (g_var 2) ga_nil)) (blkOk_by (N := ["rows", "numbers", "ways", "place", "way", "number"]) (sc := defScope s_cell_of) (by decide +kernel)) (fun _ _ _ _ _ => (hg_tup rfl (pgs_cons (pg_nameS 3 sc_cell_of.nd) (pgs_cons (pg_nameS 4 sc_cell_of.nd) pgs_nil)))) (fun _ _ _ _ _ => gts_nil) (fun _ _ _ _ _ => (g_cal (c_put_together T) takes0 hr (ga_cons (g_lc false (own := [("number", 5)]) (t := (.n 5)) (W0 := fun _ _ _ _ => False) rfl sc_cell_of.nd (gi_seq (g_var 1)) (blkOk_by (N := ["rows", "numbers", "ways", "place", "way", "number"]) (by with_unfolding_all rfl)) (fun _ _ _ _ _ => (hg_name 5 sc_cell_of.nd)) (fun _ _ _ _ _ => gts_nil) (fun _ _ _ _ _ => (g_ix (ix_item (hu_w hr)) sim_item (g_ix (ix_item (hu_w hr)) sim_item (g_var 0) (g_var 5) (fun _ _ => rfl)) (g_var 3) (fun _ _ => rfl)))) (ga_cons (g_var 4) ga_nil))))) ga_nil))))
theorem c_cell_of {P : Program} {w : World} {K : PySem.W.Frag} {mg : Str → Option Value} {base : Heap} (T : Txt K mg) : Cal P w K mg base 5 "cell_of" ["rows", "numbers", "ways"] φ_cell_of := by
  obtain ⟨f, fd, h1, F⟩ := T.d_cell_of
  exact ⟨f, fd, ok_cell_of T F, h1, F.kp, F.binds fun _ _ _ _ _ _ us hl => match us, hl with | [_, _, _], _ => rfl⟩
theorem sc_unlike_ones : FnScope ["some", "one"] ["some"] (defScope s_unlike_ones) := ⟨rfl, rfl, rfl, by decide +kernel, rfl, by decide +kernel, by decide +kernel⟩
noncomputable def b_unlike_ones : CS := (retC (apC (listDF false) (consA (apC (dictF false) (consA (compC false (seqS (varC 0)) [1] (.n 1) yesT (tupC (consA (varC 1) (consA (cstC (.bl true)) nilA)))) nilA)) nilA)))
noncomputable def φ_unlike_ones : Fn := argF 1 (trimF (runF 2 b_unlike_ones))
theorem ok_unlike_ones {P : Program} {w : World} {K : PySem.W.Frag} {mg : Str → Option Value} {base : Heap} {f : Addr} {fd : FuncData} (T : Txt K mg) (F : Fun K "unlike_ones" "unlike_ones" s_unlike_ones f fd) : FnOk P w K mg base (L2.CX P w) 2 f fd ["some"] (spOf ⟨K, mg, w⟩ φ_unlike_ones) :=
  def_ok (k := 1) F sc_unlike_ones (keeps_arg keeps_trim) (fun _ _ => argF_len) fun cdv A outer s H E hr tk =>
    (gs_one (g_ret (g_callTy (call_listX rfl) sim_listX rfl T.m_list (by rfl) (ga_cons (g_callTy (call_dictX rfl (hu_w hr)) sim_dictX rfl T.m_dict (by rfl) (ga_cons (g_lc false (own := [("one", 1)]) (t := (.n 1)) (W0 := fun _ _ _ _ => False) rfl sc_unlike_ones.nd (gi_seq (g_var 0)) (blkOk_by (N := ["some", "one"]) (sc := defScope s_unlike_ones) (by decide +kernel)) (fun _ _ _ _ _ => (hg_name 1 sc_unlike_ones.nd)) (fun _ _ _ _ _ => gts_nil) (fun _ _ _ _ _ => (g_tup (ga_cons (g_var 1) (ga_cons g_bl ga_nil))))) ga_nil)) ga_nil))))
theorem c_unlike_ones {P : Program} {w : World} {K : PySem.W.Frag} {mg : Str → Option Value} {base : Heap} (T : Txt K mg) : Cal P w K mg base 2 "unlike_ones" ["some"] φ_unlike_ones := by
  obtain ⟨f, fd, h1, F⟩ := T.d_unlike_ones
  exact ⟨f, fd, ok_unlike_ones T F, h1, F.kp, F.binds fun _ _ _ _ _ _ us hl => match us, hl with | [_], _ => rfl⟩
theorem sc_heads_by : FnScope ["some", "order", "heads"] ["some", "order"] (defScope s_heads_by) := ⟨rfl, rfl, rfl, by decide +kernel, rfl, by decide +kernel, by decide +kernel⟩
noncomputable def b_heads_by : CS := (seqC (asgC (callC φ_unlike_ones (consA (varC 0) nilA)) (nameG 2))
  (retC (ifC (asB (op2 (eqX false) (varC 1) (cstC v_RISING))) deadE (varC 2))))
noncomputable def φ_heads_by : Fn := argF 2 (trimF (runF 3 b_heads_by))
theorem ok_heads_by {P : Program} {w : World} {K : PySem.W.Frag} {mg : Str → Option Value} {base : Heap} {f : Addr} {fd : FuncData} (T : Txt K mg) (F : Fun K "heads_by" "heads_by" s_heads_by f fd) : FnOk P w K mg base (L2.CX P w) 3 f fd ["some", "order"] (spOf ⟨K, mg, w⟩ φ_heads_by) :=
  def_ok (k := 2) F sc_heads_by (keeps_arg keeps_trim) (fun _ _ => argF_len) fun cdv A outer s H E hr tk =>
    (gs_cons (g_set 2 sc_heads_by.nd (g_cal (c_unlike_ones T) tk hr (ga_cons (g_var 0) ga_nil)))
    (gs_one (g_ret (g_if (gt_cmp (op_eqX (hu_w hr)) sim_eqX (g_var 1) (g_const_RISING T) (nomark _)) g_deadE (g_var 2)))))
theorem c_heads_by {P : Program} {w : World} {K : PySem.W.Frag} {mg : Str → Option Value} {base : Heap} (T : Txt K mg) : Cal P w K mg base 3 "heads_by" ["some", "order"] φ_heads_by := by
  obtain ⟨f, fd, h1, F⟩ := T.d_heads_by
  exact ⟨f, fd, ok_heads_by T F, h1, F.kp, F.binds fun _ _ _ _ _ _ us hl => match us, hl with | [_, _], _ => rfl⟩
theorem sc_numbers_by : FnScope ["parts", "found", "number", "part"] ["parts"] (defScope s_numbers_by) := ⟨rfl, rfl, rfl, by decide +kernel, rfl, by decide +kernel, by decide +kernel⟩
noncomputable def b_numbers_by : CS := (seqC (asgC (dct0 true) (nameG 1))
  (seqC (forC (enumS (consA (varC 0) nilA)) (tupG 2 (consG (nameG 2) (consG (nameG 3) nilG)))
  (exprC (mthC "list" appendM (mthC "dict" dsetdM (varC 1) (consA (varC 3) (consA (lstC true nilA) nilA))) (consA (varC 2) nilA))))
  (retC (fzE (varC 1)))))
noncomputable def φ_numbers_by : Fn := argF 1 (trimF (runF 4 b_numbers_by))
theorem ok_numbers_by {P : Program} {w : World} {K : PySem.W.Frag} {mg : Str → Option Value} {base : Heap} {f : Addr} {fd : FuncData} (T : Txt K mg) (F : Fun K "numbers_by" "numbers_by" s_numbers_by f fd) : FnOk P w K mg base (L2.CX P w) 2 f fd ["parts"] (spOf ⟨K, mg, w⟩ φ_numbers_by) :=
  def_ok (k := 1) F sc_numbers_by (keeps_arg keeps_trim) (fun _ _ => argF_len) fun cdv A outer s H E hr tk =>
    (gs_cons (g_set 1 sc_numbers_by.nd (g_dct0 true))
    (gs_cons (g_for (passes_of rfl) rfl (gi_enum T.m_enumerate (ga_cons (g_var 0) ga_nil)) (gg_tup rfl (ggs_cons (gg_name 2 sc_numbers_by.nd) (ggs_cons (gg_name 3 sc_numbers_by.nd) ggs_nil))) (goes_tup (goes_cons (goes_name 2) (goes_cons (goes_name 3) goes_nil)))
    (gs_one (g_expr (g_mth PySem.F.plainAttrs_list PySem.F.slot_list_append PySem.F.type_list_append mt_append sim_append (g_mth PySem.F.plainAttrs_dict PySem.F.slot_dict_setdefault PySem.F.type_dict_setdefault (mt_dsetd (hu_w hr)) sim_dsetd (g_var 1) (ga_cons (g_var 3) (ga_cons (g_lst true ga_nil) ga_nil)) (by decide) (by decide)) (ga_cons (g_var 2) ga_nil) (by decide) (by decide)))))
    (gs_one (g_ret (g_fz (g_var 1))))))
theorem c_numbers_by {P : Program} {w : World} {K : PySem.W.Frag} {mg : Str → Option Value} {base : Heap} (T : Txt K mg) : Cal P w K mg base 2 "numbers_by" ["parts"] φ_numbers_by := by
  obtain ⟨f, fd, h1, F⟩ := T.d_numbers_by
  exact ⟨f, fd, ok_numbers_by T F, h1, F.kp, F.binds fun _ _ _ _ _ _ us hl => match us, hl with | [_], _ => rfl⟩
theorem sc_rows_at : FnScope ["table", "key", "names"] ["table", "key", "names"] (defScope s_rows_at) := ⟨rfl, rfl, rfl, by decide +kernel, rfl, by decide +kernel, by decide +kernel⟩
noncomputable def b_rows_at : CS := (retC (callC φ_numbers_by (consA (apC (listZipF false) (consA (callC φ_parts_of (consA (varC 0) (consA (varC 1) nilA))) (consA (callC φ_parts_of (consA (varC 0) (consA (varC 2) nilA))) nilA))) nilA)))
noncomputable def φ_rows_at : Fn := argF 3 (trimF (runF 3 b_rows_at))
theorem ok_rows_at {P : Program} {w : World} {K : PySem.W.Frag} {mg : Str → Option Value} {base : Heap} {f : Addr} {fd : FuncData} (T : Txt K mg) (F : Fun K "rows_at" "rows_at" s_rows_at f fd) : FnOk P w K mg base (L2.CX P w) 4 f fd ["table", "key", "names"] (spOf ⟨K, mg, w⟩ φ_rows_at) :=
  def_ok (k := 3) F sc_rows_at (keeps_arg keeps_trim) (fun _ _ => argF_len) fun cdv A outer s H E hr tk =>
    (gs_one (g_ret (g_cal (c_numbers_by T) tk hr (ga_cons (g_listZip false rfl T.m_list T.m_zip (ga_cons (g_cal (c_parts_of T) tk hr (ga_cons (g_var 0) (ga_cons (g_var 1) ga_nil))) (ga_cons (g_cal (c_parts_of T) tk hr (ga_cons (g_var 0) (ga_cons (g_var 2) ga_nil))) ga_nil))) ga_nil))))
theorem c_rows_at {P : Program} {w : World} {K : PySem.W.Frag} {mg : Str → Option Value} {base : Heap} (T : Txt K mg) : Cal P w K mg base 4 "rows_at" ["table", "key", "names"] φ_rows_at := by
  obtain ⟨f, fd, h1, F⟩ := T.d_rows_at
  exact ⟨f, fd, ok_rows_at T F, h1, F.kp, F.binds fun _ _ _ _ _ _ us hl => match us, hl with | [_, _, _], _ => rfl⟩
theorem sc_folded_by : FnScope ["table", "key", "names", "values", "ways", "order", "rows", "cells", "place", "numbers", "parts", "heads"] ["table", "key", "names", "values", "ways", "order"] (defScope s_folded_by) := ⟨rfl, rfl, rfl, by decide +kernel, rfl, by decide +kernel, by decide +kernel⟩
noncomputable def b_folded_by : CS := (seqC (exprC (callC φ_look_parted (consA (varC 0) (consA (varC 1) (consA (varC 2) (consA (varC 3) nilA))))))
  (seqC (exprC (callC φ_look_order (consA (varC 5) nilA)))
  (seqC (exprC (callC φ_look_ways (consA (varC 3) (consA (varC 4) nilA))))
  (seqC (asgC (callC φ_parts_of (consA (varC 0) (consA (varC 3) nilA))) (nameG 6))
  (seqC (asgC (dct0 true) (nameG 7))
  (seqC (forC (itemsS (callC φ_rows_at (consA (varC 0) (consA (varC 1) (consA (varC 2) nilA))))) (tupG 2 (consG (nameG 8) (consG (nameG 9) nilG)))
  (asgC (callC φ_cell_of (consA (varC 6) (consA (varC 9) (consA (varC 4) nilA)))) (subG (varC 7) (varC 8))))
  (seqC (parC 10 11 (consA (callC φ_parts_of (consA (varC 0) (consA (varC 1) nilA))) (consA (callC φ_parts_of (consA (varC 0) (consA (varC 2) nilA))) nilA)))
  (retC (callC φ_wide_of (consA (tupC (consA (varC 1) (consA (varC 2) (consA (varC 3) nilA)))) (consA (callC φ_unlike_ones (consA (varC 10) nilA)) (consA (callC φ_heads_by (consA (varC 11) (consA (varC 5) nilA))) (consA (varC 7) nilA)))))))))))))
noncomputable def φ_folded_by : Fn := argF 6 (trimF (runF 12 b_folded_by))
theorem ok_folded_by {P : Program} {w : World} {K : PySem.W.Frag} {mg : Str → Option Value} {base : Heap} {f : Addr} {fd : FuncData} (T : Txt K mg) (F : Fun K "folded_by" "folded_by" s_folded_by f fd) : FnOk P w K mg base (L2.CX P w) 6 f fd ["table", "key", "names", "values", "ways", "order"] (spOf ⟨K, mg, w⟩ φ_folded_by) :=
  def_ok (k := 5) F sc_folded_by (keeps_arg keeps_trim) (fun _ _ => argF_len) fun cdv A outer s H E hr tk =>
    (gs_cons (g_expr (g_cal (c_look_parted T) tk hr (ga_cons (g_var 0) (ga_cons (g_var 1) (ga_cons (g_var 2) (ga_cons (g_var 3) ga_nil))))))
    (gs_cons (g_expr (g_cal (c_look_order T) tk hr (ga_cons (g_var 5) ga_nil)))
    (gs_cons (g_expr (g_cal (c_look_ways T) tk hr (ga_cons (g_var 3) (ga_cons (g_var 4) ga_nil))))
    (gs_cons (g_set 6 sc_folded_by.nd (g_cal (c_parts_of T) tk hr (ga_cons (g_var 0) (ga_cons (g_var 3) ga_nil))))
    (gs_cons (g_set 7 sc_folded_by.nd (g_dct0 true))
    (gs_cons (g_for (passes_of rfl) rfl (gi_items (g_cal (c_rows_at T) tk hr (ga_cons (g_var 0) (ga_cons (g_var 1) (ga_cons (g_var 2) ga_nil))))) (gg_tup rfl (ggs_cons (gg_name 8 sc_folded_by.nd) (ggs_cons (gg_name 9 sc_folded_by.nd) ggs_nil))) (goes_tup (goes_cons (goes_name 8) (goes_cons (goes_name 9) goes_nil)))
    (gs_one (g_asg (g_cal (c_cell_of T) tk hr (ga_cons (g_var 6) (ga_cons (g_var 9) (ga_cons (g_var 4) ga_nil)))) (gg_sub (hu_w hr) (g_var 7) (g_var 8)) goes_sub)))
    (gs_cons (g_par 10 11 rfl sc_folded_by.nd (ga_cons (g_cal (c_parts_of T) tk hr (ga_cons (g_var 0) (ga_cons (g_var 1) ga_nil))) (ga_cons (g_cal (c_parts_of T) tk hr (ga_cons (g_var 0) (ga_cons (g_var 2) ga_nil))) ga_nil)))
    (gs_one (g_ret (g_cal (c_wide_of T) tk hr (ga_cons (g_tup (ga_cons (g_var 1) (ga_cons (g_var 2) (ga_cons (g_var 3) ga_nil)))) (ga_cons (g_cal (c_unlike_ones T) tk hr (ga_cons (g_var 10) ga_nil)) (ga_cons (g_cal (c_heads_by T) tk hr (ga_cons (g_var 11) (ga_cons (g_var 5) ga_nil))) (ga_cons (g_var 7) ga_nil))))))))))))))
theorem c_folded_by {P : Program} {w : World} {K : PySem.W.Frag} {mg : Str → Option Value} {base : Heap} (T : Txt K mg) : Cal P w K mg base 6 "folded_by" ["table", "key", "names", "values", "ways", "order"] φ_folded_by := by
  obtain ⟨f, fd, h1, F⟩ := T.d_folded_by
  exact ⟨f, fd, ok_folded_by T F, h1, F.kp, F.binds fun _ _ _ _ _ _ us hl => match us, hl with | [_, _, _, _, _, _], _ => rfl⟩
theorem sc_Keeper_init : FnScope ["self", "columns", "key", "names", "values", "ways", "order", "some"] ["self", "columns", "key", "names", "values", "ways", "order"] (defScope s_Keeper_init) := ⟨rfl, rfl, rfl, by decide +kernel, rfl, by decide +kernel, by decide +kernel⟩
noncomputable def b_Keeper_init : CS := (seqC (sfldC "Keeper" "table" (varC 0) (tupC (consA (apC tupleF (consA (varC 1) nilA)) (consA (tupC nilA) nilA))))
  (seqC (exprC (callC φ_folded_by (consA (fldC "Keeper" "table" (varC 0)) (consA (varC 2) (consA (varC 3) (consA (varC 4) (consA (varC 5) (consA (varC 6) nilA))))))))
  (seqC (sfldC "Keeper" "told" (varC 0) (tupC (consA (apC tupleF (consA (varC 2) nilA)) (consA (apC tupleF (consA (varC 3) nilA)) (consA (apC tupleF (consA (varC 4) nilA)) (consA (apC tupleF (consA (varC 5) nilA)) (consA (varC 6) nilA)))))))
  (seqC (sfldC "Keeper" "places" (varC 0) (compC false (seqS (tupC (consA (varC 2) (consA (varC 3) (consA (varC 4) nilA))))) [7] (.n 7) yesT (callC φ_places_of (consA (fldC "Keeper" "table" (varC 0)) (consA (varC 7) nilA)))))
  (seqC (sfldC "Keeper" "coming" (varC 0) (cstC (.int 0)))
  (seqC (sfldC "Keeper" "rows" (varC 0) (dct0 true))
  (seqC (sfldC "Keeper" "by_place" (varC 0) (dct0 true))
  (seqC (sfldC "Keeper" "cells" (varC 0) (dct0 true))
  (sfldC "Keeper" "past" (varC 0) (lstC true nilA))))))))))
noncomputable def φ_Keeper_init : Fn := argF 7 (runF 8 b_Keeper_init)
theorem ok_Keeper_init {P : Program} {w : World} {K : PySem.W.Frag} {mg : Str → Option Value} {base : Heap} {f : Addr} {fd : FuncData} (T : Txt K mg) (F : Fun K "__init__" "Keeper.__init__" s_Keeper_init f fd) : FnOk P w K mg base (L2.CX P w) 7 f fd ["self", "columns", "key", "names", "values", "ways", "order"] (spOf ⟨K, mg, w⟩ φ_Keeper_init) :=
  def_ok (k := 6) F sc_Keeper_init (keeps_arg Keeps.self) (fun _ _ => argF_len) fun cdv A outer s H E hr tk =>
    (gs_cons (g_setf T.a_Keeper_table (g_var 0) (g_tup (ga_cons (g_callTy call_tupleF sim_tuple rfl T.m_tuple (by rfl) (ga_cons (g_var 1) ga_nil)) (ga_cons (g_tup ga_nil) ga_nil))))
    (gs_cons (g_expr (g_cal (c_folded_by T) tk hr (ga_cons (g_field T.a_Keeper_table (g_var 0)) (ga_cons (g_var 2) (ga_cons (g_var 3) (ga_cons (g_var 4) (ga_cons (g_var 5) (ga_cons (g_var 6) ga_nil))))))))
    (gs_cons (g_setf T.a_Keeper_told (g_var 0) (g_tup (ga_cons (g_callTy call_tupleF sim_tuple rfl T.m_tuple (by rfl) (ga_cons (g_var 2) ga_nil)) (ga_cons (g_callTy call_tupleF sim_tuple rfl T.m_tuple (by rfl) (ga_cons (g_var 3) ga_nil)) (ga_cons (g_callTy call_tupleF sim_tuple rfl T.m_tuple (by rfl) (ga_cons (g_var 4) ga_nil)) (ga_cons (g_callTy call_tupleF sim_tuple rfl T.m_tuple (by rfl) (ga_cons (g_var 5) ga_nil)) (ga_cons (g_var 6) ga_nil)))))))
    (gs_cons (g_setf T.a_Keeper_places (g_var 0) (g_lc false (own := [("some", 7)]) (t := (.n 7)) (W0 := fun _ _ _ _ => False) rfl sc_Keeper_init.nd (gi_seq (g_tup (ga_cons (g_var 2) (ga_cons (g_var 3) (ga_cons (g_var 4) ga_nil))))) (blkOk_by (N := ["self", "columns", "key", "names", "values", "ways", "order", "some"]) (sc := defScope s_Keeper_init) (by decide +kernel)) (fun _ _ _ _ _ => (hg_name 7 sc_Keeper_init.nd)) (fun _ _ _ _ _ => gts_nil) (fun _ _ _ _ _ => (g_cal (c_places_of T) takes0 hr (ga_cons (g_field T.a_Keeper_table (g_var 0)) (ga_cons (g_var 7) ga_nil))))))
    (gs_cons (g_setf T.a_Keeper_coming (g_var 0) g_int)
    (gs_cons (g_setf T.a_Keeper_rows (g_var 0) (g_dct0 true))
    (gs_cons (g_setf T.a_Keeper_by_place (g_var 0) (g_dct0 true))
    (gs_cons (g_setf T.a_Keeper_cells (g_var 0) (g_dct0 true))
    (gs_one (g_setf T.a_Keeper_past (g_var 0) (g_lst true ga_nil)))))))))))
theorem c_Keeper_init {P : Program} {w : World} {K : PySem.W.Frag} {mg : Str → Option Value} {base : Heap} (T : Txt K mg) : KCal P w K mg base 7 "Keeper" ["self", "columns", "key", "names", "values", "ways", "order"] φ_Keeper_init := by
  obtain ⟨C, f, fd, h1, h2, F⟩ := T.d_Keeper_init
  exact ⟨C, f, fd, h1, h2, ok_Keeper_init T F, F.binds fun _ _ _ _ _ _ us hl => match us, hl with | [_, _, _, _, _, _, _], _ => rfl⟩
theorem sc__law_take : FnScope ["box", "many", "found", "once", "twice"] ["box", "many"] (defScope s__law_take) := ⟨rfl, rfl, rfl, by decide +kernel, rfl, by decide +kernel, by decide +kernel⟩
noncomputable def b__law_take : CS := (seqC (ifS (asB (op2 (cmpD (fun i j => decide (j < i)) fun x y => decide (y < x)) (op2 itemD (varC 0) (cstC (.int 0))) (cstC (.int 0))))
  (seqC (asgC (op2 modD (op2 itemD (varC 0) (cstC (.int 0))) (varC 1)) (nameG 2))
  (seqC (asgC (op2 fdivD (op2 itemD (varC 0) (cstC (.int 0))) (varC 1)) (subG (varC 0) (cstC (.int 0))))
  (retC (varC 2))))
  skipC)
  (seqC (asgC (op2 (addD false) (op2 itemD (varC 0) (cstC (.int 2))) (cstC (.int 1))) (subG (varC 0) (cstC (.int 2))))
  (seqC (asgC (op2 modD (op2 (mulD false) (op2 (addD false) (op2 itemD (varC 0) (cstC (.int 1))) (op2 (mulD false) (cstC (.int 48271)) (op2 itemD (varC 0) (cstC (.int 2))))) (op2 (addD false) (cstC (.int 39373)) (op2 itemD (varC 0) (cstC (.int 2))))) (cstC (.int 2147483647))) (nameG 3))
  (seqC (asgC (op2 modD (op2 (mulD false) (op2 (addD false) (varC 3) (op2 itemD (varC 0) (cstC (.int 2)))) (op2 (addD false) (op2 modD (varC 3) (cstC (.int 40009))) (cstC (.int 7)))) (cstC (.int 2147483629))) (nameG 4))
  (retC (op2 modD (op2 fdivD (op2 modD (op2 (addD false) (op2 (mulD false) (varC 4) (cstC (.int 48271))) (varC 3)) (cstC (.int 2147483587))) (cstC (.int 64))) (varC 1)))))))
noncomputable def φ__law_take : Fn := argF 2 (trimF (runF 5 b__law_take))
theorem ok__law_take {P : Program} {w : World} {K : PySem.W.Frag} {mg : Str → Option Value} {base : Heap} {f : Addr} {fd : FuncData} (T : Txt K mg) (F : Fun K "_law_take" "_law_take" s__law_take f fd) : FnOk P w K mg base (L2.CX P w) 2 f fd ["box", "many"] (spOf ⟨K, mg, w⟩ φ__law_take) :=
  def_ok (k := 1) F sc__law_take (keeps_arg keeps_trim) (fun _ _ => argF_len) fun cdv A outer s H E hr tk =>
    (gs_cons (g_ifS (gt_cmp op_gtX sim_cmp (g_ix (ix_item (hu_w hr)) sim_item (g_var 0) g_int (fun _ _ => rfl)) g_int (nomark _))
    (gs_cons (g_set 2 sc__law_take.nd (g_op op_mod (sim_intC fun _ _ h => h) (g_ix (ix_item (hu_w hr)) sim_item (g_var 0) g_int (fun _ _ => rfl)) (g_var 1)))
    (gs_cons (g_asg (g_op op_fdivW (sim_intC fun _ _ h => h) (g_ix (ix_item (hu_w hr)) sim_item (g_var 0) g_int (fun _ _ => rfl)) (g_var 1)) (gg_sub (hu_w hr) (g_var 0) g_int) goes_sub)
    (gs_one (g_ret (g_var 2)))))
    gs_nil)
    (gs_cons (g_asg (g_op op_addX sim_add (g_ix (ix_item (hu_w hr)) sim_item (g_var 0) g_int (fun _ _ => rfl)) g_int) (gg_sub (hu_w hr) (g_var 0) g_int) goes_sub)
    (gs_cons (g_set 3 sc__law_take.nd (g_op op_mod (sim_intC fun _ _ h => h) (g_op op_mulX sim_mul (g_op op_addX sim_add (g_ix (ix_item (hu_w hr)) sim_item (g_var 0) g_int (fun _ _ => rfl)) (g_op op_mulX sim_mul g_int (g_ix (ix_item (hu_w hr)) sim_item (g_var 0) g_int (fun _ _ => rfl)))) (g_op op_addX sim_add g_int (g_ix (ix_item (hu_w hr)) sim_item (g_var 0) g_int (fun _ _ => rfl)))) g_int))
    (gs_cons (g_set 4 sc__law_take.nd (g_op op_mod (sim_intC fun _ _ h => h) (g_op op_mulX sim_mul (g_op op_addX sim_add (g_var 3) (g_ix (ix_item (hu_w hr)) sim_item (g_var 0) g_int (fun _ _ => rfl))) (g_op op_addX sim_add (g_op op_mod (sim_intC fun _ _ h => h) (g_var 3) g_int) g_int)) g_int))
    (gs_one (g_ret (g_op op_mod (sim_intC fun _ _ h => h) (g_op op_fdivW (sim_intC fun _ _ h => h) (g_op op_mod (sim_intC fun _ _ h => h) (g_op op_addX sim_add (g_op op_mulX sim_mul (g_var 4) g_int) (g_var 3)) g_int) g_int) (g_var 1))))))))
theorem c__law_take {P : Program} {w : World} {K : PySem.W.Frag} {mg : Str → Option Value} {base : Heap} (T : Txt K mg) : Cal P w K mg base 2 "_law_take" ["box", "many"] φ__law_take := by
  obtain ⟨f, fd, h1, F⟩ := T.d__law_take
  exact ⟨f, fd, ok__law_take T F, h1, F.kp, F.binds fun _ _ _ _ _ _ us hl => match us, hl with | [_, _], _ => rfl⟩
theorem sc__law_same : FnScope ["found", "due", "one", "other"] ["found", "due"] (defScope s__law_same) := ⟨rfl, rfl, rfl, by decide +kernel, rfl, by decide +kernel, by decide +kernel⟩
noncomputable def b__law_same (φr : Fn) : CS := (seqC (ifS (asT (apC isiF (consA (varC 1) (consA (tupC (consA (cstC (.ty "list")) (consA (cstC (.ty "tuple")) nilA))) nilA))))
  (seqC (ifS (orT (asB (op2 (eqX true) (apC isiF (consA (varC 0) (consA (cstC (.ty "list")) nilA))) (apC isiF (consA (varC 1) (consA (cstC (.ty "list")) nilA))))) (asB (op2 (eqX true) (apC isiF (consA (varC 0) (consA (cstC (.ty "tuple")) nilA))) (apC isiF (consA (varC 1) (consA (cstC (.ty "tuple")) nilA))))))
  (retC (cstC (.bl false)))
  skipC)
  (retC (andV (op2 (eqX false) (apC lenDF (consA (varC 0) nilA)) (apC lenDF (consA (varC 1) nilA))) (apC allF (consA (compC false (zipS (consA (varC 0) (consA (varC 1) nilA))) [2, 3] (.t [2, 3]) yesT (callC φr (consA (varC 2) (consA (varC 3) nilA)))) nilA)))))
  skipC)
  (seqC (ifS (orT (asB (op2 (isD false) (varC 1) (cstC .non))) (asT (apC isiF (consA (varC 1) (consA (cstC (.ty "str")) nilA)))))
  (retC (andV (op2 (eqX false) (varC 0) (varC 1)) (op2 (eqX false) (apC isiF (consA (varC 0) (consA (cstC (.ty "str")) nilA))) (apC isiF (consA (varC 1) (consA (cstC (.ty "str")) nilA))))))
  skipC)
  (seqC (ifS (asT (apC isiF (consA (varC 1) (consA (cstC (.ty "bool")) nilA))))
  (retC (andV (apC isiF (consA (varC 0) (consA (cstC (.ty "bool")) nilA))) (op2 (eqX false) (varC 0) (varC 1))))
  skipC)
  (retC (andV (apC isiF (consA (varC 0) (consA (cstC (.ty "int")) nilA))) (andV (notV (apC isiF (consA (varC 0) (consA (cstC (.ty "bool")) nilA)))) (op2 (eqX false) (varC 0) (varC 1))))))))
noncomputable def φn__law_same : Nat → Fn
  | 0 => fun _ _ => .stuck
  | n + 1 => argF 2 (trimF (runF 4 (b__law_same (φn__law_same n))))
theorem c0__law_same {P : Program} {w : World} {K : PySem.W.Frag} {mg : Str → Option Value} {base : Heap} (T : Txt K mg) : Cal P w K mg base 1 "_law_same" ["found", "due"] (φn__law_same 0) := by
  obtain ⟨f, fd, h1, F⟩ := T.d__law_same
  exact ⟨f, fd, def_stuck (k := 0) F sc__law_same, h1, F.kp, F.binds fun _ _ _ _ _ _ us hl => match us, hl with | [_, _], _ => rfl⟩
theorem c1__law_same {P : Program} {w : World} {K : PySem.W.Frag} {mg : Str → Option Value} {base : Heap} (T : Txt K mg) {n : Nat} (Rr : ∀ {base : Heap}, Cal P w K mg base (1 + n) "_law_same" ["found", "due"] (φn__law_same n)) : Cal P w K mg base (1 + (n + 1)) "_law_same" ["found", "due"] (φn__law_same (n + 1)) := by
  obtain ⟨f, fd, h1, F⟩ := T.d__law_same
  exact ⟨f, fd, def_ok (k := 1 + n) F sc__law_same (keeps_arg keeps_trim) (fun _ _ => argF_len) fun cdv A outer s H E hr tk =>
    (gs_cons (g_ifS (gt_truth (g_callB call_isiG sim_isi rfl T.m_isinstance (by rfl) (ga_cons (g_var 1) (ga_cons (g_tup (ga_cons (g_ty T.m_list (by rfl)) (ga_cons (g_ty T.m_tuple (by rfl)) ga_nil))) ga_nil))))
    (gs_cons (g_ifS (PW.pt (gw_or (gt_cmp (op_neX (hu_w hr)) sim_neX (g_callB call_isiG sim_isi rfl T.m_isinstance (by rfl) (ga_cons (g_var 0) (ga_cons (g_ty T.m_list (by rfl)) ga_nil))) (g_callB call_isiG sim_isi rfl T.m_isinstance (by rfl) (ga_cons (g_var 1) (ga_cons (g_ty T.m_list (by rfl)) ga_nil))) (nomark _)) (gw_or1 (gt_cmp (op_neX (hu_w hr)) sim_neX (g_callB call_isiG sim_isi rfl T.m_isinstance (by rfl) (ga_cons (g_var 0) (ga_cons (g_ty T.m_tuple (by rfl)) ga_nil))) (g_callB call_isiG sim_isi rfl T.m_isinstance (by rfl) (ga_cons (g_var 1) (ga_cons (g_ty T.m_tuple (by rfl)) ga_nil))) (nomark _)))))
    (gs_one (g_ret g_bl))
    gs_nil)
    (gs_one (g_ret (g_and (g_cmp (op_eqX (hu_w hr)) sim_eqX (g_callB call_lenDX sim_lenDX rfl T.m_len (by rfl) (ga_cons (g_var 0) ga_nil)) (g_callB call_lenDX sim_lenDX rfl T.m_len (by rfl) (ga_cons (g_var 1) ga_nil)) (nomark _)) (g_one (g_callB (cr_all rfl) sim_all rfl T.m_all (by rfl) (ga_cons (g_lc false (own := [("one", 2), ("other", 3)]) (t := (.t [2, 3])) (W0 := fun _ _ _ _ => False) rfl sc__law_same.nd (gi_zip T.m_zip (ga_cons (g_var 0) (ga_cons (g_var 1) ga_nil))) (blkOk_by (N := ["found", "due", "one", "other"]) (sc := defScope s__law_same) (by decide +kernel)) (fun _ _ _ _ _ => (hg_tup rfl (pgs_cons (pg_nameS 2 sc__law_same.nd) (pgs_cons (pg_nameS 3 sc__law_same.nd) pgs_nil)))) (fun _ _ _ _ _ => gts_nil) (fun _ _ _ _ _ => (g_cal Rr takes0 hr (ga_cons (g_var 2) (ga_cons (g_var 3) ga_nil)) (by omega)))) ga_nil)))))))
    gs_nil)
    (gs_cons (g_ifS (PW.pt (gw_or (gt_cmp op_isX sim_is (g_var 1) g_non (nomark _)) (gw_or1 (gt_truth (g_callB call_isiG sim_isi rfl T.m_isinstance (by rfl) (ga_cons (g_var 1) (ga_cons (g_ty T.m_str (by rfl)) ga_nil)))))))
    (gs_one (g_ret (g_and (g_cmp (op_eqX (hu_w hr)) sim_eqX (g_var 0) (g_var 1) (nomark _)) (g_one (g_cmp (op_eqX (hu_w hr)) sim_eqX (g_callB call_isiG sim_isi rfl T.m_isinstance (by rfl) (ga_cons (g_var 0) (ga_cons (g_ty T.m_str (by rfl)) ga_nil))) (g_callB call_isiG sim_isi rfl T.m_isinstance (by rfl) (ga_cons (g_var 1) (ga_cons (g_ty T.m_str (by rfl)) ga_nil))) (nomark _))))))
    gs_nil)
    (gs_cons (g_ifS (gt_truth (g_callB call_isiG sim_isi rfl T.m_isinstance (by rfl) (ga_cons (g_var 1) (ga_cons (g_ty T.m_bool (by rfl)) ga_nil))))
    (gs_one (g_ret (g_and (g_callB call_isiG sim_isi rfl T.m_isinstance (by rfl) (ga_cons (g_var 0) (ga_cons (g_ty T.m_bool (by rfl)) ga_nil))) (g_one (g_cmp (op_eqX (hu_w hr)) sim_eqX (g_var 0) (g_var 1) (nomark _))))))
    gs_nil)
    (gs_one (g_ret (g_and (g_callB call_isiG sim_isi rfl T.m_isinstance (by rfl) (ga_cons (g_var 0) (ga_cons (g_ty T.m_int (by rfl)) ga_nil))) (g_and (g_not (g_callB call_isiG sim_isi rfl T.m_isinstance (by rfl) (ga_cons (g_var 0) (ga_cons (g_ty T.m_bool (by rfl)) ga_nil)))) (g_one (g_cmp (op_eqX (hu_w hr)) sim_eqX (g_var 0) (g_var 1) (nomark _)))))))))), h1, F.kp, F.binds fun _ _ _ _ _ _ us hl => match us, hl with | [_, _], _ => rfl⟩
noncomputable def φ__law_same : Fn := φn__law_same 8
theorem c__law_same {P : Program} {w : World} {K : PySem.W.Frag} {mg : Str → Option Value} {base : Heap} (T : Txt K mg) : Cal P w K mg base 9 "_law_same" ["found", "due"] φ__law_same := by
  have : ∀ n : Nat, ∀ {base : Heap}, Cal P w K mg base (1 + n) "_law_same" ["found", "due"] (φn__law_same n) := fun n => by
    induction n with
    | zero => exact fun {base} => c0__law_same T
    | succ n ih => exact fun {base} => c1__law_same T ih
  exact this 8
theorem sc_Keeper_wide_now : FnScope ["self", "key", "names", "values", "ways", "order", "rows", "number"] ["self"] (defScope s_Keeper_wide_now) := ⟨rfl, rfl, rfl, by decide +kernel, rfl, by decide +kernel, by decide +kernel⟩
noncomputable def b_Keeper_wide_now : CS := (seqC (asgC (fldC "Keeper" "told" (varC 0)) (tupG 5 (consG (nameG 1) (consG (nameG 2) (consG (nameG 3) (consG (nameG 4) (consG (nameG 5) nilG)))))))
  (seqC (asgC (apC tupleF (consA (compC false (seqS (apC (sortDF false) (consA (fldC "Keeper" "rows" (varC 0)) nilA))) [7] (.n 7) yesT (op2 itemD (fldC "Keeper" "rows" (varC 0)) (varC 7))) nilA)) (nameG 6))
  (retC (callC φ_folded_by (consA (tupC (consA (op2 itemD (fldC "Keeper" "table" (varC 0)) (cstC (.int 0))) (consA (varC 6) nilA))) (consA (varC 1) (consA (varC 2) (consA (varC 3) (consA (varC 4) (consA (varC 5) nilA))))))))))
noncomputable def φ_Keeper_wide_now : Fn := argF 1 (trimF (runF 8 b_Keeper_wide_now))
theorem ok_Keeper_wide_now {P : Program} {w : World} {K : PySem.W.Frag} {mg : Str → Option Value} {base : Heap} {f : Addr} {fd : FuncData} (T : Txt K mg) (F : Fun K "wide_now" "Keeper.wide_now" s_Keeper_wide_now f fd) : FnOk P w K mg base (L2.CX P w) 7 f fd ["self"] (spOf ⟨K, mg, w⟩ φ_Keeper_wide_now) :=
  def_ok (k := 6) F sc_Keeper_wide_now (keeps_arg keeps_trim) (fun _ _ => argF_len) fun cdv A outer s H E hr tk =>
    (gs_cons (g_asg (g_field T.a_Keeper_told (g_var 0)) (gg_tup rfl (ggs_cons (gg_name 1 sc_Keeper_wide_now.nd) (ggs_cons (gg_name 2 sc_Keeper_wide_now.nd) (ggs_cons (gg_name 3 sc_Keeper_wide_now.nd) (ggs_cons (gg_name 4 sc_Keeper_wide_now.nd) (ggs_cons (gg_name 5 sc_Keeper_wide_now.nd) ggs_nil)))))) (goes_tup (goes_cons (goes_name 1) (goes_cons (goes_name 2) (goes_cons (goes_name 3) (goes_cons (goes_name 4) (goes_cons (goes_name 5) goes_nil)))))))
    (gs_cons (g_set 6 sc_Keeper_wide_now.nd (g_callTy call_tupleF sim_tuple rfl T.m_tuple (by rfl) (ga_cons (g_lc false (own := [("number", 7)]) (t := (.n 7)) (W0 := fun _ _ _ _ => False) rfl sc_Keeper_wide_now.nd (gi_seq (g_callB (call_sortX rfl (hu_w hr)) sim_sortX rfl T.m_sorted (by rfl) (ga_cons (g_field T.a_Keeper_rows (g_var 0)) ga_nil))) (blkOk_by (N := ["self", "key", "names", "values", "ways", "order", "rows", "number"]) (sc := defScope s_Keeper_wide_now) (by decide +kernel)) (fun _ _ _ _ _ => (hg_name 7 sc_Keeper_wide_now.nd)) (fun _ _ _ _ _ => gts_nil) (fun _ _ _ _ _ => (g_ix (ix_item (hu_w hr)) sim_item (g_field T.a_Keeper_rows (g_var 0)) (g_var 7) (fun _ _ => rfl)))) ga_nil)))
    (gs_one (g_ret (g_cal (c_folded_by T) tk hr (ga_cons (g_tup (ga_cons (g_ix (ix_item (hu_w hr)) sim_item (g_field T.a_Keeper_table (g_var 0)) g_int (fun _ _ => rfl)) (ga_cons (g_var 6) ga_nil))) (ga_cons (g_var 1) (ga_cons (g_var 2) (ga_cons (g_var 3) (ga_cons (g_var 4) (ga_cons (g_var 5) ga_nil)))))))))))
theorem c_Keeper_wide_now {P : Program} {w : World} {K : PySem.W.Frag} {mg : Str → Option Value} {base : Heap} (T : Txt K mg) : MCal P w K mg base 7 "Keeper" "wide_now" ["self"] φ_Keeper_wide_now := by
  obtain ⟨C, f, fd, h1, h2, h3, F⟩ := T.d_Keeper_wide_now
  exact ⟨C, f, fd, h1, h2, h3, ok_Keeper_wide_now T F, F.binds fun _ _ _ _ _ _ us hl => match us, hl with | [_], _ => rfl⟩
theorem sc_Keeper_rows_now : FnScope ["self", "number"] ["self"] (defScope s_Keeper_rows_now) := ⟨rfl, rfl, rfl, by decide +kernel, rfl, by decide +kernel, by decide +kernel⟩
noncomputable def b_Keeper_rows_now : CS := (retC (compC false (seqS (apC (sortDF false) (consA (fldC "Keeper" "rows" (varC 0)) nilA))) [1] (.n 1) yesT (tupC (consA (varC 1) (consA (op2 itemD (fldC "Keeper" "rows" (varC 0)) (varC 1)) nilA)))))
noncomputable def φ_Keeper_rows_now : Fn := argF 1 (trimF (runF 2 b_Keeper_rows_now))
theorem ok_Keeper_rows_now {P : Program} {w : World} {K : PySem.W.Frag} {mg : Str → Option Value} {base : Heap} {f : Addr} {fd : FuncData} (T : Txt K mg) (F : Fun K "rows_now" "Keeper.rows_now" s_Keeper_rows_now f fd) : FnOk P w K mg base (L2.CX P w) 2 f fd ["self"] (spOf ⟨K, mg, w⟩ φ_Keeper_rows_now) :=
  def_ok (k := 1) F sc_Keeper_rows_now (keeps_arg keeps_trim) (fun _ _ => argF_len) fun cdv A outer s H E hr tk =>
    (gs_one (g_ret (g_lc false (own := [("number", 1)]) (t := (.n 1)) (W0 := fun _ _ _ _ => False) rfl sc_Keeper_rows_now.nd (gi_seq (g_callB (call_sortX rfl (hu_w hr)) sim_sortX rfl T.m_sorted (by rfl) (ga_cons (g_field T.a_Keeper_rows (g_var 0)) ga_nil))) (blkOk_by (N := ["self", "number"]) (sc := defScope s_Keeper_rows_now) (by decide +kernel)) (fun _ _ _ _ _ => (hg_name 1 sc_Keeper_rows_now.nd)) (fun _ _ _ _ _ => gts_nil) (fun _ _ _ _ _ => (g_tup (ga_cons (g_var 1) (ga_cons (g_ix (ix_item (hu_w hr)) sim_item (g_field T.a_Keeper_rows (g_var 0)) (g_var 1) (fun _ _ => rfl)) ga_nil)))))))
theorem c_Keeper_rows_now {P : Program} {w : World} {K : PySem.W.Frag} {mg : Str → Option Value} {base : Heap} (T : Txt K mg) : MCal P w K mg base 2 "Keeper" "rows_now" ["self"] φ_Keeper_rows_now := by
  obtain ⟨C, f, fd, h1, h2, h3, F⟩ := T.d_Keeper_rows_now
  exact ⟨C, f, fd, h1, h2, h3, ok_Keeper_rows_now T F, F.binds fun _ _ _ _ _ _ us hl => match us, hl with | [_], _ => rfl⟩
theorem sc_Keeper_rows_of : FnScope ["self", "part", "head"] ["self", "part", "head"] (defScope s_Keeper_rows_of) := ⟨rfl, rfl, rfl, by decide +kernel, rfl, by decide +kernel, by decide +kernel⟩
noncomputable def b_Keeper_rows_of : CS := (retC (apC tupleF (consA (mthC "dict" dgetM (fldC "Keeper" "by_place" (varC 0)) (consA (tupC (consA (apC tupleF (consA (varC 1) nilA)) (consA (apC tupleF (consA (varC 2) nilA)) nilA))) (consA (lstC false nilA) nilA))) nilA)))
noncomputable def φ_Keeper_rows_of : Fn := argF 3 (trimF (runF 3 b_Keeper_rows_of))
theorem ok_Keeper_rows_of {P : Program} {w : World} {K : PySem.W.Frag} {mg : Str → Option Value} {base : Heap} {f : Addr} {fd : FuncData} (T : Txt K mg) (F : Fun K "rows_of" "Keeper.rows_of" s_Keeper_rows_of f fd) : FnOk P w K mg base (L2.CX P w) 2 f fd ["self", "part", "head"] (spOf ⟨K, mg, w⟩ φ_Keeper_rows_of) :=
  def_ok (k := 1) F sc_Keeper_rows_of (keeps_arg keeps_trim) (fun _ _ => argF_len) fun cdv A outer s H E hr tk =>
    (gs_one (g_ret (g_callTy call_tupleF sim_tuple rfl T.m_tuple (by rfl) (ga_cons (g_mth PySem.F.plainAttrs_dict PySem.F.slot_dict_get PySem.F.type_dict_get (mt_dget (hu_w hr)) sim_dget (g_field T.a_Keeper_by_place (g_var 0)) (ga_cons (g_tup (ga_cons (g_callTy call_tupleF sim_tuple rfl T.m_tuple (by rfl) (ga_cons (g_var 1) ga_nil)) (ga_cons (g_callTy call_tupleF sim_tuple rfl T.m_tuple (by rfl) (ga_cons (g_var 2) ga_nil)) ga_nil))) (ga_cons (g_lst false ga_nil) ga_nil)) (by decide) (by decide)) ga_nil))))
theorem c_Keeper_rows_of {P : Program} {w : World} {K : PySem.W.Frag} {mg : Str → Option Value} {base : Heap} (T : Txt K mg) : MCal P w K mg base 2 "Keeper" "rows_of" ["self", "part", "head"] φ_Keeper_rows_of := by
  obtain ⟨C, f, fd, h1, h2, h3, F⟩ := T.d_Keeper_rows_of
  exact ⟨C, f, fd, h1, h2, h3, ok_Keeper_rows_of T F, F.binds fun _ _ _ _ _ _ us hl => match us, hl with | [_, _, _], _ => rfl⟩
theorem sc__law_cell_of : FnScope ["rows", "part", "head", "own", "number", "row"] ["rows", "part", "head"] (defScope s__law_cell_of) := ⟨rfl, rfl, rfl, by decide +kernel, rfl, by decide +kernel, by decide +kernel⟩
noncomputable def b__law_cell_of : CS := (seqC (asgC (compC false (seqS (sortItC false (varC 0))) [4, 5] (.t [4, 5]) (asB (op2 (eqX false) (slC false (varC 5) noO (someO (cstC (.int 2)))) (tupC (consA (varC 1) (consA (varC 2) nilA))))) (op2 itemD (varC 5) (cstC (.int 2)))) (nameG 3))
  (retC (ifC (asB (op2 (eqX true) (varC 3) (lstC false nilA))) (tupC (consA (apC sumF (consA (varC 3) nilA)) (consA (apC lenDF (consA (varC 3) nilA)) nilA))) (cstC .non))))
noncomputable def φ__law_cell_of : Fn := argF 3 (trimF (runF 6 b__law_cell_of))
theorem ok__law_cell_of {P : Program} {w : World} {K : PySem.W.Frag} {mg : Str → Option Value} {base : Heap} {f : Addr} {fd : FuncData} (T : Txt K mg) (F : Fun K "_law_cell_of" "_law_cell_of" s__law_cell_of f fd) : FnOk P w K mg base (L2.CX P w) 2 f fd ["rows", "part", "head"] (spOf ⟨K, mg, w⟩ φ__law_cell_of) :=
  def_ok (k := 1) F sc__law_cell_of (keeps_arg keeps_trim) (fun _ _ => argF_len) fun cdv A outer s H E hr tk =>
    (gs_cons (g_setLc false 3 (own := [("number", 4), ("row", 5)]) (t := (.t [4, 5])) (W0 := fun _ _ _ _ => False) rfl sc__law_cell_of.nd (gi_seq (g_sortIt false rfl (hu_w hr) (g_var 0) T.m_sorted)) (blkOk_by (N := ["rows", "part", "head", "own", "number", "row"]) (sc := defScope s__law_cell_of) (by decide +kernel)) (fun _ _ _ _ _ => (hg_tup rfl (pgs_cons (pg_nameS 4 sc__law_cell_of.nd) (pgs_cons (pg_nameS 5 sc__law_cell_of.nd) pgs_nil)))) (fun _ _ _ _ _ => (gts_one (gt_cmp (op_eqX (hu_w hr)) sim_eqX (g_slice false (g_var 5) go_none (go_some g_int)) (g_tup (ga_cons (g_var 1) (ga_cons (g_var 2) ga_nil))) (nomark _)))) (fun _ _ _ _ _ => (g_ix (ix_item (hu_w hr)) sim_item (g_var 5) g_int (fun _ _ => rfl))))
    (gs_one (g_ret (g_if (gt_cmp (op_neX (hu_w hr)) sim_neX (g_var 3) (g_lst false ga_nil) (nomark _)) (g_tup (ga_cons (g_callB (cr_sum rfl) sim_sum rfl T.m_sum (by rfl) (ga_cons (g_var 3) ga_nil)) (ga_cons (g_callB call_lenDX sim_lenDX rfl T.m_len (by rfl) (ga_cons (g_var 3) ga_nil)) ga_nil))) g_non))))
theorem c__law_cell_of {P : Program} {w : World} {K : PySem.W.Frag} {mg : Str → Option Value} {base : Heap} (T : Txt K mg) : Cal P w K mg base 2 "_law_cell_of" ["rows", "part", "head"] φ__law_cell_of := by
  obtain ⟨f, fd, h1, F⟩ := T.d__law_cell_of
  exact ⟨f, fd, ok__law_cell_of T F, h1, F.kp, F.binds fun _ _ _ _ _ _ us hl => match us, hl with | [_, _, _], _ => rfl⟩
theorem sc__law_stands : FnScope ["keeper", "rows", "parts", "heads", "number", "row", "made", "part", "head", "due"] ["keeper", "rows"] (defScope s__law_stands) := ⟨rfl, rfl, rfl, by decide +kernel, rfl, by decide +kernel, by decide +kernel⟩
noncomputable def b__law_stands : CS := (seqC (ifS (notT (asT (callC φ__law_same (consA (methC "Keeper" "rows_now" φ_Keeper_rows_now (varC 0) nilA) (consA (compC false (seqS (sortItC false (varC 1))) [4, 5] (.t [4, 5]) yesT (tupC (consA (varC 4) (consA (op2 (addD false) (varC 5) (tupC (consA (op2 itemD (varC 5) (cstC (.int 2))) nilA))) nilA)))) nilA)))))
  (retC (cstC (.bl false)))
  skipC)
  (seqC (parC 2 3 (consA (lstC false nilA) (consA (lstC false nilA) nilA)))
  (seqC (forC (seqS (sortItC false (varC 1))) (tupG 2 (consG (nameG 4) (consG (nameG 5) nilG)))
  (seqC (asgC (op2 (addD false) (varC 2) (op2 (mulD false) (lstC false (consA (op2 itemD (varC 5) (cstC (.int 0))) nilA)) (apC intF (consA (op2 (containsD true) (op2 itemD (varC 5) (cstC (.int 0))) (varC 2)) nilA)))) (nameG 2))
  (asgC (op2 (addD false) (varC 3) (op2 (mulD false) (lstC false (consA (op2 itemD (varC 5) (cstC (.int 1))) nilA)) (apC intF (consA (op2 (containsD true) (op2 itemD (varC 5) (cstC (.int 1))) (varC 3)) nilA)))) (nameG 3))))
  (seqC (asgC (lstC true nilA) (nameG 6))
  (seqC (forC (seqS (varC 2)) (nameG 7)
  (seqC (exprC (mthC "list" appendM (varC 6) (consA (tupC (consA (tupC (consA (varC 7) nilA)) (consA (apC tupleF (consA (compC false (seqS (varC 3)) [8] (.n 8) yesT (callC φ__law_cell_of (consA (varC 1) (consA (varC 7) (consA (varC 8) nilA))))) nilA)) nilA))) nilA)))
  (forC (seqS (varC 3)) (nameG 8)
  (seqC (asgC (apC tupleF (consA (compC false (seqS (sortItC false (varC 1))) [4, 5] (.t [4, 5]) (asB (op2 (eqX false) (slC false (varC 5) noO (someO (cstC (.int 2)))) (tupC (consA (varC 7) (consA (varC 8) nilA))))) (varC 4)) nilA)) (nameG 9))
  (ifS (asB (op2 (eqX true) (methC "Keeper" "rows_of" φ_Keeper_rows_of (varC 0) (consA (tupC (consA (varC 7) nilA)) (consA (tupC (consA (varC 8) nilA)) nilA))) (varC 9)))
  (retC (cstC (.bl false)))
  skipC)))))
  (seqC (asgC (tupC (consA (tupC (consA (cstC (.str "a")) nilA)) (consA (tupC (consA (cstC (.str "b")) nilA)) (consA (tupC (consA (cstC (.str "c")) (consA (cstC (.str "d")) nilA))) (consA (apC tupleF (consA (compC false (seqS (varC 3)) [8] (.n 8) yesT (tupC (consA (varC 8) nilA))) nilA)) (consA (apC tupleF (consA (varC 6) nilA)) nilA)))))) (nameG 9))
  (retC (callC φ__law_same (consA (methC "Keeper" "wide_now" φ_Keeper_wide_now (varC 0) nilA) (consA (varC 9) nilA))))))))))
noncomputable def φ__law_stands : Fn := argF 2 (trimF (runF 10 b__law_stands))
theorem ok__law_stands {P : Program} {w : World} {K : PySem.W.Frag} {mg : Str → Option Value} {base : Heap} {f : Addr} {fd : FuncData} (T : Txt K mg) (F : Fun K "_law_stands" "_law_stands" s__law_stands f fd) : FnOk P w K mg base (L2.CX P w) 10 f fd ["keeper", "rows"] (spOf ⟨K, mg, w⟩ φ__law_stands) :=
  def_ok (k := 9) F sc__law_stands (keeps_arg keeps_trim) (fun _ _ => argF_len) fun cdv A outer s H E hr tk =>
    (gs_cons (g_ifS (gt_not (gt_truth (g_cal (c__law_same T) tk hr (ga_cons (g_mcal0 (c_Keeper_rows_now T) tk hr (g_var 0)) (ga_cons (g_lc false (own := [("number", 4), ("row", 5)]) (t := (.t [4, 5])) (W0 := fun _ _ _ _ => False) rfl sc__law_stands.nd (gi_seq (g_sortIt false rfl (hu_w hr) (g_var 1) T.m_sorted)) (blkOk_by (N := ["keeper", "rows", "parts", "heads", "number", "row", "made", "part", "head", "due"]) (sc := defScope s__law_stands) (by decide +kernel)) (fun _ _ _ _ _ => (hg_tup rfl (pgs_cons (pg_nameS 4 sc__law_stands.nd) (pgs_cons (pg_nameS 5 sc__law_stands.nd) pgs_nil)))) (fun _ _ _ _ _ => gts_nil) (fun _ _ _ _ _ => (g_tup (ga_cons (g_var 4) (ga_cons (g_op op_addX sim_add (g_var 5) (g_tup (ga_cons (g_ix (ix_item (hu_w hr)) sim_item (g_var 5) g_int (fun _ _ => rfl)) ga_nil))) ga_nil))))) ga_nil)))))
    (gs_one (g_ret g_bl))
    gs_nil)
    (gs_cons (g_par 2 3 rfl sc__law_stands.nd (ga_cons (g_lst false ga_nil) (ga_cons (g_lst false ga_nil) ga_nil)))
    (gs_cons (g_for (passes_of rfl) rfl (gi_seq (g_sortIt false rfl (hu_w hr) (g_var 1) T.m_sorted)) (gg_tup rfl (ggs_cons (gg_name 4 sc__law_stands.nd) (ggs_cons (gg_name 5 sc__law_stands.nd) ggs_nil))) (goes_tup (goes_cons (goes_name 4) (goes_cons (goes_name 5) goes_nil)))
    (gs_cons (g_set 2 sc__law_stands.nd (g_op op_addX sim_add (g_var 2) (g_op op_mulX sim_mul (g_lst false (ga_cons (g_ix (ix_item (hu_w hr)) sim_item (g_var 5) g_int (fun _ _ => rfl)) ga_nil)) (g_callTy call_intX sim_int rfl T.m_int (by rfl) (ga_cons (g_cmp (op_notinDct (hu_w hr)) sim_contains (g_ix (ix_item (hu_w hr)) sim_item (g_var 5) g_int (fun _ _ => rfl)) (g_var 2) (by rfl)) ga_nil)))))
    (gs_one (g_set 3 sc__law_stands.nd (g_op op_addX sim_add (g_var 3) (g_op op_mulX sim_mul (g_lst false (ga_cons (g_ix (ix_item (hu_w hr)) sim_item (g_var 5) g_int (fun _ _ => rfl)) ga_nil)) (g_callTy call_intX sim_int rfl T.m_int (by rfl) (ga_cons (g_cmp (op_notinDct (hu_w hr)) sim_contains (g_ix (ix_item (hu_w hr)) sim_item (g_var 5) g_int (fun _ _ => rfl)) (g_var 3) (by rfl)) ga_nil))))))))
    (gs_cons (g_set 6 sc__law_stands.nd (g_lst true ga_nil))
    (gs_cons (g_for (passes_of rfl) rfl (gi_seq (g_var 2)) (gg_name 7 sc__law_stands.nd) (goes_name 7)
    (gs_cons (g_expr (g_mth PySem.F.plainAttrs_list PySem.F.slot_list_append PySem.F.type_list_append mt_append sim_append (g_var 6) (ga_cons (g_tup (ga_cons (g_tup (ga_cons (g_var 7) ga_nil)) (ga_cons (g_callTy call_tupleF sim_tuple rfl T.m_tuple (by rfl) (ga_cons (g_lc false (own := [("head", 8)]) (t := (.n 8)) (W0 := fun _ _ _ _ => False) rfl sc__law_stands.nd (gi_seq (g_var 3)) (blkOk_by (N := ["keeper", "rows", "parts", "heads", "number", "row", "made", "part", "head", "due"]) (sc := defScope s__law_stands) (by decide +kernel)) (fun _ _ _ _ _ => (hg_name 8 sc__law_stands.nd)) (fun _ _ _ _ _ => gts_nil) (fun _ _ _ _ _ => (g_cal (c__law_cell_of T) takes0 hr (ga_cons (g_var 1) (ga_cons (g_var 7) (ga_cons (g_var 8) ga_nil)))))) ga_nil)) ga_nil))) ga_nil) (by decide) (by decide)))
    (gs_one (g_for (passes_of rfl) rfl (gi_seq (g_var 3)) (gg_name 8 sc__law_stands.nd) (goes_name 8)
    (gs_cons (g_set 9 sc__law_stands.nd (g_callTy call_tupleF sim_tuple rfl T.m_tuple (by rfl) (ga_cons (g_lc false (own := [("number", 4), ("row", 5)]) (t := (.t [4, 5])) (W0 := fun _ _ _ _ => False) rfl sc__law_stands.nd (gi_seq (g_sortIt false rfl (hu_w hr) (g_var 1) T.m_sorted)) (blkOk_by (N := ["keeper", "rows", "parts", "heads", "number", "row", "made", "part", "head", "due"]) (sc := defScope s__law_stands) (by decide +kernel)) (fun _ _ _ _ _ => (hg_tup rfl (pgs_cons (pg_nameS 4 sc__law_stands.nd) (pgs_cons (pg_nameS 5 sc__law_stands.nd) pgs_nil)))) (fun _ _ _ _ _ => (gts_one (gt_cmp (op_eqX (hu_w hr)) sim_eqX (g_slice false (g_var 5) go_none (go_some g_int)) (g_tup (ga_cons (g_var 7) (ga_cons (g_var 8) ga_nil))) (nomark _)))) (fun _ _ _ _ _ => (g_var 4))) ga_nil)))
    (gs_one (g_ifS (gt_cmp (op_neX (hu_w hr)) sim_neX (g_mcal (c_Keeper_rows_of T) tk hr (g_var 0) (ga_cons (g_tup (ga_cons (g_var 7) ga_nil)) (ga_cons (g_tup (ga_cons (g_var 8) ga_nil)) ga_nil))) (g_var 9) (nomark _))
    (gs_one (g_ret g_bl))
    gs_nil)))))))
    (gs_cons (g_set 9 sc__law_stands.nd (g_tup (ga_cons (g_tup (ga_cons g_str ga_nil)) (ga_cons (g_tup (ga_cons g_str ga_nil)) (ga_cons (g_tup (ga_cons g_str (ga_cons g_str ga_nil))) (ga_cons (g_callTy call_tupleF sim_tuple rfl T.m_tuple (by rfl) (ga_cons (g_lc false (own := [("head", 8)]) (t := (.n 8)) (W0 := fun _ _ _ _ => False) rfl sc__law_stands.nd (gi_seq (g_var 3)) (blkOk_by (N := ["keeper", "rows", "parts", "heads", "number", "row", "made", "part", "head", "due"]) (sc := defScope s__law_stands) (by decide +kernel)) (fun _ _ _ _ _ => (hg_name 8 sc__law_stands.nd)) (fun _ _ _ _ _ => gts_nil) (fun _ _ _ _ _ => (g_tup (ga_cons (g_var 8) ga_nil)))) ga_nil)) (ga_cons (g_callTy call_tupleF sim_tuple rfl T.m_tuple (by rfl) (ga_cons (g_var 6) ga_nil)) ga_nil)))))))
    (gs_one (g_ret (g_cal (c__law_same T) tk hr (ga_cons (g_mcal0 (c_Keeper_wide_now T) tk hr (g_var 0)) (ga_cons (g_var 9) ga_nil)))))))))))
theorem c__law_stands {P : Program} {w : World} {K : PySem.W.Frag} {mg : Str → Option Value} {base : Heap} (T : Txt K mg) : Cal P w K mg base 10 "_law_stands" ["keeper", "rows"] φ__law_stands := by
  obtain ⟨f, fd, h1, F⟩ := T.d__law_stands
  exact ⟨f, fd, ok__law_stands T F, h1, F.kp, F.binds fun _ _ _ _ _ _ us hl => match us, hl with | [_, _], _ => rfl⟩
theorem sc_Keeper_place_of : FnScope ["self", "row"] ["self", "row"] (defScope s_Keeper_place_of) := ⟨rfl, rfl, rfl, by decide +kernel, rfl, by decide +kernel, by decide +kernel⟩
noncomputable def b_Keeper_place_of : CS := (retC (tupC (consA (callC φ_at_places (consA (varC 1) (consA (op2 itemD (fldC "Keeper" "places" (varC 0)) (cstC (.int 0))) nilA))) (consA (callC φ_at_places (consA (varC 1) (consA (op2 itemD (fldC "Keeper" "places" (varC 0)) (cstC (.int 1))) nilA))) nilA))))
noncomputable def φ_Keeper_place_of : Fn := argF 2 (trimF (runF 2 b_Keeper_place_of))
theorem ok_Keeper_place_of {P : Program} {w : World} {K : PySem.W.Frag} {mg : Str → Option Value} {base : Heap} {f : Addr} {fd : FuncData} (T : Txt K mg) (F : Fun K "place_of" "Keeper.place_of" s_Keeper_place_of f fd) : FnOk P w K mg base (L2.CX P w) 3 f fd ["self", "row"] (spOf ⟨K, mg, w⟩ φ_Keeper_place_of) :=
  def_ok (k := 2) F sc_Keeper_place_of (keeps_arg keeps_trim) (fun _ _ => argF_len) fun cdv A outer s H E hr tk =>
    (gs_one (g_ret (g_tup (ga_cons (g_cal (c_at_places T) tk hr (ga_cons (g_var 1) (ga_cons (g_ix (ix_item (hu_w hr)) sim_item (g_field T.a_Keeper_places (g_var 0)) g_int (fun _ _ => rfl)) ga_nil))) (ga_cons (g_cal (c_at_places T) tk hr (ga_cons (g_var 1) (ga_cons (g_ix (ix_item (hu_w hr)) sim_item (g_field T.a_Keeper_places (g_var 0)) g_int (fun _ _ => rfl)) ga_nil))) ga_nil)))))
theorem c_Keeper_place_of {P : Program} {w : World} {K : PySem.W.Frag} {mg : Str → Option Value} {base : Heap} (T : Txt K mg) : MCal P w K mg base 3 "Keeper" "place_of" ["self", "row"] φ_Keeper_place_of := by
  obtain ⟨C, f, fd, h1, h2, h3, F⟩ := T.d_Keeper_place_of
  exact ⟨C, f, fd, h1, h2, h3, ok_Keeper_place_of T F, F.binds fun _ _ _ _ _ _ us hl => match us, hl with | [_, _], _ => rfl⟩
theorem sc_Keeper_cell_of : FnScope ["self", "numbers", "found", "place", "way", "number"] ["self", "numbers"] (defScope s_Keeper_cell_of) := ⟨rfl, rfl, rfl, by decide +kernel, rfl, by decide +kernel, by decide +kernel⟩
noncomputable def b_Keeper_cell_of : CS := (seqC (ifS (asB (op2 (eqX false) (apC lenDF (consA (varC 1) nilA)) (cstC (.int 0))))
  (retC (cstC .non))
  skipC)
  (seqC (asgC (lstC true nilA) (nameG 2))
  (seqC (forC (zipS (consA (op2 itemD (fldC "Keeper" "places" (varC 0)) (cstC (.int 2))) (consA (op2 itemD (fldC "Keeper" "told" (varC 0)) (cstC (.int 3))) nilA))) (tupG 2 (consG (nameG 3) (consG (nameG 4) nilG)))
  (exprC (mthC "list" appendM (varC 2) (consA (callC φ_put_together (consA (compC false (seqS (varC 1)) [5] (.n 5) yesT (op2 itemD (op2 itemD (fldC "Keeper" "rows" (varC 0)) (varC 5)) (varC 3))) (consA (varC 4) nilA))) nilA))))
  (retC (apC tupleF (consA (varC 2) nilA))))))
noncomputable def φ_Keeper_cell_of : Fn := argF 2 (trimF (runF 6 b_Keeper_cell_of))
theorem ok_Keeper_cell_of {P : Program} {w : World} {K : PySem.W.Frag} {mg : Str → Option Value} {base : Heap} {f : Addr} {fd : FuncData} (T : Txt K mg) (F : Fun K "cell_of" "Keeper.cell_of" s_Keeper_cell_of f fd) : FnOk P w K mg base (L2.CX P w) 5 f fd ["self", "numbers"] (spOf ⟨K, mg, w⟩ φ_Keeper_cell_of) :=
  def_ok (k := 4) F sc_Keeper_cell_of (keeps_arg keeps_trim) (fun _ _ => argF_len) fun cdv A outer s H E hr tk =>
    (gs_cons (g_ifS (gt_cmp (op_eqX (hu_w hr)) sim_eqX (g_callB call_lenDX sim_lenDX rfl T.m_len (by rfl) (ga_cons (g_var 1) ga_nil)) g_int (nomark _))
    (gs_one (g_ret g_non))
    gs_nil)
    (gs_cons (g_set 2 sc_Keeper_cell_of.nd (g_lst true ga_nil))
    (gs_cons (g_for (passes_of rfl) rfl (gi_zip T.m_zip (ga_cons (g_ix (ix_item (hu_w hr)) sim_item (g_field T.a_Keeper_places (g_var 0)) g_int (fun _ _ => rfl)) (ga_cons (g_ix (ix_item (hu_w hr)) sim_item (g_field T.a_Keeper_told (g_var 0)) g_int (fun _ _ => rfl)) ga_nil))) (gg_tup rfl (ggs_cons (gg_name 3 sc_Keeper_cell_of.nd) (ggs_cons (gg_name 4 sc_Keeper_cell_of.nd) ggs_nil))) (goes_tup (goes_cons (goes_name 3) (goes_cons (goes_name 4) goes_nil)))
    (gs_one (g_expr (g_mth PySem.F.plainAttrs_list PySem.F.slot_list_append PySem.F.type_list_append mt_append sim_append (g_var 2) (ga_cons (g_cal (c_put_together T) tk hr (ga_cons (g_lc false (own := [("number", 5)]) (t := (.n 5)) (W0 := fun _ _ _ _ => False) rfl sc_Keeper_cell_of.nd (gi_seq (g_var 1)) (blkOk_by (N := ["self", "numbers", "found", "place", "way", "number"]) (sc := defScope s_Keeper_cell_of) (by decide +kernel)) (fun _ _ _ _ _ => (hg_name 5 sc_Keeper_cell_of.nd)) (fun _ _ _ _ _ => gts_nil) (fun _ _ _ _ _ => (g_ix (ix_item (hu_w hr)) sim_item (g_ix (ix_item (hu_w hr)) sim_item (g_field T.a_Keeper_rows (g_var 0)) (g_var 5) (fun _ _ => rfl)) (g_var 3) (fun _ _ => rfl)))) (ga_cons (g_var 4) ga_nil))) ga_nil) (by decide) (by decide)))))
    (gs_one (g_ret (g_callTy call_tupleF sim_tuple rfl T.m_tuple (by rfl) (ga_cons (g_var 2) ga_nil)))))))
theorem c_Keeper_cell_of {P : Program} {w : World} {K : PySem.W.Frag} {mg : Str → Option Value} {base : Heap} (T : Txt K mg) : MCal P w K mg base 5 "Keeper" "cell_of" ["self", "numbers"] φ_Keeper_cell_of := by
  obtain ⟨C, f, fd, h1, h2, h3, F⟩ := T.d_Keeper_cell_of
  exact ⟨C, f, fd, h1, h2, h3, ok_Keeper_cell_of T F, F.binds fun _ _ _ _ _ _ us hl => match us, hl with | [_, _], _ => rfl⟩
theorem sc_Keeper_found_anew : FnScope ["self", "place", "numbers", "old", "new"] ["self", "place"] (defScope s_Keeper_found_anew) := ⟨rfl, rfl, rfl, by decide +kernel, rfl, by decide +kernel, by decide +kernel⟩
noncomputable def b_Keeper_found_anew : CS := (seqC (asgC (mthC "dict" dgetM (fldC "Keeper" "by_place" (varC 0)) (consA (varC 1) (consA (lstC false nilA) nilA))) (nameG 2))
  (seqC (asgC (mthC "dict" dpopM (fldC "Keeper" "cells" (varC 0)) (consA (varC 1) (consA (cstC .non) nilA))) (nameG 3))
  (seqC (asgC (methC "Keeper" "cell_of" φ_Keeper_cell_of (varC 0) (consA (varC 2) nilA)) (nameG 4))
  (seqC (ifS (asB (op2 (isD false) (varC 4) (cstC .non)))
  (exprC (mthC "dict" dpopM (fldC "Keeper" "by_place" (varC 0)) (consA (varC 1) (consA (cstC .non) nilA))))
  (asgC (varC 4) (subG (fldC "Keeper" "cells" (varC 0)) (varC 1))))
  (retC (ifC (asB (op2 (eqX false) (varC 3) (varC 4))) (lstC false nilA) (lstC false (consA (op2 (addD false) (varC 1) (tupC (consA (varC 3) (consA (varC 4) nilA)))) nilA))))))))
noncomputable def φ_Keeper_found_anew : Fn := argF 2 (runF 5 b_Keeper_found_anew)
theorem ok_Keeper_found_anew {P : Program} {w : World} {K : PySem.W.Frag} {mg : Str → Option Value} {base : Heap} {f : Addr} {fd : FuncData} (T : Txt K mg) (F : Fun K "found_anew" "Keeper.found_anew" s_Keeper_found_anew f fd) : FnOk P w K mg base (L2.CX P w) 6 f fd ["self", "place"] (spOf ⟨K, mg, w⟩ φ_Keeper_found_anew) :=
  def_ok (k := 5) F sc_Keeper_found_anew (keeps_arg Keeps.self) (fun _ _ => argF_len) fun cdv A outer s H E hr tk =>
    (gs_cons (g_set 2 sc_Keeper_found_anew.nd (g_mth PySem.F.plainAttrs_dict PySem.F.slot_dict_get PySem.F.type_dict_get (mt_dget (hu_w hr)) sim_dget (g_field T.a_Keeper_by_place (g_var 0)) (ga_cons (g_var 1) (ga_cons (g_lst false ga_nil) ga_nil)) (by decide) (by decide)))
    (gs_cons (g_set 3 sc_Keeper_found_anew.nd (g_mth PySem.F.plainAttrs_dict PySem.F.slot_dict_pop PySem.F.type_dict_pop (mt_dpop (hu_w hr)) sim_dpop (g_field T.a_Keeper_cells (g_var 0)) (ga_cons (g_var 1) (ga_cons g_non ga_nil)) (by decide) (by decide)))
    (gs_cons (g_set 4 sc_Keeper_found_anew.nd (g_mcal (c_Keeper_cell_of T) tk hr (g_var 0) (ga_cons (g_var 2) ga_nil)))
    (gs_cons (g_ifS (gt_cmp op_isX sim_is (g_var 4) g_non (nomark _))
    (gs_one (g_expr (g_mth PySem.F.plainAttrs_dict PySem.F.slot_dict_pop PySem.F.type_dict_pop (mt_dpop (hu_w hr)) sim_dpop (g_field T.a_Keeper_by_place (g_var 0)) (ga_cons (g_var 1) (ga_cons g_non ga_nil)) (by decide) (by decide))))
    (gs_one (g_asg (g_var 4) (gg_sub (hu_w hr) (g_field T.a_Keeper_cells (g_var 0)) (g_var 1)) goes_sub)))
    (gs_one (g_ret (g_if (gt_cmp (op_eqX (hu_w hr)) sim_eqX (g_var 3) (g_var 4) (nomark _)) (g_lst false ga_nil) (g_lst false (ga_cons (g_op op_addX sim_add (g_var 1) (g_tup (ga_cons (g_var 3) (ga_cons (g_var 4) ga_nil)))) ga_nil)))))))))
theorem c_Keeper_found_anew {P : Program} {w : World} {K : PySem.W.Frag} {mg : Str → Option Value} {base : Heap} (T : Txt K mg) : MCal P w K mg base 6 "Keeper" "found_anew" ["self", "place"] φ_Keeper_found_anew := by
  obtain ⟨C, f, fd, h1, h2, h3, F⟩ := T.d_Keeper_found_anew
  exact ⟨C, f, fd, h1, h2, h3, ok_Keeper_found_anew T F, F.binds fun _ _ _ _ _ _ us hl => match us, hl with | [_, _], _ => rfl⟩
theorem sc_Keeper_put_at : FnScope ["self", "number", "row", "place"] ["self", "number", "row"] (defScope s_Keeper_put_at) := ⟨rfl, rfl, rfl, by decide +kernel, rfl, by decide +kernel, by decide +kernel⟩
noncomputable def b_Keeper_put_at : CS := (seqC (asgC (varC 2) (subG (fldC "Keeper" "rows" (varC 0)) (varC 1)))
  (seqC (asgC (methC "Keeper" "place_of" φ_Keeper_place_of (varC 0) (consA (varC 2) nilA)) (nameG 3))
  (seqC (asgC (apC (sortDF true) (consA (op2 (addD false) (mthC "dict" dgetM (fldC "Keeper" "by_place" (varC 0)) (consA (varC 3) (consA (lstC false nilA) nilA))) (lstC false (consA (varC 1) nilA))) nilA)) (subG (fldC "Keeper" "by_place" (varC 0)) (varC 3)))
  (retC (methC "Keeper" "found_anew" φ_Keeper_found_anew (varC 0) (consA (varC 3) nilA))))))
noncomputable def φ_Keeper_put_at : Fn := argF 3 (runF 4 b_Keeper_put_at)
theorem ok_Keeper_put_at {P : Program} {w : World} {K : PySem.W.Frag} {mg : Str → Option Value} {base : Heap} {f : Addr} {fd : FuncData} (T : Txt K mg) (F : Fun K "put_at" "Keeper.put_at" s_Keeper_put_at f fd) : FnOk P w K mg base (L2.CX P w) 7 f fd ["self", "number", "row"] (spOf ⟨K, mg, w⟩ φ_Keeper_put_at) :=
  def_ok (k := 6) F sc_Keeper_put_at (keeps_arg Keeps.self) (fun _ _ => argF_len) fun cdv A outer s H E hr tk =>
    (gs_cons (g_asg (g_var 2) (gg_sub (hu_w hr) (g_field T.a_Keeper_rows (g_var 0)) (g_var 1)) goes_sub)
    (gs_cons (g_set 3 sc_Keeper_put_at.nd (g_mcal (c_Keeper_place_of T) tk hr (g_var 0) (ga_cons (g_var 2) ga_nil)))
    (gs_cons (g_asg (g_callB (call_sortX rfl (hu_w hr)) sim_sortX rfl T.m_sorted (by rfl) (ga_cons (g_op op_addX sim_add (g_mth PySem.F.plainAttrs_dict PySem.F.slot_dict_get PySem.F.type_dict_get (mt_dget (hu_w hr)) sim_dget (g_field T.a_Keeper_by_place (g_var 0)) (ga_cons (g_var 3) (ga_cons (g_lst false ga_nil) ga_nil)) (by decide) (by decide)) (g_lst false (ga_cons (g_var 1) ga_nil))) ga_nil)) (gg_sub (hu_w hr) (g_field T.a_Keeper_by_place (g_var 0)) (g_var 3)) goes_sub)
    (gs_one (g_ret (g_mcal (c_Keeper_found_anew T) tk hr (g_var 0) (ga_cons (g_var 3) ga_nil)))))))
theorem c_Keeper_put_at {P : Program} {w : World} {K : PySem.W.Frag} {mg : Str → Option Value} {base : Heap} (T : Txt K mg) : MCal P w K mg base 7 "Keeper" "put_at" ["self", "number", "row"] φ_Keeper_put_at := by
  obtain ⟨C, f, fd, h1, h2, h3, F⟩ := T.d_Keeper_put_at
  exact ⟨C, f, fd, h1, h2, h3, ok_Keeper_put_at T F, F.binds fun _ _ _ _ _ _ us hl => match us, hl with | [_, _, _], _ => rfl⟩
theorem sc_Keeper_put_row : FnScope ["self", "row", "place", "way", "number"] ["self", "row"] (defScope s_Keeper_put_row) := ⟨rfl, rfl, rfl, by decide +kernel, rfl, by decide +kernel, by decide +kernel⟩
noncomputable def b_Keeper_put_row : CS := (seqC (forC (zipS (consA (op2 itemD (fldC "Keeper" "places" (varC 0)) (cstC (.int 2))) (consA (op2 itemD (fldC "Keeper" "told" (varC 0)) (cstC (.int 3))) nilA))) (tupG 2 (consG (nameG 2) (consG (nameG 3) nilG)))
  (ifS (andT (asB (op2 (eqX false) (varC 3) (cstC (.str "sum")))) (asT (apC isiF (consA (op2 itemD (varC 1) (varC 2)) (consA (cstC (.ty "str")) nilA)))))
  deadS
  skipC))
  (seqC (asgC (fldC "Keeper" "coming" (varC 0)) (nameG 4))
  (seqC (afldC "Keeper" "coming" (varC 0) (cstC (.int 1)))
  (seqC (exprC (mthC "list" appendM (fldC "Keeper" "past" (varC 0)) (consA (tupC (consA (cstC (.str "put")) (consA (varC 4) (consA (cstC .non) nilA)))) nilA)))
  (retC (tupC (consA (varC 4) (consA (methC "Keeper" "put_at" φ_Keeper_put_at (varC 0) (consA (varC 4) (consA (apC tupleF (consA (varC 1) nilA)) nilA))) nilA))))))))
noncomputable def φ_Keeper_put_row : Fn := argF 2 (runF 5 b_Keeper_put_row)
theorem ok_Keeper_put_row {P : Program} {w : World} {K : PySem.W.Frag} {mg : Str → Option Value} {base : Heap} {f : Addr} {fd : FuncData} (T : Txt K mg) (F : Fun K "put_row" "Keeper.put_row" s_Keeper_put_row f fd) : FnOk P w K mg base (L2.CX P w) 8 f fd ["self", "row"] (spOf ⟨K, mg, w⟩ φ_Keeper_put_row) :=
  def_ok (k := 7) F sc_Keeper_put_row (keeps_arg Keeps.self) (fun _ _ => argF_len) fun cdv A outer s H E hr tk =>
    (gs_cons (g_for (passes_of rfl) rfl (gi_zip T.m_zip (ga_cons (g_ix (ix_item (hu_w hr)) sim_item (g_field T.a_Keeper_places (g_var 0)) g_int (fun _ _ => rfl)) (ga_cons (g_ix (ix_item (hu_w hr)) sim_item (g_field T.a_Keeper_told (g_var 0)) g_int (fun _ _ => rfl)) ga_nil))) (gg_tup rfl (ggs_cons (gg_name 2 sc_Keeper_put_row.nd) (ggs_cons (gg_name 3 sc_Keeper_put_row.nd) ggs_nil))) (goes_tup (goes_cons (goes_name 2) (goes_cons (goes_name 3) goes_nil)))
    (gs_one (g_ifS (PW.pt (gw_and (gt_cmp (op_eqX (hu_w hr)) sim_eqX (g_var 3) g_str (nomark _)) (gw_and1 (gt_truth (g_callB call_isiG sim_isi rfl T.m_isinstance (by rfl) (ga_cons (g_ix (ix_item (hu_w hr)) sim_item (g_var 1) (g_var 2) (fun _ _ => rfl)) (ga_cons (g_ty T.m_str (by rfl)) ga_nil)))))))
    (gs_one g_deadS)
    gs_nil)))
    (gs_cons (g_set 4 sc_Keeper_put_row.nd (g_field T.a_Keeper_coming (g_var 0)))
    (gs_cons (g_augf T.a_Keeper_coming (g_var 0) g_int)
    (gs_cons (g_expr (g_mth PySem.F.plainAttrs_list PySem.F.slot_list_append PySem.F.type_list_append mt_append sim_append (g_field T.a_Keeper_past (g_var 0)) (ga_cons (g_tup (ga_cons g_str (ga_cons (g_var 4) (ga_cons g_non ga_nil)))) ga_nil) (by decide) (by decide)))
    (gs_one (g_ret (g_tup (ga_cons (g_var 4) (ga_cons (g_mcal (c_Keeper_put_at T) tk hr (g_var 0) (ga_cons (g_var 4) (ga_cons (g_callTy call_tupleF sim_tuple rfl T.m_tuple (by rfl) (ga_cons (g_var 1) ga_nil)) ga_nil))) ga_nil)))))))))
theorem c_Keeper_put_row {P : Program} {w : World} {K : PySem.W.Frag} {mg : Str → Option Value} {base : Heap} (T : Txt K mg) : MCal P w K mg base 8 "Keeper" "put_row" ["self", "row"] φ_Keeper_put_row := by
  obtain ⟨C, f, fd, h1, h2, h3, F⟩ := T.d_Keeper_put_row
  exact ⟨C, f, fd, h1, h2, h3, ok_Keeper_put_row T F, F.binds fun _ _ _ _ _ _ us hl => match us, hl with | [_, _], _ => rfl⟩
theorem sc__law_changes : FnScope ["ahead", "behind_it", "row", "old", "new"] ["ahead", "behind_it", "row"] (defScope s__law_changes) := ⟨rfl, rfl, rfl, by decide +kernel, rfl, by decide +kernel, by decide +kernel⟩
noncomputable def b__law_changes : CS := (seqC (parC 3 4 (consA (callC φ__law_cell_of (consA (varC 0) (consA (op2 itemD (varC 2) (cstC (.int 0))) (consA (op2 itemD (varC 2) (cstC (.int 1))) nilA)))) (consA (callC φ__law_cell_of (consA (varC 1) (consA (op2 itemD (varC 2) (cstC (.int 0))) (consA (op2 itemD (varC 2) (cstC (.int 1))) nilA)))) nilA)))
  (retC (ifC (asB (op2 (eqX false) (varC 3) (varC 4))) (lstC false nilA) (lstC false (consA (tupC (consA (tupC (consA (op2 itemD (varC 2) (cstC (.int 0))) nilA)) (consA (tupC (consA (op2 itemD (varC 2) (cstC (.int 1))) nilA)) (consA (varC 3) (consA (varC 4) nilA))))) nilA)))))
noncomputable def φ__law_changes : Fn := argF 3 (trimF (runF 5 b__law_changes))
theorem ok__law_changes {P : Program} {w : World} {K : PySem.W.Frag} {mg : Str → Option Value} {base : Heap} {f : Addr} {fd : FuncData} (T : Txt K mg) (F : Fun K "_law_changes" "_law_changes" s__law_changes f fd) : FnOk P w K mg base (L2.CX P w) 3 f fd ["ahead", "behind_it", "row"] (spOf ⟨K, mg, w⟩ φ__law_changes) :=
  def_ok (k := 2) F sc__law_changes (keeps_arg keeps_trim) (fun _ _ => argF_len) fun cdv A outer s H E hr tk =>
    (gs_cons (g_par 3 4 rfl sc__law_changes.nd (ga_cons (g_cal (c__law_cell_of T) tk hr (ga_cons (g_var 0) (ga_cons (g_ix (ix_item (hu_w hr)) sim_item (g_var 2) g_int (fun _ _ => rfl)) (ga_cons (g_ix (ix_item (hu_w hr)) sim_item (g_var 2) g_int (fun _ _ => rfl)) ga_nil)))) (ga_cons (g_cal (c__law_cell_of T) tk hr (ga_cons (g_var 1) (ga_cons (g_ix (ix_item (hu_w hr)) sim_item (g_var 2) g_int (fun _ _ => rfl)) (ga_cons (g_ix (ix_item (hu_w hr)) sim_item (g_var 2) g_int (fun _ _ => rfl)) ga_nil)))) ga_nil)))
    (gs_one (g_ret (g_if (gt_cmp (op_eqX (hu_w hr)) sim_eqX (g_var 3) (g_var 4) (nomark _)) (g_lst false ga_nil) (g_lst false (ga_cons (g_tup (ga_cons (g_tup (ga_cons (g_ix (ix_item (hu_w hr)) sim_item (g_var 2) g_int (fun _ _ => rfl)) ga_nil)) (ga_cons (g_tup (ga_cons (g_ix (ix_item (hu_w hr)) sim_item (g_var 2) g_int (fun _ _ => rfl)) ga_nil)) (ga_cons (g_var 3) (ga_cons (g_var 4) ga_nil))))) ga_nil))))))
theorem c__law_changes {P : Program} {w : World} {K : PySem.W.Frag} {mg : Str → Option Value} {base : Heap} (T : Txt K mg) : Cal P w K mg base 3 "_law_changes" ["ahead", "behind_it", "row"] φ__law_changes := by
  obtain ⟨f, fd, h1, F⟩ := T.d__law_changes
  exact ⟨f, fd, ok__law_changes T F, h1, F.kp, F.binds fun _ _ _ _ _ _ us hl => match us, hl with | [_, _, _], _ => rfl⟩
theorem sc_Keeper_taken : FnScope ["self", "number", "row", "place"] ["self", "number"] (defScope s_Keeper_taken) := ⟨rfl, rfl, rfl, by decide +kernel, rfl, by decide +kernel, by decide +kernel⟩
noncomputable def b_Keeper_taken : CS := (seqC (asgC (altC (mthC "list" popM (fldC "Keeper" "rows" (varC 0)) (consA (varC 1) nilA)) (mthC "dict" dpopM (fldC "Keeper" "rows" (varC 0)) (consA (varC 1) nilA))) (nameG 2))
  (seqC (asgC (methC "Keeper" "place_of" φ_Keeper_place_of (varC 0) (consA (varC 2) nilA)) (nameG 3))
  (seqC (exprC (mthC "list" removeM (op2 itemD (fldC "Keeper" "by_place" (varC 0)) (varC 3)) (consA (varC 1) nilA)))
  (retC (methC "Keeper" "found_anew" φ_Keeper_found_anew (varC 0) (consA (varC 3) nilA))))))
noncomputable def φ_Keeper_taken : Fn := argF 2 (runF 4 b_Keeper_taken)
theorem ok_Keeper_taken {P : Program} {w : World} {K : PySem.W.Frag} {mg : Str → Option Value} {base : Heap} {f : Addr} {fd : FuncData} (T : Txt K mg) (F : Fun K "taken" "Keeper.taken" s_Keeper_taken f fd) : FnOk P w K mg base (L2.CX P w) 7 f fd ["self", "number"] (spOf ⟨K, mg, w⟩ φ_Keeper_taken) :=
  def_ok (k := 6) F sc_Keeper_taken (keeps_arg Keeps.self) (fun _ _ => argF_len) fun cdv A outer s H E hr tk =>
    (gs_cons (g_set 2 sc_Keeper_taken.nd (g_alt (g_mth PySem.F.plainAttrs_list PySem.F.slot_list_pop PySem.F.type_list_pop mt_popX sim_pop (g_field T.a_Keeper_rows (g_var 0)) (ga_cons (g_var 1) ga_nil) (by decide) (by decide)) (g_mth PySem.F.plainAttrs_dict PySem.F.slot_dict_pop PySem.F.type_dict_pop (mt_dpop (hu_w hr)) sim_dpop (g_field T.a_Keeper_rows (g_var 0)) (ga_cons (g_var 1) ga_nil) (by decide) (by decide))))
    (gs_cons (g_set 3 sc_Keeper_taken.nd (g_mcal (c_Keeper_place_of T) tk hr (g_var 0) (ga_cons (g_var 2) ga_nil)))
    (gs_cons (g_expr (g_mth PySem.F.plainAttrs_list PySem.F.slot_list_remove PySem.F.type_list_remove mt_remI sim_remove (g_ix (ix_item (hu_w hr)) sim_item (g_field T.a_Keeper_by_place (g_var 0)) (g_var 3) (fun _ _ => rfl)) (ga_cons (g_var 1) ga_nil) (by decide) (by decide)))
    (gs_one (g_ret (g_mcal (c_Keeper_found_anew T) tk hr (g_var 0) (ga_cons (g_var 3) ga_nil)))))))
theorem c_Keeper_taken {P : Program} {w : World} {K : PySem.W.Frag} {mg : Str → Option Value} {base : Heap} (T : Txt K mg) : MCal P w K mg base 7 "Keeper" "taken" ["self", "number"] φ_Keeper_taken := by
  obtain ⟨C, f, fd, h1, h2, h3, F⟩ := T.d_Keeper_taken
  exact ⟨C, f, fd, h1, h2, h3, ok_Keeper_taken T F, F.binds fun _ _ _ _ _ _ us hl => match us, hl with | [_, _], _ => rfl⟩
theorem sc_Keeper_undo : FnScope ["self", "word", "number", "row"] ["self"] (defScope s_Keeper_undo) := ⟨rfl, rfl, rfl, by decide +kernel, rfl, by decide +kernel, by decide +kernel⟩
noncomputable def b_Keeper_undo : CS := (seqC (ifS (asB (op2 (eqX false) (apC lenDF (consA (fldC "Keeper" "past" (varC 0)) nilA)) (cstC (.int 0))))
  (retC (cstC .non))
  skipC)
  (seqC (asgC (mthC "list" popM (fldC "Keeper" "past" (varC 0)) nilA) (tupG 3 (consG (nameG 1) (consG (nameG 2) (consG (nameG 3) nilG)))))
  (seqC (ifS (asB (op2 (eqX false) (varC 1) (cstC (.str "take"))))
  (retC (methC "Keeper" "put_at" φ_Keeper_put_at (varC 0) (consA (varC 2) (consA (varC 3) nilA))))
  skipC)
  (seqC (sfldC "Keeper" "coming" (varC 0) (varC 2))
  (retC (methC "Keeper" "taken" φ_Keeper_taken (varC 0) (consA (varC 2) nilA)))))))
noncomputable def φ_Keeper_undo : Fn := argF 1 (runF 4 b_Keeper_undo)
theorem ok_Keeper_undo {P : Program} {w : World} {K : PySem.W.Frag} {mg : Str → Option Value} {base : Heap} {f : Addr} {fd : FuncData} (T : Txt K mg) (F : Fun K "undo" "Keeper.undo" s_Keeper_undo f fd) : FnOk P w K mg base (L2.CX P w) 8 f fd ["self"] (spOf ⟨K, mg, w⟩ φ_Keeper_undo) :=
  def_ok (k := 7) F sc_Keeper_undo (keeps_arg Keeps.self) (fun _ _ => argF_len) fun cdv A outer s H E hr tk =>
    (gs_cons (g_ifS (gt_cmp (op_eqX (hu_w hr)) sim_eqX (g_callB call_lenDX sim_lenDX rfl T.m_len (by rfl) (ga_cons (g_field T.a_Keeper_past (g_var 0)) ga_nil)) g_int (nomark _))
    (gs_one (g_ret g_non))
    gs_nil)
    (gs_cons (g_asg (g_mth0 PySem.F.plainAttrs_list PySem.F.slot_list_pop PySem.F.type_list_pop mt_popX sim_pop (g_field T.a_Keeper_past (g_var 0)) (by decide) (by decide)) (gg_tup rfl (ggs_cons (gg_name 1 sc_Keeper_undo.nd) (ggs_cons (gg_name 2 sc_Keeper_undo.nd) (ggs_cons (gg_name 3 sc_Keeper_undo.nd) ggs_nil)))) (goes_tup (goes_cons (goes_name 1) (goes_cons (goes_name 2) (goes_cons (goes_name 3) goes_nil)))))
    (gs_cons (g_ifS (gt_cmp (op_eqX (hu_w hr)) sim_eqX (g_var 1) g_str (nomark _))
    (gs_one (g_ret (g_mcal (c_Keeper_put_at T) tk hr (g_var 0) (ga_cons (g_var 2) (ga_cons (g_var 3) ga_nil)))))
    gs_nil)
    (gs_cons (g_setf T.a_Keeper_coming (g_var 0) (g_var 2))
    (gs_one (g_ret (g_mcal (c_Keeper_taken T) tk hr (g_var 0) (ga_cons (g_var 2) ga_nil))))))))
theorem c_Keeper_undo {P : Program} {w : World} {K : PySem.W.Frag} {mg : Str → Option Value} {base : Heap} (T : Txt K mg) : MCal P w K mg base 8 "Keeper" "undo" ["self"] φ_Keeper_undo := by
  obtain ⟨C, f, fd, h1, h2, h3, F⟩ := T.d_Keeper_undo
  exact ⟨C, f, fd, h1, h2, h3, ok_Keeper_undo T F, F.binds fun _ _ _ _ _ _ us hl => match us, hl with | [_], _ => rfl⟩
theorem sc__law_back : FnScope ["keeper", "state", "rows", "row", "coming", "due"] ["keeper", "state"] (defScope s__law_back) := ⟨rfl, rfl, rfl, by decide +kernel, rfl, by decide +kernel, by decide +kernel⟩
noncomputable def b__law_back : CS := (seqC (asgC (mthC "list" popM (op2 itemD (varC 1) (cstC (.str "past"))) nilA) (tupG 3 (consG (nameG 2) (consG (nameG 3) (consG (nameG 4) nilG)))))
  (seqC (asgC (callC φ__law_changes (consA (op2 itemD (varC 1) (cstC (.str "rows"))) (consA (varC 2) (consA (varC 3) nilA)))) (nameG 5))
  (seqC (asgC (tupC (consA (varC 2) (consA (varC 4) nilA))) (tupG 2 (consG (subG (varC 1) (cstC (.str "rows"))) (consG (subG (varC 1) (cstC (.str "coming"))) nilG))))
  (retC (callC φ__law_same (consA (methC "Keeper" "undo" φ_Keeper_undo (varC 0) nilA) (consA (varC 5) nilA)))))))
noncomputable def φ__law_back : Fn := argF 2 (runF 6 b__law_back)
theorem ok__law_back {P : Program} {w : World} {K : PySem.W.Frag} {mg : Str → Option Value} {base : Heap} {f : Addr} {fd : FuncData} (T : Txt K mg) (F : Fun K "_law_back" "_law_back" s__law_back f fd) : FnOk P w K mg base (L2.CX P w) 10 f fd ["keeper", "state"] (spOf ⟨K, mg, w⟩ φ__law_back) :=
  def_ok (k := 9) F sc__law_back (keeps_arg Keeps.self) (fun _ _ => argF_len) fun cdv A outer s H E hr tk =>
    (gs_cons (g_asg (g_mth0 PySem.F.plainAttrs_list PySem.F.slot_list_pop PySem.F.type_list_pop mt_popX sim_pop (g_ix (ix_item (hu_w hr)) sim_item (g_var 1) g_str (fun _ _ => rfl)) (by decide) (by decide)) (gg_tup rfl (ggs_cons (gg_name 2 sc__law_back.nd) (ggs_cons (gg_name 3 sc__law_back.nd) (ggs_cons (gg_name 4 sc__law_back.nd) ggs_nil)))) (goes_tup (goes_cons (goes_name 2) (goes_cons (goes_name 3) (goes_cons (goes_name 4) goes_nil)))))
    (gs_cons (g_set 5 sc__law_back.nd (g_cal (c__law_changes T) tk hr (ga_cons (g_ix (ix_item (hu_w hr)) sim_item (g_var 1) g_str (fun _ _ => rfl)) (ga_cons (g_var 2) (ga_cons (g_var 3) ga_nil)))))
    (gs_cons (g_asg (g_tup (ga_cons (g_var 2) (ga_cons (g_var 4) ga_nil))) (gg_tup rfl (ggs_cons (gg_sub (hu_w hr) (g_var 1) g_str) (ggs_cons (gg_sub (hu_w hr) (g_var 1) g_str) ggs_nil))) (goes_tup (goes_cons goes_sub (goes_cons goes_sub goes_nil))))
    (gs_one (g_ret (g_cal (c__law_same T) tk hr (ga_cons (g_mcal0 (c_Keeper_undo T) tk hr (g_var 0)) (ga_cons (g_var 5) ga_nil))))))))
theorem c__law_back {P : Program} {w : World} {K : PySem.W.Frag} {mg : Str → Option Value} {base : Heap} (T : Txt K mg) : Cal P w K mg base 10 "_law_back" ["keeper", "state"] φ__law_back := by
  obtain ⟨f, fd, h1, F⟩ := T.d__law_back
  exact ⟨f, fd, ok__law_back T F, h1, F.kp, F.binds fun _ _ _ _ _ _ us hl => match us, hl with | [_, _], _ => rfl⟩
theorem sc_Keeper_take_row : FnScope ["self", "number"] ["self", "number"] (defScope s_Keeper_take_row) := ⟨rfl, rfl, rfl, by decide +kernel, rfl, by decide +kernel, by decide +kernel⟩
noncomputable def b_Keeper_take_row : CS := (seqC (ifS (asB (op2 (containsD true) (varC 1) (fldC "Keeper" "rows" (varC 0))))
  (raiseC "NoRow")
  skipC)
  (seqC (exprC (mthC "list" appendM (fldC "Keeper" "past" (varC 0)) (consA (tupC (consA (cstC (.str "take")) (consA (varC 1) (consA (op2 itemD (fldC "Keeper" "rows" (varC 0)) (varC 1)) nilA)))) nilA)))
  (retC (methC "Keeper" "taken" φ_Keeper_taken (varC 0) (consA (varC 1) nilA)))))
noncomputable def φ_Keeper_take_row : Fn := argF 2 (runF 2 b_Keeper_take_row)
theorem ok_Keeper_take_row {P : Program} {w : World} {K : PySem.W.Frag} {mg : Str → Option Value} {base : Heap} {f : Addr} {fd : FuncData} (T : Txt K mg) (F : Fun K "take_row" "Keeper.take_row" s_Keeper_take_row f fd) : FnOk P w K mg base (L2.CX P w) 8 f fd ["self", "number"] (spOf ⟨K, mg, w⟩ φ_Keeper_take_row) :=
  def_ok (k := 7) F sc_Keeper_take_row (keeps_arg Keeps.self) (fun _ _ => argF_len) fun cdv A outer s H E hr tk =>
    (gs_cons (g_ifS (gt_cmp (op_notinDct (hu_w hr)) sim_contains (g_var 1) (g_field T.a_Keeper_rows (g_var 0)) (by rfl))
    (gs_one (g_raiseT T.x_NoRow rfl tk))
    gs_nil)
    (gs_cons (g_expr (g_mth PySem.F.plainAttrs_list PySem.F.slot_list_append PySem.F.type_list_append mt_append sim_append (g_field T.a_Keeper_past (g_var 0)) (ga_cons (g_tup (ga_cons g_str (ga_cons (g_var 1) (ga_cons (g_ix (ix_item (hu_w hr)) sim_item (g_field T.a_Keeper_rows (g_var 0)) (g_var 1) (fun _ _ => rfl)) ga_nil)))) ga_nil) (by decide) (by decide)))
    (gs_one (g_ret (g_mcal (c_Keeper_taken T) tk hr (g_var 0) (ga_cons (g_var 1) ga_nil))))))
theorem c_Keeper_take_row {P : Program} {w : World} {K : PySem.W.Frag} {mg : Str → Option Value} {base : Heap} (T : Txt K mg) : MCal P w K mg base 8 "Keeper" "take_row" ["self", "number"] φ_Keeper_take_row := by
  obtain ⟨C, f, fd, h1, h2, h3, F⟩ := T.d_Keeper_take_row
  exact ⟨C, f, fd, h1, h2, h3, ok_Keeper_take_row T F, F.binds fun _ _ _ _ _ _ us hl => match us, hl with | [_, _], _ => rfl⟩
theorem sc__law_deed : FnScope ["box", "keeper", "state", "rows", "coming", "past", "value", "row", "made", "found", "due", "numbers", "number", "one"] ["box", "keeper", "state"] (defScope s__law_deed) := ⟨rfl, rfl, rfl, by decide +kernel, rfl, by decide +kernel, by decide +kernel⟩
noncomputable def b__law_deed : CS := (seqC (asgC (tupC (consA (op2 itemD (varC 2) (cstC (.str "rows"))) (consA (op2 itemD (varC 2) (cstC (.str "coming"))) (consA (op2 itemD (varC 2) (cstC (.str "past"))) nilA)))) (tupG 3 (consG (nameG 3) (consG (nameG 4) (consG (nameG 5) nilG)))))
  (seqC (ifS (orT (asB (op2 (eqX false) (varC 3) (dct0 false))) (andT (asB (op2 (cmpD (fun i j => decide (i < j)) fun x y => decide (x < y)) (apC lenDF (consA (varC 3) nilA)) (cstC (.int 9)))) (asB (op2 (eqX false) (callC φ__law_take (consA (varC 0) (consA (cstC (.int 2)) nilA))) (cstC (.int 0))))))
  (seqC (asgC (op2 itemD (lstC false (consA (callC φ__law_take (consA (varC 0) (consA (cstC (.int 5)) nilA))) (consA (op2 (addD false) (op2 powD (cstC (.int 10)) (cstC (.int 29))) (callC φ__law_take (consA (varC 0) (consA (cstC (.int 9)) nilA)))) (consA (negC (op2 powD (cstC (.int 10)) (cstC (.int 29)))) nilA)))) (callC φ__law_take (consA (varC 0) (consA (cstC (.int 3)) nilA)))) (nameG 6))
  (seqC (asgC (tupC (consA (callC φ__law_take (consA (varC 0) (consA (cstC (.int 3)) nilA))) (consA (op2 itemD (cstC (.str "xyz")) (callC φ__law_take (consA (varC 0) (consA (cstC (.int 3)) nilA)))) (consA (varC 6) nilA)))) (nameG 7))
  (seqC (asgC (apC (dictF true) (consA (varC 3) nilA)) (nameG 8))
  (seqC (asgC (varC 7) (subG (varC 8) (varC 4)))
  (fzV 8 (seqC (parC 9 10 (consA (methC "Keeper" "put_row" φ_Keeper_put_row (varC 1) (consA (op2 (addD false) (varC 7) (tupC (consA (varC 6) nilA))) nilA)) (consA (tupC (consA (varC 4) (consA (callC φ__law_changes (consA (varC 3) (consA (varC 8) (consA (varC 7) nilA)))) nilA))) nilA)))
  (asgC (op2 (addD false) (varC 4) (cstC (.int 1))) (nameG 4))))))))
  (seqC (asgC (apC (sortDF false) (consA (varC 3) nilA)) (nameG 11))
  (seqC (asgC (op2 itemD (varC 11) (callC φ__law_take (consA (varC 0) (consA (apC lenDF (consA (varC 11) nilA)) nilA)))) (nameG 12))
  (seqC (asgC (op2 itemD (varC 3) (varC 12)) (nameG 7))
  (seqC (asgC (apC (dictF true) (consA (compC false (keysS (varC 3)) [13] (.n 13) (asB (op2 (eqX true) (varC 13) (varC 12))) (tupC (consA (varC 13) (consA (op2 itemD (varC 3) (varC 13)) nilA)))) nilA)) (nameG 8))
  (fzV 8 (parC 9 10 (consA (methC "Keeper" "take_row" φ_Keeper_take_row (varC 1) (consA (varC 12) nilA)) (consA (callC φ__law_changes (consA (varC 3) (consA (varC 8) (consA (varC 7) nilA)))) nilA)))))))))
  (seqC (exprC (mthC "list" appendM (varC 5) (consA (tupC (consA (varC 3) (consA (varC 7) (consA (op2 itemD (varC 2) (cstC (.str "coming"))) nilA)))) nilA)))
  (seqC (asgC (tupC (consA (varC 8) (consA (varC 4) nilA))) (tupG 2 (consG (subG (varC 2) (cstC (.str "rows"))) (consG (subG (varC 2) (cstC (.str "coming"))) nilG))))
  (retC (callC φ__law_same (consA (varC 9) (consA (varC 10) nilA))))))))
noncomputable def φ__law_deed : Fn := argF 3 (runF 14 b__law_deed)
theorem ok__law_deed {P : Program} {w : World} {K : PySem.W.Frag} {mg : Str → Option Value} {base : Heap} {f : Addr} {fd : FuncData} (T : Txt K mg) (F : Fun K "_law_deed" "_law_deed" s__law_deed f fd) : FnOk P w K mg base (L2.CX P w) 10 f fd ["box", "keeper", "state"] (spOf ⟨K, mg, w⟩ φ__law_deed) :=
  def_ok (k := 9) F sc__law_deed (keeps_arg Keeps.self) (fun _ _ => argF_len) fun cdv A outer s H E hr tk =>
    (gs_cons (g_asg (g_tup (ga_cons (g_ix (ix_item (hu_w hr)) sim_item (g_var 2) g_str (fun _ _ => rfl)) (ga_cons (g_ix (ix_item (hu_w hr)) sim_item (g_var 2) g_str (fun _ _ => rfl)) (ga_cons (g_ix (ix_item (hu_w hr)) sim_item (g_var 2) g_str (fun _ _ => rfl)) ga_nil)))) (gg_tup rfl (ggs_cons (gg_name 3 sc__law_deed.nd) (ggs_cons (gg_name 4 sc__law_deed.nd) (ggs_cons (gg_name 5 sc__law_deed.nd) ggs_nil)))) (goes_tup (goes_cons (goes_name 3) (goes_cons (goes_name 4) (goes_cons (goes_name 5) goes_nil)))))
    (gs_cons (g_ifS (PW.pt (gw_or (gt_cmp (op_eqX (hu_w hr)) sim_eqX (g_var 3) (g_dct0 false) (nomark _)) (gw_or1 (PW.pt (gw_and (gt_cmp op_ltX sim_cmp (g_callB call_lenDX sim_lenDX rfl T.m_len (by rfl) (ga_cons (g_var 3) ga_nil)) g_int (nomark _)) (gw_and1 (gt_cmp (op_eqX (hu_w hr)) sim_eqX (g_cal (c__law_take T) tk hr (ga_cons (g_var 0) (ga_cons g_int ga_nil))) g_int (nomark _))))))))
    (gs_cons (g_set 6 sc__law_deed.nd (g_ix (ix_item (hu_w hr)) sim_item (g_lst false (ga_cons (g_cal (c__law_take T) tk hr (ga_cons (g_var 0) (ga_cons g_int ga_nil))) (ga_cons (g_op op_addX sim_add (g_op op_pow sim_pow g_int g_int) (g_cal (c__law_take T) tk hr (ga_cons (g_var 0) (ga_cons g_int ga_nil)))) (ga_cons (g_neg (g_op op_pow sim_pow g_int g_int)) ga_nil)))) (g_cal (c__law_take T) tk hr (ga_cons (g_var 0) (ga_cons g_int ga_nil))) (fun _ _ => rfl)))
    (gs_cons (g_set 7 sc__law_deed.nd (g_tup (ga_cons (g_cal (c__law_take T) tk hr (ga_cons (g_var 0) (ga_cons g_int ga_nil))) (ga_cons (g_ix (ix_item (hu_w hr)) sim_item g_str (g_cal (c__law_take T) tk hr (ga_cons (g_var 0) (ga_cons g_int ga_nil))) (fun _ _ => rfl)) (ga_cons (g_var 6) ga_nil)))))
    (gs_cons (g_set 8 sc__law_deed.nd (g_callTy (call_dictX rfl (hu_w hr)) sim_dictX rfl T.m_dict (by rfl) (ga_cons (g_var 3) ga_nil)))
    (gs_cons (g_asg (g_var 7) (gg_sub (hu_w hr) (g_var 8) (g_var 4)) goes_sub)
    (gs_fzV 8 (gs_cons (g_par 9 10 rfl sc__law_deed.nd (ga_cons (g_mcal (c_Keeper_put_row T) tk hr (g_var 1) (ga_cons (g_op op_addX sim_add (g_var 7) (g_tup (ga_cons (g_var 6) ga_nil))) ga_nil)) (ga_cons (g_tup (ga_cons (g_var 4) (ga_cons (g_cal (c__law_changes T) tk hr (ga_cons (g_var 3) (ga_cons (g_var 8) (ga_cons (g_var 7) ga_nil)))) ga_nil))) ga_nil)))
    (gs_one (g_set 4 sc__law_deed.nd (g_op op_addX sim_add (g_var 4) g_int)))))))))
    (gs_cons (g_set 11 sc__law_deed.nd (g_callB (call_sortX rfl (hu_w hr)) sim_sortX rfl T.m_sorted (by rfl) (ga_cons (g_var 3) ga_nil)))
    (gs_cons (g_set 12 sc__law_deed.nd (g_ix (ix_item (hu_w hr)) sim_item (g_var 11) (g_cal (c__law_take T) tk hr (ga_cons (g_var 0) (ga_cons (g_callB call_lenDX sim_lenDX rfl T.m_len (by rfl) (ga_cons (g_var 11) ga_nil)) ga_nil))) (fun _ _ => rfl)))
    (gs_cons (g_set 7 sc__law_deed.nd (g_ix (ix_item (hu_w hr)) sim_item (g_var 3) (g_var 12) (fun _ _ => rfl)))
    (gs_cons (g_set 8 sc__law_deed.nd (g_callTy (call_dictX rfl (hu_w hr)) sim_dictX rfl T.m_dict (by rfl) (ga_cons (g_lc false (own := [("one", 13)]) (t := (.n 13)) (W0 := fun _ _ _ _ => False) rfl sc__law_deed.nd (gi_keys (g_var 3)) (blkOk_by (N := ["box", "keeper", "state", "rows", "coming", "past", "value", "row", "made", "found", "due", "numbers", "number", "one"]) (sc := defScope s__law_deed) (by decide +kernel)) (fun _ _ _ _ _ => (hg_name 13 sc__law_deed.nd)) (fun _ _ _ _ _ => (gts_one (gt_cmp (op_neX (hu_w hr)) sim_neX (g_var 13) (g_var 12) (nomark _)))) (fun _ _ _ _ _ => (g_tup (ga_cons (g_var 13) (ga_cons (g_ix (ix_item (hu_w hr)) sim_item (g_var 3) (g_var 13) (fun _ _ => rfl)) ga_nil))))) ga_nil)))
    (gs_fzV 8 (gs_one (g_par 9 10 rfl sc__law_deed.nd (ga_cons (g_mcal (c_Keeper_take_row T) tk hr (g_var 1) (ga_cons (g_var 12) ga_nil)) (ga_cons (g_cal (c__law_changes T) tk hr (ga_cons (g_var 3) (ga_cons (g_var 8) (ga_cons (g_var 7) ga_nil)))) ga_nil))))))))))
    (gs_cons (g_expr (g_mth PySem.F.plainAttrs_list PySem.F.slot_list_append PySem.F.type_list_append mt_append sim_append (g_var 5) (ga_cons (g_tup (ga_cons (g_var 3) (ga_cons (g_var 7) (ga_cons (g_ix (ix_item (hu_w hr)) sim_item (g_var 2) g_str (fun _ _ => rfl)) ga_nil)))) ga_nil) (by decide) (by decide)))
    (gs_cons (g_asg (g_tup (ga_cons (g_var 8) (ga_cons (g_var 4) ga_nil))) (gg_tup rfl (ggs_cons (gg_sub (hu_w hr) (g_var 2) g_str) (ggs_cons (gg_sub (hu_w hr) (g_var 2) g_str) ggs_nil))) (goes_tup (goes_cons goes_sub (goes_cons goes_sub goes_nil))))
    (gs_one (g_ret (g_cal (c__law_same T) tk hr (ga_cons (g_var 9) (ga_cons (g_var 10) ga_nil)))))))))
theorem c__law_deed {P : Program} {w : World} {K : PySem.W.Frag} {mg : Str → Option Value} {base : Heap} (T : Txt K mg) : Cal P w K mg base 10 "_law_deed" ["box", "keeper", "state"] φ__law_deed := by
  obtain ⟨f, fd, h1, F⟩ := T.d__law_deed
  exact ⟨f, fd, ok__law_deed T F, h1, F.kp, F.binds fun _ _ _ _ _ _ us hl => match us, hl with | [_, _, _], _ => rfl⟩
theorem sc__law_is_gone : FnScope ["keeper", "state", "caught"] ["keeper", "state"] (defScope s__law_is_gone) := ⟨rfl, rfl, rfl, by decide +kernel, rfl, by decide +kernel, by decide +kernel⟩
noncomputable def b__law_is_gone : CS := (seqC (asgC (cstC (.bl false)) (nameG 2))
  (seqC (tryC (catch1 "NoRow")
  (exprC (methC "Keeper" "take_row" φ_Keeper_take_row (varC 0) (consA (op2 itemD (varC 1) (cstC (.str "coming"))) nilA)))
  (asgC (cstC (.bl true)) (nameG 2)))
  (retC (varC 2))))
noncomputable def φ__law_is_gone : Fn := argF 2 (runF 3 b__law_is_gone)
theorem ok__law_is_gone {P : Program} {w : World} {K : PySem.W.Frag} {mg : Str → Option Value} {base : Heap} {f : Addr} {fd : FuncData} (T : Txt K mg) (F : Fun K "_law_is_gone" "_law_is_gone" s__law_is_gone f fd) : FnOk P w K mg base (L2.CX P w) 9 f fd ["keeper", "state"] (spOf ⟨K, mg, w⟩ φ__law_is_gone) :=
  def_ok (k := 8) F sc__law_is_gone (keeps_arg Keeps.self) (fun _ _ => argF_len) fun cdv A outer s H E hr tk =>
    (gs_cons (g_set 2 sc__law_is_gone.nd g_bl)
    (gs_cons (g_tryT T.k_NoRow rfl rfl tk
    (fun W2 pn xe tk2 => (gs_one (g_expr (g_mcal (c_Keeper_take_row T) tk2 hr (g_var 0) (ga_cons (g_ix (ix_item (hu_w hr)) sim_item (g_var 1) g_str (fun _ _ => rfl)) ga_nil)))))
    (fun a oe pn => (gs_one (g_set 2 sc__law_is_gone.nd g_bl))))
    (gs_one (g_ret (g_var 2)))))
theorem c__law_is_gone {P : Program} {w : World} {K : PySem.W.Frag} {mg : Str → Option Value} {base : Heap} (T : Txt K mg) : Cal P w K mg base 9 "_law_is_gone" ["keeper", "state"] φ__law_is_gone := by
  obtain ⟨f, fd, h1, F⟩ := T.d__law_is_gone
  exact ⟨f, fd, ok__law_is_gone T F, h1, F.kp, F.binds fun _ _ _ _ _ _ us hl => match us, hl with | [_, _], _ => rfl⟩
theorem sc_law : FnScope ["script", "k", "box", "keeper", "state", "many", "turn"] ["script"] (defScope s_law) := ⟨rfl, rfl, rfl, by decide +kernel, rfl, by decide +kernel, by decide +kernel⟩
noncomputable def b_law : CS := (seqC (forC (rng1S (consA (op2 (addD false) (cstC (.int 1)) (apC minF (consA (cstC (.int 3)) (consA (apC lenDF (consA (varC 0) nilA)) nilA)))) nilA)) (nameG 1)
  (seqC (asgC (callC φ__law_box (consA (varC 0) (consA (varC 1) nilA))) (nameG 2))
  (seqC (asgC (makeC "Keeper" φ_Keeper_init (consA (lstC false (consA (cstC (.str "a")) (consA (cstC (.str "b")) (consA (cstC (.str "c")) (consA (cstC (.str "d")) nilA))))) (consA (lstC false (consA (cstC (.str "a")) nilA)) (consA (lstC false (consA (cstC (.str "b")) nilA)) (consA (lstC false (consA (cstC (.str "c")) (consA (cstC (.str "d")) nilA))) (consA (lstC false (consA (cstC (.str "sum")) (consA (cstC (.str "count")) nilA))) (consA (cstC (.str "seen")) nilA))))))) (nameG 3))
  (seqC (asgC (dispC true [("rows", (dct0 false)), ("coming", (cstC (.int 0))), ("past", (lstC true nilA))]) (nameG 4))
  (seqC (asgC (op2 (addD false) (cstC (.int 80)) (callC φ__law_take (consA (varC 2) (consA (cstC (.int 71)) nilA)))) (nameG 5))
  (seqC (forC (rng1S (consA (varC 5) nilA)) (nameG 6)
  (ifS (orT (notT (asT (callC φ__law_deed (consA (varC 2) (consA (varC 3) (consA (varC 4) nilA)))))) (andT (asB (op2 (eqX false) (op2 modD (varC 6) (cstC (.int 20))) (cstC (.int 0)))) (notT (asT (callC φ__law_stands (consA (varC 3) (consA (op2 itemD (varC 4) (cstC (.str "rows"))) nilA)))))))
  (retC (cstC (.bl false)))
  skipC))
  (seqC (forC (rng1S (consA (op2 fdivD (varC 5) (cstC (.int 2))) nilA)) (nameG 6)
  (ifS (notT (asT (callC φ__law_back (consA (varC 3) (consA (varC 4) nilA)))))
  (retC (cstC (.bl false)))
  skipC))
  (seqC (forC (rng1S (consA (cstC (.int 10)) nilA)) (nameG 6)
  (ifS (orT (notT (asT (callC φ__law_deed (consA (varC 2) (consA (varC 3) (consA (varC 4) nilA)))))) (notT (asT (callC φ__law_is_gone (consA (varC 3) (consA (varC 4) nilA))))))
  (retC (cstC (.bl false)))
  skipC))
  (seqC (ifS (notT (asT (callC φ__law_stands (consA (varC 3) (consA (op2 itemD (varC 4) (cstC (.str "rows"))) nilA)))))
  (retC (cstC (.bl false)))
  skipC)
  (seqC (whileC (asB (op2 (eqY true) (op2 itemD (varC 4) (cstC (.str "past"))) (lstC false nilA)))
  (ifS (notT (asT (callC φ__law_back (consA (varC 3) (consA (varC 4) nilA)))))
  (retC (cstC (.bl false)))
  skipC) 1000)
  (seqC (ifS (orT (asB (op2 (isD true) (methC "Keeper" "undo" φ_Keeper_undo (varC 3) nilA) (cstC .non))) (orT (asB (op2 (isD true) (methC "Keeper" "undo" φ_Keeper_undo (varC 3) nilA) (cstC .non))) (notT (asT (callC φ__law_stands (consA (varC 3) (consA (dct0 false) nilA)))))))
  (retC (cstC (.bl false)))
  skipC)
  (ifS (asB (op2 (eqX true) (methC "Keeper" "put_row" φ_Keeper_put_row (varC 3) (consA (tupC (consA (cstC (.int 1)) (consA (cstC (.str "x")) (consA (cstC (.int 2)) (consA (cstC (.int 2)) nilA))))) nilA)) (tupC (consA (cstC (.int 0)) (consA (lstC false (consA (tupC (consA (tupC (consA (cstC (.int 1)) nilA)) (consA (tupC (consA (cstC (.str "x")) nilA)) (consA (cstC .non) (consA (tupC (consA (cstC (.int 2)) (consA (cstC (.int 1)) nilA))) nilA))))) nilA)) nilA)))))
  (retC (cstC (.bl false)))
  skipC))))))))))))
  (retC (cstC (.bl true))))
noncomputable def φ_law : Fn := argF 1 (runF 7 b_law)
theorem ok_law {P : Program} {w : World} {K : PySem.W.Frag} {mg : Str → Option Value} {base : Heap} {f : Addr} {fd : FuncData} (T : Txt K mg) (F : Fun K "law" "law" s_law f fd) : FnOk P w K mg base (L2.CX P w) 11 f fd ["script"] (spOf ⟨K, mg, w⟩ φ_law) :=
  def_ok (k := 10) F sc_law (keeps_arg Keeps.self) (fun _ _ => argF_len) fun cdv A outer s H E hr tk =>
    (gs_cons (g_for (passes_of rfl) rfl (gi_rng1 T.m_range (ga_cons (g_op op_addX sim_add g_int (g_callB (call_min2 rfl) sim_min rfl T.m_min (by rfl) (ga_cons g_int (ga_cons (g_callB call_lenDX sim_lenDX rfl T.m_len (by rfl) (ga_cons (g_var 0) ga_nil)) ga_nil)))) ga_nil)) (gg_name 1 sc_law.nd) (goes_name 1)
    (gs_cons (g_set 2 sc_law.nd (g_cal (c__law_box T) tk hr (ga_cons (g_var 0) (ga_cons (g_var 1) ga_nil))))
    (gs_cons (g_set 3 sc_law.nd (g_kcal (c_Keeper_init T) tk hr (ga_cons (g_lst false (ga_cons g_str (ga_cons g_str (ga_cons g_str (ga_cons g_str ga_nil))))) (ga_cons (g_lst false (ga_cons g_str ga_nil)) (ga_cons (g_lst false (ga_cons g_str ga_nil)) (ga_cons (g_lst false (ga_cons g_str (ga_cons g_str ga_nil))) (ga_cons (g_lst false (ga_cons g_str (ga_cons g_str ga_nil))) (ga_cons g_str ga_nil))))))))
    (gs_cons (g_set 4 sc_law.nd (g_disp true [("rows", (dct0 false)), ("coming", (cstC (.int 0))), ("past", (lstC true nilA))] (pps_cons g_str (g_dct0 false) (pps_cons g_str g_int (pps_cons g_str (g_lst true ga_nil) pps_nil))) (okKeys_of (by decide +kernel)) (by decide)))
    (gs_cons (g_set 5 sc_law.nd (g_op op_addX sim_add g_int (g_cal (c__law_take T) tk hr (ga_cons (g_var 2) (ga_cons g_int ga_nil)))))
    (gs_cons (g_for (passes_of rfl) rfl (gi_rng1 T.m_range (ga_cons (g_var 5) ga_nil)) (gg_name 6 sc_law.nd) (goes_name 6)
    (gs_one (g_ifS (PW.pt (gw_or (gt_not (gt_truth (g_cal (c__law_deed T) tk hr (ga_cons (g_var 2) (ga_cons (g_var 3) (ga_cons (g_var 4) ga_nil)))))) (gw_or1 (PW.pt (gw_and (gt_cmp (op_eqX (hu_w hr)) sim_eqX (g_op op_mod (sim_intC fun _ _ h => h) (g_var 6) g_int) g_int (nomark _)) (gw_and1 (gt_not (gt_truth (g_cal (c__law_stands T) tk hr (ga_cons (g_var 3) (ga_cons (g_ix (ix_item (hu_w hr)) sim_item (g_var 4) g_str (fun _ _ => rfl)) ga_nil)))))))))))
    (gs_one (g_ret g_bl))
    gs_nil)))
    (gs_cons (g_for (passes_of rfl) rfl (gi_rng1 T.m_range (ga_cons (g_op op_fdivW (sim_intC fun _ _ h => h) (g_var 5) g_int) ga_nil)) (gg_name 6 sc_law.nd) (goes_name 6)
    (gs_one (g_ifS (gt_not (gt_truth (g_cal (c__law_back T) tk hr (ga_cons (g_var 3) (ga_cons (g_var 4) ga_nil)))))
    (gs_one (g_ret g_bl))
    gs_nil)))
    (gs_cons (g_for (passes_of rfl) rfl (gi_rng1 T.m_range (ga_cons g_int ga_nil)) (gg_name 6 sc_law.nd) (goes_name 6)
    (gs_one (g_ifS (PW.pt (gw_or (gt_not (gt_truth (g_cal (c__law_deed T) tk hr (ga_cons (g_var 2) (ga_cons (g_var 3) (ga_cons (g_var 4) ga_nil)))))) (gw_or1 (gt_not (gt_truth (g_cal (c__law_is_gone T) tk hr (ga_cons (g_var 3) (ga_cons (g_var 4) ga_nil))))))))
    (gs_one (g_ret g_bl))
    gs_nil)))
    (gs_cons (g_ifS (gt_not (gt_truth (g_cal (c__law_stands T) tk hr (ga_cons (g_var 3) (ga_cons (g_ix (ix_item (hu_w hr)) sim_item (g_var 4) g_str (fun _ _ => rfl)) ga_nil)))))
    (gs_one (g_ret g_bl))
    gs_nil)
    (gs_cons (g_while 1000 (passes_of rfl) (gt_cmp (op_neY (hu_w hr)) sim_neY (g_ix (ix_item (hu_w hr)) sim_item (g_var 4) g_str (fun _ _ => rfl)) (g_lst false ga_nil) (nomark _))
    (gs_one (g_ifS (gt_not (gt_truth (g_cal (c__law_back T) tk hr (ga_cons (g_var 3) (ga_cons (g_var 4) ga_nil)))))
    (gs_one (g_ret g_bl))
    gs_nil)))
    (gs_cons (g_ifS (PW.pt (gw_or (gt_cmp op_isnotX sim_isnot (g_mcal0 (c_Keeper_undo T) tk hr (g_var 3)) g_non (nomark _)) (gw_or (gt_cmp op_isnotX sim_isnot (g_mcal0 (c_Keeper_undo T) tk hr (g_var 3)) g_non (nomark _)) (gw_or1 (gt_not (gt_truth (g_cal (c__law_stands T) tk hr (ga_cons (g_var 3) (ga_cons (g_dct0 false) ga_nil)))))))))
    (gs_one (g_ret g_bl))
    gs_nil)
    (gs_one (g_ifS (gt_cmp (op_neX (hu_w hr)) sim_neX (g_mcal (c_Keeper_put_row T) tk hr (g_var 3) (ga_cons (g_tup (ga_cons g_int (ga_cons g_str (ga_cons g_int (ga_cons g_int ga_nil))))) ga_nil)) (g_tup (ga_cons g_int (ga_cons (g_lst false (ga_cons (g_tup (ga_cons (g_tup (ga_cons g_int ga_nil)) (ga_cons (g_tup (ga_cons g_str ga_nil)) (ga_cons g_non (ga_cons (g_tup (ga_cons g_int (ga_cons g_int ga_nil))) ga_nil))))) ga_nil)) ga_nil))) (nomark _))
    (gs_one (g_ret g_bl))
    gs_nil)))))))))))))
    (gs_one (g_ret g_bl)))
theorem c_law {P : Program} {w : World} {K : PySem.W.Frag} {mg : Str → Option Value} {base : Heap} (T : Txt K mg) : Cal P w K mg base 11 "law" ["script"] φ_law := by
  obtain ⟨f, fd, h1, F⟩ := T.d_law
  exact ⟨f, fd, ok_law T F, h1, F.kp, F.binds fun _ _ _ _ _ _ us hl => match us, hl with | [_], _ => rfl⟩
end K87

/-! M1: evaluation lemmas for simp; trims; dicts; sorted lists. -/
namespace G
open PySem PySem.Spec L2
open PyProof.Rows hiding St
open PySem.W (AllAlike Sortable dataLe)
section
variable {α β : Type} {S : Sl} {h h' : AH} {x y d : D} {a b c : CE} {t u : CT} {cs : CA}
@[simp] theorem rb_ok {v : α} {k : α → AH → Res β} : (Res.ok v h).bind k = k v h := rfl
@[simp] theorem rb_exc {v : Exn} {k : α → AH → Res β} : (Res.exc v h).bind k = .exc v h := rfl
@[simp] theorem rb_st {k : α → AH → Res β} : (Res.stuck : Res α).bind k = .stuck := rfl
@[simp] theorem rs_ok {v : α} {k : α → AH → ResS} : (Res.ok v h).sbind S k = k v h := rfl
@[simp] theorem rs_exc {v : Exn} {k : α → AH → ResS} : (Res.exc v h).sbind S k = .exc v S h := rfl
@[simp] theorem sb_nx {k : Sl → AH → ResS} : (ResS.nx S h).bind k = k S h := rfl
@[simp] theorem sb_rt {k : Sl → AH → ResS} : (ResS.rt d h).bind k = .rt d h := rfl
@[simp] theorem sb_exc {v : Exn} {k : Sl → AH → ResS} : (ResS.exc v S h).bind k = .exc v S h := rfl
@[simp] theorem st_nx {k : Sl → AH → ResS} : (ResS.nx S h).turn k = k S h := rfl
@[simp] theorem st_rt {k : Sl → AH → ResS} : (ResS.rt d h).turn k = .rt d h := rfl
@[simp] theorem st_exc {v : Exn} {k : Sl → AH → ResS} : (ResS.exc v S h).turn k = .exc v S h := rfl
@[simp] theorem nx_ok {v : α} : (Res.ok v h).noX = .ok v h := rfl
@[simp] theorem varC_ap {i : Nat} : varC i S h = match S[i]? with
  | some (some d) => .ok d h
  | _ => .stuck := rfl
@[simp] theorem cstC_ap : cstC d S h = .ok d h := rfl
@[simp] theorem op2_ap {f : D → D → AH → Res D} : op2 f a b S h = (a S h).bind fun x h1 => (b S h1).bind fun y h2 => f x y h2 := rfl
@[simp] theorem nilA_ap : nilA S h = .ok [] h := rfl
@[simp] theorem consA_ap : consA a cs S h = (a S h).bind fun x h1 => (cs S h1).bind fun xs h2 => .ok (x :: xs) h2 := rfl
@[simp] theorem apC_ap {f : List D → AH → Res D} : apC f cs S h = (cs S h).bind f := rfl
@[simp] theorem callC_ap {f : Fn} : callC f cs S h = (cs S h).bind f := rfl
@[simp] theorem asB_ap : asB c S h = (c S h).bind fun d h1 => match d with
  | .bl b => .ok b h1
  | _ => .stuck := rfl
@[simp] theorem asT_ap : asT c S h = (c S h).bind fun d h1 => match truthD d h1 with
  | some b => .ok b h1
  | none => .stuck := rfl
@[simp] theorem notT_ap : notT t S h = (t S h).bind fun b h1 => .ok (!b) h1 := rfl
@[simp] theorem andT_ap : andT t u S h = (t S h).bind fun x h1 => if x then u S h1 else .ok false h1 := rfl
@[simp] theorem orT_ap : orT t u S h = (t S h).bind fun x h1 => if x then .ok true h1 else u S h1 := rfl
@[simp] theorem valT_ap : valT t S h = (t S h).bind fun b h1 => .ok (.bl b) h1 := rfl
@[simp] theorem andV_ap : andV a b S h = (asB a S h).bind fun x h1 => if x then b S h1 else .ok (.bl false) h1 := rfl
@[simp] theorem orV_ap : orV a b S h = (asB a S h).bind fun x h1 => if x then .ok (.bl true) h1 else b S h1 := rfl
@[simp] theorem notV_ap : notV a S h = (asB a S h).bind fun x h1 => .ok (.bl (!x)) h1 := rfl
@[simp] theorem ifC_ap : ifC t a b S h = (t S h).bind fun x h1 => if x then a S h1 else b S h1 := rfl
@[simp] theorem yesT_ap : yesT S h = .ok true h := rfl
variable {cs1 cs2 : CS} {g : CG} {gs : CGs} {gd : Gd}
@[simp] theorem skipC_ap : skipC S h = .nx S h := rfl
@[simp] theorem seqC_ap : seqC cs1 cs2 S h = (cs1 S h).bind cs2 := rfl
@[simp] theorem exprC_ap : exprC c S h = (c S h).sbind S fun _ h1 => .nx S h1 := rfl
@[simp] theorem retC_ap : retC c S h = (c S h).sbind S fun d h1 => .rt d h1 := rfl
@[simp] theorem ifS_ap : ifS t cs1 cs2 S h = (t S h).sbind S fun x h1 => if x then cs1 S h1 else cs2 S h1 := rfl
@[simp] theorem nameG_ap {i : Nat} : nameG i d S h = .nx (S.set i (some d)) h := rfl
@[simp] theorem nilG_ap : nilG [] S h = .nx S h := rfl
@[simp] theorem consG_ap {ds : List D} : consG g gs (d :: ds) S h = (g d S h).bind fun S1 h1 => gs ds S1 h1 := rfl
@[simp] theorem tupG_ap {n : Nat} {xs : List D} : tupG n gs (.tup xs) S h = if xs.length = n then gs xs S h else .stuck := rfl
@[simp] theorem asgC_ap : asgC c g S h = (c S h).sbind S fun d h1 => g d S h1 := rfl
@[simp] theorem parC_ap {i j : Nat} : parC i j cs S h = (cs S h).sbind S fun ds h1 => match ds with
  | [a, b] => .nx ((S.set i (some a)).set j (some b)) h1
  | _ => .stuck := rfl
@[simp] theorem newL_f {xs : List D} : newL false xs h = .ok (.lst xs) h := rfl
@[simp] theorem newL_t {xs : List D} : newL true xs h = .ok (.ref h.length) (h ++ [.lst xs]) := rfl
@[simp] theorem newDct_f {xs ys : List D} : newDct false xs ys h = .ok (.dct xs ys) h := rfl
@[simp] theorem newDct_t {xs ys : List D} : newDct true xs ys h = .ok (.ref h.length) (h ++ [.dct xs ys]) := rfl
@[simp] theorem dct0_f : dct0 false S h = .ok (.dct [] []) h := rfl
@[simp] theorem dct0_t : dct0 true S h = .ok (.ref h.length) (h ++ [.dct [] []]) := rfl
@[simp] theorem tupC_ap : tupC cs S h = (cs S h).bind fun ds h1 => if ds.length ≤ 16777216 then .ok (.tup ds) h1 else .stuck := rfl
@[simp] theorem lstC_ap {m : Bool} : lstC m cs S h = (cs S h).bind fun ds h1 => if ds.length ≤ 16777216 then newL m ds h1 else .stuck := rfl
@[simp] theorem seqS_ap : seqS c S h = (c S h).bind fun d h1 => match seqOf d h1 with
  | some p => .ok p h1
  | none => .stuck := rfl
@[simp] theorem rng1S_ap : rng1S cs S h = (cs S h).bind fun ds h1 => match ds with
  | [.int j] => if -(2 ^ 62) ≤ j ∧ j ≤ 16777216 then .ok (intsFrom 0 j.toNat, []) h1 else .stuck
  | _ => .stuck := rfl
@[simp] theorem zipS_ap : zipS cs S h = (cs S h).bind fun ds h1 => match ds with
  | [a, b] => match seqOf a h1, seqOf b h1 with
    | some (xs, gs), some (ys, gs') => .ok (zipD xs ys, gs ++ gs') h1
    | _, _ => .stuck
  | _ => .stuck := rfl
@[simp] theorem enumS_ap : enumS cs S h = (cs S h).bind fun ds h1 => match ds with
  | [a] => match seqOf a h1 with
    | some (xs, gs) => .ok (enumD xs, gs) h1
    | _ => .stuck
  | _ => .stuck := rfl
@[simp] theorem itemsS_ap : itemsS c S h = (c S h).bind fun d h1 => match frzD d with
  | some (ks, vs) => .ok (itemsOf ks vs, []) h1
  | none => .stuck := rfl
@[simp] theorem keysS_ap : keysS c S h = (c S h).bind fun d h1 => match frzD d with
  | some (ks, vs) => .ok (ks, []) h1
  | none => .stuck := rfl
@[simp] theorem frzD_d {xs ys : List D} : frzD (.dct xs ys) = some (xs, ys) := rfl
@[simp] theorem forC_ap {src : CI} : forC src g cs1 S h = (src S h).sbind S fun p h1 => loopC p.2 g cs1 p.1 S h1 := rfl
@[simp] theorem compC_ap {m : Bool} {src : CI} {own : List Nat} {tg : Tg} : compC m src own tg t c S h = (src S h).bind fun p h1 => (mapC p.2 tg t c (wipeD S own) p.1 h1).bind fun ys h2 => newL m ys h2 := rfl
@[simp] theorem wipe_nil : wipeD S [] = S := rfl
@[simp] theorem wipe_cons {v : Nat} {vs : List Nat} : wipeD S (v :: vs) = (wipeD S vs).set v none := rfl
@[simp] theorem runF_ap {n : Nat} {ds : List D} : runF n cs1 ds h = match cs1 (ds.map some ++ List.replicate (n - ds.length) none) h with
  | .nx _ h' => .ok .non h'
  | .rt d h' => .ok d h'
  | .exc x _ h' => .exc x h'
  | _ => .stuck := rfl
@[simp] theorem argF_ap {m : Nat} {f : Fn} {ds : List D} : argF m f ds h = if ds.length = m then f ds h else .stuck := rfl
@[simp] theorem subG_ap {v : D} : subG a b v S h = ((a S h).noX).sbind S fun d1 h1 => ((b S h1).noX).sbind S fun d2 h2 => match storeD d1 d2 v h2 with
  | some h3 => .nx S h3
  | none => .stuck := rfl
@[simp] theorem mthC_ap {T : String} {f : D → List D → AH → Res D} : mthC T f c cs S h = (c S h).bind fun d h1 => if tyD h1 d = some T then (cs S h1).bind fun ds h2 => f d ds h2 else .stuck := rfl
@[simp] theorem fldC_ap {k f : Str} : fldC k f c S h = (c S h).bind fun d h1 => fldD k f d h1 := rfl
@[simp] theorem methC_ap {k m : Str} {φ : Fn} : methC k m φ c cs S h = (c S h).bind fun d h1 => match insAt k d h1 with
  | some (_, fs) => if fs.lookup m = none then (cs S h1).bind fun ds h2 => φ (d :: ds) h2 else .stuck
  | none => .stuck := rfl
@[simp] theorem noO_ap : noO S h = .ok none h := rfl
@[simp] theorem someO_ap : someO c S h = (c S h).bind fun d h1 => match d with
  | .int i => .ok (some i) h1
  | _ => .stuck := rfl
@[simp] theorem slC_ap {m : Bool} {lo hi : CO} : slC m c lo hi S h = (c S h).bind fun d h1 => (lo S h1).bind fun l h2 => (hi S h2).bind fun u h3 => slD m d l u h3 := rfl
@[simp] theorem negC_ap : negC c S h = (c S h).bind fun d h1 => match d with
  | .int i => .ok (.int (-i)) h1
  | _ => .stuck := rfl
@[simp] theorem fzE_ap : fzE c S h = (c S h).bind fun d h1 => .ok (fzD d h1).1 (fzD d h1).2 := rfl
@[simp] theorem sortItC_ap {m : Bool} : sortItC m c S h = (c S h).bind fun d h1 => match dctAt d h1 with
  | some (ks, vs) => sortRes m (itemsOf ks vs) h1
  | none => .stuck := rfl
@[simp] theorem makeC_ap {k : Str} {φ : Fn} : makeC k φ cs S h = (cs S h).bind fun ds h1 => (φ (.ref h1.length :: ds) (h1 ++ [.ins k []])).bind fun d h2 => match d with
  | .non => .ok (.ref h1.length) h2
  | _ => .stuck := rfl
@[simp] theorem altC_ap : altC a b S h = match a S h with
  | .stuck => b S h
  | r => r := rfl
@[simp] theorem raiseC_ap {k : Str} : raiseC k S h = .exc ⟨k, []⟩ S h := rfl
@[simp] theorem dispC_ap {m : Bool} {xs : List (Str × CE)} : dispC m xs S h = (valsC (xs.map (·.2)) S h).bind fun ds h1 => newDct m (dmerge [] [] (keysD xs) ds).1 (dmerge [] [] (keysD xs) ds).2 h1 := rfl
@[simp] theorem valsC_nil : valsC [] S h = .ok [] h := rfl
@[simp] theorem valsC_cons {l : List CE} : valsC (c :: l) S h = ((c S h).noX).bind fun x h1 => (valsC l S h1).bind fun xs h2 => .ok (x :: xs) h2 := rfl
@[simp] theorem seqOf_lst {xs : List D} : seqOf (.lst xs) h = some (xs, []) := rfl
@[simp] theorem seqOf_tup {xs : List D} : seqOf (.tup xs) h = some (xs, []) := rfl
theorem seqOf_ref {n : Nat} {xs : List D} (q : h[n]? = some (.lst xs)) : seqOf (.ref n) h = some (xs, [(n, xs)]) := by simp [seqOf, q]
theorem dctAt_ref {n : Nat} {xs ys : List D} (q : h[n]? = some (.dct xs ys)) : dctAt (.ref n) h = some (xs, ys) := by simp [dctAt, q]
@[simp] theorem gd_nil : GdOk [] h := fun g z => by cases z
theorem gd_one {n : Nat} {xs : List D} : GdOk [(n, xs)] h ↔ h[n]? = some (.lst xs) := by simp [GdOk]
end
section
variable {gs : Gd} {t : Tg} {cd : CT} {el : CE} {S : Sl} {h : AH}
/-- a comprehension whose parts leave the heap as it is, without a condition -/
theorem mapC_all {α : Type} {xs : List α} {f k : α → D} (hg : GdOk gs h) (hp : ∀ x ∈ xs, ∃ S1, t.put (f x) S = some S1 ∧ el S1 h = .ok (k x) h) : mapC gs t yesT el S (xs.map f) h = .ok (xs.map k) h := by
  induction xs with
  | nil => rfl
  | cons x xs ih =>
    obtain ⟨S1, h1, h2⟩ := hp x (by simp)
    have e := ih fun y hy => hp y (by simp [hy])
    simp [mapC, h1, h2, hg, e]
theorem mapC_if {α : Type} {xs : List α} {f k : α → D} {p : α → Bool} (hg : GdOk gs h) (hp : ∀ x ∈ xs, ∃ S1, t.put (f x) S = some S1 ∧ cd S1 h = .ok (p x) h ∧ (p x = true → el S1 h = .ok (k x) h)) : mapC gs t cd el S (xs.map f) h = .ok ((xs.filter p).map k) h := by
  induction xs with
  | nil => rfl
  | cons x xs ih =>
    obtain ⟨S1, h1, h2, h3⟩ := hp x (by simp)
    have e := ih fun y hy => hp y (by simp [hy])
    cases q : p x with
    | true => simp [mapC, h1, h2, h3 q, hg, e, q]
    | false => simp [mapC, h1, h2, hg, e, q]
theorem trim_same {f : Fn} {ds : List D} {d : D} {h h' : AH} (hf : f ds h = .ok d h') (hl : h'.length = h.length) : trimF f ds h = .ok d h' := by
  unfold trimF
  rw [hf]
  dsimp only
  split
  · rw [List.take_of_length_le (by omega)]
  · rfl
theorem trim_id {f : Fn} {ds : List D} {d : D} {h : AH} (hf : f ds h = .ok d h) : trimF f ds h = .ok d h := trim_same hf rfl
end
section
variable {h : AH}
theorem mapM_some {α β γ : Type} {f : α → β} {g : β → Option γ} {k : α → γ} : ∀ {xs : List α}, (∀ x ∈ xs, g (f x) = some (k x)) → (xs.map f).mapM g = some (xs.map k)
  | [], _ => rfl
  | x :: xs, q => by
    have e := mapM_some (xs := xs) fun y hy => q y (by simp [hy])
    rw [List.map_cons, List.mapM_cons, q x (by simp), e]
    rfl
@[simp] theorem dO_non {n : Nat} : dataOf h (n + 1) .non = some .none := by simp [dataOf]
@[simp] theorem dO_bl {n : Nat} {b : Bool} : dataOf h (n + 1) (.bl b) = some (.bool b) := by simp [dataOf]
@[simp] theorem dO_int {n : Nat} {i : Int} : dataOf h (n + 1) (.int i) = some (.int i) := by simp [dataOf]
@[simp] theorem dO_str {n : Nat} {x : Str} : dataOf h (n + 1) (.str x) = some (.str x) := by simp [dataOf]
theorem dO_tup {n : Nat} {xs : List D} : dataOf h (n + 1) (.tup xs) = (xs.mapM (dataOf h n)).map .tuple := by simp [dataOf]
theorem dO_lst {n : Nat} {xs : List D} : dataOf h (n + 1) (.lst xs) = (xs.mapM (dataOf h n)).map .list := by simp [dataOf]
theorem dO_ref {n m : Nat} {xs : List D} (q : h[m]? = some (.lst xs)) : dataOf h (n + 1) (.ref m) = (xs.mapM (dataOf h n)).map .list := by simp [dataOf, q]
end
@[simp] theorem eqv_ii {i j : Int} : PyData.eqv (.int i) (.int j) = (i == j) := by simp [PyData.eqv]
@[simp] theorem eqv_ss {i j : Str} : PyData.eqv (.str i) (.str j) = (i == j) := by simp [PyData.eqv]
@[simp] theorem eqv_nn : PyData.eqv .none .none = true := by simp [PyData.eqv]
@[simp] theorem eqv_bb {i j : Bool} : PyData.eqv (.bool i) (.bool j) = (i == j) := by simp [PyData.eqv]
@[simp] theorem eqv_tt {xs ys : List PyData} : PyData.eqv (.tuple xs) (.tuple ys) = PyData.eqvAll xs ys := by simp [PyData.eqv]
@[simp] theorem eqv_ll {xs ys : List PyData} : PyData.eqv (.list xs) (.list ys) = PyData.eqvAll xs ys := by simp [PyData.eqv]
@[simp] theorem eqv_nt {xs : List PyData} : PyData.eqv .none (.tuple xs) = false := by simp [PyData.eqv]
@[simp] theorem eqv_tn {xs : List PyData} : PyData.eqv (.tuple xs) .none = false := by simp [PyData.eqv]
@[simp] theorem eqv_is {i : Int} {x : Str} : PyData.eqv (.int i) (.str x) = false := by simp [PyData.eqv]
@[simp] theorem eqv_si {i : Int} {x : Str} : PyData.eqv (.str x) (.int i) = false := by simp [PyData.eqv]
@[simp] theorem eqA_nil : PyData.eqvAll [] [] = true := by simp [PyData.eqvAll]
@[simp] theorem eqA_cons {x y : PyData} {xs ys : List PyData} : PyData.eqvAll (x :: xs) (y :: ys) = (PyData.eqv x y && PyData.eqvAll xs ys) := by simp [PyData.eqvAll]
@[simp] theorem eqA_nc {y : PyData} {ys : List PyData} : PyData.eqvAll [] (y :: ys) = false := by simp [PyData.eqvAll]
@[simp] theorem eqA_cn {y : PyData} {ys : List PyData} : PyData.eqvAll (y :: ys) [] = false := by simp [PyData.eqvAll]
@[simp] theorem nb_f {b : Bool} : nb false b = b := rfl
@[simp] theorem nb_t {b : Bool} : nb true b = !b := rfl
/-! tables of keys and values -/
theorem putK_len2 : ∀ {ks vs : List D} {q x : D}, ks.length = vs.length → (dputK ks q).length = (dputV ks vs q x).length
  | [], [], _, _, _ => rfl
  | [], _ :: _, _, _, h => by cases h
  | _ :: _, [], _, _, h => by cases h
  | k :: ks, v :: vs, q, x, h => by
    simp only [dputK, dputV]
    split
    · simpa using h
    · simpa using putK_len2 (q := q) (x := x) (Nat.succ.inj h)
theorem delK_len2 : ∀ {ks vs : List D} {q : D}, ks.length = vs.length → (ddelK ks q).length = (ddelV ks vs q).length
  | [], [], _, _ => rfl
  | [], _ :: _, _, h => by cases h
  | _ :: _, [], _, h => by cases h
  | k :: ks, v :: vs, q, h => by
    simp only [ddelK, ddelV]
    split
    · simpa using h
    · simpa using delK_len2 (q := q) (Nat.succ.inj h)
theorem find_put : ∀ {ks vs : List D} {k x q : D}, ks.length = vs.length → dfind (dputK ks k) (dputV ks vs k x) q = if keyOf k = keyOf q then some x else dfind ks vs q
  | [], [], _, _, _, _ => by simp [dputK, dputV, dfind]
  | [], _ :: _, _, _, _, h => by cases h
  | _ :: _, [], _, _, _, h => by cases h
  | a :: ks, v :: vs, k, x, q, h => by
    have ih := find_put (k := k) (x := x) (q := q) (Nat.succ.inj h)
    simp only [dputK, dputV]
    by_cases e : keyOf a = keyOf k
    · simp only [if_pos e, dfind]
      by_cases e2 : keyOf a = keyOf q
      · simp [e2, ← e]
      · have : ¬ keyOf k = keyOf q := e ▸ e2
        simp [e2, this]
    · simp only [if_neg e, dfind, ih]
      by_cases e2 : keyOf a = keyOf q
      · have : ¬ keyOf k = keyOf q := fun z => e (e2.trans z.symm)
        simp [e2, this]
      · simp [e2]
theorem find_miss : ∀ {ks vs : List D} {q : D}, keyOf q ∉ ks.map keyOf → dfind ks vs q = none
  | [], _, _, _ => by simp [dfind]
  | _ :: _, [], _, _ => by simp [dfind]
  | a :: ks, v :: vs, q, h => by
    simp only [List.map_cons, List.mem_cons, not_or] at h
    simp only [dfind, if_neg fun z => h.1 (Eq.symm z)]
    exact find_miss h.2
theorem find_del : ∀ {ks vs : List D} {k q : D}, (ks.map keyOf).Nodup → dfind (ddelK ks k) (ddelV ks vs k) q = if keyOf k = keyOf q then none else dfind ks vs q
  | [], _, _, _, _ => by simp [ddelK, ddelV, dfind]
  | a :: ks, [], k, q, _ => by
    simp only [ddelK, ddelV, dfind]
    cases (if keyOf a = keyOf k then ks else a :: ddelK ks k) <;> simp [dfind]
  | a :: ks, v :: vs, k, q, h => by
    simp only [List.map_cons, List.nodup_cons] at h
    have ih := find_del (vs := vs) (k := k) (q := q) h.2
    simp only [ddelK, ddelV]
    by_cases e : keyOf a = keyOf k
    · simp only [if_pos e, dfind]
      by_cases e2 : keyOf k = keyOf q
      · simp only [if_pos e2]
        exact find_miss (by rw [← e2, ← e]; exact h.1)
      · have : ¬ keyOf a = keyOf q := fun z => e2 (e.symm.trans z)
        simp [e2, this]
    · simp only [if_neg e, dfind, ih]
      by_cases e2 : keyOf a = keyOf q
      · have : ¬ keyOf k = keyOf q := fun z => e (e2.trans z.symm)
        simp [e2, this]
      · simp [e2]
theorem find_mem : ∀ {ks vs : List D} {q d : D}, dfind ks vs q = some d → keyOf q ∈ ks.map keyOf
  | [], _, _, _, h => by simp [dfind] at h
  | _ :: _, [], _, _, h => by simp [dfind] at h
  | a :: ks, v :: vs, q, d, h => by
    simp only [dfind] at h
    split at h
    · rename_i e
      simp [e]
    · simp [List.mem_cons, find_mem h]
theorem mem_find : ∀ {ks vs : List D} {q : D}, ks.length = vs.length → keyOf q ∈ ks.map keyOf → ∃ d, dfind ks vs q = some d
  | [], _, _, _, h => by simp at h
  | _ :: _, [], _, h, _ => by cases h
  | a :: ks, v :: vs, q, h, m => by
    simp only [dfind]
    by_cases e : keyOf a = keyOf q
    · exact ⟨v, if_pos e⟩
    · simp only [if_neg e]
      simp only [List.map_cons, List.mem_cons] at m
      exact mem_find (Nat.succ.inj h) (m.resolve_left fun z => e z.symm)
structure DOk (P : D → Prop) (n : Nat) (ks vs : List D) : Prop where
  len : ks.length = vs.length
  nd : (ks.map keyOf).Nodup
  all : ∀ k ∈ ks, P k
  lim : ks.length ≤ n
theorem putK_mem : ∀ {ks : List D} {q k : D}, k ∈ dputK ks q → k ∈ ks ∨ k = q
  | [], q, k, h => by simp [dputK] at h; exact .inr h
  | a :: ks, q, k, h => by
    simp only [dputK] at h
    split at h
    · exact .inl h
    · rcases List.mem_cons.mp h with z | z
      · exact .inl (by simp [z])
      · rcases putK_mem z with z | z
        · exact .inl (by simp [z])
        · exact .inr z
theorem delK_mem : ∀ {ks : List D} {q k : D}, k ∈ ddelK ks q → k ∈ ks
  | [], q, k, h => by simp [ddelK] at h
  | a :: ks, q, k, h => by
    simp only [ddelK] at h
    split at h
    · simp [h]
    · rcases List.mem_cons.mp h with z | z
      · simp [z]
      · simp [delK_mem z]
theorem DOk.put {P : D → Prop} {n : Nat} {ks vs : List D} {k x : D} (o : DOk P n ks vs) (hk : P k) : DOk P (n + 1) (dputK ks k) (dputV ks vs k x) where
  len := putK_len2 o.len
  nd := putK_nd ks k o.nd
  all := fun k' h => by
    rcases putK_mem h with z | z
    · exact o.all _ z
    · exact z ▸ hk
  lim := Nat.le_trans (putK_len ks k) (Nat.succ_le_succ o.lim)
theorem DOk.del {P : D → Prop} {n : Nat} {ks vs : List D} {k : D} (o : DOk P n ks vs) : DOk P n (ddelK ks k) (ddelV ks vs k) where
  len := delK_len2 o.len
  nd := (delK_sub ks k).nodup o.nd
  all := fun k' h => o.all _ (delK_mem h)
  lim := Nat.le_trans (delK_len ks k) o.lim
theorem DOk.mono {P : D → Prop} {n m : Nat} {ks vs : List D} (o : DOk P n ks vs) (h : n ≤ m) : DOk P m ks vs := ⟨o.len, o.nd, o.all, Nat.le_trans o.lim h⟩
theorem DOk.nil {P : D → Prop} {n : Nat} : DOk P n [] [] := ⟨rfl, by simp, fun _ h => by simp at h, Nat.zero_le _⟩
@[simp] theorem key_int {i : Int} : keyOf (.int i) = some (.num i) := by simp [keyOf, keyOfF]
@[simp] theorem key_str {i : Str} : keyOf (.str i) = some (.text i) := by simp [keyOf, keyOfF]
@[simp] theorem kf_int {n : Nat} {i : Int} : keyOfF (n + 1) (.int i) = some (.num i) := by simp [keyOfF]
@[simp] theorem kf_str {n : Nat} {i : Str} : keyOfF (n + 1) (.str i) = some (.text i) := by simp [keyOfF]
theorem kf_tup {n : Nat} {xs : List D} : keyOfF (n + 1) (.tup xs) = (xs.mapM (keyOfF n)).map .tup := by simp [keyOfF]
theorem keyOk_leaf {ks : List D} {k : D} (h1 : leafK k = true) (h2 : ∀ x ∈ ks, leafK x = true) (h3 : (keyOf k).isSome = true) : keyOk ks k = true := by
  have : ks.all leafK = true := List.all_eq_true.mpr h2
  simp [keyOk, h1, this, h3]
theorem keyOk_tup {ks : List D} {k : D} (h1 : tupKy k = true) (h2 : ∀ x ∈ ks, tupKy x = true) (h3 : (keyOf k).isSome = true) : keyOk ks k = true := by
  have : ks.all tupKy = true := List.all_eq_true.mpr h2
  simp [keyOk, h1, this, h3]
/-! sorted lists -/
theorem srt_eq {α : Type} {lt : α → α → Prop} (irr : ∀ a, ¬ lt a a) (tr : ∀ a b c, lt a b → lt b c → lt a c) : ∀ {xs ys : List α}, xs.Pairwise lt → ys.Pairwise lt → (∀ a, a ∈ xs ↔ a ∈ ys) → xs = ys
  | [], [], _, _, _ => rfl
  | [], y :: ys, _, _, h => absurd ((h y).mpr (by simp)) (by simp)
  | x :: xs, [], _, _, h => absurd ((h x).mp (by simp)) (by simp)
  | x :: xs, y :: ys, h1, h2, h => by
    rw [List.pairwise_cons] at h1 h2
    have e : x = y := by
      rcases List.mem_cons.mp ((h x).mp (by simp)) with z | z
      · exact z
      rcases List.mem_cons.mp ((h y).mpr (by simp)) with z' | z'
      · exact z'.symm
      · exact absurd (tr _ _ _ (h1.1 _ z') (h2.1 _ z)) (irr _)
    subst e
    congr 1
    refine srt_eq irr tr h1.2 h2.2 fun a => ⟨fun m => ?_, fun m => ?_⟩
    · rcases List.mem_cons.mp ((h a).mp (by simp [m])) with z | z
      · exact absurd (h1.1 _ m) (z ▸ irr _)
      · exact z
    · rcases List.mem_cons.mp ((h a).mpr (by simp [m])) with z | z
      · exact absurd (h2.1 _ m) (z ▸ irr _)
      · exact z
/-- data in order stay so -/
theorem dsort_id {ps : List (D × PyData)} (h : ps.Pairwise fun p q => PySem.W.dataLt q.2 p.2 = false) : dsort ps = ps.map (·.1) := by
  unfold dsort
  rw [List.mergeSort_of_pairwise]
  refine h.imp fun {a b} e => ?_
  show (!PySem.W.dataLt b.2 a.2) = true
  rw [e]; rfl
theorem alike_ints {ns : List Int} : AllAlike (ns.map .int) := fun d h d' h' => by
  obtain ⟨a, _, rfl⟩ := List.mem_map.mp h
  obtain ⟨b, _, rfl⟩ := List.mem_map.mp h'
  simp [PySem.W.alike]
theorem sortable_ints {ns : List Int} : Sortable (ns.map .int) := .inr fun d h => by
  obtain ⟨a, _, rfl⟩ := List.mem_map.mp h
  exact ⟨by simp, fun xs => by simp⟩
theorem zip_map2 {α β γ : Type} (f : α → β) (g : α → γ) : ∀ xs : List α, (xs.map f).zip (xs.map g) = xs.map fun x => (f x, g x)
  | [] => rfl
  | x :: xs => by simp [zip_map2 f g xs]
def leI (i j : Int) : Bool := decide (i ≤ j)
theorem sort_ints {m : Bool} {ns : List Int} {h : AH} : sortRes m (ns.map .int) h = newL m ((ns.mergeSort leI).map .int) h := by
  unfold sortRes
  rw [mapM_some (k := PyData.int) fun x _ => dO_int]
  simp only [alike_ints, sortable_ints, and_self, if_true]
  congr 1
  unfold dsort
  rw [zip_map2, PySem.W.dataLe_eq]
  rw [← List.map_mergeSort (r := leI) (f := fun x : Int => (D.int x, PyData.int x)) (hl := ?_)]
  · simp
  · intro a _ b _
    show leI a b = !PySem.W.dataLt (.int b) (.int a)
    rw [PySem.W.dataLt_int, PySem.W.not_lt_int]; rfl
theorem leI_pair {ns : List Int} : (ns.mergeSort leI).Pairwise (· ≤ ·) := by
  have := List.pairwise_mergeSort (le := leI) (fun a b c => by simp [leI]; omega) (fun a b => by simp [leI]; omega) ns
  exact this.imp fun {a b} h => by simpa [leI] using h
theorem leI_sorted {ns : List Int} (h : ns.Pairwise (· < ·)) : ns.mergeSort leI = ns :=
  List.mergeSort_of_pairwise (h.imp fun {a b} z => by simp [leI]; omega)
/-- a list without doubles, sorted: known by its members -/
theorem leI_mem {ns ms : List Int} (hn : ns.Nodup) (hm : ms.Pairwise (· < ·)) (h : ∀ i, i ∈ ns ↔ i ∈ ms) : ns.mergeSort leI = ms := by
  have p : (ns.mergeSort leI).Perm ns := List.mergeSort_perm ns leI
  refine srt_eq (lt := (· < ·)) (fun a => by simp) (fun a b c h1 h2 => by omega) ?_ hm fun a => (p.mem_iff).trans (h a)
  have nd : (ns.mergeSort leI).Nodup := p.nodup_iff.mpr hn
  exact (leI_pair.and nd).imp fun {a b} ⟨z1, z2⟩ => by omega
section
variable {h : AH} {i j : Int} {m : Bool} {xs ys : List D} {x y : Str}
@[simp] theorem abs_i : absF [.int i] h = .ok (.int (if i < 0 then -i else i)) h := rfl
@[simp] theorem int_i : intF [.int i] h = .ok (.int i) h := rfl
@[simp] theorem int_b {b : Bool} : intF [.bl b] h = .ok (.int (if b then 1 else 0)) h := rfl
@[simp] theorem min_i : minF [.int i, .int j] h = .ok (.int (if j < i then j else i)) h := rfl
@[simp] theorem max_i : maxF [.int i, .int j] h = .ok (.int (if j > i then j else i)) h := rfl
@[simp] theorem add_i : addD m (.int i) (.int j) h = .ok (.int (i + j)) h := rfl
@[simp] theorem sub_i : subD (.int i) (.int j) h = .ok (.int (i - j)) h := rfl
@[simp] theorem mul_i : mulD m (.int i) (.int j) h = if mulOk i j then .ok (.int (i * j)) h else .stuck := rfl
@[simp] theorem fdiv_i : fdivD (.int i) (.int j) h = if 0 < j ∧ j.natAbs.log2 < 9000 then .ok (.int (i / j)) h else .stuck := rfl
@[simp] theorem mod_i : modD (.int i) (.int j) h = if 0 < j then .ok (.int (i % j)) h else .stuck := rfl
@[simp] theorem pow_i : powD (.int i) (.int j) h = if 0 ≤ j ∧ j ≤ 1000000 ∧ i.natAbs < 2 ^ 64 then .ok (.int (i ^ j.toNat)) h else .stuck := rfl
@[simp] theorem cmp_i {f : Int → Int → Bool} {g : List Nat → List Nat → Bool} : cmpD f g (.int i) (.int j) h = .ok (.bl (f i j)) h := rfl
@[simp] theorem add_l : addD false (.lst xs) (.lst ys) h = if xs.length + ys.length ≤ 16777216 then .ok (.lst (xs ++ ys)) h else .stuck := by simp [addD, isT]
@[simp] theorem add_t : addD m (.tup xs) (.tup ys) h = if xs.length + ys.length ≤ 16777216 then .ok (.tup (xs ++ ys)) h else .stuck := by simp [addD, isT]
@[simp] theorem rep_l {k : Int} : mulD false (.lst xs) (.int k) h = if -(2 ^ 63) ≤ k ∧ k < 2 ^ 63 ∧ xs.length * k.toNat ≤ 16777216 then .ok (.lst (repL k.toNat xs)) h else .stuck := by simp [mulD, isT]
@[simp] theorem len_l : lenDF [.lst xs] h = .ok (.int xs.length) h := rfl
@[simp] theorem len_t : lenDF [.tup xs] h = .ok (.int xs.length) h := rfl
@[simp] theorem len_s {ns : List Int} : lenDF [.scr ns] h = .ok (.int ns.length) h := rfl
@[simp] theorem len_d : lenDF [.dct xs ys] h = if xs.all leafK then .ok (.int xs.length) h else .stuck := rfl
theorem len_r {n : Nat} (q : h[n]? = some (.lst xs)) : lenDF [.ref n] h = .ok (.int xs.length) h := by simp [lenDF, dctAt, lenF, seqOf, q]
@[simp] theorem tup_l : tupleF [.lst xs] h = .ok (.tup xs) h := rfl
@[simp] theorem tup_t : tupleF [.tup xs] h = .ok (.tup xs) h := rfl
theorem tup_r {n : Nat} (q : h[n]? = some (.lst xs)) : tupleF [.ref n] h = .ok (.tup xs) h := by simp [tupleF, seqOf, q]
@[simp] theorem lst_l : listDF false [.lst xs] h = .ok (.lst xs) h := rfl
@[simp] theorem lst_t : listDF false [.tup xs] h = .ok (.lst xs) h := rfl
@[simp] theorem lst_d : listDF false [.dct xs ys] h = .ok (.lst xs) h := rfl
@[simp] theorem isi_i {c : String} {c' : String} : isiF [.int i, .tup [.ty c, .ty c']] h = if okTy c && okTy c' then .ok (.bl (subTy "int" c || subTy "int" c')) h else .stuck := rfl
theorem bls_of : ∀ {bs : List Bool}, blsOf (bs.map D.bl) = some bs
  | [] => rfl
  | b :: bs => by
    have e := bls_of (bs := bs)
    unfold blsOf at e ⊢
    rw [List.map_cons, List.mapM_cons, e]
    rfl
theorem ints_of : ∀ {ns : List Int}, intsOf (ns.map D.int) = some ns
  | [] => rfl
  | b :: bs => by
    have e := ints_of (ns := bs)
    unfold intsOf at e ⊢
    rw [List.map_cons, List.mapM_cons, e]
    rfl
@[simp] theorem any_l {bs : List Bool} : anyF [.lst (bs.map D.bl)] h = .ok (.bl (bs.any id)) h := by
  simp [anyF, aggF, isT, bls_of]
@[simp] theorem all_l {bs : List Bool} : allF [.lst (bs.map D.bl)] h = .ok (.bl (bs.all id)) h := by
  simp [allF, aggF, isT, bls_of]
@[simp] theorem sum_l {ns : List Int} : sumF [.lst (ns.map D.int)] h = .ok (.int ns.sum) h := by
  simp [sumF, aggF, isT, ints_of]
@[simp] theorem tr_bl {b : Bool} : truthD (.bl b) h = some b := rfl
theorem mulOk_r (h1 : -(2 ^ 64) < j) (h2 : j < 2 ^ 64) : mulOk i j := .inr (.inl ⟨h1, h2⟩)
theorem mulOk_l (h1 : -(2 ^ 64) < i) (h2 : i < 2 ^ 64) : mulOk i j := .inr (.inr ⟨h1, h2⟩)
end
@[simp] theorem dctAt_non {h : AH} : dctAt .non h = none := rfl
@[simp] theorem dctAt_bl {h : AH} {b : Bool} : dctAt (.bl b) h = none := rfl
@[simp] theorem dctAt_int {h : AH} {b : Int} : dctAt (.int b) h = none := rfl
@[simp] theorem dctAt_str {h : AH} {b : Str} : dctAt (.str b) h = none := rfl
@[simp] theorem dctAt_tup {h : AH} {b : List D} : dctAt (.tup b) h = none := rfl
@[simp] theorem dctAt_lst {h : AH} {b : List D} : dctAt (.lst b) h = none := rfl
@[simp] theorem dctAt_dct {h : AH} {b c : List D} : dctAt (.dct b c) h = some (b, c) := rfl
end G

/-! MD: dicts of the heap, told by what they find. -/
namespace G
open PySem PySem.Spec L2
open PyProof.Rows hiding St
section
variable {κ : Type} [DecidableEq κ]
def upd1 (F : κ → Option D) (a : κ) (x : Option D) : κ → Option D := fun b => if b = a then x else F b
@[simp] theorem upd1_same {F : κ → Option D} {a : κ} {x : Option D} : upd1 F a x a = x := if_pos rfl
theorem upd1_other {F : κ → Option D} {a b : κ} {x : Option D} (h : b ≠ a) : upd1 F a x b = F b := if_neg h
/-- keys that tell what they are of -/
structure KD (kd : κ → D) : Prop where
  inj : ∀ a b, keyOf (kd a) = keyOf (kd b) → a = b
  ok : ∀ a (ks : List D), (∀ k ∈ ks, ∃ b, k = kd b) → keyOk ks (kd a) = true
  nn : ∀ a, isNonD (kd a) = false
structure DK (kd : κ → D) (n : Nat) (ks vs : List D) (F : κ → Option D) : Prop where
  d : DOk (fun k => ∃ b, k = kd b) n ks vs
  find : ∀ a, dfind ks vs (kd a) = F a
variable {kd : κ → D} {n m : Nat} {ks vs : List D} {F F' : κ → Option D} {a b : κ} {x v : D} {h : AH}
theorem DK.put (hk : KD kd) (o : DK kd n ks vs F) : DK kd (n + 1) (dputK ks (kd a)) (dputV ks vs (kd a) x) (upd1 F a (some x)) where
  d := o.d.put ⟨a, rfl⟩
  find := fun b => by
    rw [find_put o.d.len, o.find]
    by_cases e : b = a
    · subst e; simp
    · rw [upd1_other e, if_neg fun z => e (hk.inj _ _ z).symm]
theorem DK.del (hk : KD kd) (o : DK kd n ks vs F) : DK kd n (ddelK ks (kd a)) (ddelV ks vs (kd a)) (upd1 F a none) where
  d := o.d.del
  find := fun b => by
    rw [find_del o.d.nd, o.find]
    by_cases e : b = a
    · subst e; simp
    · rw [upd1_other e, if_neg fun z => e (hk.inj _ _ z).symm]
theorem DK.of (o : DK kd n ks vs F) (e : F = F') : DK kd n ks vs F' := e ▸ o
theorem DK.more (o : DK kd n ks vs F) (e : n ≤ m) : DK kd m ks vs F := ⟨o.d.mono e, o.find⟩
theorem DK.nil : DK kd n [] [] fun _ => none := ⟨.nil, fun a => by simp [dfind]⟩
theorem DK.mem (o : DK kd n ks vs F) (hk : KD kd) : kd a ∈ ks ↔ ∃ v, F a = some v := by
  constructor
  · intro q
    obtain ⟨v, e⟩ := mem_find o.d.len (q := kd a) (List.mem_map.mpr ⟨_, q, rfl⟩)
    exact ⟨v, (o.find a).symm.trans e⟩
  · rintro ⟨v, e⟩
    obtain ⟨k, q, e2⟩ := List.mem_map.mp (find_mem ((o.find a).trans e))
    obtain ⟨b, rfl⟩ := o.d.all k q
    rw [hk.inj _ _ e2] at q
    exact q
theorem dk_item (hk : KD kd) (o : DK kd n ks vs F) (q : h[m]? = some (.dct ks vs)) (e : F a = some v) : itemD (.ref m) (kd a) h = .ok v h := by
  unfold itemD
  rw [dctAt_ref q]
  simp [hk.ok a ks o.d.all, o.find, e]
theorem dk_get (hk : KD kd) (o : DK kd n ks vs F) (q : h[m]? = some (.dct ks vs)) : dgetM (.ref m) [kd a, x] h = .ok ((F a).getD x) h := by
  unfold dgetM
  rw [dctAt_ref q]
  simp [hk.ok a ks o.d.all, o.find]
theorem dk_pop (hk : KD kd) (o : DK kd n ks vs F) (q : h[m]? = some (.dct ks vs)) (e : F a = some v) : dpopM (.ref m) [kd a] h = .ok v (h.set m (.dct (ddelK ks (kd a)) (ddelV ks vs (kd a)))) := by
  simp [dpopM, dctN, q, hk.ok a ks o.d.all, hk.nn, o.find, e]
theorem dk_popS (hk : KD kd) (o : DK kd n ks vs F) (q : h[m]? = some (.dct ks vs)) (e : F a = some v) : dpopM (.ref m) [kd a, x] h = .ok v (h.set m (.dct (ddelK ks (kd a)) (ddelV ks vs (kd a)))) := by
  simp [dpopM, dctN, q, hk.ok a ks o.d.all, hk.nn, o.find, e]
theorem dk_popN (hk : KD kd) (o : DK kd n ks vs F) (q : h[m]? = some (.dct ks vs)) (e : F a = none) : dpopM (.ref m) [kd a, x] h = .ok x h := by
  simp [dpopM, dctN, q, hk.ok a ks o.d.all, hk.nn, o.find, e]
theorem dk_store (hk : KD kd) (o : DK kd n ks vs F) (q : h[m]? = some (.dct ks vs)) (hn : n < 16777216) : storeD (.ref m) (kd a) x h = some (h.set m (.dct (dputK ks (kd a)) (dputV ks vs (kd a) x))) := by
  have := o.d.lim
  have l : ks.length < 16777216 := by omega
  simp [storeD, dctN, q, hk.ok a ks o.d.all, l]
theorem dk_in {neg : Bool} (hk : KD kd) (o : DK kd n ks vs F) (q : h[m]? = some (.dct ks vs)) : containsD neg (kd a) (.ref m) h = .ok (.bl (nb neg (F a).isSome)) h := by
  unfold containsD
  rw [dctAt_ref q]
  simp [hk.ok a ks o.d.all, o.find]
end
theorem kd_int : KD D.int where
  inj := fun a b e => by simpa using e
  ok := fun a ks h => keyOk_leaf rfl (fun x m => by obtain ⟨b, rfl⟩ := h x m; rfl) (by simp)
  nn := fun a => rfl
/-! lists of the heap -/
section
variable {h : AH} {n : Nat} {xs ys : List D} {x : D}
theorem add_r (q : h[n]? = some (.lst xs)) : addD false (.ref n) (.lst ys) h = if xs.length + ys.length ≤ 16777216 then .ok (.lst (xs ++ ys)) h else .stuck := by
  simp [addD, seqOf, q, isT]
theorem app_r (q : h[n]? = some (.lst xs)) (hl : xs.length < 16777216) : appendM (.ref n) [x] h = .ok .non (h.set n (.lst (xs ++ [x]))) := by
  simp [appendM, lstAt, q, hl]
theorem pop_r (q : h[n]? = some (.lst (xs ++ [x]))) : popM (.ref n) [] h = .ok x (h.set n (.lst xs)) := by
  simp [popM, lstAt, q]
theorem erIx_map {α β : Type} (f : α → β) : ∀ (xs : List α) (i : Nat), (xs.map f).eraseIdx i = (xs.eraseIdx i).map f
  | [], _ => rfl
  | _ :: _, 0 => rfl
  | x :: xs, i + 1 => by simp [erIx_map f xs i]
theorem rem_r {ns : List Int} {k : Int} (q : h[n]? = some (.lst (ns.map D.int))) (m : k ∈ ns) : removeM (.ref n) [.int k] h = .ok .non (h.set n (.lst ((ns.erase k).map D.int))) := by
  have e1 : ns.idxOf k < ns.length := List.idxOf_lt_length_of_mem m
  have e2 : (ns.map D.int).eraseIdx (ns.idxOf k) = (ns.erase k).map D.int := by
    rw [List.erase_eq_eraseIdx_of_idxOf (i := ns.idxOf k) rfl, erIx_map]
  simp [removeM, lstAt, q, ints_of, e1, e2]
theorem tyD_lr (q : h[n]? = some (.lst xs)) : tyD h (.ref n) = some "list" := by simp [tyD, q]
theorem tyD_dr (q : h[n]? = some (.dct xs ys)) : tyD h (.ref n) = some "dict" := by simp [tyD, q]
end
end G

/-! M2: what the smaller defs of k87 compute. -/
namespace K87
open PySem PySem.Spec L2 G
open PyProof.Rows hiding St
theorem atI_nat {α : Type} {xs : List α} {k : Nat} : atI xs (k : Int) = xs[k]? := by
  unfold atI ixN
  by_cases h : k < xs.length
  · simp [h]
  · simp [h, List.getElem?_eq_none (Nat.le_of_not_lt h)]
@[simp] theorem ix_lst {xs : List D} {i : Int} {h : AH} : itemD (.lst xs) (.int i) h = match atI xs i with
  | some d => .ok d h
  | none => .stuck := by simp [itemD, dctAt, ixD] <;> cases atI xs i <;> rfl
@[simp] theorem ix_tup {xs : List D} {i : Int} {h : AH} : itemD (.tup xs) (.int i) h = match atI xs i with
  | some d => .ok d h
  | none => .stuck := by simp [itemD, dctAt, ixD] <;> cases atI xs i <;> rfl
theorem ix_ref {xs : List D} {i : Int} {h : AH} {n : Nat} (q : h[n]? = some (.lst xs)) : itemD (.ref n) (.int i) h = match atI xs i with
  | some d => .ok d h
  | none => .stuck := by simp [itemD, dctAt, ixD, seqOf, q] <;> cases atI xs i <;> rfl
@[simp] theorem atI_c0 {α : Type} {x : α} {xs : List α} : atI (x :: xs) 0 = some x := by simpa using atI_nat (xs := x :: xs) (k := 0)
@[simp] theorem atI_c1 {α : Type} {x y : α} {xs : List α} : atI (x :: y :: xs) 1 = some y := by simpa using atI_nat (xs := x :: y :: xs) (k := 1)
@[simp] theorem atI_c2 {α : Type} {x y z : α} {xs : List α} : atI (x :: y :: z :: xs) 2 = some z := by simpa using atI_nat (xs := x :: y :: z :: xs) (k := 2)
@[simp] theorem atI_c3 {α : Type} {x y z u : α} {xs : List α} : atI (x :: y :: z :: u :: xs) 3 = some u := by simpa using atI_nat (xs := x :: y :: z :: u :: xs) (k := 3)
theorem e_cell_at {ns : List Int} {k : Nat} {h : AH} : φ__law_cell_at [.scr ns, .int k] h = .ok (.int (ns.getD k 0)) h := by
  unfold φ__law_cell_at
  simp only [argF_ap, List.length_cons, List.length_nil, if_pos]
  refine trim_id ?_
  by_cases q : k < ns.length
  · simp [b__law_cell_at, lenDF, dctAt, lenF, cmpD, q, itemD, ixD, atI_nat]
  · simp [b__law_cell_at, lenDF, dctAt, lenF, cmpD, q, List.getElem?_eq_none (Nat.le_of_not_lt q)]
theorem e_box {ns : List Int} {k : Nat} {h : AH} : ∃ b0 b1 : Int, φ__law_box [.scr ns, .int k] h = .ok (.ref h.length) (h ++ [.lst [.int b0, .int b1, .int 0]]) := by
  have m1 : ∀ (i : Int) (c : Prop) [Decidable c], mulOk i (if c then 1 else 0) := fun i c _ => mulOk_r (by split <;> simp) (by split <;> simp)
  have m2 : mulOk 39373 (k : Int) := mulOk_l (by simp) (by simp)
  unfold φ__law_box
  simp [b__law_box, e_cell_at, m1, m2]
def once (b1 c : Int) : Int := (b1 + 48271 * c) * (39373 + c) % 2147483647
def twice (b1 c : Int) : Int := (once b1 c + c) * (once b1 c % 40009 + 7) % 2147483629
def drawn (b1 c many : Int) : Int := (twice b1 c * 48271 + once b1 c) % 2147483587 / 64 % many
/-- a draw -/
theorem e_take {n : Nat} {h : AH} {b0 b1 b2 many : Int} (q : h[n]? = some (.lst [.int b0, .int b1, .int b2])) (h1 : 0 < many) (h2 : many < 100) (h3 : 0 ≤ b2) (h4 : b2 < 2 ^ 60) :
    ∃ f b0' b2' : Int, φ__law_take [.ref n, .int many] h = .ok (.int f) (h.set n (.lst [.int b0', .int b1, .int b2'])) ∧ 0 ≤ f ∧ f < many ∧ 0 ≤ b2' ∧ b2' ≤ b2 + 1 := by
  have hn : n < h.length := (List.getElem?_eq_some_iff.mp q).1
  have hl : many.natAbs.log2 < 9000 := by
    have : many.natAbs < 2 ^ 7 := by omega
    have := Nat.log2_lt (n := many.natAbs) (k := 7) (by omega) |>.mpr this
    omega
  by_cases hb : 0 < b0
  · refine ⟨b0 % many, b0 / many, b2, ?_, Int.emod_nonneg _ (by omega), Int.emod_lt_of_pos _ h1, h3, by omega⟩
    unfold φ__law_take
    simp only [argF_ap, List.length_cons, List.length_nil, if_pos]
    refine trim_same (h' := h.set n _) ?_ (by simp)
    simp [b__law_take, ix_ref q, hb, h1, hl, storeD, dctN, lstAt, q, ixN]
  · have m1 : mulOk 48271 (b2 + 1) := mulOk_l (by simp) (by simp)
    have m2 : ∀ z, mulOk z (39373 + (b2 + 1)) := fun z => mulOk_r (by omega) (by omega)
    have m3 : ∀ z y : Int, mulOk z (y % 40009 + 7) := fun z y => mulOk_r (by omega) (by omega)
    have m4 : ∀ z : Int, mulOk z 48271 := fun z => mulOk_r (by simp) (by simp)
    have q2 : (h.set n (.lst [.int b0, .int b1, .int (b2 + 1)]))[n]? = some (.lst [.int b0, .int b1, .int (b2 + 1)]) := by simp [hn]
    have l64 : Nat.log2 64 < 9000 := by decide
    refine ⟨drawn b1 (b2 + 1) many, b0, b2 + 1, ?_, Int.emod_nonneg _ (by omega), Int.emod_lt_of_pos _ h1, by omega, by omega⟩
    unfold φ__law_take
    simp only [argF_ap, List.length_cons, List.length_nil, if_pos]
    refine trim_same (h' := h.set n _) ?_ (by simp)
    simp [b__law_take, ix_ref q, ix_ref q2, hb, h1, hl, storeD, dctN, lstAt, q, ixN, m1, m2, m3, m4, l64, drawn, twice, once]
end K87

/-! M3: what the defs of k87 without a heap compute. -/
namespace K87
open PySem PySem.Spec L2 G
open PyProof.Rows hiding St
def Pl : Nat → D → Prop
  | 0, _ => False
  | n + 1, d => match d with
    | .non => True
    | .int _ => True
    | .str _ => True
    | .tup xs => ∀ x ∈ xs, Pl n x
    | .lst xs => ∀ x ∈ xs, Pl n x
    | _ => False
theorem zipD_self : ∀ xs : List D, zipD xs xs = xs.map fun x => .tup [x, x]
  | [] => rfl
  | x :: xs => by
    have := zipD_self xs
    unfold zipD at this ⊢
    simp [this]
theorem all_rep {n : Nat} {h : AH} : allF [.lst (List.replicate n (.bl true))] h = .ok (.bl true) h := by
  have := all_l (bs := List.replicate n true) (h := h)
  simpa using this
theorem same_all {n : Nat} {h : AH} {xs : List D} {S : Sl} (hS : 4 ≤ S.length) (ih : ∀ x ∈ xs, φn__law_same n [x, x] h = .ok (.bl true) h) :
    mapC [] (.t [2, 3]) yesT (callC (φn__law_same n) (consA (varC 2) (consA (varC 3) nilA))) S (zipD xs xs) h = .ok (List.replicate xs.length (.bl true)) h := by
  rw [zipD_self, ← List.map_const']
  refine mapC_all (k := fun _ => D.bl true) gd_nil fun x hx => ⟨(S.set 2 (some x)).set 3 (some x), by simp [Tg.put, setAll], ?_⟩
  have h2 : 2 < S.length := by omega
  have h3 : 3 < S.length := by omega
  simp [h2, h3, ih x hx]
theorem e_same : ∀ {n : Nat} {d : D} {h : AH}, Pl n d → φn__law_same n [d, d] h = .ok (.bl true) h
  | 0, _, _, q => q.elim
  | n + 1, d, h, q => by
    simp only [φn__law_same, argF_ap, List.length_cons, List.length_nil, if_pos]
    refine trim_id ?_
    cases d with
    | non => simp [b__law_same, isiF, tyD, okTy, subTy, isD, G.isNon, eqX, neD, eqD]
    | int i => simp [b__law_same, isiF, tyD, okTy, subTy, isD, G.isNon, eqX, neD, eqD]
    | str x => simp [b__law_same, isiF, tyD, okTy, subTy, isD, G.isNon, eqX, neD, eqD]
    | tup xs =>
      have ih := same_all (S := [some (.tup xs), some (.tup xs), none, none]) (h := h) (by simp) fun x hx => e_same (q x hx)
      simp [b__law_same, isiF, tyD, okTy, subTy, isD, G.isNon, eqX, neD, eqD, ih, all_rep]
    | lst xs =>
      have ih := same_all (S := [some (.lst xs), some (.lst xs), none, none]) (h := h) (by simp) fun x hx => e_same (q x hx)
      simp [b__law_same, isiF, tyD, okTy, subTy, isD, G.isNon, eqX, neD, eqD, ih, all_rep]
    | _ => exact q.elim
end K87

/-! M4: tables of rows; the law's own cells. -/
namespace K87
open PySem PySem.Spec L2 G
open PyProof.Rows hiding St
open PySem.W (AllAlike Sortable alike dataLt)
structure Row where
  p : Int
  s : Str
  v : Int
abbrev Tb := List (Int × Row)
def r3 (r : Row) : D := .tup [.int r.p, .str r.s, .int r.v]
def r4 (r : Row) : D := .tup [.int r.p, .str r.s, .int r.v, .int r.v]
def hit (p : Int) (s : Str) (e : Int × Row) : Bool := e.2.p == p && e.2.s == s
def own (L : Tb) (p : Int) (s : Str) : List Int := (L.filter (hit p s)).map (·.2.v)
def nums (L : Tb) (p : Int) (s : Str) : List Int := (L.filter (hit p s)).map (·.1)
def cellD (vs : List Int) : D := if vs = [] then .non else .tup [.int vs.sum, .int vs.length]
def cellX (vs : List Int) : PyData := if vs = [] then .none else .tuple [.int vs.sum, .int vs.length]
def keys (L : Tb) : List D := L.map fun e => .int e.1
def tb (L : Tb) : D := .dct (keys L) (L.map fun e => r3 e.2)
def Asc (L : Tb) : Prop := (L.map (·.1)).Pairwise (· < ·)
theorem itemsOf_map {α : Type} (f g : α → D) : ∀ xs : List α, itemsOf (xs.map f) (xs.map g) = xs.map fun x => .tup [f x, g x]
  | [] => rfl
  | x :: xs => by
    have := itemsOf_map f g xs
    unfold itemsOf at this ⊢
    simp [this]
theorem sort_asc {α : Type} {m : Bool} {L : List α} {k : α → Int} {d : α → D} {x : α → PyData} {h : AH} (hd : ∀ e ∈ L, dataOf h 54 (d e) = some (x e)) (al : ∀ e ∈ L, ∀ e' ∈ L, alike (x e) (x e') = true) (as : (L.map k).Pairwise (· < ·)) :
    sortRes m (L.map fun e => .tup [.int (k e), d e]) h = newL m (L.map fun e => .tup [.int (k e), d e]) h := by
  have e1 : (L.map fun e => D.tup [.int (k e), d e]).mapM (dataOf h 55) = some (L.map fun e => PyData.tuple [.int (k e), x e]) := mapM_some fun e he => by
    simp [dO_tup, hd e he]
  have a1 : AllAlike (L.map fun e => PyData.tuple [.int (k e), x e]) := fun u hu u' hu' => by
    obtain ⟨e, he, rfl⟩ := List.mem_map.mp hu
    obtain ⟨e', he', rfl⟩ := List.mem_map.mp hu'
    simp [PySem.W.alike, PySem.W.alikeAll, al e he e' he']
  have s1 : Sortable (L.map fun e => PyData.tuple [.int (k e), x e]) := .inl fun u hu => by
    obtain ⟨e, he, rfl⟩ := List.mem_map.mp hu
    exact ⟨_, _, rfl⟩
  unfold sortRes
  rw [e1]
  simp only [a1, s1, and_self, if_true]
  congr 1
  rw [zip_map2, dsort_id, List.map_map]
  · rfl
  rw [List.pairwise_map] at as ⊢
  refine as.imp_of_mem fun {a b} ha hb z => ?_
  rw [PySem.W.dataLt_tuple, PySem.W.dataLt_cons (by simp [PySem.W.alike])]
  have : ¬ k b = k a := by omega
  simp only [eqv_ii, beq_iff_eq, this, if_false, PySem.W.dataLt_int]
  simp; omega
theorem alike_row {r r' : Row} : alike (.tuple [.int r.p, .str r.s, .int r.v]) (.tuple [.int r'.p, .str r'.s, .int r'.v]) = true := by simp [PySem.W.alike, PySem.W.alikeAll]
theorem sort_tb {m : Bool} {L : Tb} {h : AH} (as : Asc L) : sortRes m (itemsOf (keys L) (L.map fun e => r3 e.2)) h = newL m (L.map fun e => .tup [.int e.1, r3 e.2]) h := by
  unfold keys
  rw [itemsOf_map]
  exact sort_asc (k := fun e : Int × Row => e.1) (d := fun e => r3 e.2) (x := fun e => .tuple [.int e.2.p, .str e.2.s, .int e.2.v]) (fun e _ => by simp [r3, dO_tup]) (fun e _ e' _ => alike_row (r := e.2) (r' := e'.2)) as
def cellN (vs : List Int) : Option (Int × Nat) := if vs = [] then none else some (vs.sum, vs.length)
theorem eq_cell {vs ws : List Int} : PyData.eqv (cellX vs) (cellX ws) = decide (cellN vs = cellN ws) := by
  unfold cellX cellN
  by_cases h1 : vs = [] <;> by_cases h2 : ws = [] <;> simp [h1, h2, Bool.beq_eq_decide_eq, Int.ofNat_inj]
theorem data_cell {vs : List Int} {n : Nat} {h : AH} : dataOf h (n + 2) (cellD vs) = some (cellX vs) := by
  unfold cellX cellD
  by_cases h1 : vs = [] <;> simp [h1, dO_tup]
@[simp] theorem dct_tb {L : Tb} {h : AH} : dctAt (tb L) h = some (keys L, L.map fun e => r3 e.2) := rfl
theorem e_cell_of {L : Tb} {p : Int} {s : Str} {h : AH} (as : Asc L) : φ__law_cell_of [tb L, .int p, .str s] h = .ok (cellD (own L p s)) h := by
  unfold φ__law_cell_of
  simp only [argF_ap, List.length_cons, List.length_nil, if_pos]
  refine trim_id ?_
  have e1 := mapC_if (gs := []) (t := .t [4, 5]) (cd := asB (op2 (eqX false) (slC false (varC 5) noO (someO (cstC (.int 2)))) (tupC (consA (varC 1) (consA (varC 2) nilA))))) (el := op2 itemD (varC 5) (cstC (.int 2))) (S := [some (tb L), some (.int p), some (.str s), none, none, none]) (h := h) (xs := L)
    (f := fun e => .tup [.int e.1, r3 e.2]) (k := fun e => .int e.2.v) (p := hit p s) gd_nil fun e _ => ⟨_, rfl, by simp [setAll, r3, slD, cutL, HT.sIx, isT, eqX, eqD, dO_tup, hit], fun _ => by simp [setAll, r3]⟩
  have e2 : ((L.filter (hit p s)).map fun e => D.int e.2.v) = (own L p s).map D.int := by simp [own]
  rw [e2] at e1
  generalize own L p s = o at e1 ⊢
  have e3 : PyData.eqvAll (o.map PyData.int) [] = decide (o = []) := by cases o <;> simp
  have e4 : (o.map D.int).mapM (dataOf h 59) = some (o.map PyData.int) := mapM_some fun x _ => by simp
  by_cases q : o = []
  · subst q
    simp at e1
    simp [b__law_cell_of, sort_tb as, e1, eqX, neD, dO_lst, cellD]
  · simp [b__law_cell_of, sort_tb as, e1, eqX, neD, dO_lst, cellD, e3, e4, q]
end K87

/-! M5: places, sums, counts. -/
namespace K87
open PySem PySem.Spec L2 G
open PyProof.Rows hiding St
@[simp] theorem inD_tup {x : D} {xs : List D} {h : AH} {neg : Bool} : containsD neg x (.tup xs) h = inD neg x (.tup xs) h := rfl
@[simp] theorem inD_lst {x : D} {xs : List D} {h : AH} {neg : Bool} : containsD neg x (.lst xs) h = inD neg x (.lst xs) h := rfl
theorem e_at {r : Row} {h : AH} : φ_at_places [r4 r, .lst [.int 0]] h = .ok (.tup [.int r.p]) h ∧ φ_at_places [r4 r, .lst [.int 1]] h = .ok (.tup [.str r.s]) h ∧ φ_at_places [r4 r, .lst [.int 2, .int 3]] h = .ok (.tup [.int r.v, .int r.v]) h := by
  unfold φ_at_places
  simp only [argF_ap, List.length_cons, List.length_nil, if_pos]
  refine ⟨trim_id ?_, trim_id ?_, trim_id ?_⟩ <;> simp [b_at_places, mapC, Tg.put, r4]
theorem e_is {v : Int} {h : AH} : φ_is_number [.int v] h = .ok (.bl true) h := by
  unfold φ_is_number
  simp only [argF_ap, List.length_cons, List.length_nil, if_pos]
  refine trim_id ?_
  simp [b_is_number, isiF, tyD, okTy, subTy]
theorem neq {x y : Str} (h : ¬ x = y) : (x == y) = false := by simp [h]
theorem e_sum {vs : List Int} {h : AH} : φ_sum_of [.lst (vs.map D.int)] h = .ok (.int vs.sum) h := by
  unfold φ_sum_of
  simp only [argF_ap, List.length_cons, List.length_nil, if_pos]
  refine trim_id ?_
  have e1 := mapC_if (gs := []) (t := .n 2) (cd := asB (op2 (isD true) (varC 2) (cstC .non))) (el := varC 2) (S := [some (.lst (vs.map D.int)), none, none]) (h := h) (xs := vs) (f := D.int) (k := D.int) (p := fun _ => true) gd_nil
    fun e _ => ⟨_, rfl, by simp [isD, G.isNon], fun _ => by simp⟩
  have e2 := mapC_all (gs := []) (t := .n 2) (el := callC φ_is_number (consA (varC 2) nilA)) (S := [some (.lst (vs.map D.int)), some (.lst (vs.map D.int)), none]) (h := h) (xs := vs) (f := D.int) (k := fun _ => .bl true) gd_nil
    fun e _ => ⟨_, rfl, by simp [e_is]⟩
  rw [List.map_const'] at e2
  rw [List.filter_eq_self.mpr (by simp)] at e1
  simp [b_sum_of, e1, e2, all_rep]
def w_sum : D := .str "sum"
def w_count : D := .str "count"
theorem e_put_sum {vs : List Int} {h : AH} : φ_put_together [.lst (vs.map D.int), w_sum] h = .ok (.int vs.sum) h := by
  have e : containsD true w_sum v_WAYS h = .ok (.bl false) h := by rfl
  have e2 : eqX false w_sum (.str "sum") h = .ok (.bl true) h := by rfl
  unfold φ_put_together
  simp only [argF_ap, List.length_cons, List.length_nil, if_pos]
  refine trim_id ?_
  simp [b_put_together, e, e2, e_sum]
theorem e_put_count {vs : List Int} {h : AH} : φ_put_together [.lst (vs.map D.int), w_count] h = .ok (.int vs.length) h := by
  have e : containsD true w_count v_WAYS h = .ok (.bl false) h := by rfl
  have e2 : eqX false w_count (.str "sum") h = .ok (.bl false) h := by rfl
  have e3 : eqX false w_count (.str "first") h = .ok (.bl false) h := by rfl
  have e4 : eqX false w_count (.str "last") h = .ok (.bl false) h := by rfl
  have e5 : eqX false w_count (.str "count") h = .ok (.bl true) h := by rfl
  unfold φ_put_together
  simp only [argF_ap, List.length_cons, List.length_nil, if_pos]
  refine trim_id ?_
  have e1 := mapC_if (gs := []) (t := .n 3) (cd := asB (op2 (isD true) (varC 3) (cstC .non))) (el := varC 3) (S := [some (.lst (vs.map D.int)), some w_count, none, none]) (h := h) (xs := vs) (f := D.int) (k := D.int) (p := fun _ => true) gd_nil
    fun e _ => ⟨_, rfl, by simp [isD, G.isNon], fun _ => by simp⟩
  rw [List.filter_eq_self.mpr (by simp)] at e1
  simp [b_put_together, e, e2, e3, e4, e5, e1]
end K87

/-! M6: the heap of k87, the Keeper's cells. -/
namespace K87
open PySem PySem.Spec L2 G
open PyProof.Rows hiding St
def colD : List D := [.str "a", .str "b", .str "c", .str "d"]
def tableD : D := .tup [.tup colD, .tup []]
def toldD : D := .tup [.tup [.str "a"], .tup [.str "b"], .tup [.str "c", .str "d"], .tup [w_sum, w_count], .str "seen"]
def placesD : D := .lst [.lst [.int 0], .lst [.int 1], .lst [.int 2, .int 3]]
structure KS where
  c : Int
  rk : List D
  rv : List D
  pk : List D
  pv : List D
  ck : List D
  cv : List D
  past : List D
  tl : AH
structure Ev where
  box : O
  q : O
  s : O
def kf (N : Nat) (c : Int) : List (Str × D) := [("table", tableD), ("told", toldD), ("places", placesD), ("coming", .int c), ("rows", .ref (N + 2)), ("by_place", .ref (N + 3)), ("cells", .ref (N + 4)), ("past", .ref (N + 5))]
def hp (pre : AH) (E : Ev) (k : KS) : AH := pre ++ (E.box :: .ins "Keeper" (kf pre.length k.c) :: .dct k.rk k.rv :: .dct k.pk k.pv :: .dct k.ck k.cv :: .lst k.past :: E.q :: E.s :: k.tl)
section
variable {pre : AH} {E : Ev} {k : KS}
theorem pre_get {pre l : AH} {i : Nat} : (pre ++ l)[pre.length + i]? = l[i]? := by
  rw [List.getElem?_append_right (by omega)]; congr 1; omega
theorem pre_set {pre l : AH} {i : Nat} {o : O} : (pre ++ l).set (pre.length + i) o = pre ++ l.set i o := by
  rw [List.set_append_right (h := by omega)]; congr 2; omega
@[simp] theorem hp_0 : (hp pre E k)[pre.length]? = some E.box := pre_get (i := 0)
@[simp] theorem hp_1 : (hp pre E k)[pre.length + 1]? = some (.ins "Keeper" (kf pre.length k.c)) := pre_get
@[simp] theorem hp_2 : (hp pre E k)[pre.length + 2]? = some (.dct k.rk k.rv) := pre_get
@[simp] theorem hp_3 : (hp pre E k)[pre.length + 3]? = some (.dct k.pk k.pv) := pre_get
@[simp] theorem hp_4 : (hp pre E k)[pre.length + 4]? = some (.dct k.ck k.cv) := pre_get
@[simp] theorem hp_5 : (hp pre E k)[pre.length + 5]? = some (.lst k.past) := pre_get
@[simp] theorem hp_6 : (hp pre E k)[pre.length + 6]? = some E.q := pre_get
@[simp] theorem hp_7 : (hp pre E k)[pre.length + 7]? = some E.s := pre_get
@[simp] theorem hp_8 {j : Nat} : (hp pre E k)[pre.length + 8 + j]? = k.tl[j]? := by
  have := pre_get (pre := pre) (l := E.box :: .ins "Keeper" (kf pre.length k.c) :: .dct k.rk k.rv :: .dct k.pk k.pv :: .dct k.ck k.cv :: .lst k.past :: E.q :: E.s :: k.tl) (i := 8 + j)
  rw [← Nat.add_assoc] at this
  refine this.trans ?_
  rw [Nat.add_comm 8 j]; rfl
theorem hp_s0 {o : O} : (hp pre E k).set pre.length o = hp pre { E with box := o } k := pre_set (i := 0)
theorem hp_s1 {c : Int} : (hp pre E k).set (pre.length + 1) (.ins "Keeper" (kf pre.length c)) = hp pre E { k with c := c } := pre_set
theorem hp_s2 {a b : List D} : (hp pre E k).set (pre.length + 2) (.dct a b) = hp pre E { k with rk := a, rv := b } := pre_set
theorem hp_s3 {a b : List D} : (hp pre E k).set (pre.length + 3) (.dct a b) = hp pre E { k with pk := a, pv := b } := pre_set
theorem hp_s4 {a b : List D} : (hp pre E k).set (pre.length + 4) (.dct a b) = hp pre E { k with ck := a, cv := b } := pre_set
theorem hp_s5 {a : List D} : (hp pre E k).set (pre.length + 5) (.lst a) = hp pre E { k with past := a } := pre_set
theorem hp_s6 {o : O} : (hp pre E k).set (pre.length + 6) o = hp pre { E with q := o } k := pre_set
theorem hp_s7 {o : O} : (hp pre E k).set (pre.length + 7) o = hp pre { E with s := o } k := pre_set
theorem hp_s8 {j : Nat} {o : O} : (hp pre E k).set (pre.length + 8 + j) o = hp pre E { k with tl := k.tl.set j o } := by
  have := pre_set (pre := pre) (l := E.box :: .ins "Keeper" (kf pre.length k.c) :: .dct k.rk k.rv :: .dct k.pk k.pv :: .dct k.ck k.cv :: .lst k.past :: E.q :: E.s :: k.tl) (i := 8 + j) (o := o)
  rw [← Nat.add_assoc] at this
  refine this.trans ?_
  rw [Nat.add_comm 8 j]; rfl
theorem hp_app {l : AH} : hp pre E k ++ l = hp pre E { k with tl := k.tl ++ l } := by simp [hp]
theorem hp_len : (hp pre E k).length = pre.length + 8 + k.tl.length := by simp [hp]; omega
@[simp] theorem ins_k : insAt "Keeper" (.ref (pre.length + 1)) (hp pre E k) = some (pre.length + 1, kf pre.length k.c) := by simp [insAt]
theorem lk_f {N : Nat} {c : Int} : List.lookup (α := Str) "table" (kf N c) = some tableD ∧ List.lookup (α := Str) "told" (kf N c) = some toldD ∧ List.lookup (α := Str) "places" (kf N c) = some placesD ∧ List.lookup (α := Str) "coming" (kf N c) = some (D.int c) ∧ List.lookup (α := Str) "rows" (kf N c) = some (D.ref (N + 2)) ∧ List.lookup (α := Str) "by_place" (kf N c) = some (D.ref (N + 3)) ∧ List.lookup (α := Str) "cells" (kf N c) = some (D.ref (N + 4)) ∧ List.lookup (α := Str) "past" (kf N c) = some (D.ref (N + 5)) := ⟨rfl, rfl, rfl, rfl, rfl, rfl, rfl, rfl⟩
theorem lk_m {N : Nat} {c : Int} : List.lookup (α := Str) "place_of" (kf N c) = none ∧ List.lookup (α := Str) "cell_of" (kf N c) = none ∧ List.lookup (α := Str) "found_anew" (kf N c) = none ∧ List.lookup (α := Str) "put_at" (kf N c) = none ∧ List.lookup (α := Str) "taken" (kf N c) = none ∧ List.lookup (α := Str) "put_row" (kf N c) = none ∧ List.lookup (α := Str) "take_row" (kf N c) = none ∧ List.lookup (α := Str) "undo" (kf N c) = none ∧ List.lookup (α := Str) "wide_now" (kf N c) = none ∧ List.lookup (α := Str) "rows_now" (kf N c) = none ∧ List.lookup (α := Str) "rows_of" (kf N c) = none := ⟨rfl, rfl, rfl, rfl, rfl, rfl, rfl, rfl, rfl, rfl, rfl⟩
@[simp] theorem fd_table : fldD "Keeper" "table" (.ref (pre.length + 1)) (hp pre E k) = .ok tableD (hp pre E k) := by simp [fldD, lk_f]
@[simp] theorem fd_told : fldD "Keeper" "told" (.ref (pre.length + 1)) (hp pre E k) = .ok toldD (hp pre E k) := by simp [fldD, lk_f]
@[simp] theorem fd_places : fldD "Keeper" "places" (.ref (pre.length + 1)) (hp pre E k) = .ok placesD (hp pre E k) := by simp [fldD, lk_f]
@[simp] theorem fd_coming : fldD "Keeper" "coming" (.ref (pre.length + 1)) (hp pre E k) = .ok (.int k.c) (hp pre E k) := by simp [fldD, lk_f]
@[simp] theorem fd_rows : fldD "Keeper" "rows" (.ref (pre.length + 1)) (hp pre E k) = .ok (.ref (pre.length + 2)) (hp pre E k) := by simp [fldD, lk_f]
@[simp] theorem fd_bp : fldD "Keeper" "by_place" (.ref (pre.length + 1)) (hp pre E k) = .ok (.ref (pre.length + 3)) (hp pre E k) := by simp [fldD, lk_f]
@[simp] theorem fd_cells : fldD "Keeper" "cells" (.ref (pre.length + 1)) (hp pre E k) = .ok (.ref (pre.length + 4)) (hp pre E k) := by simp [fldD, lk_f]
@[simp] theorem fd_past : fldD "Keeper" "past" (.ref (pre.length + 1)) (hp pre E k) = .ok (.ref (pre.length + 5)) (hp pre E k) := by simp [fldD, lk_f]
def plD (a : Int × Str) : D := .tup [.tup [.int a.1], .tup [.str a.2]]
theorem key_pl {a : Int × Str} : G.keyOf (plD a) = some (.tup [.tup [.num a.1], .tup [.text a.2]]) := by
  simp [G.keyOf, plD, kf_tup]
theorem kd_pl : KD plD where
  inj := fun a b e => by
    rw [key_pl, key_pl] at e
    simp at e
    exact Prod.ext e.1 e.2
  ok := fun a ks h => keyOk_tup rfl (fun x m => by obtain ⟨b, rfl⟩ := h x m; rfl) (by rw [key_pl]; rfl)
  nn := fun a => rfl
theorem e_place_of {r : Row} : φ_Keeper_place_of [.ref (pre.length + 1), r4 r] (hp pre E k) = .ok (plD (r.p, r.s)) (hp pre E k) := by
  unfold φ_Keeper_place_of
  simp only [argF_ap, List.length_cons, List.length_nil, if_pos]
  refine trim_id ?_
  simp [b_Keeper_place_of, placesD, e_at, plD]
/-- the Keeper's cell of some rows -/
theorem e_kcell {n j : Nat} {G : Int → Option D} {xs : Tb} {vs : List Int} (hv : xs.map (·.2.v) = vs) (o : DK D.int n k.rk k.rv G) (hj : k.tl[j]? = some (.lst (xs.map fun e => .int e.1))) (hr : ∀ e ∈ xs, G e.1 = some (r4 e.2)) :
    φ_Keeper_cell_of [.ref (pre.length + 1), .ref (pre.length + 8 + j)] (hp pre E k) = .ok (cellD vs) (hp pre E k) := by
  unfold φ_Keeper_cell_of
  simp only [argF_ap, List.length_cons, List.length_nil, if_pos]
  have l0 := len_r (h := hp pre E k) (n := pre.length + 8 + j) (by rw [hp_8, hj])
  by_cases q : xs = []
  · refine trim_id ?_
    subst q
    subst hv
    simp [b_Keeper_cell_of, l0, eqX, eqD, cellD]
  · have q2 : ¬ xs.length = 0 := by simpa using q
    have q3 : ¬ vs = [] := by rw [← hv]; simpa using q
    have q5 : vs.length = xs.length := by simp [← hv]
    have q4 : ((xs.length : Int) == 0) = false := by simp; omega
    have c1 : ∀ (l : List D) (pl : Int) (i : Nat) (w : D), (i = 2 ∨ i = 3) → pl = i → mapC [(pre.length + 8 + j, xs.map fun e => .int e.1)] (.n 5) yesT (op2 itemD (op2 itemD (fldC "Keeper" "rows" (varC 0)) (varC 5)) (varC 3)) [some (.ref (pre.length + 1)), some (.ref (pre.length + 8 + j)), some (.ref (pre.length + 8 + k.tl.length)), some (.int pl), some w, none] (xs.map fun e => .int e.1) (hp pre E { k with tl := k.tl ++ [.lst l] }) =
        .ok (vs.map D.int) (hp pre E { k with tl := k.tl ++ [.lst l] }) := fun l pl i w hi hpl => by
      rw [← hv, List.map_map]
      have hlt : j < k.tl.length := (List.getElem?_eq_some_iff.mp hj).1
      refine mapC_all (f := fun e : Int × Row => D.int e.1) (gd_one.mpr (by rw [hp_8]; simp [List.getElem?_append_left hlt, hj])) fun e he => ⟨_, rfl, ?_⟩
      have := dk_item kd_int o (h := hp pre E { k with tl := k.tl ++ [.lst l] }) (m := pre.length + 2) hp_2 (hr e he)
      subst hpl
      rcases hi with rfl | rfl <;> simp [this, r4]
    have hlt : j < k.tl.length := (List.getElem?_eq_some_iff.mp hj).1
    have s1 : ∀ l : List D, seqOf (.ref (pre.length + 8 + j)) (hp pre E { k with tl := k.tl ++ [.lst l] }) = some (xs.map fun e => .int e.1, [(pre.length + 8 + j, xs.map fun e => .int e.1)]) := fun l => seqOf_ref (by rw [hp_8]; simp [List.getElem?_append_left hlt, hj])
    have a1 : ∀ (l : List D) (x : D), l.length < 16777216 → appendM (.ref (pre.length + 8 + k.tl.length)) [x] (hp pre E { k with tl := k.tl ++ [.lst l] }) = .ok .non (hp pre E { k with tl := k.tl ++ [.lst (l ++ [x])] }) := fun l x hl => by
      rw [app_r (xs := l) (by rw [hp_8]; simp) hl, hp_s8]; simp
    have t1 : ∀ l : List D, tyD (hp pre E { k with tl := k.tl ++ [.lst l] }) (.ref (pre.length + 8 + k.tl.length)) = some "list" := fun l => tyD_lr (xs := l) (by rw [hp_8]; simp)
    have u1 : ∀ l : List D, tupleF [.ref (pre.length + 8 + k.tl.length)] (hp pre E { k with tl := k.tl ++ [.lst l] }) = .ok (.tup l) (hp pre E { k with tl := k.tl ++ [.lst l] }) := fun l => tup_r (by rw [hp_8]; simp)
    refine trim_pure (j := [.lst [.int vs.sum, .int vs.length]]) ?_ (by simp [cellD, D.lowN, D.lows, q3])
    have e1 := c1 [] 2 2 w_sum (.inl rfl) rfl
    have e2 := c1 [.int vs.sum] 3 3 w_count (.inr rfl) rfl
    rw [hp_app]
    simp [b_Keeper_cell_of, l0, eqX, eqD, q2, q4, hp_app, hp_len, placesD, toldD, zipD, loopC, s1, e1, e2, e_put_sum, e_put_count, a1, t1, u1, cellD, q3]
end
end K87

/-! M7: found_anew, put_at, taken. -/
namespace K87
open PySem PySem.Spec L2 G
open PyProof.Rows hiding St
def chg (a : Int × Str) (os vs : List Int) : D := if cellN os = cellN vs then .lst [] else .lst [.tup [.tup [.int a.1], .tup [.str a.2], cellD os, cellD vs]]
section
variable {pre : AH} {E : Ev} {k : KS}
@[simp] theorem ty_2 : tyD (hp pre E k) (.ref (pre.length + 2)) = some "dict" := tyD_dr hp_2
@[simp] theorem ty_3 : tyD (hp pre E k) (.ref (pre.length + 3)) = some "dict" := tyD_dr hp_3
@[simp] theorem ty_4 : tyD (hp pre E k) (.ref (pre.length + 4)) = some "dict" := tyD_dr hp_4
@[simp] theorem ty_5 : tyD (hp pre E k) (.ref (pre.length + 5)) = some "list" := tyD_lr hp_5
@[simp] theorem dct_cell {vs : List Int} {h : AH} : dctAt (cellD vs) h = none := by unfold cellD; split <;> rfl
theorem eqX_cell {os vs : List Int} {h : AH} : eqX false (cellD os) (cellD vs) h = .ok (.bl (decide (cellN os = cellN vs))) h := by
  simp [eqX, eqD, data_cell, eq_cell]
theorem is_cell {vs : List Int} {h : AH} : isD false (cellD vs) .non h = .ok (.bl (decide (vs = []))) h := by
  unfold cellD
  by_cases q : vs = [] <;> simp [isD, G.isNon, q]
@[simp] theorem add_pl {m : Bool} {a : Int × Str} {x y : D} {h : AH} : addD m (plD a) (.tup [x, y]) h = .ok (.tup [.tup [.int a.1], .tup [.str a.2], x, y]) h := by simp [plD]
@[simp] theorem cellD_nil : cellD [] = .non := rfl
theorem e_found {n j : Nat} {R : Int → Option D} {P C : Int × Str → Option D} {a : Int × Str} {xs : Tb} {vs os : List Int} (hn : n < 1000000) (oR : DK D.int n k.rk k.rv R) (oP : DK plD n k.pk k.pv P) (oC : DK plD n k.ck k.cv C)
    (ha : P a = some (.ref (pre.length + 8 + j))) (hj : k.tl[j]? = some (.lst (xs.map fun e => .int e.1))) (hr : ∀ e ∈ xs, R e.1 = some (r4 e.2)) (hv : xs.map (·.2.v) = vs) (hc : C a = if os = [] then none else some (cellD os)) :
    ∃ pk pv ck cv, φ_Keeper_found_anew [.ref (pre.length + 1), plD a] (hp pre E k) = .ok (chg a os vs) (hp pre E { k with pk := pk, pv := pv, ck := ck, cv := cv }) ∧
      DK plD n pk pv (if vs = [] then upd1 P a none else P) ∧ DK plD (n + 1) ck cv (upd1 C a (if vs = [] then none else some (cellD vs))) := by
  have g1 := dk_get kd_pl oP (h := hp pre E k) (m := pre.length + 3) (a := a) (x := .lst []) hp_3
  rw [ha] at g1
  simp only [Option.getD_some] at g1
  have key : ∀ ck cv, DK plD n ck cv (upd1 C a none) → dpopM (.ref (pre.length + 4)) [plD a, .non] (hp pre E k) = .ok (cellD os) (hp pre E { k with ck := ck, cv := cv }) →
      ∃ pk pv ck cv, φ_Keeper_found_anew [.ref (pre.length + 1), plD a] (hp pre E k) = .ok (chg a os vs) (hp pre E { k with pk := pk, pv := pv, ck := ck, cv := cv }) ∧
      DK plD n pk pv (if vs = [] then upd1 P a none else P) ∧ DK plD (n + 1) ck cv (upd1 C a (if vs = [] then none else some (cellD vs))) := by
    intro ck cv oC' e1
    have e2 := e_kcell (pre := pre) (E := E) (k := { k with ck := ck, cv := cv }) hv oR hj hr
    by_cases q : vs = []
    · have e3 := dk_popS kd_pl oP (h := hp pre E { k with ck := ck, cv := cv }) (m := pre.length + 3) (x := .non) hp_3 ha
      rw [hp_s3] at e3
      refine ⟨_, _, ck, cv, ?_, by rw [if_pos q]; exact oP.del kd_pl, by rw [if_pos q]; exact oC'.more (by omega)⟩
      unfold φ_Keeper_found_anew
      simp only [argF_ap, List.length_cons, List.length_nil, if_pos]
      subst q
      simp [b_Keeper_found_anew, g1, e1, lk_m, e2, isD, G.isNon, e3]
      by_cases q2 : cellN os = cellN []
      · have := eqX_cell (os := os) (vs := []) (h := hp pre E { k with pk := ddelK k.pk (plD a), pv := ddelV k.pk k.pv (plD a), ck := ck, cv := cv })
        simp at this
        simp [this, q2, chg]
      · have := eqX_cell (os := os) (vs := []) (h := hp pre E { k with pk := ddelK k.pk (plD a), pv := ddelV k.pk k.pv (plD a), ck := ck, cv := cv })
        simp at this
        simp [this, q2, chg]
    · have e3 := dk_store kd_pl oC' (h := hp pre E { k with ck := ck, cv := cv }) (m := pre.length + 4) (x := cellD vs) (a := a) hp_4 (by omega)
      rw [hp_s4] at e3
      refine ⟨k.pk, k.pv, dputK ck (plD a), dputV ck cv (plD a) (cellD vs), ?_, by rw [if_neg q]; exact oP, ?_⟩
      rotate_left
      · rw [if_neg q]
        refine (oC'.put kd_pl (a := a) (x := cellD vs)).of ?_
        funext b
        by_cases z : b = a
        · subst z; simp
        · simp [upd1_other z]
      unfold φ_Keeper_found_anew
      simp only [argF_ap, List.length_cons, List.length_nil, if_pos]
      by_cases q2 : cellN os = cellN vs
      · simp [b_Keeper_found_anew, g1, e1, lk_m, e2, is_cell, q, e3, eqX_cell, q2, chg]
      · simp [b_Keeper_found_anew, g1, e1, lk_m, e2, is_cell, q, e3, eqX_cell, q2, chg]
  by_cases q : os = []
  · rw [if_pos q] at hc
    have e1 := dk_popN kd_pl oC (h := hp pre E k) (m := pre.length + 4) (x := .non) hp_4 hc
    refine key k.ck k.cv (oC.of ?_) (by rw [e1, q]; rfl)
    funext b
    by_cases z : b = a
    · subst z; simp [hc]
    · simp [upd1_other z]
  · rw [if_neg q] at hc
    have e1 := dk_popS kd_pl oC (h := hp pre E k) (m := pre.length + 4) (x := .non) hp_4 hc
    rw [hp_s4] at e1
    exact key _ _ (oC.del kd_pl) e1
end
end K87

/-! M8: tables with a row more. -/
namespace K87
open PySem PySem.Spec L2 G
open PyProof.Rows hiding St
def row (L : Tb) (i : Int) : Option Row := (L.find? fun e => e.1 == i).map (·.2)
theorem row_iff : ∀ {L : Tb} {i : Int} {r : Row}, Asc L → (row L i = some r ↔ (i, r) ∈ L)
  | [], _, _, _ => by simp [row]
  | e :: L, i, r, as => by
    have as' : Asc L := (List.pairwise_cons.mp as).2
    have h1 : ∀ x ∈ L, e.1 < x.1 := fun x hx => (List.pairwise_cons.mp as).1 _ (List.mem_map.mpr ⟨x, hx, rfl⟩)
    have ih := row_iff (i := i) (r := r) as'
    unfold row at ih ⊢
    by_cases q : e.1 = i
    · have q1 : (e.1 == i) = true := by simpa using q
      simp only [List.find?_cons, q1]
      simp only [Option.map_some, Option.some.injEq, List.mem_cons]
      constructor
      · rintro rfl; left; rw [← q]
      · rintro (z | z)
        · rw [← z]
        · have := h1 _ z; simp at this; omega
    · have q1 : ¬ (e.1 == i) = true := by simpa using q
      rw [Bool.not_eq_true] at q1
      simp only [List.find?_cons, q1]
      rw [ih, List.mem_cons]
      constructor
      · exact .inr
      · rintro (z | z)
        · rw [← z] at q; simp at q
        · exact z
theorem asc_uniq {L : Tb} {i : Int} {r r' : Row} (as : Asc L) (h : (i, r) ∈ L) (h' : (i, r') ∈ L) : r = r' := by
  have e := ((row_iff as).mpr h).symm.trans ((row_iff as).mpr h')
  exact Option.some.inj e
theorem asc_filter {L : Tb} {p : Int × Row → Bool} (as : Asc L) : Asc (L.filter p) :=
  List.Pairwise.sublist (List.filter_sublist.map _) as
structure Rem (L' : Tb) (n : Int) (r : Row) (L : Tb) : Prop where
  asc : Asc L'
  mem : (n, r) ∈ L'
  eq : L = L'.filter fun e => e.1 != n
section
variable {L L' : Tb} {n : Int} {r : Row}
theorem Rem.asc' (R : Rem L' n r L) : Asc L := R.eq ▸ asc_filter R.asc
theorem Rem.other (R : Rem L' n r L) {p : Int} {s : Str} (h : ¬ (p, s) = (r.p, r.s)) : L.filter (hit p s) = L'.filter (hit p s) := by
  rw [R.eq, List.filter_filter]
  refine List.filter_congr fun e he => ?_
  by_cases q : e.1 = n
  · have : e.2 = r := asc_uniq R.asc (r := e.2) (r' := r) (by rw [← q] ; exact he) R.mem
    have h2 : hit p s e = false := by
      simp only [hit, this, Bool.and_eq_false_iff, beq_eq_false_iff_ne]
      by_cases z : r.p = p
      · exact .inr fun z2 => h (by rw [z, z2])
      · exact .inl z
    simp [h2]
  · simp [q]
theorem Rem.row (R : Rem L' n r L) (i : Int) : K87.row L i = if i = n then none else K87.row L' i := by
  refine Option.ext fun x => ?_
  rw [row_iff R.asc', R.eq, List.mem_filter]
  by_cases q : i = n
  · simp [q]
  · simp [q, row_iff R.asc]
theorem Rem.row' (R : Rem L' n r L) (i : Int) : K87.row L' i = if i = n then some r else K87.row L i := by
  by_cases q : i = n
  · rw [if_pos q, q]; exact (row_iff R.asc).mpr R.mem
  · rw [if_neg q, R.row, if_neg q]
theorem nums_asc {L : Tb} {p : Int} {s : Str} (as : Asc L) : (nums L p s).Pairwise (· < ·) := asc_filter as
theorem mem_nums {L : Tb} {p : Int} {s : Str} {i : Int} : i ∈ nums L p s ↔ ∃ r, (i, r) ∈ L ∧ r.p = p ∧ r.s = s := by
  simp only [nums, List.mem_map, List.mem_filter, hit, Bool.and_eq_true, beq_iff_eq]
  constructor
  · rintro ⟨e, ⟨h1, h2⟩, rfl⟩; exact ⟨e.2, h1, h2⟩
  · rintro ⟨r, h1, h2⟩; exact ⟨(i, r), ⟨h1, h2⟩, rfl⟩
theorem nodup_lt {ns : List Int} (h : ns.Pairwise (· < ·)) : ns.Nodup := h.imp fun {a b} z => by omega
theorem Rem.numsE (R : Rem L' n r L) {p : Int} {s : Str} : nums L p s = (nums L' p s).erase n := by
  rw [(nodup_lt (nums_asc R.asc)).erase_eq_filter]
  unfold nums
  rw [R.eq, List.filter_filter, List.filter_map, List.filter_filter]
  congr 1
  refine List.filter_congr fun e _ => ?_
  simp [Bool.and_comm]
theorem Rem.numsS (R : Rem L' n r L) : (nums L r.p r.s ++ [n]).mergeSort leI = nums L' r.p r.s := by
  refine leI_mem ?_ (nums_asc R.asc) fun i => ?_
  · rw [List.nodup_append]
    refine ⟨nodup_lt (nums_asc R.asc'), by simp, ?_⟩
    intro a ha b hb e
    simp at hb
    subst hb; subst e
    rw [mem_nums] at ha
    obtain ⟨x, hx, _⟩ := ha
    rw [R.eq, List.mem_filter] at hx
    simp at hx
  · rw [List.mem_append, mem_nums, mem_nums]
    constructor
    · rintro (⟨x, hx, z⟩ | z)
      · rw [R.eq, List.mem_filter] at hx; exact ⟨x, hx.1, z⟩
      · simp at z; subst z; exact ⟨r, R.mem, rfl, rfl⟩
    · rintro ⟨x, hx, z⟩
      by_cases q : i = n
      · right; simp [q]
      · left; refine ⟨x, ?_, z⟩; rw [R.eq, List.mem_filter]; exact ⟨hx, by simp [q]⟩
theorem Rem.in' (R : Rem L' n r L) : n ∈ nums L' r.p r.s := mem_nums.mpr ⟨r, R.mem, rfl, rfl⟩
end
theorem own_nil {L : Tb} {p : Int} {s : Str} : own L p s = [] ↔ nums L p s = [] := by simp [own, nums]
def rowF (L : Tb) (i : Int) : Option D := (row L i).map r4
def cellF (L : Tb) (a : Int × Str) : Option D := if own L a.1 a.2 = [] then none else some (cellD (own L a.1 a.2))
def bpF (N : Nat) (J : Int × Str → Nat) (L : Tb) (a : Int × Str) : Option D := if nums L a.1 a.2 = [] then none else some (.ref (N + 8 + J a))
/-- the state of the Keeper that holds the table -/
structure Rep (N : Nat) (k : KS) (n : Nat) (L : Tb) (c : Int) : Prop where
  c' : k.c = c
  asc : Asc L
  len : L.length ≤ 100
  rows : DK D.int n k.rk k.rv (rowF L)
  cells : DK plD n k.ck k.cv (cellF L)
  bp : ∃ J : Int × Str → Nat, DK plD n k.pk k.pv (bpF N J L) ∧ (∀ a, nums L a.1 a.2 ≠ [] → k.tl[J a]? = some (.lst ((nums L a.1 a.2).map D.int))) ∧ ∀ a b, nums L a.1 a.2 ≠ [] → nums L b.1 b.2 ≠ [] → J a = J b → a = b
section
variable {L L' : Tb} {n : Int} {r : Row}
theorem Rem.rowF (R : Rem L' n r L) : K87.rowF L' = upd1 (K87.rowF L) n (some (r4 r)) := by
  funext i
  unfold K87.rowF
  rw [R.row']
  by_cases q : i = n
  · subst q; simp
  · simp [q, upd1_other q]
theorem Rem.rowF' (R : Rem L' n r L) : K87.rowF L = upd1 (K87.rowF L') n none := by
  funext i
  unfold K87.rowF
  rw [R.row]
  by_cases q : i = n
  · subst q; simp
  · simp [q, upd1_other q]
theorem Rem.ownO (R : Rem L' n r L) {a : Int × Str} (h : ¬ a = (r.p, r.s)) : own L a.1 a.2 = own L' a.1 a.2 ∧ nums L a.1 a.2 = nums L' a.1 a.2 := by
  unfold own nums
  rw [R.other h]; exact ⟨rfl, rfl⟩
theorem Rem.cellF (R : Rem L' n r L) : K87.cellF L' = upd1 (K87.cellF L) (r.p, r.s) (if own L' r.p r.s = [] then none else some (cellD (own L' r.p r.s))) := by
  funext a
  by_cases q : a = (r.p, r.s)
  · subst q; simp [K87.cellF]
  · rw [upd1_other q]; simp only [K87.cellF, R.ownO q]
theorem Rem.cellF' (R : Rem L' n r L) : K87.cellF L = upd1 (K87.cellF L') (r.p, r.s) (if own L r.p r.s = [] then none else some (cellD (own L r.p r.s))) := by
  funext a
  by_cases q : a = (r.p, r.s)
  · subst q; simp [K87.cellF]
  · rw [upd1_other q]; simp only [K87.cellF, R.ownO q]
end
end K87

/-! M9: a row put, a row taken. -/
namespace K87
open PySem PySem.Spec L2 G
open PyProof.Rows hiding St
section
variable {pre : AH} {E : Ev} {k : KS} {n : Nat} {L L' : Tb} {c m : Int} {r : Row}
theorem nums_len {p : Int} {s : Str} : (nums L p s).length ≤ L.length := by
  unfold nums; rw [List.length_map]; exact List.length_filter_le _ _
theorem e_put_at (hn : n < 900000) (R : Rep pre.length k n L c) (M : Rem L' m r L) (hl : L'.length ≤ 100) :
    ∃ k', φ_Keeper_put_at [.ref (pre.length + 1), .int m, r4 r] (hp pre E k) = .ok (chg (r.p, r.s) (own L r.p r.s) (own L' r.p r.s)) (hp pre E k') ∧ Rep pre.length k' (n + 2) L' c ∧ k'.past = k.past := by
  obtain ⟨J, hP, hT, hJ⟩ := R.bp
  have s1 := dk_store kd_int R.rows (h := hp pre E k) (m := pre.length + 2) (a := m) (x := r4 r) hp_2 (by omega)
  rw [hp_s2] at s1
  have hlen := nums_len (L := L) (p := r.p) (s := r.s)
  have hlen2 := R.len
  have g0 := dk_get kd_pl hP (h := hp pre E { k with rk := dputK k.rk (.int m), rv := dputV k.rk k.rv (.int m) (r4 r) }) (m := pre.length + 3) (a := (r.p, r.s)) (x := .lst []) hp_3
  have g1 : ∃ x, dgetM (.ref (pre.length + 3)) [plD (r.p, r.s), .lst []] (hp pre E { k with rk := dputK k.rk (.int m), rv := dputV k.rk k.rv (.int m) (r4 r) }) = .ok x (hp pre E { k with rk := dputK k.rk (.int m), rv := dputV k.rk k.rv (.int m) (r4 r) }) ∧
      addD false x (.lst [.int m]) (hp pre E { k with rk := dputK k.rk (.int m), rv := dputV k.rk k.rv (.int m) (r4 r) }) = .ok (.lst ((nums L r.p r.s ++ [m]).map D.int)) (hp pre E { k with rk := dputK k.rk (.int m), rv := dputV k.rk k.rv (.int m) (r4 r) }) := by
    refine ⟨_, g0, ?_⟩
    by_cases q : nums L r.p r.s = []
    · simp [bpF, q]
    · have := add_r (h := hp pre E { k with rk := dputK k.rk (.int m), rv := dputV k.rk k.rv (.int m) (r4 r) }) (n := pre.length + 8 + J (r.p, r.s)) (xs := (nums L r.p r.s).map D.int) (ys := [.int m]) (by rw [hp_8]; exact hT (r.p, r.s) q)
      simp only [bpF, if_neg q, Option.getD_some, this]
      have l2 : ((nums L r.p r.s).map D.int).length + [D.int m].length ≤ 16777216 := by simp; omega
      simp; omega
  obtain ⟨x, g1, g2⟩ := g1
  have t1 : ∀ k2 : KS, sortDF true [.lst ((nums L r.p r.s ++ [m]).map D.int)] (hp pre E k2) = .ok (.ref (pre.length + 8 + k2.tl.length)) (hp pre E { k2 with tl := k2.tl ++ [.lst ((nums L' r.p r.s).map D.int)] }) := fun k2 => by
    simp only [sortDF, dctAt_lst, sortF, seqOf_lst, sort_ints, newL_t, M.numsS, hp_len, hp_app]
  have s2 := dk_store kd_pl hP (h := hp pre E { k with rk := dputK k.rk (.int m), rv := dputV k.rk k.rv (.int m) (r4 r), tl := k.tl ++ [.lst ((nums L' r.p r.s).map D.int)] }) (m := pre.length + 3) (a := (r.p, r.s)) (x := .ref (pre.length + 8 + k.tl.length)) hp_3 (by omega)
  rw [hp_s3] at s2
  have oR : DK D.int (n + 1) (dputK k.rk (.int m)) (dputV k.rk k.rv (.int m) (r4 r)) (rowF L') := (R.rows.put kd_int).of M.rowF.symm
  have oP := hP.put kd_pl (a := (r.p, r.s)) (x := .ref (pre.length + 8 + k.tl.length))
  obtain ⟨pk, pv, ck, cv, e1, e2, e3⟩ := e_found (pre := pre) (E := E) (k := { k with rk := dputK k.rk (.int m), rv := dputV k.rk k.rv (.int m) (r4 r), pk := dputK k.pk (plD (r.p, r.s)), pv := dputV k.pk k.pv (plD (r.p, r.s)) (.ref (pre.length + 8 + k.tl.length)), tl := k.tl ++ [.lst ((nums L' r.p r.s).map D.int)] })
    (n := n + 1) (j := k.tl.length) (a := (r.p, r.s)) (xs := L'.filter (hit r.p r.s)) (vs := own L' r.p r.s) (os := own L r.p r.s) (by omega) oR oP (R.cells.more (by omega)) (by simp) (by simp [nums]) (fun e he => by
      have he' := (List.mem_filter.mp he).1
      have : K87.row L' e.1 = some e.2 := (row_iff M.asc).mpr he'
      simp [rowF, this]) rfl (by simp [cellF])
  have nn : nums L' r.p r.s ≠ [] := fun z => by
    have := M.in'
    rw [z] at this; simp at this
  have on : own L' r.p r.s ≠ [] := fun z => nn (own_nil.mp z)
  rw [if_neg on] at e2
  refine ⟨{ c := k.c, rk := dputK k.rk (.int m), rv := dputV k.rk k.rv (.int m) (r4 r), pk := pk, pv := pv, ck := ck, cv := cv, past := k.past, tl := k.tl ++ [.lst ((nums L' r.p r.s).map D.int)] }, ?_, ⟨R.c', M.asc, hl, DK.more (m := n + 2) oR (by omega), DK.more (m := n + 2) (e3.of M.cellF.symm) (by omega), fun b => if b = (r.p, r.s) then k.tl.length else J b, DK.more (n := n + 1) (m := n + 2) (e2.of ?_) (by omega), ?_, ?_⟩, rfl⟩
  · unfold φ_Keeper_put_at
    simp only [argF_ap, List.length_cons, List.length_nil, if_pos]
    simp [b_Keeper_put_at, s1, lk_m, e_place_of, g1, g2, t1, s2]
    simp at t1
    simp [t1, s2, lk_m, e1]
  · funext b
    by_cases q : b = (r.p, r.s)
    · subst q; simp [bpF, nn]
    · rw [upd1_other q]
      simp only [bpF, (M.ownO q).2, if_neg q]
  · intro b hb
    by_cases q : b = (r.p, r.s)
    · subst q; simp
    · rw [← (M.ownO q).2] at hb ⊢
      simp only [if_neg q]
      have := hT b hb
      rw [List.getElem?_append_left (List.getElem?_eq_some_iff.mp this).1]
      exact this
  · intro a b ha hb e
    have lt : ∀ b, b ≠ (r.p, r.s) → nums L' b.1 b.2 ≠ [] → J b < k.tl.length := fun b q hb => by
      rw [← (M.ownO q).2] at hb
      exact (List.getElem?_eq_some_iff.mp (hT b hb)).1
    by_cases q1 : a = (r.p, r.s) <;> by_cases q2 : b = (r.p, r.s)
    · rw [q1, q2]
    · simp only [if_pos q1, if_neg q2] at e
      have := lt b q2 hb; omega
    · simp only [if_neg q1, if_pos q2] at e
      have := lt a q1 ha; omega
    · simp only [if_neg q1, if_neg q2] at e
      rw [← (M.ownO q1).2] at ha
      rw [← (M.ownO q2).2] at hb
      exact hJ a b ha hb e
theorem e_taken (hn : n < 900000) (R : Rep pre.length k n L' c) (M : Rem L' m r L) :
    ∃ k', φ_Keeper_taken [.ref (pre.length + 1), .int m] (hp pre E k) = .ok (chg (r.p, r.s) (own L' r.p r.s) (own L r.p r.s)) (hp pre E k') ∧ Rep pre.length k' (n + 2) L c ∧ k'.past = k.past := by
  obtain ⟨J, hP, hT, hJ⟩ := R.bp
  have hr : rowF L' m = some (r4 r) := by simp [rowF, M.row']
  have nn : nums L' r.p r.s ≠ [] := fun z => by
    have := M.in'
    rw [z] at this; simp at this
  have s1 := dk_pop kd_int R.rows (h := hp pre E k) (m := pre.length + 2) hp_2 hr
  rw [hp_s2] at s1
  have hb : bpF pre.length J L' (r.p, r.s) = some (.ref (pre.length + 8 + J (r.p, r.s))) := by simp [bpF, nn]
  have hj := hT (r.p, r.s) nn
  have g1 := dk_item kd_pl hP (h := hp pre E { k with rk := ddelK k.rk (.int m), rv := ddelV k.rk k.rv (.int m) }) (m := pre.length + 3) (a := (r.p, r.s)) hp_3 hb
  have q1 : (hp pre E { k with rk := ddelK k.rk (.int m), rv := ddelV k.rk k.rv (.int m) })[pre.length + 8 + J (r.p, r.s)]? = some (.lst ((nums L' r.p r.s).map D.int)) := by rw [hp_8]; exact hj
  have g2 := rem_r q1 M.in'
  have g3 := tyD_lr q1
  rw [hp_s8, ← M.numsE] at g2
  have hlt : J (r.p, r.s) < k.tl.length := (List.getElem?_eq_some_iff.mp hj).1
  have oR : DK D.int n (ddelK k.rk (.int m)) (ddelV k.rk k.rv (.int m)) (rowF L) := (R.rows.del kd_int).of M.rowF'.symm
  obtain ⟨pk, pv, ck, cv, e1, e2, e3⟩ := e_found (pre := pre) (E := E) (k := { k with rk := ddelK k.rk (.int m), rv := ddelV k.rk k.rv (.int m), tl := k.tl.set (J (r.p, r.s)) (.lst ((nums L r.p r.s).map D.int)) })
    (n := n) (j := J (r.p, r.s)) (a := (r.p, r.s)) (xs := L.filter (hit r.p r.s)) (vs := own L r.p r.s) (os := own L' r.p r.s) (by omega) oR hP R.cells hb (by simp [nums, hlt]) (fun e he => by
      have he' := (List.mem_filter.mp he).1
      have : K87.row L e.1 = some e.2 := (row_iff M.asc').mpr he'
      simp [rowF, this]) rfl (by simp [cellF])
  refine ⟨{ c := k.c, rk := ddelK k.rk (.int m), rv := ddelV k.rk k.rv (.int m), pk := pk, pv := pv, ck := ck, cv := cv, past := k.past, tl := k.tl.set (J (r.p, r.s)) (.lst ((nums L r.p r.s).map D.int)) }, ?_, ⟨R.c', M.asc', ?_, DK.more (m := n + 2) oR (by omega), DK.more (m := n + 2) (e3.of M.cellF'.symm) (by omega), J, DK.more (n := n) (m := n + 2) (e2.of ?_) (by omega), ?_, ?_⟩, rfl⟩
  · unfold φ_Keeper_taken
    simp only [argF_ap, List.length_cons, List.length_nil, if_pos]
    simp [b_Keeper_taken, s1, lk_m, e_place_of, g1, g2, g3, e1]
  · rw [M.eq]; exact Nat.le_trans (List.length_filter_le _ _) R.len
  · funext b
    by_cases q : b = (r.p, r.s)
    · subst q
      by_cases z : own L r.p r.s = []
      · simp [bpF, z, own_nil.mp z]
      · have z2 : nums L r.p r.s ≠ [] := fun w => z (own_nil.mpr w)
        simp [bpF, z, z2, nn]
    · have e : bpF pre.length J L b = bpF pre.length J L' b := by simp only [bpF, (M.ownO q).2]
      rw [e]
      split
      · rw [upd1_other q]
      · rfl
  · intro b hb
    by_cases q : b = (r.p, r.s)
    · subst q; simp [hlt]
    · have hb' := hb
      rw [(M.ownO q).2] at hb' ⊢
      have ne : J (r.p, r.s) ≠ J b := fun z => q (hJ _ _ nn hb' z).symm
      simp only [List.getElem?_set_ne ne]
      exact hT b hb'
  · intro a b ha hb e
    have up : ∀ a : Int × Str, nums L a.1 a.2 ≠ [] → nums L' a.1 a.2 ≠ [] := fun a ha => by
      by_cases q : a = (r.p, r.s)
      · subst q; exact nn
      · rwa [← (M.ownO q).2]
    exact hJ a b (up a ha) (up b hb) e
end
end K87

/-! M10: put_row, take_row, undo. -/
namespace K87
open PySem PySem.Spec L2 G
open PyProof.Rows hiding St
section
variable {pre : AH} {E E' : Ev} {k : KS} {n : Nat} {L L' : Tb} {c c' m : Int} {r : Row} {ps : List D}
theorem Rep.upd (R : Rep pre.length k n L c) : Rep pre.length { k with c := c', past := ps } n L c' := ⟨rfl, R.asc, R.len, R.rows, R.cells, R.bp⟩
theorem Rep.more (R : Rep pre.length k n L c) {n' : Nat} (h : n ≤ n') : Rep pre.length k n' L c := ⟨R.c', R.asc, R.len, R.rows.more h, R.cells.more h, let ⟨J, h1, h2⟩ := R.bp; ⟨J, h1.more h, h2⟩⟩
@[simp] theorem tup_r4 {h : AH} : tupleF [r4 r] h = .ok (r4 r) h := rfl
theorem put_kf {N : Nat} {x : Int} : putFD "coming" (.int x) (kf N c) = kf N x := rfl
theorem len_kf {N : Nat} : (kf N c).length = 8 := rfl
def putP (m : Int) : D := .tup [.str "put", .int m, .non]
def takeP (m : Int) (r : Row) : D := .tup [.str "take", .int m, r4 r]
theorem e_put_row (hn : n < 900000) (R : Rep pre.length k n L c) (M : Rem L' c r L) (hl : L'.length ≤ 100) (hp' : k.past.length < 900000) :
    ∃ k', φ_Keeper_put_row [.ref (pre.length + 1), r4 r] (hp pre E k) = .ok (.tup [.int c, chg (r.p, r.s) (own L r.p r.s) (own L' r.p r.s)]) (hp pre E k') ∧ Rep pre.length k' (n + 2) L' (c + 1) ∧ k'.past = k.past ++ [putP c] := by
  have R1 : Rep pre.length { k with c := c + 1, past := k.past ++ [putP c] } n L (c + 1) := R.upd
  obtain ⟨k', e1, e2, e3⟩ := e_put_at (E := E) hn R1 M hl
  have hc := R.c'
  have a1 := app_r (h := hp pre E { k with c := c + 1 }) (n := pre.length + 5) (xs := k.past) (x := putP c) hp_5 (by omega)
  rw [hp_s5] at a1
  have x1 : eqX false w_sum (.str "sum") (hp pre E k) = .ok (.bl true) (hp pre E k) := by rfl
  have x2 : eqX false w_count (.str "sum") (hp pre E k) = .ok (.bl false) (hp pre E k) := by rfl
  have i1 : itemD (r4 r) (.int 2) (hp pre E k) = .ok (.int r.v) (hp pre E k) := by simp [r4]
  have i2 : isiF [.int r.v, .ty "str"] (hp pre E k) = .ok (.bl false) (hp pre E k) := by simp [isiF, tyD, okTy, subTy]
  have s1 : (hp pre E k).set (pre.length + 1) (.ins "Keeper" (kf pre.length (c + 1))) = hp pre E { k with c := c + 1 } := hp_s1
  refine ⟨k', ?_, e2, e3⟩
  unfold φ_Keeper_put_row
  simp only [argF_ap, List.length_cons, List.length_nil, if_pos]
  simp only [putP] at a1 e1
  simp [b_Keeper_put_row, placesD, toldD, zipD, loopC, x1, x2, i1, i2, afldC, lk_f, len_kf, put_kf, hc, s1, a1, lk_m, e1]
theorem e_take_no (R : Rep pre.length k n L c) (h : row L m = none) : φ_Keeper_take_row [.ref (pre.length + 1), .int m] (hp pre E k) = .exc ⟨"NoRow", []⟩ (hp pre E k) := by
  have g1 := dk_in (neg := true) kd_int R.rows (h := hp pre E k) (m := pre.length + 2) (a := m) hp_2
  unfold φ_Keeper_take_row
  simp only [argF_ap, List.length_cons, List.length_nil, if_pos]
  simp [rowF, h] at g1
  simp [b_Keeper_take_row, g1]
theorem e_take_row (hn : n < 900000) (R : Rep pre.length k n L' c) (M : Rem L' m r L) (hp' : k.past.length < 900000) :
    ∃ k', φ_Keeper_take_row [.ref (pre.length + 1), .int m] (hp pre E k) = .ok (chg (r.p, r.s) (own L' r.p r.s) (own L r.p r.s)) (hp pre E k') ∧ Rep pre.length k' (n + 2) L c ∧ k'.past = k.past ++ [takeP m r] := by
  have R1 : Rep pre.length { k with c := k.c, past := k.past ++ [takeP m r] } n L' c := R.c' ▸ R.upd
  obtain ⟨k', e1, e2, e3⟩ := e_taken (E := E) hn R1 M
  have hr : rowF L' m = some (r4 r) := by simp [rowF, M.row']
  have g1 := dk_in (neg := true) kd_int R.rows (h := hp pre E k) (m := pre.length + 2) (a := m) hp_2
  have g2 := dk_item kd_int R.rows (h := hp pre E k) (m := pre.length + 2) (a := m) hp_2 hr
  have a1 := app_r (h := hp pre E k) (n := pre.length + 5) (xs := k.past) (x := takeP m r) hp_5 (by omega)
  rw [hp_s5] at a1
  refine ⟨k', ?_, e2, e3⟩
  unfold φ_Keeper_take_row
  simp only [argF_ap, List.length_cons, List.length_nil, if_pos]
  simp [hr] at g1
  simp only [takeP] at a1 e1
  simp [b_Keeper_take_row, g1, g2, a1, lk_m, e1]
theorem e_undo_no (h : k.past = []) : φ_Keeper_undo [.ref (pre.length + 1)] (hp pre E k) = .ok .non (hp pre E k) := by
  have l1 := len_r (h := hp pre E k) (n := pre.length + 5) hp_5
  unfold φ_Keeper_undo
  simp only [argF_ap, List.length_cons, List.length_nil, if_pos]
  simp [b_Keeper_undo, l1, h, eqX, eqD]
theorem len_ne {α : Type} (xs : List α) (x : α) : (((xs ++ [x]).length : Int) == 0) = false := by simp; omega
theorem e_undo_put (hn : n < 900000) (R : Rep pre.length k n L' c) (M : Rem L' m r L) (h : k.past = ps ++ [putP m]) :
    ∃ k', φ_Keeper_undo [.ref (pre.length + 1)] (hp pre E k) = .ok (chg (r.p, r.s) (own L' r.p r.s) (own L r.p r.s)) (hp pre E k') ∧ Rep pre.length k' (n + 2) L m ∧ k'.past = ps := by
  have R1 : Rep pre.length { k with c := m, past := ps } n L' m := R.upd
  obtain ⟨k', e1, e2, e3⟩ := e_taken (E := E) hn R1 M
  have l1 := len_r (h := hp pre E k) (n := pre.length + 5) hp_5
  rw [h] at l1
  have p1 := pop_r (h := hp pre E k) (n := pre.length + 5) (xs := ps) (x := putP m) (by rw [hp_5, h])
  rw [hp_s5] at p1
  have x1 : ∀ h : AH, eqX false (.str "put") (.str "take") h = .ok (.bl false) h := fun h => by rfl
  have x2 : eqX false (.int ((ps ++ [putP m]).length : Int)) (.int 0) (hp pre E k) = .ok (.bl false) (hp pre E k) := by
    simp only [eqX, dctAt_int, eqD, dO_int, eqv_ii, len_ne]; rfl
  have s1 : (hp pre E { k with past := ps }).set (pre.length + 1) (.ins "Keeper" (kf pre.length m)) = hp pre E { k with c := m, past := ps } := hp_s1
  refine ⟨k', ?_, e2, e3⟩
  unfold φ_Keeper_undo
  simp only [argF_ap, List.length_cons, List.length_nil, if_pos]
  generalize hq : ((ps ++ [putP m]).length : Int) = q at l1 x2
  simp [b_Keeper_undo, l1, x2, p1, putP, x1, sfldC, len_kf, put_kf, s1, lk_m, e1]
theorem e_undo_take (hn : n < 900000) (R : Rep pre.length k n L c) (M : Rem L' m r L) (hl : L'.length ≤ 100) (h : k.past = ps ++ [takeP m r]) :
    ∃ k', φ_Keeper_undo [.ref (pre.length + 1)] (hp pre E k) = .ok (chg (r.p, r.s) (own L r.p r.s) (own L' r.p r.s)) (hp pre E k') ∧ Rep pre.length k' (n + 2) L' c ∧ k'.past = ps := by
  have R1 : Rep pre.length { k with c := k.c, past := ps } n L c := R.c' ▸ R.upd
  obtain ⟨k', e1, e2, e3⟩ := e_put_at (E := E) hn R1 M hl
  have l1 := len_r (h := hp pre E k) (n := pre.length + 5) hp_5
  rw [h] at l1
  have p1 := pop_r (h := hp pre E k) (n := pre.length + 5) (xs := ps) (x := takeP m r) (by rw [hp_5, h])
  rw [hp_s5] at p1
  have x1 : ∀ h : AH, eqX false (.str "take") (.str "take") h = .ok (.bl true) h := fun h => by rfl
  have x2 : eqX false (.int ((ps ++ [takeP m r]).length : Int)) (.int 0) (hp pre E k) = .ok (.bl false) (hp pre E k) := by
    simp only [eqX, dctAt_int, eqD, dO_int, eqv_ii, len_ne]; rfl
  refine ⟨k', ?_, e2, e3⟩
  unfold φ_Keeper_undo
  simp only [argF_ap, List.length_cons, List.length_nil, if_pos]
  generalize hq : ((ps ++ [takeP m r]).length : Int) = q at l1 x2
  simp [b_Keeper_undo, l1, x2, p1, takeP, x1, lk_m, e1]
end
end K87

/-! M11: the law's changes, a deed taken back, a row that is gone. -/
namespace K87
open PySem PySem.Spec L2 G
open PyProof.Rows hiding St
structure Ent where
  L : Tb
  r : Row
  c : Int
  m : Int
  put : Bool
def lawP (e : Ent) : D := .tup [tb e.L, r3 e.r, .int e.c]
def keepP (e : Ent) : D := if e.put then putP e.m else takeP e.m e.r
structure Good (L : Tb) (c : Int) : Prop where
  asc : Asc L
  len : L.length ≤ 9
  lt : ∀ x ∈ L, x.1 < c
def Stp (e : Ent) (L : Tb) (c : Int) : Prop := if e.put then Rem L e.c e.r e.L ∧ e.m = e.c ∧ c = e.c + 1 else Rem e.L e.m e.r L ∧ c = e.c
def Chain : List Ent → Tb → Int → Prop
  | [], L, c => L = [] ∧ c = 0
  | e :: es, L, c => Good L c ∧ Stp e L c ∧ Chain es e.L e.c
theorem Chain.good : ∀ {es : List Ent} {L : Tb} {c : Int}, Chain es L c → Good L c
  | [], _, _, ⟨rfl, rfl⟩ => ⟨by simp [Asc], by simp, by simp⟩
  | _ :: _, _, _, h => h.1
def sD (N : Nat) (L : Tb) (c : Int) : O := .dct [.str "rows", .str "coming", .str "past"] [tb L, .int c, .ref (N + 6)]
structure Wd (N : Nat) (E : Ev) (k : KS) (n : Nat) (stk : List Ent) (L : Tb) (c : Int) : Prop where
  box : ∃ b0 b1 b2 : Int, E.box = .lst [.int b0, .int b1, .int b2] ∧ 0 ≤ b2 ∧ b2 ≤ n
  q : E.q = .lst ((stk.map lawP).reverse)
  s : E.s = sD N L c
  past : k.past = (stk.map keepP).reverse
  rep : Rep N k n L c
  ch : Chain stk L c
  size : stk.length ≤ n
theorem e_changes {L1 L2 : Tb} {r : Row} {h : AH} (h1 : Asc L1) (h2 : Asc L2) : φ__law_changes [tb L1, tb L2, r3 r] h = .ok (chg (r.p, r.s) (own L1 r.p r.s) (own L2 r.p r.s)) h := by
  unfold φ__law_changes
  simp only [argF_ap, List.length_cons, List.length_nil, if_pos]
  refine trim_id ?_
  have i0 : itemD (r3 r) (.int 0) h = .ok (.int r.p) h := by simp [r3]
  have i1 : itemD (r3 r) (.int 1) h = .ok (.str r.s) h := by simp [r3]
  by_cases q : cellN (own L1 r.p r.s) = cellN (own L2 r.p r.s)
  · simp [b__law_changes, i0, i1, e_cell_of h1, e_cell_of h2, eqX_cell, q, chg]
  · simp [b__law_changes, i0, i1, e_cell_of h1, e_cell_of h2, eqX_cell, q, chg]
theorem pl_cell {vs : List Int} {n : Nat} : Pl (n + 2) (cellD vs) := by
  unfold cellD
  split
  · simp [Pl]
  · simp [Pl]
theorem pl_chg {a : Int × Str} {os vs : List Int} {n : Nat} : Pl (n + 4) (chg a os vs) := by
  unfold chg
  split
  · simp [Pl]
  · have h1 := pl_cell (vs := os) (n := n)
    have h2 := pl_cell (vs := vs) (n := n)
    simp [Pl] at h1 h2 ⊢
    exact ⟨h1, h2⟩
section
variable {pre : AH} {E : Ev} {k : KS} {n : Nat} {L : Tb} {c : Int} {es : List Ent} {e : Ent} {h : AH} {m N : Nat}
theorem s_items {d d2 d3 : D} (q : h[m]? = some (.dct [.str "rows", .str "coming", .str "past"] [d, d2, d3])) : itemD (.ref m) (.str "rows") h = .ok d h ∧ itemD (.ref m) (.str "coming") h = .ok d2 h ∧ itemD (.ref m) (.str "past") h = .ok d3 h := by
  unfold itemD
  rw [dctAt_ref q]
  exact ⟨rfl, rfl, rfl⟩
theorem s_puts {d d2 d3 x : D} (q : h[m]? = some (.dct [.str "rows", .str "coming", .str "past"] [d, d2, d3])) : storeD (.ref m) (.str "rows") x h = some (h.set m (.dct [.str "rows", .str "coming", .str "past"] [x, d2, d3])) ∧ storeD (.ref m) (.str "coming") x h = some (h.set m (.dct [.str "rows", .str "coming", .str "past"] [d, x, d3])) := by
  have e1 : dctN (.ref m) h = some (m, [.str "rows", .str "coming", .str "past"], [d, d2, d3]) := by simp [dctN, q]
  unfold storeD
  rw [e1]
  exact ⟨rfl, rfl⟩
theorem e_gone (W : Wd pre.length E k n es L c) : φ__law_is_gone [.ref (pre.length + 1), .ref (pre.length + 7)] (hp pre E k) = .ok (.bl true) (hp pre E k) := by
  have q7 : (hp pre E k)[pre.length + 7]? = some (sD pre.length L c) := by rw [hp_7, W.s]
  have i1 := s_items q7
  have hr : row L c = none := by
    cases q : row L c with
    | none => rfl
    | some r =>
      have := W.ch.good.lt _ ((row_iff W.ch.good.asc).mp q)
      simp at this
  have t := e_take_no (E := E) W.rep hr
  unfold φ__law_is_gone
  simp only [argF_ap, List.length_cons, List.length_nil, if_pos]
  simp [b__law_is_gone, tryC, i1, lk_m, t, catch1]
theorem e_back (hn : n < 900000) (W : Wd pre.length E k n (e :: es) L c) :
    ∃ E' k', φ__law_back [.ref (pre.length + 1), .ref (pre.length + 7)] (hp pre E k) = .ok (.bl true) (hp pre E' k') ∧ Wd pre.length E' k' (n + 10) es e.L e.c := by
  obtain ⟨W1, W2, W3, W4, W5, ⟨g1, g2, g3⟩, W7⟩ := W
  have g4 := g3.good
  have q6 : (hp pre E k)[pre.length + 6]? = some (.lst ((es.map lawP).reverse ++ [lawP e])) := by rw [hp_6, W2]; simp
  have q7 : (hp pre E k)[pre.length + 7]? = some (sD pre.length L c) := by rw [hp_7, W3]
  have i1 := s_items q7
  have p1 := pop_r q6
  rw [hp_s6] at p1
  have t1 := tyD_lr q6
  have q7' : (hp pre { E with q := .lst ((es.map lawP).reverse) } k)[pre.length + 7]? = some (sD pre.length L c) := by rw [← W3]; exact hp_7
  have i2 := s_items q7'
  have s1 := (s_puts (x := tb e.L) q7').1
  have s1' : (hp pre { E with q := .lst ((es.map lawP).reverse) } k).set (pre.length + 7) (.dct [.str "rows", .str "coming", .str "past"] [tb e.L, .int c, .ref (pre.length + 6)]) = hp pre { E with q := .lst ((es.map lawP).reverse), s := sD pre.length e.L c } k := hp_s7
  rw [s1'] at s1
  have q7'' : (hp pre { E with q := .lst ((es.map lawP).reverse), s := sD pre.length e.L c } k)[pre.length + 7]? = some (sD pre.length e.L c) := hp_7
  have s2 := (s_puts (x := .int e.c) q7'').2
  have s2' : (hp pre { E with q := .lst ((es.map lawP).reverse), s := sD pre.length e.L c } k).set (pre.length + 7) (.dct [.str "rows", .str "coming", .str "past"] [tb e.L, .int e.c, .ref (pre.length + 6)]) = hp pre { E with q := .lst ((es.map lawP).reverse), s := sD pre.length e.L e.c } k := hp_s7
  rw [s2'] at s2
  have R' : Rep pre.length k n L c := W5
  have ch1 := e_changes (h := hp pre { E with q := .lst ((es.map lawP).reverse) } k) (r := e.r) g1.asc g4.asc
  have past2 : k.past = (es.map keepP).reverse ++ [keepP e] := by rw [W4]; simp
  have u : ∃ k', φ_Keeper_undo [.ref (pre.length + 1)] (hp pre { E with q := .lst ((es.map lawP).reverse), s := sD pre.length e.L e.c } k) = .ok (chg (e.r.p, e.r.s) (own L e.r.p e.r.s) (own e.L e.r.p e.r.s)) (hp pre { E with q := .lst ((es.map lawP).reverse), s := sD pre.length e.L e.c } k') ∧ Rep pre.length k' (n + 2) e.L e.c ∧ k'.past = (es.map keepP).reverse := by
    unfold Stp at g2
    unfold keepP at past2
    cases q : e.put with
    | true =>
      simp only [q, if_true] at g2 past2
      obtain ⟨M, hm, hc⟩ := g2
      rw [hm] at past2
      exact e_undo_put hn R' M past2
    | false =>
      simp only [q, Bool.false_eq_true, if_false] at g2 past2
      obtain ⟨M, hc⟩ := g2
      rw [hc] at R'
      exact e_undo_take hn R' M (by have := g4.len; omega) past2
  obtain ⟨k', u1, u2, u3⟩ := u
  refine ⟨{ E with q := .lst ((es.map lawP).reverse), s := sD pre.length e.L e.c }, k', ?_, ⟨?_, rfl, rfl, u3, u2.more (by omega), g3, by simp at W7; omega⟩⟩
  · unfold φ__law_back
    simp only [argF_ap, List.length_cons, List.length_nil, if_pos]
    simp only [lawP] at p1
    simp [b__law_back, i1, p1, t1, i2, ch1, s1, s2, lk_m, u1, φ__law_same, e_same (pl_chg (n := 4))]
  · obtain ⟨b0, b1, b2, h1, h2, h3⟩ := W1
    exact ⟨b0, b1, b2, h1, h2, by omega⟩
end
end K87

/-! M12: places, parts, unlike ones. -/
namespace K87
open PySem PySem.Spec L2 G
open PyProof.Rows hiding St
def ddF {α : Type} [DecidableEq α] : List α → List α → List α
  | acc, [] => acc
  | acc, x :: xs => ddF (if x ∈ acc then acc else acc ++ [x]) xs
theorem ddF_mem {α : Type} [DecidableEq α] {a : α} : ∀ {xs acc : List α}, a ∈ ddF acc xs ↔ a ∈ acc ∨ a ∈ xs
  | [], acc => by simp [ddF]
  | x :: xs, acc => by
    rw [ddF, ddF_mem]
    split
    · rename_i h
      constructor
      · rintro (z | z)
        · exact .inl z
        · exact .inr (by simp [z])
      · rintro (z | z)
        · exact .inl z
        · rcases List.mem_cons.mp z with z | z
          · exact .inl (z ▸ h)
          · exact .inr z
    · simp [or_assoc]
theorem put_map {α : Type} [DecidableEq α] {f : α → D} (hf : ∀ a b, G.keyOf (f a) = G.keyOf (f b) → a = b) {x : α} : ∀ {xs : List α}, dputK (xs.map f) (f x) = (if x ∈ xs then xs else xs ++ [x]).map f
  | [] => by simp [dputK]
  | y :: xs => by
    have ih := put_map hf (x := x) (xs := xs)
    simp only [List.map_cons, dputK, ih]
    by_cases q : y = x
    · subst q; simp
    · have h1 : ¬ G.keyOf (f y) = G.keyOf (f x) := fun z => q (hf _ _ z)
      have h2 : ¬ x = y := fun z => q z.symm
      by_cases h3 : x ∈ xs <;> simp [h1, h2, h3]
theorem merge_map {α : Type} [DecidableEq α] {f : α → D} (hf : ∀ a b, G.keyOf (f a) = G.keyOf (f b) → a = b) {v : D} : ∀ {xs acc : List α} {vs : List D}, (dmerge (acc.map f) vs (xs.map f) (xs.map fun _ => v)).1 = (ddF acc xs).map f
  | [], acc, vs => by simp [dmerge, ddF]
  | x :: xs, acc, vs => by
    simp only [List.map_cons, dmerge, ddF, put_map hf]
    exact merge_map hf
theorem pairs_map {α : Type} {f g : α → D} : ∀ {xs : List α}, pairsD (xs.map fun x => .tup [f x, g x]) = some (xs.map f, xs.map g)
  | [] => rfl
  | x :: xs => by simp [pairsD, pairs_map (xs := xs)]
theorem e_unlike {α : Type} [DecidableEq α] {f : α → D} (hf : ∀ a b, G.keyOf (f a) = G.keyOf (f b) → a = b) (ht : ∀ a, tupKy (f a) = true ∧ (G.keyOf (f a)).isSome = true) {xs : List α} {h : AH} : φ_unlike_ones [.lst (xs.map f)] h = .ok (.lst ((ddF [] xs).map f)) h := by
  unfold φ_unlike_ones
  simp only [argF_ap, List.length_cons, List.length_nil, if_pos]
  refine trim_id ?_
  have e1 := mapC_all (gs := []) (t := .n 1) (el := tupC (consA (varC 1) (consA (cstC (.bl true)) nilA))) (S := [some (.lst (xs.map f)), none]) (h := h) (xs := xs) (f := f) (k := fun x => .tup [f x, .bl true]) gd_nil fun x _ => ⟨_, rfl, by simp⟩
  have e2 : keysOk (xs.map f) = true := by
    simp only [keysOk, List.all_map, Bool.and_eq_true, Bool.or_eq_true, List.all_eq_true]
    exact ⟨.inr fun x _ => (ht x).1, fun x _ => (ht x).2⟩
  have e3 := merge_map hf (v := .bl true) (xs := xs) (acc := []) (vs := [])
  have e4 : dictF false [.lst (xs.map fun x => .tup [f x, .bl true])] h = .ok (.dct ((ddF [] xs).map f) (dmerge [] [] (xs.map f) (xs.map fun _ => .bl true)).2) h := by
    simp only [dictF, dctAt_lst, seqOf_lst, pairs_map, e2, isT, and_self, if_true, newDct_f]
    simp only [List.map_nil] at e3
    rw [e3]
  simp [b_unlike_ones, e1, e4]
def tableR (rows : List D) : D := .tup [.tup colD, .tup rows]
section
variable {rows : List D} {h : AH}
theorem c_in : containsD true (.str "a") (.tup colD) h = .ok (.bl false) h ∧ containsD true (.str "b") (.tup colD) h = .ok (.bl false) h ∧ containsD true (.str "c") (.tup colD) h = .ok (.bl false) h ∧ containsD true (.str "d") (.tup colD) h = .ok (.bl false) h := ⟨rfl, rfl, rfl, rfl⟩
theorem c_inl : containsD true (.str "a") (.lst colD) h = .ok (.bl false) h ∧ containsD true (.str "b") (.lst colD) h = .ok (.bl false) h ∧ containsD true (.str "c") (.lst colD) h = .ok (.bl false) h ∧ containsD true (.str "d") (.lst colD) h = .ok (.bl false) h := ⟨rfl, rfl, rfl, rfl⟩
theorem c_ix : tindexM (.tup colD) [.str "a"] h = .ok (.int 0) h ∧ tindexM (.tup colD) [.str "b"] h = .ok (.int 1) h ∧ tindexM (.tup colD) [.str "c"] h = .ok (.int 2) h ∧ tindexM (.tup colD) [.str "d"] h = .ok (.int 3) h := ⟨rfl, rfl, rfl, rfl⟩
def SeqI (d : D) (xs : List D) : Prop := d = .lst xs ∨ d = .tup xs
theorem SeqI.q {d : D} {xs : List D} (s : SeqI d xs) : seqOf d h = some (xs, []) := by rcases s with rfl | rfl <;> rfl
theorem e_places1 {d : D} (s : SeqI d [.str "a"]) : φ_places_of [tableR rows, d] h = .ok (.lst [.int 0]) h := by
  unfold φ_places_of
  simp only [argF_ap, List.length_cons, List.length_nil, if_pos]
  refine trim_id ?_
  have e1 := c_in (h := h)
  have e2 := c_ix (h := h)
  simp only [inD_tup] at e1
  simp [b_places_of, s.q, loopC, mapC, tableR, Tg.put, e1, e2, tyD]
theorem e_places2 {d : D} (s : SeqI d [.str "b"]) : φ_places_of [tableR rows, d] h = .ok (.lst [.int 1]) h := by
  unfold φ_places_of
  simp only [argF_ap, List.length_cons, List.length_nil, if_pos]
  refine trim_id ?_
  have e1 := c_in (h := h)
  have e2 := c_ix (h := h)
  simp only [inD_tup] at e1
  simp [b_places_of, s.q, loopC, mapC, tableR, Tg.put, e1, e2, tyD]
theorem e_places3 {d : D} (s : SeqI d [.str "c", .str "d"]) : φ_places_of [tableR rows, d] h = .ok (.lst [.int 2, .int 3]) h := by
  unfold φ_places_of
  simp only [argF_ap, List.length_cons, List.length_nil, if_pos]
  refine trim_id ?_
  have e1 := c_in (h := h)
  have e2 := c_ix (h := h)
  simp only [inD_tup] at e1
  simp [b_places_of, s.q, loopC, mapC, tableR, Tg.put, e1, e2, tyD]
theorem e_parts1 {d : D} (s : SeqI d [.str "a"]) {L : Tb} : φ_parts_of [tableR (L.map fun e => r4 e.2), d] h = .ok (.lst (L.map fun e => .tup [.int e.2.p])) h := by
  unfold φ_parts_of
  simp only [argF_ap, List.length_cons, List.length_nil, if_pos]
  refine trim_id ?_
  have e1 := mapC_all (gs := []) (t := .n 3) (el := callC φ_at_places (consA (varC 3) (consA (varC 2) nilA))) (S := [some (tableR (L.map fun e => r4 e.2)), some d, some (.lst [.int 0]), none]) (h := h) (xs := L) (f := fun e => r4 e.2) (k := fun e => .tup [.int e.2.p]) gd_nil fun x _ => ⟨_, rfl, by simp [e_at]⟩
  have e2 : itemD (tableR (L.map fun e => r4 e.2)) (.int 1) h = .ok (.tup (L.map fun e => r4 e.2)) h := by simp [tableR]
  simp [b_parts_of, e_places1 s, e1, e2]
theorem e_parts2 {d : D} (s : SeqI d [.str "b"]) {L : Tb} : φ_parts_of [tableR (L.map fun e => r4 e.2), d] h = .ok (.lst (L.map fun e => .tup [.str e.2.s])) h := by
  unfold φ_parts_of
  simp only [argF_ap, List.length_cons, List.length_nil, if_pos]
  refine trim_id ?_
  have e1 := mapC_all (gs := []) (t := .n 3) (el := callC φ_at_places (consA (varC 3) (consA (varC 2) nilA))) (S := [some (tableR (L.map fun e => r4 e.2)), some d, some (.lst [.int 1]), none]) (h := h) (xs := L) (f := fun e => r4 e.2) (k := fun e => .tup [.str e.2.s]) gd_nil fun x _ => ⟨_, rfl, by simp [e_at]⟩
  have e2 : itemD (tableR (L.map fun e => r4 e.2)) (.int 1) h = .ok (.tup (L.map fun e => r4 e.2)) h := by simp [tableR]
  simp [b_parts_of, e_places2 s, e1, e2]
theorem e_parts3 {d : D} (s : SeqI d [.str "c", .str "d"]) {L : Tb} : φ_parts_of [tableR (L.map fun e => r4 e.2), d] h = .ok (.lst (L.map fun e => .tup [.int e.2.v, .int e.2.v])) h := by
  unfold φ_parts_of
  simp only [argF_ap, List.length_cons, List.length_nil, if_pos]
  refine trim_id ?_
  have e1 := mapC_all (gs := []) (t := .n 3) (el := callC φ_at_places (consA (varC 3) (consA (varC 2) nilA))) (S := [some (tableR (L.map fun e => r4 e.2)), some d, some (.lst [.int 2, .int 3]), none]) (h := h) (xs := L) (f := fun e => r4 e.2) (k := fun e => .tup [.int e.2.v, .int e.2.v]) gd_nil fun x _ => ⟨_, rfl, by simp [e_at]⟩
  have e2 : itemD (tableR (L.map fun e => r4 e.2)) (.int 1) h = .ok (.tup (L.map fun e => r4 e.2)) h := by simp [tableR]
  simp [b_parts_of, e_places3 s, e1, e2]
end
end K87

/-! M13: numbers_by. -/
namespace K87
open PySem PySem.Spec L2 G
open PyProof.Rows hiding St
def plc (e : Int × Row) : Int × Str := (e.2.p, e.2.s)
def posD (L : Tb) (a : Int × Str) : List D := (L.zipIdx.filter fun x => hit a.1 a.2 x.1).map fun x => .int (x.2 : Nat)
theorem hit_plc {a : Int × Str} {e : Int × Row} : hit a.1 a.2 e = decide (a = plc e) := by
  unfold hit plc
  by_cases q : a = (e.2.p, e.2.s)
  · rw [q]; simp
  · have : ¬ (e.2.p = a.1 ∧ e.2.s = a.2) := fun z => q (Prod.ext z.1.symm z.2.symm)
    simp only [q, decide_false, Bool.and_eq_false_iff, beq_eq_false_iff_ne]
    by_cases z : e.2.p = a.1
    · exact .inr fun w => this ⟨z, w⟩
    · exact .inl z
theorem pos_snoc {L : Tb} {e : Int × Row} {a : Int × Str} : posD (L ++ [e]) a = if a = plc e then posD L a ++ [.int (L.length : Nat)] else posD L a := by
  unfold posD
  rw [List.zipIdx_append, List.filter_append, List.map_append]
  by_cases q : a = plc e
  · simp [q, hit_plc, List.zipIdx]
  · simp [q, hit_plc, List.zipIdx]
theorem nums_snoc {L : Tb} {e : Int × Row} {a : Int × Str} : nums (L ++ [e]) a.1 a.2 ≠ [] ↔ (nums L a.1 a.2 ≠ [] ∨ a = plc e) := by
  unfold nums
  rw [List.filter_append, List.map_append]
  by_cases q : a = plc e
  · simp [q, hit_plc]
  · simp [q, hit_plc]
theorem pos_nil {L : Tb} {a : Int × Str} (h : ¬ nums L a.1 a.2 ≠ []) : posD L a = [] := by
  have h : nums L a.1 a.2 = [] := Classical.not_not.mp h
  unfold nums at h
  unfold posD
  rw [List.map_eq_nil_iff, List.filter_eq_nil_iff] at h ⊢
  intro x hx
  exact h x.1 (List.fst_mem_of_mem_zipIdx hx)
theorem find_map {kk : List (Int × Str)} {f : Int × Str → D} {a : Int × Str} : dfind (kk.map plD) (kk.map f) (plD a) = if a ∈ kk then some (f a) else none := by
  induction kk with
  | nil => simp [dfind]
  | cons b kk ih =>
    simp only [List.map_cons, dfind, ih]
    by_cases q : b = a
    · subst q; simp
    · have h1 : ¬ G.keyOf (plD b) = G.keyOf (plD a) := fun z => q (kd_pl.inj _ _ z)
      have h2 : ¬ a = b := fun z => q z.symm
      simp [h1, h2]
theorem putV_map {kk : List (Int × Str)} {f : Int × Str → D} {a : Int × Str} {x : D} (h : a ∉ kk) : dputV (kk.map plD) (kk.map f) (plD a) x = kk.map f ++ [x] := by
  induction kk with
  | nil => simp [dputV]
  | cons b kk ih =>
    simp only [List.mem_cons, not_or] at h
    have h1 : ¬ G.keyOf (plD b) = G.keyOf (plD a) := fun z => h.1 (kd_pl.inj _ _ z).symm
    simp [dputV, h1, ih h.2]
def hn (h : AH) (ks vs : List D) (tl : AH) : AH := h ++ (.dct ks vs :: tl)
section
variable {h tl : AH} {ks vs : List D}
@[simp] theorem hn_0 : (hn h ks vs tl)[h.length]? = some (.dct ks vs) := pre_get (i := 0)
@[simp] theorem hn_1 {j : Nat} : (hn h ks vs tl)[h.length + 1 + j]? = tl[j]? := by
  have := pre_get (pre := h) (l := .dct ks vs :: tl) (i := 1 + j)
  rw [← Nat.add_assoc] at this
  refine this.trans ?_
  rw [Nat.add_comm 1 j]; rfl
theorem hn_s0 {a b : List D} : (hn h ks vs tl).set h.length (.dct a b) = hn h a b tl := pre_set (i := 0)
theorem hn_s1 {j : Nat} {o : O} : (hn h ks vs tl).set (h.length + 1 + j) o = hn h ks vs (tl.set j o) := by
  have := pre_set (pre := h) (l := .dct ks vs :: tl) (i := 1 + j) (o := o)
  rw [← Nat.add_assoc] at this
  refine this.trans ?_
  rw [Nat.add_comm 1 j]; rfl
theorem hn_app {l : AH} : hn h ks vs tl ++ l = hn h ks vs (tl ++ l) := by simp [hn]
theorem hn_len : (hn h ks vs tl).length = h.length + 1 + tl.length := by simp [hn]; omega
end
structure NInv (L : Tb) (kk : List (Int × Str)) (J : Int × Str → Nat) (tl : AH) : Prop where
  nd : kk.Nodup
  mem : ∀ a, a ∈ kk ↔ nums L a.1 a.2 ≠ []
  at' : ∀ a ∈ kk, tl[J a]? = some (.lst (posD L a))
  inj : ∀ a ∈ kk, ∀ b ∈ kk, J a = J b → a = b
  len : kk.length ≤ L.length
def refs (N : Nat) (J : Int × Str → Nat) (kk : List (Int × Str)) : List D := kk.map fun a => .ref (N + 1 + J a)
def nbG : CG := tupG 2 (consG (nameG 2) (consG (nameG 3) nilG))
noncomputable def nbB : CS := exprC (mthC "list" appendM (mthC "dict" dsetdM (varC 1) (consA (varC 3) (consA (lstC true nilA) nilA))) (consA (varC 2) nilA))
theorem nb_step {L : Tb} {kk : List (Int × Str)} {J : Int × Str → Nat} {tl h : AH} {e : Int × Row} {A x y : Option D} (I : NInv L kk J tl) (hl : L.length < 1000000) :
    ∃ kk' J' tl' x' y', ((nbG (.tup [.int (L.length : Nat), plD (plc e)]) [A, some (.ref h.length), x, y] (hn h (kk.map plD) (refs h.length J kk) tl)).bind nbB) = .nx [A, some (.ref h.length), x', y'] (hn h (kk'.map plD) (refs h.length J' kk') tl') ∧ NInv (L ++ [e]) kk' J' tl' := by
  have t0 : ∀ ks vs tl, tyD (hn h ks vs tl) (.ref h.length) = some "dict" := fun ks vs tl => tyD_dr hn_0
  have k0 : keyOk (kk.map plD) (plD (plc e)) = true := kd_pl.ok _ _ fun k hk => by
    obtain ⟨b, _, rfl⟩ := List.mem_map.mp hk
    exact ⟨b, rfl⟩
  have l0 : (kk.map plD).length < 16777216 := by
    have := I.len
    rw [List.length_map]; omega
  have d0 : dctN (.ref h.length) (hn h (kk.map plD) (refs h.length J kk) (tl ++ [.lst []])) = some (h.length, kk.map plD, refs h.length J kk) := by simp [dctN]
  have posl : (posD L (plc e)).length ≤ L.length := by
    unfold posD
    rw [List.length_map]
    exact Nat.le_trans (List.length_filter_le _ _) (by simp)
  by_cases q : plc e ∈ kk
  · have f0 : dfind (kk.map plD) (refs h.length J kk) (plD (plc e)) = some (.ref (h.length + 1 + J (plc e))) := by
      unfold refs
      rw [find_map, if_pos q]
    have hj := I.at' _ q
    have hlt : J (plc e) < tl.length := (List.getElem?_eq_some_iff.mp hj).1
    have s0 : dsetdM (.ref h.length) [plD (plc e), .ref (h.length + 1 + tl.length)] (hn h (kk.map plD) (refs h.length J kk) (tl ++ [.lst []])) = .ok (.ref (h.length + 1 + J (plc e))) (hn h (kk.map plD) (refs h.length J kk) (tl ++ [.lst []])) := by
      unfold dsetdM
      rw [d0]
      simp only [k0, l0, and_self, if_true, f0]
    have q1 : (hn h (kk.map plD) (refs h.length J kk) (tl ++ [.lst []]))[h.length + 1 + J (plc e)]? = some (.lst (posD L (plc e))) := by
      rw [hn_1, List.getElem?_append_left hlt]; exact hj
    have a0 := app_r (x := .int (L.length : Nat)) q1 (by omega)
    rw [hn_s1] at a0
    have t1 := tyD_lr q1
    refine ⟨kk, J, (tl ++ [O.lst []]).set (J (plc e)) (O.lst (posD L (plc e) ++ [D.int (L.length : Nat)])), some (.int (L.length : Nat)), some (plD (plc e)), ?_, ?_⟩
    · simp [nbG, nbB, t0, hn_len, hn_app, s0, t1, a0]
    · refine ⟨I.nd, fun a => ?_, fun a ha => ?_, I.inj, by have := I.len; simp; omega⟩
      · rw [nums_snoc, I.mem]
        constructor
        · exact .inl
        · rintro (z | z)
          · exact z
          · exact (I.mem a).mp (z ▸ q)
      · rw [pos_snoc]
        by_cases z : a = plc e
        · subst z
          have : J (plc e) < (tl ++ [O.lst []]).length := by simp; omega
          rw [List.getElem?_set_self this, if_pos rfl]
        · have ne : J (plc e) ≠ J a := fun w => z (I.inj _ q _ ha w).symm
          rw [List.getElem?_set_ne ne, if_neg z]
          have := I.at' a ha
          rw [List.getElem?_append_left (List.getElem?_eq_some_iff.mp this).1]
          exact this
  · have f0 : dfind (kk.map plD) (refs h.length J kk) (plD (plc e)) = none := by
      unfold refs
      rw [find_map, if_neg q]
    have e1 : dputK (kk.map plD) (plD (plc e)) = (kk ++ [plc e]).map plD := by rw [put_map kd_pl.inj, if_neg q]
    have e2 : dputV (kk.map plD) (refs h.length J kk) (plD (plc e)) (.ref (h.length + 1 + tl.length)) = refs h.length (fun a => if a = plc e then tl.length else J a) (kk ++ [plc e]) := by
      unfold refs
      rw [putV_map q, List.map_append]
      congr 1
      · refine List.map_congr_left fun a ha => ?_
        have : ¬ a = plc e := fun z => q (z ▸ ha)
        simp [this]
      · simp
    have s0 : dsetdM (.ref h.length) [plD (plc e), .ref (h.length + 1 + tl.length)] (hn h (kk.map plD) (refs h.length J kk) (tl ++ [.lst []])) = .ok (.ref (h.length + 1 + tl.length)) (hn h ((kk ++ [plc e]).map plD) (refs h.length (fun a => if a = plc e then tl.length else J a) (kk ++ [plc e])) (tl ++ [.lst []])) := by
      unfold dsetdM
      rw [d0]
      simp only [k0, l0, and_self, if_true, f0, e1, e2, hn_s0]
    have q1 : (hn h ((kk ++ [plc e]).map plD) (refs h.length (fun a => if a = plc e then tl.length else J a) (kk ++ [plc e])) (tl ++ [.lst []]))[h.length + 1 + tl.length]? = some (.lst []) := by
      rw [hn_1]; simp
    have a0 := app_r (x := .int (L.length : Nat)) q1 (by simp)
    rw [hn_s1] at a0
    have t1 := tyD_lr q1
    have p0 := pos_nil (fun z => q ((I.mem _).mpr z))
    refine ⟨kk ++ [plc e], fun a => if a = plc e then tl.length else J a, (tl ++ [O.lst []]).set tl.length (O.lst [D.int (L.length : Nat)]), some (.int (L.length : Nat)), some (plD (plc e)), ?_, ?_⟩
    · generalize hk : (kk ++ [plc e]).map plD = K1 at *
      generalize hk2 : refs h.length (fun a => if a = plc e then tl.length else J a) (kk ++ [plc e]) = K2 at *
      simp only [List.nil_append] at a0
      simp [nbG, nbB, t0, hn_len, hn_app, s0, t1, a0]
    · have lt : ∀ a ∈ kk, J a < tl.length := fun a ha => (List.getElem?_eq_some_iff.mp (I.at' a ha)).1
      have ne : ∀ a ∈ kk, ¬ a = plc e := fun a ha z => q (z ▸ ha)
      refine ⟨?_, fun a => ?_, fun a ha => ?_, fun a ha b hb => ?_, by have := I.len; simp; omega⟩
      · rw [List.nodup_append]
        refine ⟨I.nd, by simp, fun a ha b hb z => ?_⟩
        simp at hb
        exact ne a ha (z.trans hb)
      · rw [nums_snoc, List.mem_append, I.mem]; simp
      · rw [pos_snoc]
        by_cases z : a = plc e
        · subst z
          have : tl.length < (tl ++ [O.lst []]).length := by simp
          simp only [if_pos]
          rw [List.getElem?_set_self this, p0]; rfl
        · have ha' : a ∈ kk := by
            rcases List.mem_append.mp ha with w | w
            · exact w
            · simp at w; exact absurd w z
          have := lt a ha'
          have ne : tl.length ≠ J a := by omega
          simp only [if_neg z]
          rw [List.getElem?_set_ne ne, List.getElem?_append_left this]
          exact I.at' a ha'
      · have sp : ∀ a, a ∈ kk ++ [plc e] → a = plc e ∨ (¬ a = plc e ∧ a ∈ kk) := fun a ha => by
          by_cases z : a = plc e
          · exact .inl z
          · rcases List.mem_append.mp ha with w | w
            · exact .inr ⟨z, w⟩
            · simp at w; exact absurd w z
        rcases sp a ha with z1 | ⟨z1, w1⟩ <;> rcases sp b hb with z2 | ⟨z2, w2⟩
        · intro _; rw [z1, z2]
        · simp only [if_pos z1, if_neg z2]; intro z; have := lt b w2; omega
        · simp only [if_neg z1, if_pos z2]; intro z; have := lt a w1; omega
        · simp only [if_neg z1, if_neg z2]; intro z; exact I.inj _ w1 _ w2 z
end K87

/-! M14: folded_by. -/
namespace K87
open PySem PySem.Spec L2 G
open PyProof.Rows hiding St
theorem nb_loop {h : AH} {A : Option D} : ∀ {todo done : Tb} {kk : List (Int × Str)} {J : Int × Str → Nat} {tl : AH} {x y : Option D}, NInv done kk J tl → (done ++ todo).length < 1000000 →
    ∃ kk' J' tl' x' y', loopC [] nbG nbB (todo.mapIdx fun i e => .tup [.int ((i + done.length : Nat)), plD (plc e)]) [A, some (.ref h.length), x, y] (hn h (kk.map plD) (refs h.length J kk) tl) = .nx [A, some (.ref h.length), x', y'] (hn h (kk'.map plD) (refs h.length J' kk') tl') ∧ NInv (done ++ todo) kk' J' tl'
  | [], done, kk, J, tl, x, y, I, hl => ⟨kk, J, tl, x, y, by simp [loopC], by simpa using I⟩
  | e :: todo, done, kk, J, tl, x, y, I, hl => by
    obtain ⟨kk1, J1, tl1, x1, y1, s1, I1⟩ := nb_step (h := h) (A := A) (e := e) (x := x) (y := y) I (by simp at hl; omega)
    obtain ⟨kk2, J2, tl2, x2, y2, s2, I2⟩ := nb_loop (h := h) (A := A) (todo := todo) (done := done ++ [e]) (x := x1) (y := y1) I1 (by simpa using hl)
    refine ⟨kk2, J2, tl2, x2, y2, ?_, by simpa using I2⟩
    rw [List.mapIdx_cons]
    simp only [loopC, Nat.zero_add, s1, st_nx, gd_nil, if_true]
    have e1 : (fun (i : Nat) (e : Int × Row) => D.tup [.int ((i + (done ++ [e]).length : Nat)), plD (plc e)]) = fun i e => D.tup [.int ((i + 1 + done.length : Nat)), plD (plc e)] := by
      funext i e
      have : i + (done ++ [e]).length = i + 1 + done.length := by simp; omega
      rw [this]
    have e2 : (todo.mapIdx fun i e' => D.tup [.int ((i + (done ++ [e]).length : Nat)), plD (plc e')]) = todo.mapIdx fun i e => D.tup [.int ((i + 1 + done.length : Nat)), plD (plc e)] := by
      congr 1
      funext i e'
      have : i + (done ++ [e]).length = i + 1 + done.length := by simp; omega
      rw [this]
    rw [← e2]
    exact s2
theorem trim_any {f : Fn} {ds : List D} {d : D} {h j : AH} (hf : f ds h = .ok d (h ++ j)) : ∃ j', trimF f ds h = .ok d (h ++ j') ∧ (j' = j ∨ (j' = [] ∧ d.lowN h.length = true)) := by
  by_cases q : trimOk h (h ++ j) d
  · refine ⟨[], ?_, .inr ⟨rfl, q.2.1⟩⟩
    unfold trimF
    rw [hf]
    simp [q]
  · refine ⟨j, ?_, .inl rfl⟩
    unfold trimF
    rw [hf]
    simp [q]
theorem refs_low {N M : Nat} {J : Int × Str → Nat} : ∀ {kk : List (Int × Str)}, N ≤ M → D.lows N (refs M J kk) = true → kk = []
  | [], _, _ => rfl
  | a :: kk, hm, h => by
    simp [refs, D.lows, D.lowN] at h
    omega
/-- what numbers_by tells -/
def NOut (L : Tb) (kk : List (Int × Str)) (J : Int × Str → Nat) (j : AH) : Prop := (∀ a, a ∈ kk ↔ nums L a.1 a.2 ≠ []) ∧ kk.length ≤ L.length ∧ ∀ a ∈ kk, j[1 + J a]? = some (.lst (posD L a))
theorem NOut.trim {L : Tb} {kk : List (Int × Str)} {J : Int × Str → Nat} {j j' : AH} {N : Nat} (o : NOut L kk J j) (h : j' = j ∨ (j' = [] ∧ (D.dct (kk.map plD) (refs N J kk)).lowN N = true)) : NOut L kk J j' := by
  rcases h with rfl | ⟨_, h⟩
  · exact o
  · simp only [D.lowN, Bool.and_eq_true] at h
    have : kk = [] := refs_low (Nat.le_refl _) h.2
    subst this
    exact ⟨o.1, o.2.1, fun a ha => by simp at ha⟩
theorem e_numbers {L : Tb} {h : AH} (hl : L.length < 1000000) : ∃ kk J j, φ_numbers_by [.lst (L.map fun e => plD (plc e))] h = .ok (.dct (kk.map plD) (refs h.length J kk)) (h ++ j) ∧ NOut L kk J j := by
  have I0 : NInv [] [] (fun _ => 0) [] := ⟨by simp, fun a => by simp [nums], fun a ha => by simp at ha, fun a ha => by simp at ha, by simp⟩
  obtain ⟨kk, J, tl, x, y, s1, I⟩ := nb_loop (h := h) (A := some (.lst (L.map fun e => plD (plc e)))) (todo := L) (x := none) (y := none) I0 (by simpa using hl)
  have e1 : enumD (L.map fun e => plD (plc e)) = L.mapIdx fun i e => .tup [.int ((i + ([] : Tb).length : Nat)), plD (plc e)] := by
    unfold enumD
    rw [List.mapIdx_eq_zipIdx_map, List.mapIdx_eq_zipIdx_map, List.zipIdx_map, List.map_map]
    rfl
  have f0 : runF 4 b_numbers_by [.lst (L.map fun e => plD (plc e))] h = .ok (.dct (kk.map plD) (refs h.length J kk)) (h ++ (.dead :: tl)) := by
    have h0 : h ++ [.dct [] []] = hn h (([] : List (Int × Str)).map plD) (refs h.length (fun _ => 0) []) [] := rfl
    have d1 : fzD (.ref h.length) (hn h (kk.map plD) (refs h.length J kk) tl) = (.dct (kk.map plD) (refs h.length J kk), h ++ (.dead :: tl)) := by
      have : (hn h (kk.map plD) (refs h.length J kk) tl).set h.length .dead = h ++ (.dead :: tl) := pre_set (i := 0)
      simp only [fzD, hn_0, this]
    unfold nbG nbB at s1
    simp only [b_numbers_by, runF_ap, seqC_ap, asgC_ap, dct0_t, rs_ok, nameG_ap, sb_nx, forC_ap, enumS_ap, consA_ap, varC_ap, nilA_ap, List.map_cons, List.map_nil, List.length_cons, List.length_nil, List.cons_append, List.nil_append, List.set_cons_succ, List.set_cons_zero, List.getElem?_cons_zero, List.getElem?_cons_succ, rb_ok, seqOf_lst, e1, h0]
    have : (List.replicate (4 - (0 + 1)) (none : Option D)) = [none, none, none] := rfl
    rw [this]
    simp only [List.set_cons_zero]
    simp only [List.map_nil, List.length_nil] at s1
    rw [s1]
    simp [d1]
  unfold φ_numbers_by
  simp only [argF_ap, List.length_cons, List.length_nil, if_pos]
  obtain ⟨j', t1, t2⟩ := trim_any f0
  have O : NOut L kk J (.dead :: tl) := ⟨fun a => I.mem a, I.len, fun a ha => by rw [Nat.add_comm]; exact I.at' a ha⟩
  exact ⟨kk, J, j', by simpa using t1, O.trim t2⟩
theorem e_rows_at {L : Tb} {h : AH} {dk dn : D} (hl : L.length < 1000000) (s1 : SeqI dk [.str "a"]) (s2 : SeqI dn [.str "b"]) :
    ∃ kk J j, φ_rows_at [tableR (L.map fun e => r4 e.2), dk, dn] h = .ok (.dct (kk.map plD) (refs h.length J kk)) (h ++ j) ∧ NOut L kk J j := by
  obtain ⟨kk, J, j, e1, O⟩ := e_numbers (h := h) hl
  have z1 : listZipF false [.lst (L.map fun e => .tup [.int e.2.p]), .lst (L.map fun e => .tup [.str e.2.s])] h = .ok (.lst (L.map fun e => plD (plc e))) h := by
    simp only [listZipF, seqOf_lst, isT, and_self, if_true, newL_f, itemsOf_map]
    rfl
  have f0 : runF 3 b_rows_at [tableR (L.map fun e => r4 e.2), dk, dn] h = .ok (.dct (kk.map plD) (refs h.length J kk)) (h ++ j) := by
    simp [b_rows_at, e_parts1 s1, e_parts2 s2, z1, e1]
  unfold φ_rows_at
  simp only [argF_ap, List.length_cons, List.length_nil, if_pos]
  obtain ⟨j', t1, t2⟩ := trim_any f0
  exact ⟨kk, J, j', by simpa using t1, O.trim t2⟩
theorem zip_own {L : Tb} {a : Int × Str} : ((L.zipIdx.filter fun x => hit a.1 a.2 x.1).map fun x => D.int x.1.2.v) = (own L a.1 a.2).map D.int := by
  have e1 : L.filter (hit a.1 a.2) = (L.zipIdx.filter fun x => hit a.1 a.2 x.1).map (·.1) := by
    have := List.filter_map (f := (·.1 : (Int × Row) × Nat → Int × Row)) (p := hit a.1 a.2) (l := L.zipIdx)
    rw [List.zipIdx_map_fst] at this
    exact this
  unfold own
  rw [e1, List.map_map, List.map_map]
  rfl
theorem e_fcell {L : Tb} {a : Int × Str} {h : AH} {m : Nat} (hm : h[m]? = some (.lst (posD L a))) (hn : own L a.1 a.2 ≠ []) :
    φ_cell_of [.lst (L.map fun e => .tup [.int e.2.v, .int e.2.v]), .ref m, .tup [w_sum, w_count]] h = .ok (cellD (own L a.1 a.2)) h := by
  unfold φ_cell_of
  simp only [argF_ap, List.length_cons, List.length_nil, if_pos]
  refine trim_id ?_
  have c1 : ∀ (pl : Int) (w : D), (pl = 0 ∨ pl = 1) → mapC [(m, posD L a)] (.n 5) yesT (op2 itemD (op2 itemD (varC 0) (varC 5)) (varC 3)) [some (.lst (L.map fun e => .tup [.int e.2.v, .int e.2.v])), some (.ref m), some (.tup [w_sum, w_count]), some (.int pl), some w, none] (posD L a) h = .ok ((own L a.1 a.2).map D.int) h := fun pl w hpl => by
    rw [← zip_own]
    refine mapC_all (gs := [(m, posD L a)]) (t := .n 5) (xs := L.zipIdx.filter fun x => hit a.1 a.2 x.1) (f := fun x : (Int × Row) × Nat => D.int (x.2 : Nat)) (k := fun x => D.int x.1.2.v) (gd_one.mpr hm) fun x hx => ⟨_, rfl, ?_⟩
    have hx' := (List.mem_filter.mp hx).1
    have : L[x.2]? = some x.1 := List.mk_mem_zipIdx_iff_getElem?.mp hx'
    rcases hpl with rfl | rfl <;> simp [atI_nat, this]
  have c2 := c1 0 w_sum (.inl rfl)
  have c3 := c1 1 w_count (.inr rfl)
  have s1 := seqOf_ref hm
  simp [b_cell_of, enumD, mapC, Tg.put, setAll, s1, c2, c3, e_put_sum, e_put_count, cellD, hn]
end K87

/-! M15: the table folded. -/
namespace K87
open PySem PySem.Spec L2 G
open PyProof.Rows hiding St
section
variable {rows : List D} {h : AH} {dk dn dv dw : D}
theorem SeqI.ls {d : D} {xs : List D} (s : SeqI d xs) : listDF false [d] h = .ok (.lst xs) h := by rcases s with rfl | rfl <;> rfl
theorem SeqI.tu {d : D} {xs : List D} (s : SeqI d xs) : tupleF [d] h = .ok (.tup xs) h := by rcases s with rfl | rfl <;> rfl
theorem SeqI.le {d : D} {xs : List D} (s : SeqI d xs) : lenDF [d] h = .ok (.int xs.length) h := by rcases s with rfl | rfl <;> rfl
theorem any_f {n : Nat} : anyF [.lst (List.replicate n (.bl false))] h = .ok (.bl false) h := by
  have := any_l (bs := List.replicate n false) (h := h)
  simpa using this
theorem e_parted (s1 : SeqI dk [.str "a"]) (s2 : SeqI dn [.str "b"]) (s3 : SeqI dv [.str "c", .str "d"]) : φ_look_parted [tableR rows, dk, dn, dv] h = .ok .non h := by
  unfold φ_look_parted
  simp only [argF_ap, List.length_cons, List.length_nil, if_pos]
  refine trim_id ?_
  have e1 := c_inl (h := h)
  simp only [inD_lst] at e1
  have e0 : [D.str "a", .str "b", .str "c", .str "d"] = colD := rfl
  have x1 : eqX false (.int 2) (.int 0) h = .ok (.bl false) h := by simp [eqX, eqD]
  have x2 : eqX true (.int 4) (.int 4) h = .ok (.bl false) h := by simp [eqX, neD]
  have l4 : colD.length = 4 := rfl
  have m1 : mapC [] (.n 5) yesT (op2 (containsD true) (varC 5) (varC 4)) [some (tableR rows), some dk, some dn, some dv, some (.lst colD), none] colD h = .ok (List.replicate 4 (.bl false)) h := by
    rw [← e0]
    simp only [← e0] at e1
    simp [mapC, Tg.put, e1]
  have a1 := any_f (n := 4) (h := h)
  simp [b_look_parted, s1.ls, s2.ls, s3.ls, s3.le, e0, x1, x2, l4, tableR]
  simp [tableR] at m1
  simp [m1]
  simp at a1
  simp [a1]
theorem e_order : φ_look_order [.str "seen"] h = .ok .non h := by
  have e1 : containsD true (.str "seen") (.tup [v_SEEN, v_RISING]) h = .ok (.bl false) h := by rfl
  simp only [inD_tup] at e1
  unfold φ_look_order
  simp only [argF_ap, List.length_cons, List.length_nil, if_pos]
  refine trim_id ?_
  simp [b_look_order, e1]
theorem e_ways (s3 : SeqI dv [.str "c", .str "d"]) (s4 : SeqI dw [w_sum, w_count]) : φ_look_ways [dv, dw] h = .ok .non h := by
  have x2 : eqX true (.int 2) (.int 2) h = .ok (.bl false) h := by simp [eqX, neD]
  have e1 : containsD true w_sum v_WAYS h = .ok (.bl false) h := by rfl
  have e2 : containsD true w_count v_WAYS h = .ok (.bl false) h := by rfl
  have a1 := any_f (n := 2) (h := h)
  simp at a1
  unfold φ_look_ways
  simp only [argF_ap, List.length_cons, List.length_nil, if_pos]
  refine trim_id ?_
  simp [b_look_ways, s3.le, s4.le, s4.q, x2, mapC, Tg.put, e1, e2, a1]
theorem key1 {a : Int} : G.keyOf (.tup [.int a]) = some (.tup [.num a]) := by simp [G.keyOf, kf_tup]
theorem key2 {a : Str} : G.keyOf (.tup [.str a]) = some (.tup [.text a]) := by simp [G.keyOf, kf_tup]
def pD (p : Int) : D := .tup [.int p]
def hD (s : Str) : D := .tup [.str s]
theorem e_un1 {ps : List Int} : φ_unlike_ones [.lst (ps.map pD)] h = .ok (.lst ((ddF [] ps).map pD)) h :=
  e_unlike (fun a b e => by simp [pD, key1] at e; exact e) (fun a => ⟨rfl, by simp [pD, key1]⟩)
theorem e_un2 {ss : List Str} : φ_unlike_ones [.lst (ss.map hD)] h = .ok (.lst ((ddF [] ss).map hD)) h :=
  e_unlike (fun a b e => by simp [hD, key2] at e; exact e) (fun a => ⟨rfl, by simp [hD, key2]⟩)
theorem e_heads {ss : List Str} : φ_heads_by [.lst (ss.map hD), .str "seen"] h = .ok (.lst ((ddF [] ss).map hD)) h := by
  have e1 : eqX false (.str "seen") v_RISING h = .ok (.bl false) h := by rfl
  unfold φ_heads_by
  simp only [argF_ap, List.length_cons, List.length_nil, if_pos]
  refine trim_id ?_
  simp [b_heads_by, e_un2, e1]
def wRow (L : Tb) (hs : List Str) (p : Int) : D := .tup [pD p, .tup (hs.map fun s => cellD (own L p s))]
def wideD (L : Tb) (ps : List Int) (hs : List Str) : D := .tup [.tup [.str "a"], .tup [.str "b"], .tup [.str "c", .str "d"], .tup (hs.map hD), .tup (ps.map (wRow L hs))]
theorem e_wide {L : Tb} {ps : List Int} {hs : List Str} {m n : Nat} {ck cv : List D} (s1 : SeqI dk [.str "a"]) (s2 : SeqI dn [.str "b"]) (s3 : SeqI dv [.str "c", .str "d"]) (hm : h[m]? = some (.dct ck cv)) (o : DK plD n ck cv (cellF L)) :
    φ_wide_of [.tup [dk, dn, dv], .lst (ps.map pD), .lst (hs.map hD), .ref m] h = .ok (wideD L ps hs) h := by
  unfold φ_wide_of
  simp only [argF_ap, List.length_cons, List.length_nil, if_pos]
  refine trim_id ?_
  have t1 := tyD_dr hm
  have c1 : ∀ p, mapC [] (.n 6) yesT (mthC "dict" dgetM (varC 3) (consA (tupC (consA (varC 5) (consA (varC 6) nilA))) nilA)) [some (.tup [dk, dn, dv]), some (.lst (ps.map pD)), some (.lst (hs.map hD)), some (.ref m), none, some (pD p), none] (hs.map hD) h = .ok (hs.map fun s => cellD (own L p s)) h := fun p => by
    refine mapC_all (k := fun s => cellD (own L p s)) gd_nil fun s _ => ⟨_, rfl, ?_⟩
    have g := dk_get kd_pl o (a := (p, s)) (x := .non) hm
    have g2 : dgetM (.ref m) [.tup [pD p, hD s]] h = .ok (cellD (own L p s)) h := by
      have hk : dgetM (.ref m) [.tup [pD p, hD s]] h = dgetM (.ref m) [plD (p, s), .non] h := by
        simp only [dgetM, dctAt_ref hm]
        rfl
      rw [hk, g]
      unfold cellF
      by_cases q : own L p s = []
      · simp [q]
      · simp [q]
    simp [t1, g2]
  have c2 := mapC_all (gs := []) (t := .n 5) (el := tupC (consA (varC 5) (consA (apC tupleF (consA (compC false (seqS (varC 2)) [6] (.n 6) yesT (mthC "dict" dgetM (varC 3) (consA (tupC (consA (varC 5) (consA (varC 6) nilA))) nilA))) nilA)) nilA)))
    (S := [some (.tup [dk, dn, dv]), some (.lst (ps.map pD)), some (.lst (hs.map hD)), some (.ref m), none, none, none]) (h := h) (xs := ps) (f := pD) (k := wRow L hs) gd_nil fun p _ => ⟨_, rfl, by
      have := c1 p
      simp only [List.set_cons_succ, List.set_cons_zero, tupC_ap, consA_ap, varC_ap, apC_ap, compC_ap, seqS_ap, nilA_ap, List.getElem?_cons_succ, List.getElem?_cons_zero, rb_ok, seqOf_lst, wipe_cons, wipe_nil, this, newL_f, tup_l, List.length_cons, List.length_nil]
      simp [wRow]⟩
  simp only [b_wide_of, runF_ap, seqC_ap, asgC_ap, compC_ap, seqS_ap, varC_ap, List.map_cons, List.map_nil, List.cons_append, List.nil_append, List.length_cons, List.length_nil, List.getElem?_cons_succ, List.getElem?_cons_zero, rb_ok, seqOf_lst, wipe_cons, wipe_nil]
  have r3 : (List.replicate (7 - (0 + 1 + 1 + 1 + 1)) (none : Option D)) = [none, none, none] := rfl
  rw [r3]
  simp only [List.set_cons_succ, List.set_cons_zero, c2, rb_ok, newL_f, rs_ok, nameG_ap, sb_nx]
  simp [s1.tu, s2.tu, s3.tu, wideD]
end
end K87

/-! M16: folded_by, wide_now, rows_now, rows_of. -/
namespace K87
open PySem PySem.Spec L2 G
open PyProof.Rows hiding St
def cF (L : Tb) (dn : List (Int × Str)) (a : Int × Str) : Option D := if a ∈ dn then some (cellD (own L a.1 a.2)) else none
def fbG : CG := tupG 2 (consG (nameG 8) (consG (nameG 9) nilG))
noncomputable def fbB : CS := asgC (callC φ_cell_of (consA (varC 6) (consA (varC 9) (consA (varC 4) nilA)))) (subG (varC 7) (varC 8))
section
variable {h : AH} {dk dn dv dw : D}
theorem fb_loop {L : Tb} {J : Int × Str → Nat} {j : AH} {A B C D' F : D} {kk : List (Int × Str)} (hm : ∀ a ∈ kk, nums L a.1 a.2 ≠ [] ∧ j[1 + J a]? = some (.lst (posD L a))) : ∀ {todo dn : List (Int × Str)} {ck cv : List D} {x y : Option D}, (∀ a ∈ todo, a ∈ kk) → (dn ++ todo).length < 1000000 → DK plD dn.length ck cv (cF L dn) →
    ∃ ck' cv' x' y', loopC [] fbG fbB (todo.map fun a => .tup [plD a, .ref (h.length + 1 + (1 + J a))]) [some A, some B, some C, some D', some (.tup [w_sum, w_count]), some F, some (.lst (L.map fun e => .tup [.int e.2.v, .int e.2.v])), some (.ref h.length), x, y, none, none] (hn h ck cv j) =
      .nx [some A, some B, some C, some D', some (.tup [w_sum, w_count]), some F, some (.lst (L.map fun e => .tup [.int e.2.v, .int e.2.v])), some (.ref h.length), x', y', none, none] (hn h ck' cv' j) ∧ DK plD (dn ++ todo).length ck' cv' (cF L (dn ++ todo))
  | [], dn, ck, cv, x, y, _, _, o => ⟨ck, cv, x, y, by simp [loopC], by simpa using o⟩
  | a :: todo, dn, ck, cv, x, y, ht, hl, o => by
    obtain ⟨h1, h2⟩ := hm a (ht a (by simp))
    have c1 := e_fcell (L := L) (a := a) (h := hn h ck cv j) (m := h.length + 1 + (1 + J a)) (by rw [hn_1]; exact h2) (fun z => h1 (own_nil.mp z))
    have s1 := dk_store kd_pl o (h := hn h ck cv j) (m := h.length) (a := a) (x := cellD (own L a.1 a.2)) hn_0 (by simp at hl; omega)
    rw [hn_s0] at s1
    have o1 : DK plD (dn ++ [a]).length (dputK ck (plD a)) (dputV ck cv (plD a) (cellD (own L a.1 a.2))) (cF L (dn ++ [a])) := by
      rw [List.length_append]
      refine (o.put kd_pl).of ?_
      funext b
      by_cases q : b = a
      · subst q; simp [cF]
      · rw [upd1_other q]; simp [cF, q]
    obtain ⟨ck', cv', x', y', e1, e2⟩ := fb_loop hm (todo := todo) (dn := dn ++ [a]) (x := some (plD a)) (y := some (.ref (h.length + 1 + (1 + J a)))) (fun b hb => ht b (by simp [hb])) (by simpa using hl) o1
    refine ⟨ck', cv', x', y', ?_, by simpa using e2⟩
    rw [← e1]
    simp [loopC, fbG, fbB, c1, s1]
theorem low_cell {vs : List Int} {N : Nat} : (cellD vs).lowN N = true := by
  unfold cellD
  split <;> simp [D.lowN, D.lows]
theorem lows_map {α : Type} {f : α → D} {N : Nat} : ∀ {xs : List α}, (∀ x ∈ xs, (f x).lowN N = true) → D.lows N (xs.map f) = true
  | [], _ => rfl
  | x :: xs, h => by simp [D.lows, h x, lows_map fun y hy => h y (List.mem_cons_of_mem _ hy)]
theorem low_wide {L : Tb} {ps : List Int} {hs : List Str} {N : Nat} : (wideD L ps hs).lowN N = true := by
  have h1 : D.lows N (hs.map hD) = true := lows_map fun x _ => by simp [hD, D.lowN, D.lows]
  have h2 : D.lows N (ps.map (wRow L hs)) = true := lows_map fun x _ => by
    have := lows_map (N := N) (xs := hs) (f := fun s => cellD (own L x s)) fun s _ => low_cell
    simp [wRow, pD, D.lowN, D.lows, this]
  simp [wideD, D.lowN, D.lows, h1, h2]
theorem e_folded {L : Tb} (hl : L.length < 900000) (s1 : SeqI dk [.str "a"]) (s2 : SeqI dn [.str "b"]) (s3 : SeqI dv [.str "c", .str "d"]) (s4 : dw = .tup [w_sum, w_count] ∨ (L = [] ∧ dw = .lst [w_sum, w_count])) :
    φ_folded_by [tableR (L.map fun e => r4 e.2), dk, dn, dv, dw, .str "seen"] h = .ok (wideD L (ddF [] (L.map (·.2.p))) (ddF [] (L.map (·.2.s)))) h := by
  unfold φ_folded_by
  simp only [argF_ap, List.length_cons, List.length_nil, if_pos]
  have s4' : SeqI dw [w_sum, w_count] := by
    rcases s4 with rfl | ⟨_, rfl⟩
    · exact .inr rfl
    · exact .inl rfl
  obtain ⟨kk, J, j, r1, O⟩ := e_rows_at (L := L) (h := hn h [] [] []) (dk := dk) (dn := dn) (by omega) s1 s2
  have rr : itemsOf (kk.map plD) (refs (hn h [] [] []).length J kk) = kk.map fun a => .tup [plD a, .ref (h.length + 1 + (1 + J a))] := by
    unfold refs
    rw [itemsOf_map]
    refine List.map_congr_left fun a _ => ?_
    have : (hn h [] [] []).length + 1 + J a = h.length + 1 + (1 + J a) := by rw [hn_len]; simp; omega
    rw [this]
  have hm : ∀ a ∈ kk, nums L a.1 a.2 ≠ [] ∧ j[1 + J a]? = some (.lst (posD L a)) := fun a ha => ⟨(O.1 a).mp ha, O.2.2 a ha⟩
  have lp : ∃ ck cv x y, loopC [] fbG fbB (kk.map fun a => .tup [plD a, .ref (h.length + 1 + (1 + J a))]) [some (tableR (L.map fun e => r4 e.2)), some dk, some dn, some dv, some dw, some (.str "seen"), some (.lst (L.map fun e => .tup [.int e.2.v, .int e.2.v])), some (.ref h.length), none, none, none, none] (hn h [] [] j) =
      .nx [some (tableR (L.map fun e => r4 e.2)), some dk, some dn, some dv, some dw, some (.str "seen"), some (.lst (L.map fun e => .tup [.int e.2.v, .int e.2.v])), some (.ref h.length), x, y, none, none] (hn h ck cv j) ∧ DK plD kk.length ck cv (cF L kk) := by
    rcases s4 with rfl | ⟨rfl, rfl⟩
    · have := fb_loop (h := h) (L := L) (A := tableR (L.map fun e => r4 e.2)) (B := dk) (C := dn) (D' := dv) (F := .str "seen") hm (todo := kk) (dn := []) (x := none) (y := none) (fun a ha => ha) (by have := O.2.1; simp; omega) (ck := []) (cv := []) (DK.of .nil (by funext a; simp [cF]))
      simpa using this
    · have : kk = [] := by
        have := O.2.1
        exact List.length_eq_zero_iff.mp (by simpa using this)
      subst this
      exact ⟨[], [], none, none, by simp [loopC], DK.of .nil (by funext a; simp [cF])⟩
  obtain ⟨ck, cv, x, y, l1, oc⟩ := lp
  have oc' : DK plD kk.length ck cv (cellF L) := oc.of (by
    funext a
    unfold cF cellF
    by_cases q : own L a.1 a.2 = []
    · rw [if_pos q, if_neg fun z => (O.1 a).mp z (own_nil.mp q)]
    · rw [if_neg q, if_pos ((O.1 a).mpr fun z => q (own_nil.mpr z))])
  have w1 := e_wide (L := L) (h := hn h ck cv j) (ps := ddF [] (L.map (·.2.p))) (hs := ddF [] (L.map (·.2.s))) (m := h.length) s1 s2 s3 hn_0 oc'
  refine trim_pure (j := .dct ck cv :: j) ?_ low_wide
  have h0 : h ++ [.dct [] []] = hn h [] [] [] := rfl
  have h1 : hn h [] [] [] ++ j = hn h [] [] j := by simp [hn]
  have p1 : ∀ h : AH, φ_parts_of [tableR (L.map fun e => r4 e.2), dk] h = .ok (.lst ((L.map (·.2.p)).map pD)) h := fun h => by
    rw [e_parts1 s1, List.map_map]; rfl
  have p2 : ∀ h : AH, φ_parts_of [tableR (L.map fun e => r4 e.2), dn] h = .ok (.lst ((L.map (·.2.s)).map hD)) h := fun h => by
    rw [e_parts2 s2, List.map_map]; rfl
  have w1' : φ_wide_of [.tup [dk, dn, dv], .lst ((ddF [] (L.map (·.2.p))).map pD), .lst ((ddF [] (L.map (·.2.s))).map hD), .ref h.length] (hn h ck cv j) = .ok (wideD L (ddF [] (L.map (·.2.p))) (ddF [] (L.map (·.2.s)))) (h ++ (.dct ck cv :: j)) := w1
  generalize hT : tableR (L.map fun e => r4 e.2) = T at *
  generalize hP : L.map (·.2.p) = P at *
  generalize hS : L.map (·.2.s) = S at *
  generalize hV : (L.map fun e => D.tup [.int e.2.v, .int e.2.v]) = V at *
  have a1 : ∀ h : AH, φ_look_parted [T, dk, dn, dv] h = .ok .non h := fun h => hT ▸ e_parted s1 s2 s3
  have a3 : ∀ h : AH, φ_parts_of [T, dv] h = .ok (.lst V) h := fun h => hT ▸ hV ▸ e_parts3 s3
  unfold fbG fbB at l1
  simp [b_folded_by, a1, e_order, e_ways s3 s4', a3, h0, r1, h1, rr, l1, p1, p2, e_un1, e_heads, w1']
end
end K87

/-! M17: rows_now, rows_of, wide_now; the law's look at the Keeper. -/
namespace K87
open PySem PySem.Spec L2 G
open PyProof.Rows hiding St
section
variable {pre : AH} {E : Ev} {k : KS} {n : Nat} {L : Tb} {c : Int}
theorem ints_list : ∀ {ks : List D}, (∀ x ∈ ks, ∃ i : Int, x = .int i) → ∃ ns : List Int, ks = ns.map D.int
  | [], _ => ⟨[], rfl⟩
  | x :: ks, h => by
    obtain ⟨i, rfl⟩ := h x (by simp)
    obtain ⟨ns, rfl⟩ := ints_list fun y hy => h y (List.mem_cons_of_mem _ hy)
    exact ⟨i :: ns, rfl⟩
theorem sort_rows {h : AH} {m : Nat} {rk rv : List D} (as : Asc L) (o : DK D.int n rk rv (rowF L)) (hm : h[m]? = some (.dct rk rv)) : sortDF false [.ref m] h = .ok (.lst ((L.map (·.1)).map D.int)) h := by
  obtain ⟨ns, rfl⟩ := ints_list o.d.all
  simp only [sortDF, dctAt_ref hm, sort_ints, newL_f]
  have nd : ns.Nodup := by
    have := o.d.nd
    rw [List.map_map] at this
    exact (List.pairwise_map.mp this).imp fun {a b} z w => z (by simp [w])
  rw [leI_mem nd as fun i => ?_]
  have h1 := o.mem kd_int (a := i)
  have h2 : D.int i ∈ ns.map D.int ↔ i ∈ ns := by simp
  rw [← h2, h1]
  unfold rowF
  constructor
  · rintro ⟨v, hv⟩
    cases q : row L i with
    | none => rw [q] at hv; cases hv
    | some r => exact List.mem_map.mpr ⟨(i, r), (row_iff as).mp q, rfl⟩
  · intro hv
    obtain ⟨e, he, rfl⟩ := List.mem_map.mp hv
    exact ⟨r4 e.2, by rw [(row_iff as).mpr (show (e.1, e.2) ∈ L from he)]; rfl⟩
theorem row_at (as : Asc L) {e : Int × Row} (he : e ∈ L) : rowF L e.1 = some (r4 e.2) := by
  unfold rowF
  rw [(row_iff as).mpr (show (e.1, e.2) ∈ L from he)]; rfl
theorem e_rows_now (R : Rep pre.length k n L c) : φ_Keeper_rows_now [.ref (pre.length + 1)] (hp pre E k) = .ok (.lst (L.map fun e => .tup [.int e.1, r4 e.2])) (hp pre E k) := by
  have s1 := sort_rows (h := hp pre E k) (m := pre.length + 2) R.asc R.rows hp_2
  rw [List.map_map] at s1
  have m1 := mapC_all (gs := []) (t := .n 1) (el := tupC (consA (varC 1) (consA (op2 itemD (fldC "Keeper" "rows" (varC 0)) (varC 1)) nilA))) (S := [some (.ref (pre.length + 1)), none]) (h := hp pre E k) (xs := L) (f := D.int ∘ fun e => e.1) (k := fun e => .tup [.int e.1, r4 e.2]) gd_nil fun e he => ⟨_, rfl, by
    have := dk_item kd_int R.rows (h := hp pre E k) (m := pre.length + 2) hp_2 (row_at R.asc he)
    simp [this]⟩
  unfold φ_Keeper_rows_now
  simp only [argF_ap, List.length_cons, List.length_nil, if_pos]
  simp only [b_Keeper_rows_now, retC_ap, compC_ap, seqS_ap, apC_ap, consA_ap, fldC_ap, varC_ap, nilA_ap, runF_ap, trimF]
  have f0 : runF 2 b_Keeper_rows_now [.ref (pre.length + 1)] (hp pre E k) = .ok (.lst (L.map fun e => .tup [.int e.1, r4 e.2])) (hp pre E k) := by
    simp only [b_Keeper_rows_now, runF_ap, retC_ap, compC_ap, seqS_ap, apC_ap, consA_ap, fldC_ap, varC_ap, nilA_ap, List.map_cons, List.map_nil, List.cons_append, List.nil_append, List.getElem?_cons_zero, rb_ok, fd_rows, s1, seqOf_lst, wipe_cons, wipe_nil, List.length_cons, List.length_nil]
    have r3 : (List.replicate (2 - (0 + 1)) (none : Option D)) = [none] := rfl
    rw [r3]
    simp only [List.set_cons_succ, List.set_cons_zero, m1, rb_ok, newL_f, rs_ok]
  first | exact trim_id f0 | exact f0
theorem e_rows_of (R : Rep pre.length k n L c) {p : Int} {s : Str} : φ_Keeper_rows_of [.ref (pre.length + 1), .tup [.int p], .tup [.str s]] (hp pre E k) = .ok (.tup ((nums L p s).map D.int)) (hp pre E k) := by
  obtain ⟨J, hP, hT, _⟩ := R.bp
  have g := dk_get kd_pl hP (h := hp pre E k) (m := pre.length + 3) (a := (p, s)) (x := .lst []) hp_3
  have f0 : runF 3 b_Keeper_rows_of [.ref (pre.length + 1), .tup [.int p], .tup [.str s]] (hp pre E k) = .ok (.tup ((nums L p s).map D.int)) (hp pre E k) := by
    unfold plD at g
    by_cases q : nums L p s = []
    · simp [bpF, q] at g
      simp [b_Keeper_rows_of, g, q]
    · have t1 := tup_r (h := hp pre E k) (n := pre.length + 8 + J (p, s)) (by rw [hp_8]; exact hT (p, s) q)
      simp [bpF, q] at g
      simp [b_Keeper_rows_of, g, t1]
  unfold φ_Keeper_rows_of
  simp only [argF_ap, List.length_cons, List.length_nil, if_pos]
  first | exact trim_id f0 | exact f0
def wideL (L : Tb) : D := wideD L (ddF [] (L.map (·.2.p))) (ddF [] (L.map (·.2.s)))
theorem e_wide_now (R : Rep pre.length k n L c) : φ_Keeper_wide_now [.ref (pre.length + 1)] (hp pre E k) = .ok (wideL L) (hp pre E k) := by
  have s1 := sort_rows (h := hp pre E k) (m := pre.length + 2) R.asc R.rows hp_2
  rw [List.map_map] at s1
  have fo := e_folded (L := L) (h := hp pre E k) (dk := .tup [.str "a"]) (dn := .tup [.str "b"]) (dv := .tup [.str "c", .str "d"]) (dw := .tup [w_sum, w_count]) (by have := R.len; omega) (.inr rfl) (.inr rfl) (.inr rfl) (.inl rfl)
  have m1 := mapC_all (gs := []) (t := .n 7) (el := op2 itemD (fldC "Keeper" "rows" (varC 0)) (varC 7)) (S := [some (.ref (pre.length + 1)), some (.tup [.str "a"]), some (.tup [.str "b"]), some (.tup [.str "c", .str "d"]), some (.tup [w_sum, w_count]), some (.str "seen"), none, none]) (h := hp pre E k) (xs := L) (f := D.int ∘ fun e => e.1) (k := fun e => r4 e.2) gd_nil fun e he => ⟨_, rfl, by
    have := dk_item kd_int R.rows (h := hp pre E k) (m := pre.length + 2) hp_2 (row_at R.asc he)
    simp [this]⟩
  have f0 : runF 8 b_Keeper_wide_now [.ref (pre.length + 1)] (hp pre E k) = .ok (wideL L) (hp pre E k) := by
    simp only [tableR] at fo
    generalize hx : (L.map fun e => r4 e.2) = X at *
    generalize hy : L.map (D.int ∘ fun e => e.1) = Y at *
    simp [b_Keeper_wide_now, toldD, s1, m1, tableD, fo, wideL]
  unfold φ_Keeper_wide_now
  simp only [argF_ap, List.length_cons, List.length_nil, if_pos]
  first | exact trim_id f0 | exact f0
end
end K87

/-! M18: the law's look at the Keeper. -/
namespace K87
open PySem PySem.Spec L2 G
open PyProof.Rows hiding St
theorem in_map {α : Type} [DecidableEq α] {f : α → D} {g : α → PyData} {h : AH} {x : α} {xs : List α} (hf : ∀ a n, dataOf h (n + 1) (f a) = some (g a)) (hg : ∀ a b, PyData.eqv (g a) (g b) = decide (a = b)) : inD true (f x) (.lst (xs.map f)) h = .ok (.bl (!decide (x ∈ xs))) h := by
  have e1 : (xs.map f).mapM (dataOf h 59) = some (xs.map g) := mapM_some fun a _ => hf a 58
  have e2 : ((xs.map g).any fun z => PyData.eqv z (g x)) = decide (x ∈ xs) := by
    rw [List.any_map]
    rw [Bool.eq_iff_iff]
    simp [hg]
  simp only [inD, hf, dO_lst, e1, Option.map_some, e2]
  rfl
theorem rep01 {x : D} {b : Bool} {h : AH} : mulD false (.lst [x]) (.int (if b = true then 1 else 0)) h = .ok (.lst (if b then [x] else [])) h := by
  cases b <;> simp [repL]
def stG : CG := tupG 2 (consG (nameG 4) (consG (nameG 5) nilG))
noncomputable def stB : CS := seqC (asgC (op2 (addD false) (varC 2) (op2 (mulD false) (lstC false (consA (op2 itemD (varC 5) (cstC (.int 0))) nilA)) (apC intF (consA (op2 (containsD true) (op2 itemD (varC 5) (cstC (.int 0))) (varC 2)) nilA)))) (nameG 2))
  (asgC (op2 (addD false) (varC 3) (op2 (mulD false) (lstC false (consA (op2 itemD (varC 5) (cstC (.int 1))) nilA)) (apC intF (consA (op2 (containsD true) (op2 itemD (varC 5) (cstC (.int 1))) (varC 3)) nilA)))) (nameG 3))
theorem st_loop {h : AH} {A B : Option D} : ∀ {L : Tb} {ps : List Int} {hs : List Str} {x y : Option D}, ps.length + L.length < 1000000 → hs.length + L.length < 1000000 →
    ∃ x' y', loopC [] stG stB (L.map fun e => .tup [.int e.1, r3 e.2]) [A, B, some (.lst (ps.map D.int)), some (.lst (hs.map D.str)), x, y, none, none, none, none] h =
      .nx [A, B, some (.lst ((ddF ps (L.map (·.2.p))).map D.int)), some (.lst ((ddF hs (L.map (·.2.s))).map D.str)), x', y', none, none, none, none] h
  | [], ps, hs, x, y, _, _ => ⟨x, y, rfl⟩
  | e :: L, ps, hs, x, y, h1, h2 => by
    have i0 : itemD (r3 e.2) (.int 0) h = .ok (.int e.2.p) h := by simp [r3]
    have i1 : itemD (r3 e.2) (.int 1) h = .ok (.str e.2.s) h := by simp [r3]
    have n0 : inD true (.int e.2.p) (.lst (ps.map D.int)) h = .ok (.bl (!decide (e.2.p ∈ ps))) h := in_map (g := PyData.int) (fun a n => dO_int) fun a b => by simp [Bool.beq_eq_decide_eq]
    have n1 : inD true (.str e.2.s) (.lst (hs.map D.str)) h = .ok (.bl (!decide (e.2.s ∈ hs))) h := in_map (g := PyData.str) (fun a n => dO_str) fun a b => by simp [Bool.beq_eq_decide_eq]
    have a0 : addD false (.lst (ps.map D.int)) (.lst (if (!decide (e.2.p ∈ ps)) then [.int e.2.p] else [])) h = .ok (.lst ((if e.2.p ∈ ps then ps else ps ++ [e.2.p]).map D.int)) h := by
      rw [add_l]
      simp only [List.length_cons] at h1
      by_cases q : e.2.p ∈ ps
      · have : ps.length ≤ 16777216 := by omega
        simp [q, this]
      · have : ps.length ≤ 16777215 := by omega
        simp [q, this]
    have a1 : addD false (.lst (hs.map D.str)) (.lst (if (!decide (e.2.s ∈ hs)) then [.str e.2.s] else [])) h = .ok (.lst ((if e.2.s ∈ hs then hs else hs ++ [e.2.s]).map D.str)) h := by
      rw [add_l]
      simp only [List.length_cons] at h2
      by_cases q : e.2.s ∈ hs
      · have : hs.length ≤ 16777216 := by omega
        simp [q, this]
      · have : hs.length ≤ 16777215 := by omega
        simp [q, this]
    have l1 : (if e.2.p ∈ ps then ps else ps ++ [e.2.p]).length + L.length < 1000000 := by
      simp only [List.length_cons] at h1
      split <;> (try simp) <;> omega
    have l2 : (if e.2.s ∈ hs then hs else hs ++ [e.2.s]).length + L.length < 1000000 := by
      simp only [List.length_cons] at h2
      split <;> (try simp) <;> omega
    obtain ⟨x', y', e1⟩ := st_loop (h := h) (A := A) (B := B) (L := L) (x := some (.int e.1)) (y := some (r3 e.2)) l1 l2
    refine ⟨x', y', ?_⟩
    simp only [List.map_cons, ddF]
    rw [← e1]
    generalize hq1 : (if e.2.p ∈ ps then ps else ps ++ [e.2.p]) = P1 at *
    generalize hq2 : (if e.2.s ∈ hs then hs else hs ++ [e.2.s]) = H1 at *
    have rp := fun (x : D) (b : Bool) => rep01 (x := x) (b := b) (h := h)
    simp only [loopC, stG, stB, tupG_ap, consG_ap, nilG_ap, nameG_ap, sb_nx, List.length_cons, List.length_nil, Nat.zero_add, Nat.reduceAdd, if_true, List.set_cons_succ, List.set_cons_zero, seqC_ap, asgC_ap, op2_ap, varC_ap, List.getElem?_cons_succ, List.getElem?_cons_zero, rb_ok, lstC_ap, consA_ap, cstC_ap, nilA_ap, i0, i1, newL_f, apC_ap, inD_lst, n0, n1, int_b, rp, a0, a1, rs_ok, st_nx, gd_nil,
      show (1 : Nat) ≤ 16777216 from by omega]
theorem eq_ints {xs : List Int} {h : AH} : eqX true (.tup (xs.map D.int)) (.tup (xs.map D.int)) h = .ok (.bl false) h := by
  have e1 : (xs.map D.int).mapM (dataOf h 59) = some (xs.map PyData.int) := mapM_some fun a _ => dO_int
  have e2 : ∀ ys : List Int, PyData.eqvAll (ys.map PyData.int) (ys.map PyData.int) = true := fun ys => by
    induction ys with
    | nil => simp
    | cons y ys ih => simp [ih]
  simp [eqX, neD, dO_tup, e1, e2]
end K87

/-! M19: the law finds what stands. -/
namespace K87
open PySem PySem.Spec L2 G
open PyProof.Rows hiding St
section
variable {pre : AH} {E : Ev} {k : KS} {n : Nat} {L : Tb} {c : Int}
theorem Rep.tl {N : Nat} (R : Rep N k n L c) {l : AH} : Rep N { k with tl := k.tl ++ l } n L c :=
  ⟨R.c', R.asc, R.len, R.rows, R.cells, let ⟨J, h1, h2, h3⟩ := R.bp; ⟨J, h1, fun a ha => by
    have := h2 a ha
    show (k.tl ++ l)[J a]? = _
    rw [List.getElem?_append_left (List.getElem?_eq_some_iff.mp this).1]
    exact this, h3⟩⟩
noncomputable def inB : CS := seqC (asgC (apC tupleF (consA (compC false (seqS (sortItC false (varC 1))) [4, 5] (.t [4, 5]) (asB (op2 (eqX false) (slC false (varC 5) noO (someO (cstC (.int 2)))) (tupC (consA (varC 7) (consA (varC 8) nilA))))) (varC 4)) nilA)) (nameG 9))
  (ifS (asB (op2 (eqX true) (methC "Keeper" "rows_of" φ_Keeper_rows_of (varC 0) (consA (tupC (consA (varC 7) nilA)) (consA (tupC (consA (varC 8) nilA)) nilA))) (varC 9)))
  (retC (cstC (.bl false)))
  skipC)
theorem nums_comp {h : AH} {p : Int} {s : Str} {S : Sl} (h6 : 9 < S.length) (h7 : S[7]? = some (some (.int p))) (h8 : S[8]? = some (some (.str s))) :
    mapC [] (.t [4, 5]) (asB (op2 (eqX false) (slC false (varC 5) noO (someO (cstC (.int 2)))) (tupC (consA (varC 7) (consA (varC 8) nilA))))) (varC 4) S (L.map fun e => .tup [.int e.1, r3 e.2]) h = .ok ((nums L p s).map D.int) h := by
  have e2 : ((L.filter (hit p s)).map fun e => D.int e.1) = (nums L p s).map D.int := by simp [nums]
  rw [← e2]
  have z4 : 4 < S.length := by omega
  have z5 : 5 < S.length := by omega
  exact mapC_if (f := fun e : Int × Row => D.tup [.int e.1, r3 e.2]) (k := fun e => .int e.1) (p := hit p s) gd_nil fun e _ => ⟨_, rfl, by
    simp [setAll, r3, slD, cutL, HT.sIx, isT, eqX, eqD, dO_tup, hit, z4, z5, h7, h8], fun _ => by
    simp [setAll, r3, z4, z5]⟩
theorem in_loop (R : Rep pre.length k n L c) {p : Int} {A2 A3 A4 A5 A6 : Option D} : ∀ {hs : List Str} {x y : Option D}, ∃ x' y',
    loopC [] (nameG 8) inB (hs.map D.str) [some (.ref (pre.length + 1)), some (tb L), A2, A3, A4, A5, A6, some (.int p), x, y] (hp pre E k) = .nx [some (.ref (pre.length + 1)), some (tb L), A2, A3, A4, A5, A6, some (.int p), x', y'] (hp pre E k)
  | [], x, y => ⟨x, y, rfl⟩
  | s :: hs, x, y => by
    obtain ⟨x', y', e1⟩ := in_loop R (p := p) (A2 := A2) (A3 := A3) (A4 := A4) (A5 := A5) (A6 := A6) (hs := hs) (x := some (.str s)) (y := some (.tup ((nums L p s).map D.int)))
    refine ⟨x', y', ?_⟩
    rw [← e1]
    have c1 := nums_comp (L := L) (h := hp pre E k) (p := p) (s := s) (S := [some (.ref (pre.length + 1)), some (tb L), A2, A3, none, none, A6, some (.int p), some (.str s), y]) (by simp) rfl rfl
    have r1 := e_rows_of (E := E) R (p := p) (s := s)
    generalize nums L p s = ns at *
    have q1 := eq_ints (xs := ns) (h := hp pre E k)
    generalize hX : (L.map fun e => D.tup [.int e.1, r3 e.2]) = X at *
    have s1 : sortRes false (itemsOf (keys L) (L.map fun e => r3 e.2)) (hp pre E k) = .ok (.lst X) (hp pre E k) := by rw [sort_tb R.asc, ← hX]; rfl
    have lk := (lk_m (N := pre.length) (c := k.c)).2.2.2.2.2.2.2.2.2.2
    simp only [List.map_cons, loopC, inB, nameG_ap, sb_nx, List.set_cons_succ, List.set_cons_zero, seqC_ap, asgC_ap, apC_ap, consA_ap, nilA_ap, compC_ap, seqS_ap, sortItC_ap, varC_ap, List.getElem?_cons_succ, List.getElem?_cons_zero, rb_ok, dct_tb, s1, seqOf_lst, wipe_cons, wipe_nil, c1, newL_f, tup_l, rs_ok, ifS_ap, asB_ap, op2_ap, methC_ap, ins_k, lk, if_true, tupC_ap, List.length_cons, List.length_nil, show (0 + 1 : Nat) ≤ 16777216 from by omega, r1, q1, st_nx, gd_nil, Bool.false_eq_true, if_false, skipC_ap]
noncomputable def outB : CS := seqC (exprC (mthC "list" appendM (varC 6) (consA (tupC (consA (tupC (consA (varC 7) nilA)) (consA (apC tupleF (consA (compC false (seqS (varC 3)) [8] (.n 8) yesT (callC φ__law_cell_of (consA (varC 1) (consA (varC 7) (consA (varC 8) nilA))))) nilA)) nilA))) nilA)))
  (forC (seqS (varC 3)) (nameG 8) inB)
theorem out_loop (R : Rep pre.length k n L c) {hs : List Str} {A2 A4 A5 : Option D} : ∀ {ps : List Int} {done : List D} {x7 x8 x9 : Option D}, done.length + ps.length < 1000000 → ∃ x7' x8' x9',
    loopC [] (nameG 7) outB (ps.map D.int) [some (.ref (pre.length + 1)), some (tb L), A2, some (.lst (hs.map D.str)), A4, A5, some (.ref (pre.length + 8 + k.tl.length)), x7, x8, x9] (hp pre E { k with tl := k.tl ++ [.lst done] }) =
      .nx [some (.ref (pre.length + 1)), some (tb L), A2, some (.lst (hs.map D.str)), A4, A5, some (.ref (pre.length + 8 + k.tl.length)), x7', x8', x9'] (hp pre E { k with tl := k.tl ++ [.lst (done ++ ps.map (wRow L hs))] })
  | [], done, x7, x8, x9, _ => ⟨x7, x8, x9, by simp [loopC]⟩
  | p :: ps, done, x7, x8, x9, hl => by
    simp only [List.length_cons] at hl
    obtain ⟨y8, y9, e0⟩ := in_loop (E := E) (R.tl (l := [.lst (done ++ [wRow L hs p])])) (p := p) (A2 := A2) (A3 := some (.lst (hs.map D.str))) (A4 := A4) (A5 := A5) (A6 := some (.ref (pre.length + 8 + k.tl.length))) (hs := hs) (x := x8) (y := x9)
    obtain ⟨x7', x8', x9', e1⟩ := out_loop R (ps := ps) (done := done ++ [wRow L hs p]) (x7 := some (.int p)) (x8 := y8) (x9 := y9) (by simp; omega)
    refine ⟨x7', x8', x9', ?_⟩
    have c1 := mapC_all (gs := []) (t := .n 8) (el := callC φ__law_cell_of (consA (varC 1) (consA (varC 7) (consA (varC 8) nilA)))) (S := [some (.ref (pre.length + 1)), some (tb L), A2, some (.lst (hs.map D.str)), A4, A5, some (.ref (pre.length + 8 + k.tl.length)), some (.int p), none, x9]) (h := hp pre E { k with tl := k.tl ++ [.lst done] }) (xs := hs) (f := D.str) (k := fun s => cellD (own L p s)) gd_nil fun s _ => ⟨_, rfl, by simp [e_cell_of R.asc]⟩
    have t1 : tyD (hp pre E { k with tl := k.tl ++ [.lst done] }) (.ref (pre.length + 8 + k.tl.length)) = some "list" := tyD_lr (xs := done) (by rw [hp_8]; simp)
    have a1 : appendM (.ref (pre.length + 8 + k.tl.length)) [wRow L hs p] (hp pre E { k with tl := k.tl ++ [.lst done] }) = .ok .non (hp pre E { k with tl := k.tl ++ [.lst (done ++ [wRow L hs p])] }) := by
      rw [app_r (xs := done) (by rw [hp_8]; simp) (by omega), hp_s8]; simp
    have w1 : D.tup [.tup [.int p], .tup (hs.map fun s => cellD (own L p s))] = wRow L hs p := rfl
    have e2 : done ++ (p :: ps).map (wRow L hs) = done ++ [wRow L hs p] ++ ps.map (wRow L hs) := by simp
    rw [e2, ← e1]
    generalize hH : hs.map D.str = HS at *
    generalize hW : (hs.map fun s => cellD (own L p s)) = W1 at *
    simp only [List.map_cons, loopC, outB, nameG_ap, sb_nx, List.set_cons_succ, List.set_cons_zero, seqC_ap, exprC_ap, mthC_ap, varC_ap, List.getElem?_cons_succ, List.getElem?_cons_zero, rb_ok, t1, if_true, consA_ap, nilA_ap, tupC_ap, apC_ap, compC_ap, seqS_ap, seqOf_lst, wipe_cons, wipe_nil, c1, newL_f, tup_l, List.length_cons, List.length_nil, show (0 + 1 : Nat) ≤ 16777216 from by omega, show (0 + 1 + 1 : Nat) ≤ 16777216 from by omega, w1, a1, rs_ok, forC_ap, e0, st_nx, gd_nil]
end
end K87

/-! M20: the law finds what stands: joined. -/
namespace K87
open PySem PySem.Spec L2 G
open PyProof.Rows hiding St
section
variable {pre : AH} {E : Ev} {k : KS} {n : Nat} {L : Tb} {c : Int}
theorem ddF_len {α : Type} [DecidableEq α] : ∀ {xs acc : List α}, (ddF acc xs).length ≤ acc.length + xs.length
  | [], acc => by simp [ddF]
  | x :: xs, acc => by
    have := ddF_len (xs := xs) (acc := if x ∈ acc then acc else acc ++ [x])
    rw [ddF]
    refine Nat.le_trans this ?_
    split <;> (try simp) <;> omega
theorem pl_tup {n : Nat} {xs : List D} (h : ∀ x ∈ xs, Pl n x) : Pl (n + 1) (.tup xs) := h
theorem pl_lst {n : Nat} {xs : List D} (h : ∀ x ∈ xs, Pl n x) : Pl (n + 1) (.lst xs) := h
theorem pl_all {α : Type} {n : Nat} {xs : List α} {f : α → D} (h : ∀ a, Pl n (f a)) : ∀ x ∈ xs.map f, Pl n x := fun x hx => by
  obtain ⟨a, _, rfl⟩ := List.mem_map.mp hx
  exact h a
theorem all_c {n : Nat} {x : D} {xs : List D} (h1 : Pl n x) (h2 : ∀ y ∈ xs, Pl n y) : ∀ y ∈ x :: xs, Pl n y := fun y hy => by
  rcases List.mem_cons.mp hy with rfl | z
  · exact h1
  · exact h2 y z
theorem all_n {n : Nat} : ∀ y ∈ ([] : List D), Pl n y := fun y hy => by simp at hy
theorem pl_str {n : Nat} {x : Str} : Pl (n + 1) (.str x) := trivial
theorem pl_int {n : Nat} {x : Int} : Pl (n + 1) (.int x) := trivial
theorem pl_wide {ps : List Int} {hs : List Str} : Pl 8 (wideD L ps hs) :=
  pl_tup (all_c (pl_tup (all_c pl_str all_n)) (all_c (pl_tup (all_c pl_str all_n)) (all_c (pl_tup (all_c pl_str (all_c pl_str all_n)))
    (all_c (pl_tup (pl_all fun s => pl_tup (all_c pl_str all_n))) (all_c (pl_tup (pl_all fun p => pl_tup (all_c (pl_tup (all_c pl_int all_n)) (all_c (pl_tup (pl_all fun s => pl_cell)) all_n)))) all_n)))))
theorem pl_rows : Pl 8 (.lst (L.map fun e => .tup [.int e.1, r4 e.2])) :=
  pl_lst (pl_all fun e => pl_tup (all_c pl_int (all_c (pl_tup (all_c pl_int (all_c pl_str (all_c pl_int (all_c pl_int all_n))))) all_n)))
theorem e_stands (R : Rep pre.length k n L c) : φ__law_stands [.ref (pre.length + 1), tb L] (hp pre E k) = .ok (.bl true) (hp pre E k) := by
  have lk := lk_m (N := pre.length) (c := k.c)
  have c1 := mapC_all (gs := []) (t := .t [4, 5]) (el := tupC (consA (varC 4) (consA (op2 (addD false) (varC 5) (tupC (consA (op2 itemD (varC 5) (cstC (.int 2))) nilA))) nilA))) (S := [some (.ref (pre.length + 1)), some (tb L), none, none, none, none, none, none, none, none]) (h := hp pre E k) (xs := L) (f := fun e => .tup [.int e.1, r3 e.2]) (k := fun e => .tup [.int e.1, r4 e.2]) gd_nil fun e _ => ⟨_, rfl, by simp [setAll, r3, r4]⟩
  obtain ⟨x4, x5, l1⟩ := st_loop (h := hp pre E k) (A := some (.ref (pre.length + 1))) (B := some (tb L)) (L := L) (ps := []) (hs := []) (x := none) (y := none) (by have := R.len; simp; omega) (by have := R.len; simp; omega)
  have len1 : (ddF [] (L.map (·.2.p))).length ≤ 100 := by
    have := ddF_len (xs := L.map (·.2.p)) (acc := [])
    have h2 := R.len
    simp at this; omega
  obtain ⟨y7, y8, y9, l2⟩ := out_loop (E := E) R (hs := ddF [] (L.map (·.2.s))) (A2 := some (.lst ((ddF [] (L.map (·.2.p))).map D.int))) (A4 := x4) (A5 := x5) (ps := ddF [] (L.map (·.2.p))) (done := []) (x7 := none) (x8 := none) (x9 := none) (by simp; omega)
  have w := e_wide_now (E := E) (R.tl (l := [.lst ([] ++ (ddF [] (L.map (·.2.p))).map (wRow L (ddF [] (L.map (·.2.s)))))]))
  have sm1 := e_same (h := hp pre E k) (pl_rows (L := L))
  have sm2 : φn__law_same 8 [wideL L, wideL L] (hp pre E { k with tl := k.tl ++ [.lst ([] ++ (ddF [] (L.map (·.2.p))).map (wRow L (ddF [] (L.map (·.2.s)))))] }) = .ok (.bl true) _ := e_same pl_wide
  have wl : wideL L = .tup [.tup [.str "a"], .tup [.str "b"], .tup [.str "c", .str "d"], .tup ((ddF [] (L.map (·.2.s))).map hD), .tup ((ddF [] (L.map (·.2.p))).map (wRow L (ddF [] (L.map (·.2.s)))))] := rfl
  have rn := e_rows_now (E := E) R
  have c2 : ∀ (S : Sl) (h : AH), 8 < S.length → mapC [] (.n 8) yesT (tupC (consA (varC 8) nilA)) S ((ddF [] (L.map (·.2.s))).map D.str) h = .ok ((ddF [] (L.map (·.2.s))).map hD) h := fun S h hS => mapC_all (f := D.str) gd_nil fun s _ => ⟨_, rfl, by simp [hS, hD]⟩
  have t1 : tupleF [.ref (pre.length + 8 + k.tl.length)] (hp pre E { k with tl := k.tl ++ [.lst ([] ++ (ddF [] (L.map (·.2.p))).map (wRow L (ddF [] (L.map (·.2.s)))))] }) = .ok (.tup ((ddF [] (L.map (·.2.p))).map (wRow L (ddF [] (L.map (·.2.s)))))) _ := tup_r (by rw [hp_8]; simp)
  have f0 : runF 10 b__law_stands [.ref (pre.length + 1), tb L] (hp pre E k) = .ok (.bl true) (hp pre E k ++ [.lst ([] ++ (ddF [] (L.map (·.2.p))).map (wRow L (ddF [] (L.map (·.2.s)))))]) := by
    rw [hp_app]
    have s1 : sortRes false (itemsOf (keys L) (L.map fun e => r3 e.2)) (hp pre E k) = .ok (.lst (L.map fun e => D.tup [.int e.1, r3 e.2])) (hp pre E k) := by rw [sort_tb R.asc]; rfl
    simp only [List.map_nil] at l1
    generalize hX : (L.map fun e => D.tup [.int e.1, r3 e.2]) = X at *
    generalize hX4 : (L.map fun e => D.tup [.int e.1, r4 e.2]) = X4 at *
    generalize hPS : ddF [] (L.map (·.2.p)) = PS at *
    generalize hHS : ddF [] (L.map (·.2.s)) = HS at *
    generalize hW : ([] ++ PS.map (wRow L HS)) = W at *
    generalize hWL : wideL L = WL at *
    have r3' : (List.replicate (10 - (0 + 1 + 1)) (none : Option D)) = [none, none, none, none, none, none, none, none] := rfl
    unfold stG stB at l1
    simp only [b__law_stands, runF_ap, List.map_cons, List.map_nil, List.cons_append, List.nil_append, List.length_cons, List.length_nil, r3', seqC_ap, ifS_ap, notT_ap, asT_ap, callC_ap, consA_ap, nilA_ap, methC_ap, varC_ap, List.getElem?_cons_succ, List.getElem?_cons_zero, rb_ok, ins_k, lk, if_true, rn, compC_ap, seqS_ap, sortItC_ap, dct_tb, s1, seqOf_lst, wipe_cons, wipe_nil, List.set_cons_succ, List.set_cons_zero, c1, newL_f, φ__law_same, sm1, tr_bl, Bool.not_true, rs_ok, Bool.false_eq_true, if_false, skipC_ap, sb_nx]
    simp only [parC_ap, consA_ap, nilA_ap, lstC_ap, List.length_nil, Nat.zero_le, if_true, rb_ok, newL_f, rs_ok, List.set_cons_succ, List.set_cons_zero, sb_nx, seqC_ap, forC_ap, seqS_ap, sortItC_ap, varC_ap, List.getElem?_cons_succ, List.getElem?_cons_zero, dct_tb, s1, seqOf_lst, l1]
    simp only [asgC_ap, lstC_ap, nilA_ap, rb_ok, List.length_nil, Nat.zero_le, if_true, newL_t, hp_app, hp_len, rs_ok, nameG_ap, List.set_cons_succ, List.set_cons_zero, sb_nx, seqC_ap, forC_ap, seqS_ap, varC_ap, List.getElem?_cons_succ, List.getElem?_cons_zero, seqOf_lst]
    unfold outB inB at l2
    rw [l2]
    simp only [sb_nx, seqC_ap, asgC_ap, tupC_ap, consA_ap, nilA_ap, cstC_ap, apC_ap, compC_ap, seqS_ap, varC_ap, List.getElem?_cons_succ, List.getElem?_cons_zero, rb_ok, seqOf_lst, wipe_cons, wipe_nil, List.set_cons_succ, List.set_cons_zero, c2 _ _ (show 8 < [some (D.ref (pre.length + 1)), some (tb L), some (.lst (PS.map D.int)), some (.lst (HS.map D.str)), x4, x5, some (D.ref (pre.length + 8 + k.tl.length)), y7, none, y9].length from by simp), newL_f, tup_l, t1, List.length_cons, List.length_nil]
    simp only [t1, consA_ap, List.length_cons, List.length_nil, show (0 + 1 : Nat) ≤ 16777216 from by omega, show (0 + 1 + 1 : Nat) ≤ 16777216 from by omega, show (0 + 1 + 1 + 1 + 1 + 1 : Nat) ≤ 16777216 from by omega, if_true, rb_ok, ← wl, rs_ok, nameG_ap, sb_nx, List.set_cons_succ, List.set_cons_zero, retC_ap, callC_ap, consA_ap, nilA_ap, methC_ap, varC_ap, List.getElem?_cons_succ, List.getElem?_cons_zero, ins_k, lk, w, φ__law_same, sm2]
  unfold φ__law_stands
  simp only [argF_ap, List.length_cons, List.length_nil, if_pos]
  exact trim_pure f0 rfl
end
end K87

/-! M21: a new Keeper. -/
namespace K87
open PySem PySem.Spec L2 G
open PyProof.Rows hiding St
def kh (h1 : AH) (fs : List (Str × D)) (tl : AH) : AH := h1 ++ (.ins "Keeper" fs :: tl)
section
variable {h1 tl : AH} {fs : List (Str × D)}
theorem kh_ins : insAt "Keeper" (.ref h1.length) (kh h1 fs tl) = some (h1.length, fs) := by
  have : (kh h1 fs tl)[h1.length]? = some (.ins "Keeper" fs) := pre_get (i := 0)
  simp [insAt, this]
theorem kh_set {gs : List (Str × D)} : (kh h1 fs tl).set h1.length (.ins "Keeper" gs) = kh h1 gs tl := pre_set (i := 0)
theorem kh_app {l : AH} : kh h1 fs tl ++ l = kh h1 fs (tl ++ l) := by simp [kh]
theorem kh_len : (kh h1 fs tl).length = h1.length + 1 + tl.length := by simp [kh]; omega
theorem sfldC_ap {c f : Str} {a v : CE} {S : Sl} {h : AH} : sfldC c f a v S h = (v S h).sbind S fun y h1 => (a S h1).sbind S fun d h2 => match insAt c d h2 with
  | some (n, fs) => if fs.length < 1000 then .nx S (h2.set n (.ins c (putFD f y fs))) else .stuck
  | none => .stuck := rfl
theorem e_init {S : AH} : φ_Keeper_init [.ref h1.length, .lst colD, .lst [.str "a"], .lst [.str "b"], .lst [.str "c", .str "d"], .lst [w_sum, w_count], .str "seen"] (kh h1 [] []) =
    .ok .non (kh h1 [("table", tableD), ("told", toldD), ("places", placesD), ("coming", .int 0), ("rows", .ref (h1.length + 1)), ("by_place", .ref (h1.length + 1 + 1)), ("cells", .ref (h1.length + 1 + 2)), ("past", .ref (h1.length + 1 + 3))] [.dct [] [], .dct [] [], .dct [] [], .lst []]) := by
  have fo := e_folded (L := []) (h := kh h1 [("table", tableD)] []) (dk := .lst [.str "a"]) (dn := .lst [.str "b"]) (dv := .lst [.str "c", .str "d"]) (dw := .lst [w_sum, w_count]) (by simp) (.inl rfl) (.inl rfl) (.inl rfl) (.inr ⟨rfl, rfl⟩)
  have p1 : ∀ h : AH, φ_places_of [tableD, .lst [.str "a"]] h = .ok (.lst [.int 0]) h := fun h => e_places1 (rows := []) (.inl rfl)
  have p2 : ∀ h : AH, φ_places_of [tableD, .lst [.str "b"]] h = .ok (.lst [.int 1]) h := fun h => e_places2 (rows := []) (.inl rfl)
  have p3 : ∀ h : AH, φ_places_of [tableD, .lst [.str "c", .str "d"]] h = .ok (.lst [.int 2, .int 3]) h := fun h => e_places3 (rows := []) (.inl rfl)
  have fo' : φ_folded_by [tableD, .lst [.str "a"], .lst [.str "b"], .lst [.str "c", .str "d"], .lst [w_sum, w_count], .str "seen"] (kh h1 [("table", tableD)] []) = .ok (wideD [] [] []) (kh h1 [("table", tableD)] []) := fo
  have f1 : ∀ x : D, putFD "table" x [] = [(("table" : Str), x)] := fun _ => rfl
  have f2 : ∀ a x : D, putFD "told" x [("table", a)] = [(("table" : Str), a), ("told", x)] := fun _ _ => rfl
  have f3 : ∀ a b x : D, putFD "places" x [("table", a), ("told", b)] = [(("table" : Str), a), ("told", b), ("places", x)] := fun _ _ _ => rfl
  have f4 : ∀ a b c x : D, putFD "coming" x [("table", a), ("told", b), ("places", c)] = [(("table" : Str), a), ("told", b), ("places", c), ("coming", x)] := fun _ _ _ _ => rfl
  have f5 : ∀ a b c d x : D, putFD "rows" x [("table", a), ("told", b), ("places", c), ("coming", d)] = [(("table" : Str), a), ("told", b), ("places", c), ("coming", d), ("rows", x)] := fun _ _ _ _ _ => rfl
  have f6 : ∀ a b c d e x : D, putFD "by_place" x [("table", a), ("told", b), ("places", c), ("coming", d), ("rows", e)] = [(("table" : Str), a), ("told", b), ("places", c), ("coming", d), ("rows", e), ("by_place", x)] := fun _ _ _ _ _ _ => rfl
  have f7 : ∀ a b c d e f x : D, putFD "cells" x [("table", a), ("told", b), ("places", c), ("coming", d), ("rows", e), ("by_place", f)] = [(("table" : Str), a), ("told", b), ("places", c), ("coming", d), ("rows", e), ("by_place", f), ("cells", x)] := fun _ _ _ _ _ _ _ => rfl
  have f8 : ∀ a b c d e f g x : D, putFD "past" x [("table", a), ("told", b), ("places", c), ("coming", d), ("rows", e), ("by_place", f), ("cells", g)] = [(("table" : Str), a), ("told", b), ("places", c), ("coming", d), ("rows", e), ("by_place", f), ("cells", g), ("past", x)] := fun _ _ _ _ _ _ _ _ => rfl
  have l1 : ∀ x : D, fldD "Keeper" "table" (.ref h1.length) (kh h1 [("table", x)] []) = .ok x (kh h1 [("table", x)] []) := fun x => by
    simp only [fldD, kh_ins]; rfl
  have l2 : ∀ x y : D, fldD "Keeper" "table" (.ref h1.length) (kh h1 [("table", x), ("told", y)] []) = .ok x (kh h1 [("table", x), ("told", y)] []) := fun x y => by
    simp only [fldD, kh_ins]; rfl
  have tt : tableD = .tup [.tup colD, .tup []] := rfl
  have told' : toldD = .tup [.tup [.str "a"], .tup [.str "b"], .tup [.str "c", .str "d"], .tup [w_sum, w_count], .str "seen"] := rfl
  have pl' : placesD = .lst [.lst [.int 0], .lst [.int 1], .lst [.int 2, .int 3]] := rfl
  unfold φ_Keeper_init
  simp only [argF_ap, List.length_cons, List.length_nil, if_pos]
  simp [b_Keeper_init, sfldC_ap, kh_ins, kh_set, kh_app, kh_len, f1, f2, f3, f4, f5, f6, f7, f8, ← tt, fo', l1, l2, ← told', mapC, Tg.put, p1, p2, p3, ← pl']
end
end K87

/-! M22: parts of a deed. -/
namespace K87
open PySem PySem.Spec L2 G
open PyProof.Rows hiding St
def Bx (b : O) (n : Nat) : Prop := ∃ b0 b1 b2 : Int, b = .lst [.int b0, .int b1, .int b2] ∧ 0 ≤ b2 ∧ b2 ≤ n
theorem Bx.more {b : O} {n m : Nat} (h : Bx b n) (q : n ≤ m) : Bx b m := let ⟨b0, b1, b2, h1, h2, h3⟩ := h; ⟨b0, b1, b2, h1, h2, by omega⟩
section
variable {pre : AH} {bx q s : O} {k : KS} {n : Nat} {L : Tb} {c m : Int} {r : Row} {h : AH}
theorem e_draw {many : Int} (hb : Bx bx n) (h1 : 0 < many) (h2 : many < 100) (hn : n < 1000000000) :
    ∃ f b, φ__law_take [.ref pre.length, .int many] (hp pre ⟨bx, q, s⟩ k) = .ok (.int f) (hp pre ⟨b, q, s⟩ k) ∧ Bx b (n + 1) ∧ 0 ≤ f ∧ f < many := by
  obtain ⟨b0, b1, b2, rfl, h3, h4⟩ := hb
  obtain ⟨f, b0', b2', e1, e2, e3, e4, e5⟩ := e_take (h := hp pre ⟨.lst [.int b0, .int b1, .int b2], q, s⟩ k) (n := pre.length) (b0 := b0) (b1 := b1) (b2 := b2) (many := many) hp_0 h1 h2 h3 (by omega)
  rw [hp_s0] at e1
  exact ⟨f, _, e1, ⟨b0', b1, b2', rfl, e4, by omega⟩, e2, e3⟩
theorem mem_keys {i : Int} : D.int i ∈ keys L ↔ i ∈ L.map (·.1) := by simp [keys]
theorem put_tb : ∀ {L : Tb}, c ∉ L.map (·.1) → dputK (keys L) (.int c) = keys (L ++ [(c, r)]) ∧ dputV (keys L) (L.map fun e => r3 e.2) (.int c) (r3 r) = (L ++ [(c, r)]).map fun e => r3 e.2
  | [], _ => ⟨rfl, rfl⟩
  | e :: L, h => by
    simp only [List.map_cons, List.mem_cons, not_or] at h
    obtain ⟨i1, i2⟩ := put_tb h.2
    have h1 : ¬ G.keyOf (.int e.1) = G.keyOf (.int c) := by simp; exact fun z => h.1 z.symm
    have e1 : keys (e :: L) = .int e.1 :: keys L := rfl
    rw [e1]
    simp only [dputK, dputV, List.map_cons, h1, if_false, i1, i2]
    exact ⟨rfl, rfl⟩
theorem leaf_keys : (keys L).all leafK = true := by
  unfold keys
  rw [List.all_map]
  exact List.all_eq_true.mpr fun e _ => rfl
theorem ok_keys {i : Int} : keyOk (keys L) (.int i) = true := kd_int.ok i _ fun k hk => by
  obtain ⟨e, _, rfl⟩ := List.mem_map.mp hk
  exact ⟨e.1, rfl⟩
theorem keys_len : (keys L).length = L.length := by simp [keys]
theorem find_tb {i : Int} : ∀ {L : Tb}, dfind (keys L) (L.map fun e => r3 e.2) (.int i) = (row L i).map r3
  | [] => rfl
  | e :: L => by
    have ih := find_tb (i := i) (L := L)
    have e1 : keys (e :: L) = .int e.1 :: keys L := rfl
    rw [e1]
    simp only [List.map_cons, dfind, key_int, Option.some.injEq, NestedKey.num.injEq, ih]
    unfold row
    by_cases z : e.1 = i
    · have z1 : (e.1 == i) = true := by simpa using z
      simp [List.find?_cons, z1, z]
    · have z1 : (e.1 == i) = false := by simpa using z
      simp [List.find?_cons, z1, z]
theorem item_tb {i : Int} (hr : row L i = some r) : itemD (tb L) (.int i) h = .ok (r3 r) h := by
  simp only [itemD, dct_tb, ok_keys, if_true, find_tb, hr, Option.map_some]
theorem merge_tb : ∀ {B A : Tb}, ((A ++ B).map (·.1)).Nodup → dmerge (keys A) (A.map fun e => r3 e.2) (keys B) (B.map fun e => r3 e.2) = (keys (A ++ B), (A ++ B).map fun e => r3 e.2)
  | [], A, _ => by simp [dmerge, keys]
  | e :: B, A, h => by
    have e1 : keys (e :: B) = .int e.1 :: keys B := rfl
    have ne : e.1 ∉ A.map (·.1) := by
      rw [List.map_append, List.nodup_append] at h
      intro z
      exact h.2.2 _ z e.1 (by simp) rfl
    rw [e1]
    simp only [List.map_cons, dmerge]
    have p := put_tb (r := e.2) ne
    rw [p.1, p.2]
    have := merge_tb (B := B) (A := A ++ [e]) (by simpa using h)
    rw [this]
    simp
theorem dict_tb (as : Asc L) : dictF true [.lst (L.map fun e => .tup [.int e.1, r3 e.2])] h = .ok (.ref h.length) (h ++ [.dct (keys L) (L.map fun e => r3 e.2)]) := by
  have p := pairs_map (f := fun e : Int × Row => D.int e.1) (g := fun e => r3 e.2) (xs := L)
  have k1 : keysOk (keys L) = true := by
    unfold keysOk keys
    rw [List.all_map, List.all_map, List.all_map]
    simp only [Bool.and_eq_true, Bool.or_eq_true, List.all_eq_true]
    exact ⟨.inl fun e _ => rfl, fun e _ => by simp⟩
  have m1 := merge_tb (A := []) (B := L) (by simpa using nodup_lt as)
  simp only [List.nil_append] at m1
  have kl : (L.map fun e => D.int e.1) = keys L := rfl
  rw [kl] at p
  simp only [dictF, dctAt_lst, seqOf_lst, p, isT, k1, and_self, if_true, newDct_t]
  have m2 : dmerge [] [] (keys L) (L.map fun e => r3 e.2) = (keys L, L.map fun e => r3 e.2) := m1
  rw [m2]
theorem rem_put (g : Good L c) : Rem (L ++ [(c, r)]) c r L where
  asc := by
    unfold Asc
    rw [List.map_append, List.pairwise_append]
    refine ⟨g.asc, by simp, fun a ha b hb => ?_⟩
    simp at hb; subst hb
    obtain ⟨e, he, rfl⟩ := List.mem_map.mp ha
    exact g.lt e he
  mem := by simp
  eq := by
    rw [List.filter_append]
    have : L.filter (fun e => e.1 != c) = L := List.filter_eq_self.mpr fun e he => by
      have := g.lt e he
      simp; omega
    simp [this]
theorem good_put (g : Good L c) (hl : L.length < 9) : Good (L ++ [(c, r)]) (c + 1) where
  asc := (rem_put g).asc
  len := by simp; omega
  lt := fun x hx => by
    rcases List.mem_append.mp hx with z | z
    · have := g.lt x z; omega
    · simp at z; subst z; simp; omega
theorem rem_take (g : Good L c) (hm : (m, r) ∈ L) : Rem L m r (L.filter fun e => e.1 != m) := ⟨g.asc, hm, rfl⟩
theorem good_take (g : Good L c) : Good (L.filter fun e => e.1 != m) c where
  asc := asc_filter g.asc
  len := Nat.le_trans (List.length_filter_le _ _) g.len
  lt := fun x hx => g.lt x (List.mem_filter.mp hx).1
theorem pick3 {a b d f : Int} (h1 : 0 ≤ f) (h2 : f < 3) : ∃ v, itemD (.lst [.int a, .int b, .int d]) (.int f) h = .ok (.int v) h := by
  have : f = 0 ∨ f = 1 ∨ f = 2 := by omega
  rcases this with rfl | rfl | rfl
  · exact ⟨a, by simp⟩
  · exact ⟨b, by simp⟩
  · exact ⟨d, by simp⟩
theorem pickx {f : Int} (h1 : 0 ≤ f) (h2 : f < 3) : ∃ t : Str, itemD (.str "xyz") (.int f) h = .ok (.str t) h := by
  have : f = 0 ∨ f = 1 ∨ f = 2 := by omega
  rcases this with rfl | rfl | rfl <;> exact ⟨_, rfl⟩
end
end K87

/-! M23: a deed. -/
namespace K87
open PySem PySem.Spec L2 G
open PyProof.Rows hiding St
noncomputable def cndT : CT := orT (asB (op2 (eqX false) (varC 3) (dct0 false))) (andT (asB (op2 (cmpD (fun i j => decide (i < j)) fun x y => decide (x < y)) (apC lenDF (consA (varC 3) nilA)) (cstC (.int 9)))) (asB (op2 (eqX false) (callC φ__law_take (consA (varC 0) (consA (cstC (.int 2)) nilA))) (cstC (.int 0)))))
noncomputable def putB : CS := seqC (asgC (op2 itemD (lstC false (consA (callC φ__law_take (consA (varC 0) (consA (cstC (.int 5)) nilA))) (consA (op2 (addD false) (op2 powD (cstC (.int 10)) (cstC (.int 29))) (callC φ__law_take (consA (varC 0) (consA (cstC (.int 9)) nilA)))) (consA (negC (op2 powD (cstC (.int 10)) (cstC (.int 29)))) nilA)))) (callC φ__law_take (consA (varC 0) (consA (cstC (.int 3)) nilA)))) (nameG 6))
  (seqC (asgC (tupC (consA (callC φ__law_take (consA (varC 0) (consA (cstC (.int 3)) nilA))) (consA (op2 itemD (cstC (.str "xyz")) (callC φ__law_take (consA (varC 0) (consA (cstC (.int 3)) nilA)))) (consA (varC 6) nilA)))) (nameG 7))
  (seqC (asgC (apC (dictF true) (consA (varC 3) nilA)) (nameG 8))
  (seqC (asgC (varC 7) (subG (varC 8) (varC 4)))
  (fzV 8 (seqC (parC 9 10 (consA (methC "Keeper" "put_row" φ_Keeper_put_row (varC 1) (consA (op2 (addD false) (varC 7) (tupC (consA (varC 6) nilA))) nilA)) (consA (tupC (consA (varC 4) (consA (callC φ__law_changes (consA (varC 3) (consA (varC 8) (consA (varC 7) nilA)))) nilA))) nilA)))
  (asgC (op2 (addD false) (varC 4) (cstC (.int 1))) (nameG 4)))))))
noncomputable def takeB : CS := seqC (asgC (apC (sortDF false) (consA (varC 3) nilA)) (nameG 11))
  (seqC (asgC (op2 itemD (varC 11) (callC φ__law_take (consA (varC 0) (consA (apC lenDF (consA (varC 11) nilA)) nilA)))) (nameG 12))
  (seqC (asgC (op2 itemD (varC 3) (varC 12)) (nameG 7))
  (seqC (asgC (apC (dictF true) (consA (compC false (keysS (varC 3)) [13] (.n 13) (asB (op2 (eqX true) (varC 13) (varC 12))) (tupC (consA (varC 13) (consA (op2 itemD (varC 3) (varC 13)) nilA)))) nilA)) (nameG 8))
  (fzV 8 (parC 9 10 (consA (methC "Keeper" "take_row" φ_Keeper_take_row (varC 1) (consA (varC 12) nilA)) (consA (callC φ__law_changes (consA (varC 3) (consA (varC 8) (consA (varC 7) nilA)))) nilA)))))))
noncomputable def restB : CS := seqC (exprC (mthC "list" appendM (varC 5) (consA (tupC (consA (varC 3) (consA (varC 7) (consA (op2 itemD (varC 2) (cstC (.str "coming"))) nilA)))) nilA)))
  (seqC (asgC (tupC (consA (varC 8) (consA (varC 4) nilA))) (tupG 2 (consG (subG (varC 2) (cstC (.str "rows"))) (consG (subG (varC 2) (cstC (.str "coming"))) nilG))))
  (retC (callC φ__law_same (consA (varC 9) (consA (varC 10) nilA)))))
theorem deed_eq : b__law_deed = seqC (asgC (tupC (consA (op2 itemD (varC 2) (cstC (.str "rows"))) (consA (op2 itemD (varC 2) (cstC (.str "coming"))) (consA (op2 itemD (varC 2) (cstC (.str "past"))) nilA)))) (tupG 3 (consG (nameG 3) (consG (nameG 4) (consG (nameG 5) nilG))))) (seqC (ifS cndT putB takeB) restB) := rfl
section
variable {pre : AH} {bx q s : O} {k : KS} {n : Nat} {L : Tb} {c m : Int} {r : Row} {h : AH} {es : List Ent}
theorem e_cond {S : Sl} (hb : Bx bx n) (hn : n < 100000) (g : Good L c) (h0 : S[0]? = some (some (.ref pre.length))) (h3 : S[3]? = some (some (tb L))) :
    ∃ t bx', cndT S (hp pre ⟨bx, q, s⟩ k) = .ok t (hp pre ⟨bx', q, s⟩ k) ∧ Bx bx' (n + 1) ∧ (t = true → L.length < 9) ∧ (t = false → L ≠ []) := by
  obtain ⟨f, b, d1, d2, d3, d4⟩ := e_draw (pre := pre) (q := q) (s := s) (k := k) (many := 2) hb (by omega) (by omega) (by omega)
  have x1 : eqX false (tb L) (.dct [] []) (hp pre ⟨bx, q, s⟩ k) = .ok (.bl (keys L).isEmpty) (hp pre ⟨bx, q, s⟩ k) := by
    simp only [eqX, dct_tb, dctAt_dct, leaf_keys, if_true]; rfl
  have l1 : lenDF [tb L] (hp pre ⟨bx, q, s⟩ k) = .ok (.int (L.length : Nat)) (hp pre ⟨bx, q, s⟩ k) := by
    simp only [lenDF, dct_tb, leaf_keys, if_true, keys_len]
  by_cases e : L = []
  · refine ⟨true, bx, ?_, hb.more (by omega), fun _ => (by simp [e]), fun z => (by cases z)⟩
    subst e
    simp [cndT, h3, x1, keys]
  · have e2 : (keys L).isEmpty = false := by
      cases L with
      | nil => exact absurd rfl e
      | cons a b => rfl
    by_cases e3 : L.length < 9
    · refine ⟨decide (f = 0), b, ?_, d2, fun _ => e3, fun _ => e⟩
      have e4 : ((L.length : Nat) : Int) < 9 := by omega
      have x2 : eqX false (.int f) (.int 0) (hp pre ⟨b, q, s⟩ k) = .ok (.bl (decide (f = 0))) (hp pre ⟨b, q, s⟩ k) := by simp [eqX, eqD, Bool.beq_eq_decide_eq]
      simp [cndT, h3, h0, x1, e2, l1, e4, d1, x2]
    · refine ⟨false, bx, ?_, hb.more (by omega), fun z => (by cases z), fun _ => e⟩
      have e4 : ¬ ((L.length : Nat) : Int) < 9 := by omega
      simp [cndT, h3, h0, x1, e2, l1, e4]
theorem e_putB {A2 A5 : Option D} (hb : Bx bx n) (hn : n < 100000) (g : Good L c) (hl : L.length < 9) (R : Rep pre.length k n L c) (hp' : k.past.length < 900000) :
    ∃ v r bx' k', putB [some (.ref pre.length), some (.ref (pre.length + 1)), A2, some (tb L), some (.int c), A5, none, none, none, none, none, none, none, none] (hp pre ⟨bx, q, s⟩ k) =
      .nx [some (.ref pre.length), some (.ref (pre.length + 1)), A2, some (tb L), some (.int (c + 1)), A5, v, some (r3 r), some (tb (L ++ [(c, r)])), some (.tup [.int c, chg (r.p, r.s) (own L r.p r.s) (own (L ++ [(c, r)]) r.p r.s)]), some (.tup [.int c, chg (r.p, r.s) (own L r.p r.s) (own (L ++ [(c, r)]) r.p r.s)]), none, none, none] (hp pre ⟨bx', q, s⟩ k') ∧
      Bx bx' (n + 5) ∧ Rep pre.length k' (n + 2) (L ++ [(c, r)]) (c + 1) ∧ k'.past = k.past ++ [putP c] := by
  obtain ⟨f1, b1, d1, u1, _, _⟩ := e_draw (pre := pre) (q := q) (s := s) (k := k) (many := 5) hb (by omega) (by omega) (by omega)
  obtain ⟨f2, b2, d2, u2, _, _⟩ := e_draw (pre := pre) (q := q) (s := s) (k := k) (many := 9) u1 (by omega) (by omega) (by omega)
  obtain ⟨f3, b3, d3, u3, p3, p3'⟩ := e_draw (pre := pre) (q := q) (s := s) (k := k) (many := 3) u2 (by omega) (by omega) (by omega)
  obtain ⟨f4, b4, d4, u4, _, _⟩ := e_draw (pre := pre) (q := q) (s := s) (k := k) (many := 3) u3 (by omega) (by omega) (by omega)
  obtain ⟨f5, b5, d5, u5, p5, p5'⟩ := e_draw (pre := pre) (q := q) (s := s) (k := k) (many := 3) u4 (by omega) (by omega) (by omega)
  obtain ⟨v, i1⟩ := pick3 (h := hp pre ⟨b3, q, s⟩ k) (a := f1) (b := 100000000000000000000000000000 + f2) (d := -100000000000000000000000000000) p3 p3'
  obtain ⟨t, i2⟩ := pickx (h := hp pre ⟨b5, q, s⟩ k) p5 p5'
  have nc : c ∉ L.map (·.1) := fun z => by
    obtain ⟨e, he, z2⟩ := List.mem_map.mp z
    have := g.lt e he; omega
  obtain ⟨r, hr⟩ : ∃ r : Row, r = ⟨f4, t, v⟩ := ⟨_, rfl⟩
  have pt := put_tb (r := r) nc
  have M := rem_put (r := r) g
  obtain ⟨L', hL'⟩ : ∃ L' : Tb, L' = L ++ [(c, r)] := ⟨_, rfl⟩
  rw [← hL'] at pt M
  obtain ⟨k', w1, w2, w3⟩ := e_put_row (E := ⟨b5, q, s⟩) (by omega) (R.tl (l := [.dead])) M (by rw [hL']; simp; omega) hp'
  have ch := e_changes (h := hp pre ⟨b5, q, s⟩ k') (r := r) g.asc M.asc
  have rd : D.tup [.int f4, .str t, .int v] = r3 r := by rw [hr]; rfl
  have dt : dictF true [tb L] (hp pre ⟨b5, q, s⟩ k) = .ok (.ref (pre.length + 8 + k.tl.length)) (hp pre ⟨b5, q, s⟩ { k with tl := k.tl ++ [.dct (keys L) (L.map fun e => r3 e.2)] }) := by
    simp only [dictF, dct_tb, leaf_keys, if_true, newDct_t, hp_len, hp_app]
  have st : storeD (.ref (pre.length + 8 + k.tl.length)) (.int c) (r3 r) (hp pre ⟨b5, q, s⟩ { k with tl := k.tl ++ [.dct (keys L) (L.map fun e => r3 e.2)] }) = some (hp pre ⟨b5, q, s⟩ { k with tl := k.tl ++ [.dct (keys L') (L'.map fun e => r3 e.2)] }) := by
    have q1 : (hp pre ⟨b5, q, s⟩ { k with tl := k.tl ++ [.dct (keys L) (L.map fun e => r3 e.2)] })[pre.length + 8 + k.tl.length]? = some (.dct (keys L) (L.map fun e => r3 e.2)) := by rw [hp_8]; simp
    have q2 : dctN (.ref (pre.length + 8 + k.tl.length)) (hp pre ⟨b5, q, s⟩ { k with tl := k.tl ++ [.dct (keys L) (L.map fun e => r3 e.2)] }) = some (pre.length + 8 + k.tl.length, keys L, L.map fun e => r3 e.2) := by simp only [dctN, q1]
    have q3 : (keys L).length < 16777216 := by rw [keys_len]; omega
    simp only [storeD, q2, ok_keys, q3, and_self, if_true, pt.1, pt.2, hp_s8]
    simp
  have fz : fzD (.ref (pre.length + 8 + k.tl.length)) (hp pre ⟨b5, q, s⟩ { k with tl := k.tl ++ [.dct (keys L') (L'.map fun e => r3 e.2)] }) = (tb L', hp pre ⟨b5, q, s⟩ { k with tl := k.tl ++ [.dead] }) := by
    have q1 : (hp pre ⟨b5, q, s⟩ { k with tl := k.tl ++ [.dct (keys L') (L'.map fun e => r3 e.2)] })[pre.length + 8 + k.tl.length]? = some (.dct (keys L') (L'.map fun e => r3 e.2)) := by rw [hp_8]; simp
    simp only [fzD, q1, hp_s8]
    simp [tb]
  have ad : addD false (r3 r) (.tup [.int v]) (hp pre ⟨b5, q, s⟩ { k with tl := k.tl ++ [.dead] }) = .ok (r4 r) (hp pre ⟨b5, q, s⟩ { k with tl := k.tl ++ [.dead] }) := by rw [hr]; simp [r3, r4]
  refine ⟨some (.int v), r, b5, k', ?_, u5, hL' ▸ w2, w3⟩
  rw [← hL']
  have lk := (lk_m (N := pre.length) (c := k.c)).2.2.2.2.2.1
  simp [putB, d1, d2, d3, d4, d5, i1, i2, rd, dt, st, fzV, fz, ad, lk, w1, ch]
end
end K87

/-! M24: a deed, joined. -/
namespace K87
open PySem PySem.Spec L2 G
open PyProof.Rows hiding St
section
variable {pre : AH} {bx q s : O} {k : KS} {n : Nat} {L : Tb} {c m : Int} {r : Row} {h : AH} {es : List Ent}
theorem frz_tb : frzD (tb L) = some (keys L, L.map fun e => r3 e.2) := rfl
theorem sort_keys (as : Asc L) : sortDF false [tb L] h = .ok (.lst (keys L)) h := by
  have e : keys L = (L.map (·.1)).map D.int := by simp [keys]
  simp only [sortDF, dct_tb]
  rw [e, sort_ints, leI_sorted as]; rfl
theorem e_takeB {A2 A5 : Option D} (hb : Bx bx n) (hn : n < 100000) (g : Good L c) (hl : L ≠ []) (R : Rep pre.length k n L c) (hp' : k.past.length < 900000) :
    ∃ m r bx' k' x, takeB [some (.ref pre.length), some (.ref (pre.length + 1)), A2, some (tb L), some (.int c), A5, none, none, none, none, none, none, none, none] (hp pre ⟨bx, q, s⟩ k) =
      .nx [some (.ref pre.length), some (.ref (pre.length + 1)), A2, some (tb L), some (.int c), A5, none, some (r3 r), some (tb (L.filter fun e => e.1 != m)), some (chg (r.p, r.s) (own L r.p r.s) (own (L.filter fun e => e.1 != m) r.p r.s)), some (chg (r.p, r.s) (own L r.p r.s) (own (L.filter fun e => e.1 != m) r.p r.s)), some (.lst (keys L)), some (.int m), x] (hp pre ⟨bx', q, s⟩ k') ∧
      Bx bx' (n + 5) ∧ Rep pre.length k' (n + 2) (L.filter fun e => e.1 != m) c ∧ k'.past = k.past ++ [takeP m r] ∧ (m, r) ∈ L := by
  have hpos : 0 < L.length := List.length_pos_iff.mpr hl
  have hle := g.len
  obtain ⟨f, b1, d1, u1, p1, p2⟩ := e_draw (pre := pre) (q := q) (s := s) (k := k) (many := (L.length : Nat)) hb (by omega) (by omega) (by omega)
  obtain ⟨i, rfl⟩ : ∃ i : Nat, f = i := ⟨f.toNat, by omega⟩
  have hi : i < L.length := by omega
  obtain ⟨m, r, he⟩ : ∃ m r, L[i]? = some (m, r) := ⟨L[i].1, L[i].2, by simp [hi]⟩
  have hm : (m, r) ∈ L := List.mem_of_getElem? he
  have M := rem_take g hm
  have hr : row L m = some r := (row_iff g.asc).mpr hm
  obtain ⟨L', hL'⟩ : ∃ L' : Tb, L' = L.filter fun e => e.1 != m := ⟨_, rfl⟩
  rw [← hL'] at M
  obtain ⟨k', w1, w2, w3⟩ := e_take_row (E := ⟨b1, q, s⟩) (by omega) (R.tl (l := [.dead])) M hp'
  have ch := e_changes (h := hp pre ⟨b1, q, s⟩ k') (r := r) g.asc M.asc'
  have so := sort_keys (h := hp pre ⟨bx, q, s⟩ k) g.asc
  have l1 : lenDF [.lst (keys L)] (hp pre ⟨bx, q, s⟩ k) = .ok (.int (L.length : Nat)) (hp pre ⟨bx, q, s⟩ k) := by rw [len_l, keys_len]
  have i1 : itemD (.lst (keys L)) (.int (i : Nat)) (hp pre ⟨b1, q, s⟩ k) = .ok (.int m) (hp pre ⟨b1, q, s⟩ k) := by
    have : (keys L)[i]? = some (.int m) := by simp [keys, he]
    simp [atI_nat, this]
  have i2 : itemD (tb L) (.int m) (hp pre ⟨b1, q, s⟩ k) = .ok (r3 r) (hp pre ⟨b1, q, s⟩ k) := item_tb hr
  have mc := mapC_if (gs := []) (t := .n 13) (cd := asB (op2 (eqX true) (varC 13) (varC 12))) (el := tupC (consA (varC 13) (consA (op2 itemD (varC 3) (varC 13)) nilA)))
    (S := [some (.ref pre.length), some (.ref (pre.length + 1)), A2, some (tb L), some (.int c), A5, none, some (r3 r), none, none, none, some (.lst (keys L)), some (.int m), none]) (h := hp pre ⟨b1, q, s⟩ k) (xs := L) (f := fun e => .int e.1) (k := fun e => .tup [.int e.1, r3 e.2]) (p := fun e => e.1 != m) gd_nil
    fun e he => ⟨_, rfl, by simp [eqX, neD, bne], fun _ => by
      have := item_tb (h := hp pre ⟨b1, q, s⟩ k) ((row_iff g.asc).mpr (show (e.1, e.2) ∈ L from he))
      simp [this]⟩
  have mk : (L.map fun e => D.int e.1) = keys L := rfl
  rw [mk, ← hL'] at mc
  have dt := dict_tb (h := hp pre ⟨b1, q, s⟩ k) M.asc'
  rw [hp_len, hp_app] at dt
  have fz : fzD (.ref (pre.length + 8 + k.tl.length)) (hp pre ⟨b1, q, s⟩ { k with tl := k.tl ++ [.dct (keys L') (L'.map fun e => r3 e.2)] }) = (tb L', hp pre ⟨b1, q, s⟩ { k with tl := k.tl ++ [.dead] }) := by
    have q1 : (hp pre ⟨b1, q, s⟩ { k with tl := k.tl ++ [.dct (keys L') (L'.map fun e => r3 e.2)] })[pre.length + 8 + k.tl.length]? = some (.dct (keys L') (L'.map fun e => r3 e.2)) := by rw [hp_8]; simp
    simp only [fzD, q1, hp_s8]
    simp [tb]
  refine ⟨m, r, b1, k', none, ?_, u1.more (by omega), hL' ▸ w2, w3, hm⟩
  rw [← hL']
  have lk := (lk_m (N := pre.length) (c := k.c)).2.2.2.2.2.2.1
  simp [takeB, so, keys_len, d1, i1, i2, frz_tb, mc, dt, fzV, fz, lk, w1, ch]
theorem e_restB {L L' : Tb} {c c' : Int} {x6 x11 x12 x13 : Option D} {Q : List D} {fd : D} (hq : q = .lst Q) (hs : s = sD pre.length L c) (hQ : Q.length < 900000) (hfd : Pl 8 fd) :
    restB [some (.ref pre.length), some (.ref (pre.length + 1)), some (.ref (pre.length + 7)), some (tb L), some (.int c'), some (.ref (pre.length + 6)), x6, some (r3 r), some (tb L'), some fd, some fd, x11, x12, x13] (hp pre ⟨bx, q, s⟩ k) =
      .rt (.bl true) (hp pre ⟨bx, .lst (Q ++ [.tup [tb L, r3 r, .int c]]), sD pre.length L' c'⟩ k) := by
  have q6 : (hp pre ⟨bx, q, s⟩ k)[pre.length + 6]? = some (.lst Q) := by rw [hp_6, hq]
  have q7 : (hp pre ⟨bx, q, s⟩ k)[pre.length + 7]? = some (sD pre.length L c) := by rw [hp_7, hs]
  have i1 := (s_items q7).2.1
  have t1 := tyD_lr q6
  have a1 := app_r (x := .tup [tb L, r3 r, .int c]) q6 (by omega)
  rw [hp_s6] at a1
  have q7' : (hp pre ⟨bx, .lst (Q ++ [.tup [tb L, r3 r, .int c]]), s⟩ k)[pre.length + 7]? = some (sD pre.length L c) := by rw [hp_7, hs]
  have s1 := (s_puts (x := tb L') q7').1
  have s1' : (hp pre ⟨bx, .lst (Q ++ [.tup [tb L, r3 r, .int c]]), s⟩ k).set (pre.length + 7) (.dct [.str "rows", .str "coming", .str "past"] [tb L', .int c, .ref (pre.length + 6)]) = hp pre ⟨bx, .lst (Q ++ [.tup [tb L, r3 r, .int c]]), sD pre.length L' c⟩ k := hp_s7
  rw [s1'] at s1
  have q7'' : (hp pre ⟨bx, .lst (Q ++ [.tup [tb L, r3 r, .int c]]), sD pre.length L' c⟩ k)[pre.length + 7]? = some (sD pre.length L' c) := hp_7
  have s2 := (s_puts (x := .int c') q7'').2
  have s2' : (hp pre ⟨bx, .lst (Q ++ [.tup [tb L, r3 r, .int c]]), sD pre.length L' c⟩ k).set (pre.length + 7) (.dct [.str "rows", .str "coming", .str "past"] [tb L', .int c', .ref (pre.length + 6)]) = hp pre ⟨bx, .lst (Q ++ [.tup [tb L, r3 r, .int c]]), sD pre.length L' c'⟩ k := hp_s7
  rw [s2'] at s2
  simp [restB, t1, i1, a1, s1, s2, φ__law_same, e_same hfd]
theorem e_deed {E : Ev} (hn : n < 50000) (W : Wd pre.length E k n es L c) :
    ∃ E' k' es' L' c', φ__law_deed [.ref pre.length, .ref (pre.length + 1), .ref (pre.length + 7)] (hp pre E k) = .ok (.bl true) (hp pre E' k') ∧ Wd pre.length E' k' (n + 10) es' L' c' ∧ es'.length = es.length + 1 := by
  obtain ⟨bx, q, s⟩ := E
  obtain ⟨W1, W2, W3, W4, W5, W6, W7⟩ := W
  have g := W6.good
  have hb : Bx bx n := W1
  have q7 : (hp pre ⟨bx, q, s⟩ k)[pre.length + 7]? = some (sD pre.length L c) := by rw [hp_7]; exact congrArg some W3
  have i1 := s_items q7
  have pl : k.past.length < 900000 := by rw [W4]; simp; omega
  have hQ : ((es.map lawP).reverse).length < 900000 := by simp; omega
  obtain ⟨t, bx', c1, c2, c3, c4⟩ := e_cond (pre := pre) (q := q) (s := s) (k := k) (S := [some (.ref pre.length), some (.ref (pre.length + 1)), some (.ref (pre.length + 7)), some (tb L), some (.int c), some (.ref (pre.length + 6)), none, none, none, none, none, none, none, none]) hb (by omega) g rfl rfl
  have R1 : Rep pre.length k (n + 1) L c := W5.more (by omega)
  cases t with
  | true =>
    obtain ⟨v, r, bx2, k', e1, e2, e3, e4⟩ := e_putB (pre := pre) (q := q) (s := s) (A2 := some (.ref (pre.length + 7))) (A5 := some (.ref (pre.length + 6))) c2 (by omega) g (c3 rfl) R1 pl
    have e5 := e_restB (pre := pre) (bx := bx2) (q := q) (s := s) (k := k') (r := r) (L := L) (L' := L ++ [(c, r)]) (c := c) (c' := c + 1) (x6 := v) (x11 := none) (x12 := none) (x13 := none) W2 W3 hQ (pl_tup (all_c (n := 7) pl_int (all_c pl_chg all_n)) : Pl 8 (.tup [.int c, chg (r.p, r.s) (own L r.p r.s) (own (L ++ [(c, r)]) r.p r.s)]))
    refine ⟨⟨bx2, .lst ((es.map lawP).reverse ++ [.tup [tb L, r3 r, .int c]]), sD pre.length (L ++ [(c, r)]) (c + 1)⟩, k', ⟨L, r, c, c, true⟩ :: es, L ++ [(c, r)], c + 1, ?_, ⟨Bx.more (m := n + 10) e2 (by omega), by simp [lawP], rfl, by rw [e4, W4]; simp [keepP], e3.more (by omega), ⟨good_put g (c3 rfl), ⟨rem_put g, rfl, rfl⟩, W6⟩, by simp; omega⟩, rfl⟩
    unfold φ__law_deed
    simp only [argF_ap, List.length_cons, List.length_nil, if_pos]
    rw [deed_eq]
    simp [i1, c1, e1, e5]
  | false =>
    obtain ⟨m, r, bx2, k', x, e1, e2, e3, e4, e6⟩ := e_takeB (pre := pre) (q := q) (s := s) (A2 := some (.ref (pre.length + 7))) (A5 := some (.ref (pre.length + 6))) c2 (by omega) g (c4 rfl) R1 pl
    have e5 := e_restB (pre := pre) (bx := bx2) (q := q) (s := s) (k := k') (r := r) (L := L) (L' := L.filter fun e => e.1 != m) (c := c) (c' := c) (x6 := none) (x11 := some (.lst (keys L))) (x12 := some (.int m)) (x13 := x) W2 W3 hQ (pl_chg (a := (r.p, r.s)) (os := own L r.p r.s) (vs := own (L.filter fun e => e.1 != m) r.p r.s) (n := 4))
    refine ⟨⟨bx2, .lst ((es.map lawP).reverse ++ [.tup [tb L, r3 r, .int c]]), sD pre.length (L.filter fun e => e.1 != m) c⟩, k', ⟨L, r, c, m, false⟩ :: es, L.filter fun e => e.1 != m, c, ?_, ⟨Bx.more (m := n + 10) e2 (by omega), by simp [lawP], rfl, by rw [e4, W4]; simp [keepP], e3.more (by omega), ⟨good_take g, ⟨rem_take g e6, rfl⟩, W6⟩, by simp; omega⟩, rfl⟩
    unfold φ__law_deed
    simp only [argF_ap, List.length_cons, List.length_nil, if_pos]
    rw [deed_eq]
    simp [i1, c1, e1, e5]
end
end K87

/-! M25: the law's loops. -/
namespace K87
open PySem PySem.Spec L2 G
open PyProof.Rows hiding St
noncomputable def deedsB : CS := ifS (orT (notT (asT (callC φ__law_deed (consA (varC 2) (consA (varC 3) (consA (varC 4) nilA)))))) (andT (asB (op2 (eqX false) (op2 modD (varC 6) (cstC (.int 20))) (cstC (.int 0)))) (notT (asT (callC φ__law_stands (consA (varC 3) (consA (op2 itemD (varC 4) (cstC (.str "rows"))) nilA)))))))
  (retC (cstC (.bl false)))
  skipC
noncomputable def backB : CS := ifS (notT (asT (callC φ__law_back (consA (varC 3) (consA (varC 4) nilA)))))
  (retC (cstC (.bl false)))
  skipC
noncomputable def goneB : CS := ifS (orT (notT (asT (callC φ__law_deed (consA (varC 2) (consA (varC 3) (consA (varC 4) nilA)))))) (notT (asT (callC φ__law_is_gone (consA (varC 3) (consA (varC 4) nilA))))))
  (retC (cstC (.bl false)))
  skipC
noncomputable def standB : CS := ifS (notT (asT (callC φ__law_stands (consA (varC 3) (consA (op2 itemD (varC 4) (cstC (.str "rows"))) nilA)))))
  (retC (cstC (.bl false)))
  skipC
noncomputable def pastT : CT := asB (op2 (eqY true) (op2 itemD (varC 4) (cstC (.str "past"))) (lstC false nilA))
noncomputable def endB : CS := seqC (ifS (orT (asB (op2 (isD true) (methC "Keeper" "undo" φ_Keeper_undo (varC 3) nilA) (cstC .non))) (orT (asB (op2 (isD true) (methC "Keeper" "undo" φ_Keeper_undo (varC 3) nilA) (cstC .non))) (notT (asT (callC φ__law_stands (consA (varC 3) (consA (dct0 false) nilA)))))))
  (retC (cstC (.bl false)))
  skipC)
  (ifS (asB (op2 (eqX true) (methC "Keeper" "put_row" φ_Keeper_put_row (varC 3) (consA (tupC (consA (cstC (.int 1)) (consA (cstC (.str "x")) (consA (cstC (.int 2)) (consA (cstC (.int 2)) nilA))))) nilA)) (tupC (consA (cstC (.int 0)) (consA (lstC false (consA (tupC (consA (tupC (consA (cstC (.int 1)) nilA)) (consA (tupC (consA (cstC (.str "x")) nilA)) (consA (cstC .non) (consA (tupC (consA (cstC (.int 2)) (consA (cstC (.int 1)) nilA))) nilA))))) nilA)) nilA)))))
  (retC (cstC (.bl false)))
  skipC)
section
variable {pre : AH} {E : Ev} {k : KS} {n : Nat} {L : Tb} {c : Int} {es : List Ent} {A B F : Option D}
def SV (pre : AH) (A B F G : Option D) : Sl := [A, B, some (.ref pre.length), some (.ref (pre.length + 1)), some (.ref (pre.length + 7)), F, G]
theorem rows_item (W : Wd pre.length E k n es L c) : itemD (.ref (pre.length + 7)) (.str "rows") (hp pre E k) = .ok (tb L) (hp pre E k) := (s_items (by rw [hp_7]; exact congrArg some W.s)).1
theorem past_item (W : Wd pre.length E k n es L c) : itemD (.ref (pre.length + 7)) (.str "past") (hp pre E k) = .ok (.ref (pre.length + 6)) (hp pre E k) := (s_items (by rw [hp_7]; exact congrArg some W.s)).2.2
theorem deeds_loop : ∀ {is : List Int} {E : Ev} {k : KS} {n : Nat} {L : Tb} {c : Int} {es : List Ent} {G : Option D}, n + 10 * is.length < 50000 → Wd pre.length E k n es L c →
    ∃ E' k' es' L' c' G', loopC [] (nameG 6) deedsB (is.map D.int) (SV pre A B F G) (hp pre E k) = .nx (SV pre A B F G') (hp pre E' k') ∧ Wd pre.length E' k' (n + 10 * is.length) es' L' c' ∧ es'.length = es.length + is.length
  | [], E, k, n, L, c, es, G, _, W => ⟨E, k, es, L, c, G, rfl, W, rfl⟩
  | i :: is, E, k, n, L, c, es, G, hn, W => by
    simp only [List.length_cons] at hn
    obtain ⟨E1, k1, es1, L1, c1, e1, W1, q1⟩ := e_deed (by omega) W
    obtain ⟨E2, k2, es2, L2, c2, G2, e2, W2, q2⟩ := deeds_loop (is := is) (G := some (.int i)) (by omega) W1
    refine ⟨E2, k2, es2, L2, c2, G2, ?_, ?_, by simp only [List.length_cons]; omega⟩
    · rw [← e2]
      have r1 := rows_item W1
      have st := e_stands (E := E1) W1.rep
      have x1 : ∀ j : Int, eqX false (.int j) (.int 0) (hp pre E1 k1) = .ok (.bl (j == 0)) (hp pre E1 k1) := fun j => by simp [eqX, eqD]
      simp only [List.map_cons, loopC, SV, nameG_ap, List.set_cons_succ, List.set_cons_zero, sb_nx, deedsB, ifS_ap, orT_ap, notT_ap, asT_ap, callC_ap, consA_ap, nilA_ap, varC_ap, List.getElem?_cons_succ, List.getElem?_cons_zero, rb_ok, e1, tr_bl, Bool.not_true, Bool.false_eq_true, if_false, andT_ap, asB_ap, op2_ap, cstC_ap, mod_i, show (0 : Int) < 20 from by omega, if_true, x1, r1, st]
      cases hq : (i % 20 == 0 : Bool) <;> simp only [hq, if_true, if_false, Bool.false_eq_true, rb_ok, rs_ok, skipC_ap, st_nx, gd_nil]
    · have : n + 10 * (is.length + 1) = n + 10 + 10 * is.length := by omega
      simp only [List.length_cons, this]; exact W2
theorem back_loop : ∀ {is : List Int} {E : Ev} {k : KS} {n : Nat} {L : Tb} {c : Int} {es : List Ent} {G : Option D}, n + 10 * is.length < 50000 → is.length ≤ es.length → Wd pre.length E k n es L c →
    ∃ E' k' es' L' c' G', loopC [] (nameG 6) backB (is.map D.int) (SV pre A B F G) (hp pre E k) = .nx (SV pre A B F G') (hp pre E' k') ∧ Wd pre.length E' k' (n + 10 * is.length) es' L' c' ∧ es'.length ≤ es.length
  | [], E, k, n, L, c, es, G, _, _, W => ⟨E, k, es, L, c, G, rfl, W, Nat.le_refl _⟩
  | i :: is, E, k, n, L, c, [], G, hn, hl, W => by simp at hl
  | i :: is, E, k, n, L, c, e :: es, G, hn, hl, W => by
    simp only [List.length_cons] at hn hl
    obtain ⟨E1, k1, e1, W1⟩ := e_back (by omega) W
    obtain ⟨E2, k2, es2, L2, c2, G2, e2, W2, q2⟩ := back_loop (is := is) (G := some (.int i)) (by omega) (by omega) W1
    refine ⟨E2, k2, es2, L2, c2, G2, ?_, ?_, by simp only [List.length_cons]; omega⟩
    · rw [← e2]
      simp only [List.map_cons, loopC, SV, nameG_ap, List.set_cons_succ, List.set_cons_zero, sb_nx, backB, ifS_ap, notT_ap, asT_ap, callC_ap, consA_ap, nilA_ap, varC_ap, List.getElem?_cons_succ, List.getElem?_cons_zero, rb_ok, e1, tr_bl, Bool.not_true, Bool.false_eq_true, if_false, rs_ok, skipC_ap, st_nx, gd_nil, if_true]
    · have : n + 10 * (is.length + 1) = n + 10 + 10 * is.length := by omega
      simp only [List.length_cons, this]; exact W2
theorem gone_loop : ∀ {is : List Int} {E : Ev} {k : KS} {n : Nat} {L : Tb} {c : Int} {es : List Ent} {G : Option D}, n + 10 * is.length < 50000 → Wd pre.length E k n es L c →
    ∃ E' k' es' L' c' G', loopC [] (nameG 6) goneB (is.map D.int) (SV pre A B F G) (hp pre E k) = .nx (SV pre A B F G') (hp pre E' k') ∧ Wd pre.length E' k' (n + 10 * is.length) es' L' c' ∧ es'.length = es.length + is.length
  | [], E, k, n, L, c, es, G, _, W => ⟨E, k, es, L, c, G, rfl, W, rfl⟩
  | i :: is, E, k, n, L, c, es, G, hn, W => by
    simp only [List.length_cons] at hn
    obtain ⟨E1, k1, es1, L1, c1, e1, W1, q1⟩ := e_deed (by omega) W
    obtain ⟨E2, k2, es2, L2, c2, G2, e2, W2, q2⟩ := gone_loop (is := is) (G := some (.int i)) (by omega) W1
    refine ⟨E2, k2, es2, L2, c2, G2, ?_, ?_, by simp only [List.length_cons]; omega⟩
    · rw [← e2]
      have g1 := e_gone W1
      simp only [List.map_cons, loopC, SV, nameG_ap, List.set_cons_succ, List.set_cons_zero, sb_nx, goneB, ifS_ap, orT_ap, notT_ap, asT_ap, callC_ap, consA_ap, nilA_ap, varC_ap, List.getElem?_cons_succ, List.getElem?_cons_zero, rb_ok, e1, g1, tr_bl, Bool.not_true, Bool.false_eq_true, if_false, rs_ok, skipC_ap, st_nx, gd_nil, if_true]
    · have : n + 10 * (is.length + 1) = n + 10 + 10 * is.length := by omega
      simp only [List.length_cons, this]; exact W2
theorem while_loop : ∀ {m : Nat} {es : List Ent} {E : Ev} {k : KS} {n : Nat} {L : Tb} {c : Int} {G : Option D}, n + 10 * es.length < 50000 → es.length < m → Wd pre.length E k n es L c →
    ∃ E' k', whileC pastT backB m (SV pre A B F G) (hp pre E k) = .nx (SV pre A B F G) (hp pre E' k') ∧ Wd pre.length E' k' (n + 10 * es.length) [] [] 0
  | 0, es, E, k, n, L, c, G, _, hm, _ => absurd hm (Nat.not_lt_zero _)
  | m + 1, es, E, k, n, L, c, G, hn, hm, W => by
    have p1 := past_item W
    have em : emptyL (.ref (pre.length + 6)) (.lst []) (hp pre E k) = some es.isEmpty := by
      have s1 := seqOf_ref (h := hp pre E k) (n := pre.length + 6) (xs := (es.map lawP).reverse) (by rw [hp_6, W.q])
      unfold emptyL
      rw [s1]
      cases es <;> simp [isT]
    have t1 : pastT (SV pre A B F G) (hp pre E k) = .ok (!es.isEmpty) (hp pre E k) := by
      simp only [pastT, SV, asB_ap, op2_ap, varC_ap, cstC_ap, lstC_ap, nilA_ap, List.getElem?_cons_succ, List.getElem?_cons_zero, rb_ok, p1, List.length_nil, Nat.zero_le, if_true, newL_f, eqY, em, nb_t]
    cases es with
    | nil =>
      refine ⟨E, k, ?_, ?_⟩
      · simp only [whileC, t1, List.isEmpty_nil, Bool.not_true, rs_ok, Bool.false_eq_true, if_false]
      · obtain ⟨h1, h2⟩ := W.ch
        subst h1; subst h2
        simpa using W
    | cons e es =>
      simp only [List.length_cons] at hn hm
      obtain ⟨E1, k1, e1, W1⟩ := e_back (by omega) W
      obtain ⟨E2, k2, e2, W2⟩ := while_loop (m := m) (G := G) (by omega) (by omega) W1
      refine ⟨E2, k2, ?_, ?_⟩
      · rw [← e2]
        have b1 : backB (SV pre A B F G) (hp pre E k) = .nx (SV pre A B F G) (hp pre E1 k1) := by
          simp only [SV, backB, ifS_ap, notT_ap, asT_ap, callC_ap, consA_ap, nilA_ap, varC_ap, List.getElem?_cons_succ, List.getElem?_cons_zero, rb_ok, e1, tr_bl, Bool.not_true, Bool.false_eq_true, if_false, rs_ok, skipC_ap]
        simp only [whileC, t1, List.isEmpty_cons, Bool.not_false, rs_ok, if_true, b1, st_nx]
      · have : n + 10 * (es.length + 1) = n + 10 + 10 * es.length := by omega
        simp only [List.length_cons, this]; exact W2
theorem e_stand {G : Option D} (W : Wd pre.length E k n es L c) : standB (SV pre A B F G) (hp pre E k) = .nx (SV pre A B F G) (hp pre E k) := by
  have r1 := rows_item W
  have st := e_stands (E := E) W.rep
  simp only [standB, SV, ifS_ap, notT_ap, asT_ap, callC_ap, consA_ap, nilA_ap, varC_ap, op2_ap, cstC_ap, List.getElem?_cons_succ, List.getElem?_cons_zero, rb_ok, r1, st, tr_bl, Bool.not_true, rs_ok, Bool.false_eq_true, if_false, skipC_ap]
theorem e_end {G : Option D} (hn : n < 50000) (W : Wd pre.length E k n [] [] 0) : ∃ k', endB (SV pre A B F G) (hp pre E k) = .nx (SV pre A B F G) (hp pre E k') := by
  have hp0 : k.past = [] := by rw [W.past]; rfl
  have u1 := e_undo_no (pre := pre) (E := E) hp0
  have st := e_stands (E := E) W.rep
  have tb0 : tb [] = .dct [] [] := rfl
  rw [tb0] at st
  have M : Rem [((0 : Int), (⟨1, "x", 2⟩ : Row))] 0 ⟨1, "x", 2⟩ [] := ⟨by simp [Asc], by simp, by simp⟩
  obtain ⟨k', e1, _, _⟩ := e_put_row (E := E) (by omega) W.rep M (by simp) (by rw [hp0]; simp)
  have lk := lk_m (N := pre.length) (c := k.c)
  have rd : D.tup [.int 1, .str "x", .int 2, .int 2] = r4 ⟨1, "x", 2⟩ := rfl
  have o1 : own [] 1 "x" = [] := rfl
  have o2 : own [((0 : Int), (⟨1, "x", 2⟩ : Row))] 1 "x" = [2] := rfl
  have cg : chg (1, "x") [] [2] = .lst [.tup [.tup [.int 1], .tup [.str "x"], .non, .tup [.int 2, .int 1]]] := by
    simp [chg, cellN, cellD]
  simp only [o1, o2, cg] at e1
  have x1 : eqX true (.tup [.int 0, .lst [.tup [.tup [.int 1], .tup [.str "x"], .non, .tup [.int 2, .int 1]]]]) (.tup [.int 0, .lst [.tup [.tup [.int 1], .tup [.str "x"], .non, .tup [.int 2, .int 1]]]]) (hp pre E k') = .ok (.bl false) (hp pre E k') := by
    simp [eqX, neD, dO_tup, dO_lst]
  refine ⟨k', ?_⟩
  simp [endB, SV, lk, u1, isD, _root_.G.isNon, st, rd, e1, x1]
end
end K87

/-! M26: the law tells True. -/
namespace K87
open PySem PySem.Spec L2 G
open PyProof.Rows hiding St
noncomputable def setA : CS := asgC (callC φ__law_box (consA (varC 0) (consA (varC 1) nilA))) (nameG 2)
noncomputable def setB : CS := asgC (makeC "Keeper" φ_Keeper_init (consA (lstC false (consA (cstC (.str "a")) (consA (cstC (.str "b")) (consA (cstC (.str "c")) (consA (cstC (.str "d")) nilA))))) (consA (lstC false (consA (cstC (.str "a")) nilA)) (consA (lstC false (consA (cstC (.str "b")) nilA)) (consA (lstC false (consA (cstC (.str "c")) (consA (cstC (.str "d")) nilA))) (consA (lstC false (consA (cstC (.str "sum")) (consA (cstC (.str "count")) nilA))) (consA (cstC (.str "seen")) nilA))))))) (nameG 3)
noncomputable def setS : CS := asgC (dispC true [("rows", (dct0 false)), ("coming", (cstC (.int 0))), ("past", (lstC true nilA))]) (nameG 4)
noncomputable def runB : CS := seqC (asgC (op2 (addD false) (cstC (.int 80)) (callC φ__law_take (consA (varC 2) (consA (cstC (.int 71)) nilA)))) (nameG 5))
  (seqC (forC (rng1S (consA (varC 5) nilA)) (nameG 6) deedsB)
  (seqC (forC (rng1S (consA (op2 fdivD (varC 5) (cstC (.int 2))) nilA)) (nameG 6) backB)
  (seqC (forC (rng1S (consA (cstC (.int 10)) nilA)) (nameG 6) goneB)
  (seqC standB
  (seqC (whileC pastT backB 1000) endB)))))
noncomputable def turnB : CS := seqC setA (seqC setB (seqC setS runB))
theorem law_eq : b_law = seqC (forC (rng1S (consA (op2 (addD false) (cstC (.int 1)) (apC minF (consA (cstC (.int 3)) (consA (apC lenDF (consA (varC 0) nilA)) nilA)))) nilA)) (nameG 1) turnB) (retC (cstC (.bl true))) := rfl
def k0 : KS := ⟨0, [], [], [], [], [], [], [], []⟩
theorem e_setup {pre : AH} {ns : List Int} {i : Nat} {x2 x3 x4 x5 x6 : Option D} : ∃ b0 b1 : Int, ∀ rest : CS, (seqC setA (seqC setB (seqC setS rest))) [some (.scr ns), some (.int i), x2, x3, x4, x5, x6] pre = rest (SV pre (some (.scr ns)) (some (.int i)) x5 x6) (hp pre ⟨.lst [.int b0, .int b1, .int 0], .lst [], sD pre.length [] 0⟩ k0) := by
  obtain ⟨b0, b1, hb⟩ := e_box (ns := ns) (k := i) (h := pre)
  refine ⟨b0, b1, fun rest => ?_⟩
  have ini := e_init (h1 := pre ++ [O.lst [.int b0, .int b1, .int 0]]) (S := [])
  simp only [colD, w_sum, w_count] at ini
  have k1 : kh (pre ++ [O.lst [.int b0, .int b1, .int 0]]) [] [] = pre ++ [O.lst [.int b0, .int b1, .int 0]] ++ [.ins "Keeper" []] := rfl
  rw [k1] at ini
  have dm : ∀ a b c : D, dmerge [] [] (keysD [("rows", (dct0 false)), ("coming", (cstC (.int 0))), ("past", (lstC true nilA))]) [a, b, c] = ([.str "rows", .str "coming", .str "past"], [a, b, c]) := fun _ _ _ => rfl
  simp only [setA, setB, setS, seqC_ap, asgC_ap, callC_ap, consA_ap, nilA_ap, varC_ap, List.getElem?_cons_succ, List.getElem?_cons_zero, rb_ok, hb, rs_ok, nameG_ap, List.set_cons_succ, List.set_cons_zero, sb_nx, makeC_ap, lstC_ap, cstC_ap, List.length_cons, List.length_nil, newL_f, show (0 : Nat) + 1 ≤ 16777216 from by omega, show (0 : Nat) + 1 + 1 ≤ 16777216 from by omega, show (0 : Nat) + 1 + 1 + 1 + 1 ≤ 16777216 from by omega, if_true, ini]
  simp only [dispC_ap, List.map_cons, List.map_nil, valsC_cons, valsC_nil, dct0_f, nx_ok, rb_ok, cstC_ap, lstC_ap, nilA_ap, List.length_nil, Nat.zero_le, if_true, newL_t, newDct_t, dm, rs_ok, nameG_ap, List.set_cons_succ, List.set_cons_zero, sb_nx]
  simp [SV, hp, kh, kf, sD, tb, keys, k0]
theorem e_turn {pre : AH} {ns : List Int} {i : Nat} {x2 x3 x4 x5 x6 : Option D} : ∃ y1 y2 y3 y4 y5 y6 pre', turnB [some (.scr ns), some (.int i), x2, x3, x4, x5, x6] pre = .nx [some (.scr ns), y1, y2, y3, y4, y5, y6] pre' := by
  obtain ⟨b0, b1, hs⟩ := e_setup (pre := pre) (ns := ns) (i := i) (x2 := x2) (x3 := x3) (x4 := x4) (x5 := x5) (x6 := x6)
  have W0 : Wd pre.length ⟨.lst [.int b0, .int b1, .int 0], .lst [], sD pre.length [] 0⟩ k0 0 [] [] 0 := by
    refine ⟨⟨b0, b1, 0, rfl, by omega, by omega⟩, rfl, rfl, rfl, ⟨rfl, by simp [Asc], by simp, ?_, ?_, fun _ => 0, ?_, ?_, ?_⟩, ⟨rfl, rfl⟩, by simp⟩
    · exact DK.of .nil (by funext a; rfl)
    · exact DK.of .nil (by funext a; rfl)
    · exact DK.of .nil (by funext a; rfl)
    · intro a ha; exact absurd rfl ha
    · intro a b ha; exact absurd rfl ha
  obtain ⟨f, bx, d1, u1, p1, p2⟩ := e_draw (pre := pre) (q := .lst []) (s := sD pre.length [] 0) (k := k0) (n := 0) (many := 71) W0.box (by omega) (by omega) (by omega)
  have W1 : Wd pre.length ⟨bx, .lst [], sD pre.length [] 0⟩ k0 1 [] [] 0 := ⟨u1, rfl, rfl, rfl, W0.rep.more (by omega), W0.ch, by simp⟩
  have hm : (80 + f).toNat ≤ 151 := by omega
  have lr : ∀ m : Nat, ∃ is : List Int, intsFrom 0 m = is.map D.int ∧ is.length = m := fun m => ⟨(List.range m).map fun (i : Nat) => (0 : Int) + (i : Int), by simp [G.intsFrom], by simp⟩
  obtain ⟨is1, i1, j1⟩ := lr (80 + f).toNat
  obtain ⟨is2, i2, j2⟩ := lr ((80 + f) / 2).toNat
  obtain ⟨is3, i3, j3⟩ := lr (10 : Int).toNat
  have j3' : is3.length = 10 := j3
  obtain ⟨E1, k1, es1, L1, c1, G1, e1, V1, q1⟩ := deeds_loop (A := some (.scr ns)) (B := some (.int i)) (F := some (.int (80 + f))) (is := is1) (G := x6) (by omega) W1
  obtain ⟨E2, k2, es2, L2, c2, G2, e2, V2, q2⟩ := back_loop (A := some (.scr ns)) (B := some (.int i)) (F := some (.int (80 + f))) (is := is2) (G := G1) (by omega) (by simp at q1; omega) V1
  obtain ⟨E3, k3, es3, L3, c3, G3, e3, V3, q3⟩ := gone_loop (A := some (.scr ns)) (B := some (.int i)) (F := some (.int (80 + f))) (is := is3) (G := G2) (by omega) V2
  have st := e_stand (A := some (.scr ns)) (B := some (.int i)) (F := some (.int (80 + f))) (G := G3) V3
  have l3 : es3.length < 1000 := by simp at q1; omega
  obtain ⟨E4, k4, e4, V4⟩ := while_loop (A := some (.scr ns)) (B := some (.int i)) (F := some (.int (80 + f))) (m := 1000) (G := G3) (by omega) l3 V3
  obtain ⟨k5, e5⟩ := e_end (A := some (.scr ns)) (B := some (.int i)) (F := some (.int (80 + f))) (G := G3) (by omega) V4
  have c1' : -(2 ^ 62) ≤ (80 + f) ∧ (80 + f) ≤ 16777216 := by omega
  have c2' : -(2 ^ 62) ≤ ((80 + f) / 2) ∧ ((80 + f) / 2) ≤ 16777216 := by omega
  have c3' : -(2 ^ 62) ≤ (10 : Int) ∧ (10 : Int) ≤ 16777216 := by omega
  have c4' : (0 : Int) < 2 ∧ (2 : Int).natAbs.log2 < 9000 := by decide
  have rn : turnB [some (.scr ns), some (.int i), x2, x3, x4, x5, x6] pre = .nx (SV pre (some (.scr ns)) (some (.int i)) (some (.int (80 + f))) G3) (hp pre E4 k5) := by
    unfold turnB
    rw [hs]
    have a1 : (asgC (op2 (addD false) (cstC (.int 80)) (callC φ__law_take (consA (varC 2) (consA (cstC (.int 71)) nilA)))) (nameG 5)) (SV pre (some (.scr ns)) (some (.int i)) x5 x6) (hp pre ⟨.lst [.int b0, .int b1, .int 0], .lst [], sD pre.length [] 0⟩ k0) = .nx (SV pre (some (.scr ns)) (some (.int i)) (some (.int (80 + f))) x6) (hp pre ⟨bx, .lst [], sD pre.length [] 0⟩ k0) := by
      simp only [SV, asgC_ap, op2_ap, cstC_ap, callC_ap, consA_ap, nilA_ap, varC_ap, List.getElem?_cons_succ, List.getElem?_cons_zero, rb_ok, d1, add_i, rs_ok, nameG_ap, List.set_cons_succ, List.set_cons_zero]
    have a2 : (forC (rng1S (consA (varC 5) nilA)) (nameG 6) deedsB) (SV pre (some (.scr ns)) (some (.int i)) (some (.int (80 + f))) x6) (hp pre ⟨bx, .lst [], sD pre.length [] 0⟩ k0) = .nx (SV pre (some (.scr ns)) (some (.int i)) (some (.int (80 + f))) G1) (hp pre E1 k1) := by
      rw [← e1]
      simp only [SV, forC_ap, rng1S_ap, consA_ap, nilA_ap, varC_ap, List.getElem?_cons_succ, List.getElem?_cons_zero, rb_ok, c1', and_self, if_true, rs_ok, i1]
    have a3 : (forC (rng1S (consA (op2 fdivD (varC 5) (cstC (.int 2))) nilA)) (nameG 6) backB) (SV pre (some (.scr ns)) (some (.int i)) (some (.int (80 + f))) G1) (hp pre E1 k1) = .nx (SV pre (some (.scr ns)) (some (.int i)) (some (.int (80 + f))) G2) (hp pre E2 k2) := by
      rw [← e2]
      simp only [SV, forC_ap, rng1S_ap, consA_ap, nilA_ap, varC_ap, op2_ap, cstC_ap, List.getElem?_cons_succ, List.getElem?_cons_zero, rb_ok, fdiv_i, c4', c2', and_self, if_true, rs_ok, i2]
    have a4 : (forC (rng1S (consA (cstC (.int 10)) nilA)) (nameG 6) goneB) (SV pre (some (.scr ns)) (some (.int i)) (some (.int (80 + f))) G2) (hp pre E2 k2) = .nx (SV pre (some (.scr ns)) (some (.int i)) (some (.int (80 + f))) G3) (hp pre E3 k3) := by
      rw [← e3]
      simp only [forC_ap, rng1S_ap, consA_ap, nilA_ap, cstC_ap, rb_ok, c3', and_self, if_true, rs_ok, i3]
    simp only [runB, seqC_ap, a1, a2, a3, a4, st, e4, e5, sb_nx]
  exact ⟨_, _, _, _, _, _, _, rn⟩
theorem turns {ns : List Int} : ∀ {is : List Nat} {pre : AH} {x1 x2 x3 x4 x5 x6 : Option D}, ∃ y1 y2 y3 y4 y5 y6 pre', loopC [] (nameG 1) turnB (is.map fun (i : Nat) => D.int ((0 : Int) + (i : Int))) [some (.scr ns), x1, x2, x3, x4, x5, x6] pre = .nx [some (.scr ns), y1, y2, y3, y4, y5, y6] pre'
  | [], pre, x1, x2, x3, x4, x5, x6 => ⟨_, _, _, _, _, _, _, rfl⟩
  | i :: is, pre, x1, x2, x3, x4, x5, x6 => by
    obtain ⟨y1, y2, y3, y4, y5, y6, pre1, e1⟩ := e_turn (pre := pre) (ns := ns) (i := i) (x2 := x2) (x3 := x3) (x4 := x4) (x5 := x5) (x6 := x6)
    obtain ⟨z1, z2, z3, z4, z5, z6, pre2, e2⟩ := turns (ns := ns) (is := is) (pre := pre1) (x1 := y1) (x2 := y2) (x3 := y3) (x4 := y4) (x5 := y5) (x6 := y6)
    refine ⟨z1, z2, z3, z4, z5, z6, pre2, ?_⟩
    rw [← e2]
    simp only [List.map_cons, loopC, nameG_ap, List.set_cons_succ, List.set_cons_zero, sb_nx, Int.zero_add, e1, st_nx, gd_nil, if_true]
theorem law_true (xs : List Int) (h : xs.length ≤ 63) : ∃ h1, φ_law [.scr xs] [] = .ok (.bl true) h1 := by
  have c1 : -(2 ^ 62) ≤ (1 + (if ((xs.length : Nat) : Int) < 3 then ((xs.length : Nat) : Int) else 3)) ∧ (1 + (if ((xs.length : Nat) : Int) < 3 then ((xs.length : Nat) : Int) else 3)) ≤ 16777216 := by
    constructor <;> split <;> omega
  obtain ⟨y1, y2, y3, y4, y5, y6, pre', e1⟩ := turns (ns := xs) (is := List.range (1 + (if ((xs.length : Nat) : Int) < 3 then ((xs.length : Nat) : Int) else 3)).toNat) (pre := []) (x1 := none) (x2 := none) (x3 := none) (x4 := none) (x5 := none) (x6 := none)
  refine ⟨pre', ?_⟩
  unfold φ_law
  simp only [argF_ap, List.length_cons, List.length_nil, if_pos]
  rw [law_eq]
  have r6 : (List.replicate (7 - (0 + 1)) (none : Option D)) = [none, none, none, none, none, none] := rfl
  simp only [runF_ap, List.map_cons, List.map_nil, List.cons_append, List.nil_append, List.length_cons, List.length_nil, r6, seqC_ap, forC_ap, rng1S_ap, consA_ap, nilA_ap, op2_ap, cstC_ap, apC_ap, varC_ap, List.getElem?_cons_zero, rb_ok, len_s, min_i, add_i, c1, and_self, if_true, rs_ok, G.intsFrom, e1, sb_nx, retC_ap]
end K87

open PySem PySem.Spec L2 G
open PyProof.Rows hiding St


theorem K87.txt_mk {K : PySem.W.Frag} {h : Heap} {mg : Str → Option Value} (X : K.In h) (Gn : h.Ns mainGlobals mg)
    {C_Keeper C_NoRow : Addr} {f__law_cell_at : Addr} {od__law_cell_at an__law_cell_at : Option Addr} {sl__law_cell_at : Array (Option Value)} {oc__law_cell_at kV__law_cell_at dc__law_cell_at pm__law_cell_at cd__law_cell_at ct__law_cell_at : Value} {f__law_box : Addr} {od__law_box an__law_box : Option Addr} {sl__law_box : Array (Option Value)} {oc__law_box kV__law_box dc__law_box pm__law_box cd__law_box ct__law_box : Value} {f_look_parted : Addr} {od_look_parted an_look_parted : Option Addr} {sl_look_parted : Array (Option Value)} {oc_look_parted kV_look_parted dc_look_parted pm_look_parted cd_look_parted ct_look_parted : Value} {f_look_order : Addr} {od_look_order an_look_order : Option Addr} {sl_look_order : Array (Option Value)} {oc_look_order kV_look_order dc_look_order pm_look_order cd_look_order ct_look_order : Value} {f_look_ways : Addr} {od_look_ways an_look_ways : Option Addr} {sl_look_ways : Array (Option Value)} {oc_look_ways kV_look_ways dc_look_ways pm_look_ways cd_look_ways ct_look_ways : Value} {f_places_of : Addr} {od_places_of an_places_of : Option Addr} {sl_places_of : Array (Option Value)} {oc_places_of kV_places_of dc_places_of pm_places_of cd_places_of ct_places_of : Value} {f_at_places : Addr} {od_at_places an_at_places : Option Addr} {sl_at_places : Array (Option Value)} {oc_at_places kV_at_places dc_at_places pm_at_places cd_at_places ct_at_places : Value} {f_parts_of : Addr} {od_parts_of an_parts_of : Option Addr} {sl_parts_of : Array (Option Value)} {oc_parts_of kV_parts_of dc_parts_of pm_parts_of cd_parts_of ct_parts_of : Value} {f_wide_of : Addr} {od_wide_of an_wide_of : Option Addr} {sl_wide_of : Array (Option Value)} {oc_wide_of kV_wide_of dc_wide_of pm_wide_of cd_wide_of ct_wide_of : Value} {f_is_number : Addr} {od_is_number an_is_number : Option Addr} {sl_is_number : Array (Option Value)} {oc_is_number kV_is_number dc_is_number pm_is_number cd_is_number ct_is_number : Value} {f_sum_of : Addr} {od_sum_of an_sum_of : Option Addr} {sl_sum_of : Array (Option Value)} {oc_sum_of kV_sum_of dc_sum_of pm_sum_of cd_sum_of ct_sum_of : Value} {f_put_together : Addr} {od_put_together an_put_together : Option Addr} {sl_put_together : Array (Option Value)} {oc_put_together kV_put_together dc_put_together pm_put_together cd_put_together ct_put_together : Value} {f_cell_of : Addr} {od_cell_of an_cell_of : Option Addr} {sl_cell_of : Array (Option Value)} {oc_cell_of kV_cell_of dc_cell_of pm_cell_of cd_cell_of ct_cell_of : Value} {f_unlike_ones : Addr} {od_unlike_ones an_unlike_ones : Option Addr} {sl_unlike_ones : Array (Option Value)} {oc_unlike_ones kV_unlike_ones dc_unlike_ones pm_unlike_ones cd_unlike_ones ct_unlike_ones : Value} {f_heads_by : Addr} {od_heads_by an_heads_by : Option Addr} {sl_heads_by : Array (Option Value)} {oc_heads_by kV_heads_by dc_heads_by pm_heads_by cd_heads_by ct_heads_by : Value} {f_numbers_by : Addr} {od_numbers_by an_numbers_by : Option Addr} {sl_numbers_by : Array (Option Value)} {oc_numbers_by kV_numbers_by dc_numbers_by pm_numbers_by cd_numbers_by ct_numbers_by : Value} {f_rows_at : Addr} {od_rows_at an_rows_at : Option Addr} {sl_rows_at : Array (Option Value)} {oc_rows_at kV_rows_at dc_rows_at pm_rows_at cd_rows_at ct_rows_at : Value} {f_folded_by : Addr} {od_folded_by an_folded_by : Option Addr} {sl_folded_by : Array (Option Value)} {oc_folded_by kV_folded_by dc_folded_by pm_folded_by cd_folded_by ct_folded_by : Value} {f_Keeper_init : Addr} {od_Keeper_init an_Keeper_init : Option Addr} {sl_Keeper_init : Array (Option Value)} {oc_Keeper_init kV_Keeper_init dc_Keeper_init pm_Keeper_init cd_Keeper_init ct_Keeper_init : Value} {f__law_take : Addr} {od__law_take an__law_take : Option Addr} {sl__law_take : Array (Option Value)} {oc__law_take kV__law_take dc__law_take pm__law_take cd__law_take ct__law_take : Value} {f__law_same : Addr} {od__law_same an__law_same : Option Addr} {sl__law_same : Array (Option Value)} {oc__law_same kV__law_same dc__law_same pm__law_same cd__law_same ct__law_same : Value} {f_Keeper_wide_now : Addr} {od_Keeper_wide_now an_Keeper_wide_now : Option Addr} {sl_Keeper_wide_now : Array (Option Value)} {oc_Keeper_wide_now kV_Keeper_wide_now dc_Keeper_wide_now pm_Keeper_wide_now cd_Keeper_wide_now ct_Keeper_wide_now : Value} {f_Keeper_rows_now : Addr} {od_Keeper_rows_now an_Keeper_rows_now : Option Addr} {sl_Keeper_rows_now : Array (Option Value)} {oc_Keeper_rows_now kV_Keeper_rows_now dc_Keeper_rows_now pm_Keeper_rows_now cd_Keeper_rows_now ct_Keeper_rows_now : Value} {f_Keeper_rows_of : Addr} {od_Keeper_rows_of an_Keeper_rows_of : Option Addr} {sl_Keeper_rows_of : Array (Option Value)} {oc_Keeper_rows_of kV_Keeper_rows_of dc_Keeper_rows_of pm_Keeper_rows_of cd_Keeper_rows_of ct_Keeper_rows_of : Value} {f__law_cell_of : Addr} {od__law_cell_of an__law_cell_of : Option Addr} {sl__law_cell_of : Array (Option Value)} {oc__law_cell_of kV__law_cell_of dc__law_cell_of pm__law_cell_of cd__law_cell_of ct__law_cell_of : Value} {f__law_stands : Addr} {od__law_stands an__law_stands : Option Addr} {sl__law_stands : Array (Option Value)} {oc__law_stands kV__law_stands dc__law_stands pm__law_stands cd__law_stands ct__law_stands : Value} {f_Keeper_place_of : Addr} {od_Keeper_place_of an_Keeper_place_of : Option Addr} {sl_Keeper_place_of : Array (Option Value)} {oc_Keeper_place_of kV_Keeper_place_of dc_Keeper_place_of pm_Keeper_place_of cd_Keeper_place_of ct_Keeper_place_of : Value} {f_Keeper_cell_of : Addr} {od_Keeper_cell_of an_Keeper_cell_of : Option Addr} {sl_Keeper_cell_of : Array (Option Value)} {oc_Keeper_cell_of kV_Keeper_cell_of dc_Keeper_cell_of pm_Keeper_cell_of cd_Keeper_cell_of ct_Keeper_cell_of : Value} {f_Keeper_found_anew : Addr} {od_Keeper_found_anew an_Keeper_found_anew : Option Addr} {sl_Keeper_found_anew : Array (Option Value)} {oc_Keeper_found_anew kV_Keeper_found_anew dc_Keeper_found_anew pm_Keeper_found_anew cd_Keeper_found_anew ct_Keeper_found_anew : Value} {f_Keeper_put_at : Addr} {od_Keeper_put_at an_Keeper_put_at : Option Addr} {sl_Keeper_put_at : Array (Option Value)} {oc_Keeper_put_at kV_Keeper_put_at dc_Keeper_put_at pm_Keeper_put_at cd_Keeper_put_at ct_Keeper_put_at : Value} {f_Keeper_put_row : Addr} {od_Keeper_put_row an_Keeper_put_row : Option Addr} {sl_Keeper_put_row : Array (Option Value)} {oc_Keeper_put_row kV_Keeper_put_row dc_Keeper_put_row pm_Keeper_put_row cd_Keeper_put_row ct_Keeper_put_row : Value} {f__law_changes : Addr} {od__law_changes an__law_changes : Option Addr} {sl__law_changes : Array (Option Value)} {oc__law_changes kV__law_changes dc__law_changes pm__law_changes cd__law_changes ct__law_changes : Value} {f_Keeper_taken : Addr} {od_Keeper_taken an_Keeper_taken : Option Addr} {sl_Keeper_taken : Array (Option Value)} {oc_Keeper_taken kV_Keeper_taken dc_Keeper_taken pm_Keeper_taken cd_Keeper_taken ct_Keeper_taken : Value} {f_Keeper_undo : Addr} {od_Keeper_undo an_Keeper_undo : Option Addr} {sl_Keeper_undo : Array (Option Value)} {oc_Keeper_undo kV_Keeper_undo dc_Keeper_undo pm_Keeper_undo cd_Keeper_undo ct_Keeper_undo : Value} {f__law_back : Addr} {od__law_back an__law_back : Option Addr} {sl__law_back : Array (Option Value)} {oc__law_back kV__law_back dc__law_back pm__law_back cd__law_back ct__law_back : Value} {f_Keeper_take_row : Addr} {od_Keeper_take_row an_Keeper_take_row : Option Addr} {sl_Keeper_take_row : Array (Option Value)} {oc_Keeper_take_row kV_Keeper_take_row dc_Keeper_take_row pm_Keeper_take_row cd_Keeper_take_row ct_Keeper_take_row : Value} {f__law_deed : Addr} {od__law_deed an__law_deed : Option Addr} {sl__law_deed : Array (Option Value)} {oc__law_deed kV__law_deed dc__law_deed pm__law_deed cd__law_deed ct__law_deed : Value} {f__law_is_gone : Addr} {od__law_is_gone an__law_is_gone : Option Addr} {sl__law_is_gone : Array (Option Value)} {oc__law_is_gone kV__law_is_gone dc__law_is_gone pm__law_is_gone cd__law_is_gone ct__law_is_gone : Value} {f_law : Addr} {od_law an_law : Option Addr} {sl_law : Array (Option Value)} {oc_law kV_law dc_law pm_law cd_law ct_law : Value} {tk_RISING : Tok} {tk_SEEN : Tok} {t_WAYS : Addr} {its_WAYS : Array Value} {n_WAYS : Nat}
    (aC_Keeper : PySem.W.nsIn K mainGlobals "Keeper" = some (some (.ref C_Keeper)))
    (aC_NoRow : PySem.W.nsIn K mainGlobals "NoRow" = some (some (.ref C_NoRow)))
    (pg_Keeper : PySem.W.plainGet K C_Keeper Str.empty = true)
    (hd_Keeper : PySem.W.hasDictIn K C_Keeper = true)
    (po_Keeper : PySem.W.plainOver K C_Keeper = true)
    (sa_Keeper : PySem.W.findIn K (.ref C_Keeper) "__setattr__" = some (some (.builtin "object.__setattr__")))
    (mk_Keeper : PySem.W.makesIn K C_Keeper = true)
    (kc_Keeper : PySem.W.keepIn K (.ref C_Keeper) = true)
    (n_Keeper_by_place : PySem.W.findIn K (.ref C_Keeper) "by_place" = some none)
    (n_Keeper_cells : PySem.W.findIn K (.ref C_Keeper) "cells" = some none)
    (n_Keeper_coming : PySem.W.findIn K (.ref C_Keeper) "coming" = some none)
    (n_Keeper_past : PySem.W.findIn K (.ref C_Keeper) "past" = some none)
    (n_Keeper_places : PySem.W.findIn K (.ref C_Keeper) "places" = some none)
    (n_Keeper_rows : PySem.W.findIn K (.ref C_Keeper) "rows" = some none)
    (n_Keeper_table : PySem.W.findIn K (.ref C_Keeper) "table" = some none)
    (n_Keeper_told : PySem.W.findIn K (.ref C_Keeper) "told" = some none)
    (a__law_cell_at : PySem.W.nsIn K mainGlobals "_law_cell_at" = some (some (.ref f__law_cell_at)))
    (l__law_cell_at : K.lookup f__law_cell_at = some ⟨oc__law_cell_at, od__law_cell_at, .func (PySem.W.fnOf "_law_cell_at" "_law_cell_at" (defArgs s__law_cell_at) (defBody s__law_cell_at) (defScope s__law_cell_at) .none kV__law_cell_at dc__law_cell_at pm__law_cell_at an__law_cell_at cd__law_cell_at ct__law_cell_at), sl__law_cell_at⟩)
    (c__law_cell_at : PySem.W.codeIn K cd__law_cell_at "_law_cell_at" = true)
    (k__law_cell_at : PySem.W.keepIn K (.ref f__law_cell_at) = true)
    (a__law_box : PySem.W.nsIn K mainGlobals "_law_box" = some (some (.ref f__law_box)))
    (l__law_box : K.lookup f__law_box = some ⟨oc__law_box, od__law_box, .func (PySem.W.fnOf "_law_box" "_law_box" (defArgs s__law_box) (defBody s__law_box) (defScope s__law_box) .none kV__law_box dc__law_box pm__law_box an__law_box cd__law_box ct__law_box), sl__law_box⟩)
    (c__law_box : PySem.W.codeIn K cd__law_box "_law_box" = true)
    (k__law_box : PySem.W.keepIn K (.ref f__law_box) = true)
    (a_look_parted : PySem.W.nsIn K mainGlobals "look_parted" = some (some (.ref f_look_parted)))
    (l_look_parted : K.lookup f_look_parted = some ⟨oc_look_parted, od_look_parted, .func (PySem.W.fnOf "look_parted" "look_parted" (defArgs s_look_parted) (defBody s_look_parted) (defScope s_look_parted) .none kV_look_parted dc_look_parted pm_look_parted an_look_parted cd_look_parted ct_look_parted), sl_look_parted⟩)
    (c_look_parted : PySem.W.codeIn K cd_look_parted "look_parted" = true)
    (k_look_parted : PySem.W.keepIn K (.ref f_look_parted) = true)
    (a_look_order : PySem.W.nsIn K mainGlobals "look_order" = some (some (.ref f_look_order)))
    (l_look_order : K.lookup f_look_order = some ⟨oc_look_order, od_look_order, .func (PySem.W.fnOf "look_order" "look_order" (defArgs s_look_order) (defBody s_look_order) (defScope s_look_order) .none kV_look_order dc_look_order pm_look_order an_look_order cd_look_order ct_look_order), sl_look_order⟩)
    (c_look_order : PySem.W.codeIn K cd_look_order "look_order" = true)
    (k_look_order : PySem.W.keepIn K (.ref f_look_order) = true)
    (a_look_ways : PySem.W.nsIn K mainGlobals "look_ways" = some (some (.ref f_look_ways)))
    (l_look_ways : K.lookup f_look_ways = some ⟨oc_look_ways, od_look_ways, .func (PySem.W.fnOf "look_ways" "look_ways" (defArgs s_look_ways) (defBody s_look_ways) (defScope s_look_ways) .none kV_look_ways dc_look_ways pm_look_ways an_look_ways cd_look_ways ct_look_ways), sl_look_ways⟩)
    (c_look_ways : PySem.W.codeIn K cd_look_ways "look_ways" = true)
    (k_look_ways : PySem.W.keepIn K (.ref f_look_ways) = true)
    (a_places_of : PySem.W.nsIn K mainGlobals "places_of" = some (some (.ref f_places_of)))
    (l_places_of : K.lookup f_places_of = some ⟨oc_places_of, od_places_of, .func (PySem.W.fnOf "places_of" "places_of" (defArgs s_places_of) (defBody s_places_of) (defScope s_places_of) .none kV_places_of dc_places_of pm_places_of an_places_of cd_places_of ct_places_of), sl_places_of⟩)
    (c_places_of : PySem.W.codeIn K cd_places_of "places_of" = true)
    (k_places_of : PySem.W.keepIn K (.ref f_places_of) = true)
    (a_at_places : PySem.W.nsIn K mainGlobals "at_places" = some (some (.ref f_at_places)))
    (l_at_places : K.lookup f_at_places = some ⟨oc_at_places, od_at_places, .func (PySem.W.fnOf "at_places" "at_places" (defArgs s_at_places) (defBody s_at_places) (defScope s_at_places) .none kV_at_places dc_at_places pm_at_places an_at_places cd_at_places ct_at_places), sl_at_places⟩)
    (c_at_places : PySem.W.codeIn K cd_at_places "at_places" = true)
    (k_at_places : PySem.W.keepIn K (.ref f_at_places) = true)
    (a_parts_of : PySem.W.nsIn K mainGlobals "parts_of" = some (some (.ref f_parts_of)))
    (l_parts_of : K.lookup f_parts_of = some ⟨oc_parts_of, od_parts_of, .func (PySem.W.fnOf "parts_of" "parts_of" (defArgs s_parts_of) (defBody s_parts_of) (defScope s_parts_of) .none kV_parts_of dc_parts_of pm_parts_of an_parts_of cd_parts_of ct_parts_of), sl_parts_of⟩)
    (c_parts_of : PySem.W.codeIn K cd_parts_of "parts_of" = true)
    (k_parts_of : PySem.W.keepIn K (.ref f_parts_of) = true)
    (a_wide_of : PySem.W.nsIn K mainGlobals "wide_of" = some (some (.ref f_wide_of)))
    (l_wide_of : K.lookup f_wide_of = some ⟨oc_wide_of, od_wide_of, .func (PySem.W.fnOf "wide_of" "wide_of" (defArgs s_wide_of) (defBody s_wide_of) (defScope s_wide_of) .none kV_wide_of dc_wide_of pm_wide_of an_wide_of cd_wide_of ct_wide_of), sl_wide_of⟩)
    (c_wide_of : PySem.W.codeIn K cd_wide_of "wide_of" = true)
    (k_wide_of : PySem.W.keepIn K (.ref f_wide_of) = true)
    (a_is_number : PySem.W.nsIn K mainGlobals "is_number" = some (some (.ref f_is_number)))
    (l_is_number : K.lookup f_is_number = some ⟨oc_is_number, od_is_number, .func (PySem.W.fnOf "is_number" "is_number" (defArgs s_is_number) (defBody s_is_number) (defScope s_is_number) .none kV_is_number dc_is_number pm_is_number an_is_number cd_is_number ct_is_number), sl_is_number⟩)
    (c_is_number : PySem.W.codeIn K cd_is_number "is_number" = true)
    (k_is_number : PySem.W.keepIn K (.ref f_is_number) = true)
    (a_sum_of : PySem.W.nsIn K mainGlobals "sum_of" = some (some (.ref f_sum_of)))
    (l_sum_of : K.lookup f_sum_of = some ⟨oc_sum_of, od_sum_of, .func (PySem.W.fnOf "sum_of" "sum_of" (defArgs s_sum_of) (defBody s_sum_of) (defScope s_sum_of) .none kV_sum_of dc_sum_of pm_sum_of an_sum_of cd_sum_of ct_sum_of), sl_sum_of⟩)
    (c_sum_of : PySem.W.codeIn K cd_sum_of "sum_of" = true)
    (k_sum_of : PySem.W.keepIn K (.ref f_sum_of) = true)
    (a_put_together : PySem.W.nsIn K mainGlobals "put_together" = some (some (.ref f_put_together)))
    (l_put_together : K.lookup f_put_together = some ⟨oc_put_together, od_put_together, .func (PySem.W.fnOf "put_together" "put_together" (defArgs s_put_together) (defBody s_put_together) (defScope s_put_together) .none kV_put_together dc_put_together pm_put_together an_put_together cd_put_together ct_put_together), sl_put_together⟩)
    (c_put_together : PySem.W.codeIn K cd_put_together "put_together" = true)
    (k_put_together : PySem.W.keepIn K (.ref f_put_together) = true)
    (a_cell_of : PySem.W.nsIn K mainGlobals "cell_of" = some (some (.ref f_cell_of)))
    (l_cell_of : K.lookup f_cell_of = some ⟨oc_cell_of, od_cell_of, .func (PySem.W.fnOf "cell_of" "cell_of" (defArgs s_cell_of) (defBody s_cell_of) (defScope s_cell_of) .none kV_cell_of dc_cell_of pm_cell_of an_cell_of cd_cell_of ct_cell_of), sl_cell_of⟩)
    (c_cell_of : PySem.W.codeIn K cd_cell_of "cell_of" = true)
    (k_cell_of : PySem.W.keepIn K (.ref f_cell_of) = true)
    (a_unlike_ones : PySem.W.nsIn K mainGlobals "unlike_ones" = some (some (.ref f_unlike_ones)))
    (l_unlike_ones : K.lookup f_unlike_ones = some ⟨oc_unlike_ones, od_unlike_ones, .func (PySem.W.fnOf "unlike_ones" "unlike_ones" (defArgs s_unlike_ones) (defBody s_unlike_ones) (defScope s_unlike_ones) .none kV_unlike_ones dc_unlike_ones pm_unlike_ones an_unlike_ones cd_unlike_ones ct_unlike_ones), sl_unlike_ones⟩)
    (c_unlike_ones : PySem.W.codeIn K cd_unlike_ones "unlike_ones" = true)
    (k_unlike_ones : PySem.W.keepIn K (.ref f_unlike_ones) = true)
    (a_heads_by : PySem.W.nsIn K mainGlobals "heads_by" = some (some (.ref f_heads_by)))
    (l_heads_by : K.lookup f_heads_by = some ⟨oc_heads_by, od_heads_by, .func (PySem.W.fnOf "heads_by" "heads_by" (defArgs s_heads_by) (defBody s_heads_by) (defScope s_heads_by) .none kV_heads_by dc_heads_by pm_heads_by an_heads_by cd_heads_by ct_heads_by), sl_heads_by⟩)
    (c_heads_by : PySem.W.codeIn K cd_heads_by "heads_by" = true)
    (k_heads_by : PySem.W.keepIn K (.ref f_heads_by) = true)
    (a_numbers_by : PySem.W.nsIn K mainGlobals "numbers_by" = some (some (.ref f_numbers_by)))
    (l_numbers_by : K.lookup f_numbers_by = some ⟨oc_numbers_by, od_numbers_by, .func (PySem.W.fnOf "numbers_by" "numbers_by" (defArgs s_numbers_by) (defBody s_numbers_by) (defScope s_numbers_by) .none kV_numbers_by dc_numbers_by pm_numbers_by an_numbers_by cd_numbers_by ct_numbers_by), sl_numbers_by⟩)
    (c_numbers_by : PySem.W.codeIn K cd_numbers_by "numbers_by" = true)
    (k_numbers_by : PySem.W.keepIn K (.ref f_numbers_by) = true)
    (a_rows_at : PySem.W.nsIn K mainGlobals "rows_at" = some (some (.ref f_rows_at)))
    (l_rows_at : K.lookup f_rows_at = some ⟨oc_rows_at, od_rows_at, .func (PySem.W.fnOf "rows_at" "rows_at" (defArgs s_rows_at) (defBody s_rows_at) (defScope s_rows_at) .none kV_rows_at dc_rows_at pm_rows_at an_rows_at cd_rows_at ct_rows_at), sl_rows_at⟩)
    (c_rows_at : PySem.W.codeIn K cd_rows_at "rows_at" = true)
    (k_rows_at : PySem.W.keepIn K (.ref f_rows_at) = true)
    (a_folded_by : PySem.W.nsIn K mainGlobals "folded_by" = some (some (.ref f_folded_by)))
    (l_folded_by : K.lookup f_folded_by = some ⟨oc_folded_by, od_folded_by, .func (PySem.W.fnOf "folded_by" "folded_by" (defArgs s_folded_by) (defBody s_folded_by) (defScope s_folded_by) .none kV_folded_by dc_folded_by pm_folded_by an_folded_by cd_folded_by ct_folded_by), sl_folded_by⟩)
    (c_folded_by : PySem.W.codeIn K cd_folded_by "folded_by" = true)
    (k_folded_by : PySem.W.keepIn K (.ref f_folded_by) = true)
    (a_Keeper_init : PySem.W.findIn K (.ref C_Keeper) "__init__" = some (some (.ref f_Keeper_init)))
    (i_Keeper_init : PySem.W.isFn K (.ref f_Keeper_init) = true)
    (l_Keeper_init : K.lookup f_Keeper_init = some ⟨oc_Keeper_init, od_Keeper_init, .func (PySem.W.fnOf "__init__" "Keeper.__init__" (defArgs s_Keeper_init) (defBody s_Keeper_init) (defScope s_Keeper_init) .none kV_Keeper_init dc_Keeper_init pm_Keeper_init an_Keeper_init cd_Keeper_init ct_Keeper_init), sl_Keeper_init⟩)
    (c_Keeper_init : PySem.W.codeIn K cd_Keeper_init "Keeper.__init__" = true)
    (k_Keeper_init : PySem.W.keepIn K (.ref f_Keeper_init) = true)
    (a__law_take : PySem.W.nsIn K mainGlobals "_law_take" = some (some (.ref f__law_take)))
    (l__law_take : K.lookup f__law_take = some ⟨oc__law_take, od__law_take, .func (PySem.W.fnOf "_law_take" "_law_take" (defArgs s__law_take) (defBody s__law_take) (defScope s__law_take) .none kV__law_take dc__law_take pm__law_take an__law_take cd__law_take ct__law_take), sl__law_take⟩)
    (c__law_take : PySem.W.codeIn K cd__law_take "_law_take" = true)
    (k__law_take : PySem.W.keepIn K (.ref f__law_take) = true)
    (a__law_same : PySem.W.nsIn K mainGlobals "_law_same" = some (some (.ref f__law_same)))
    (l__law_same : K.lookup f__law_same = some ⟨oc__law_same, od__law_same, .func (PySem.W.fnOf "_law_same" "_law_same" (defArgs s__law_same) (defBody s__law_same) (defScope s__law_same) .none kV__law_same dc__law_same pm__law_same an__law_same cd__law_same ct__law_same), sl__law_same⟩)
    (c__law_same : PySem.W.codeIn K cd__law_same "_law_same" = true)
    (k__law_same : PySem.W.keepIn K (.ref f__law_same) = true)
    (a_Keeper_wide_now : PySem.W.findIn K (.ref C_Keeper) "wide_now" = some (some (.ref f_Keeper_wide_now)))
    (i_Keeper_wide_now : PySem.W.isFn K (.ref f_Keeper_wide_now) = true)
    (l_Keeper_wide_now : K.lookup f_Keeper_wide_now = some ⟨oc_Keeper_wide_now, od_Keeper_wide_now, .func (PySem.W.fnOf "wide_now" "Keeper.wide_now" (defArgs s_Keeper_wide_now) (defBody s_Keeper_wide_now) (defScope s_Keeper_wide_now) .none kV_Keeper_wide_now dc_Keeper_wide_now pm_Keeper_wide_now an_Keeper_wide_now cd_Keeper_wide_now ct_Keeper_wide_now), sl_Keeper_wide_now⟩)
    (c_Keeper_wide_now : PySem.W.codeIn K cd_Keeper_wide_now "Keeper.wide_now" = true)
    (k_Keeper_wide_now : PySem.W.keepIn K (.ref f_Keeper_wide_now) = true)
    (a_Keeper_rows_now : PySem.W.findIn K (.ref C_Keeper) "rows_now" = some (some (.ref f_Keeper_rows_now)))
    (i_Keeper_rows_now : PySem.W.isFn K (.ref f_Keeper_rows_now) = true)
    (l_Keeper_rows_now : K.lookup f_Keeper_rows_now = some ⟨oc_Keeper_rows_now, od_Keeper_rows_now, .func (PySem.W.fnOf "rows_now" "Keeper.rows_now" (defArgs s_Keeper_rows_now) (defBody s_Keeper_rows_now) (defScope s_Keeper_rows_now) .none kV_Keeper_rows_now dc_Keeper_rows_now pm_Keeper_rows_now an_Keeper_rows_now cd_Keeper_rows_now ct_Keeper_rows_now), sl_Keeper_rows_now⟩)
    (c_Keeper_rows_now : PySem.W.codeIn K cd_Keeper_rows_now "Keeper.rows_now" = true)
    (k_Keeper_rows_now : PySem.W.keepIn K (.ref f_Keeper_rows_now) = true)
    (a_Keeper_rows_of : PySem.W.findIn K (.ref C_Keeper) "rows_of" = some (some (.ref f_Keeper_rows_of)))
    (i_Keeper_rows_of : PySem.W.isFn K (.ref f_Keeper_rows_of) = true)
    (l_Keeper_rows_of : K.lookup f_Keeper_rows_of = some ⟨oc_Keeper_rows_of, od_Keeper_rows_of, .func (PySem.W.fnOf "rows_of" "Keeper.rows_of" (defArgs s_Keeper_rows_of) (defBody s_Keeper_rows_of) (defScope s_Keeper_rows_of) .none kV_Keeper_rows_of dc_Keeper_rows_of pm_Keeper_rows_of an_Keeper_rows_of cd_Keeper_rows_of ct_Keeper_rows_of), sl_Keeper_rows_of⟩)
    (c_Keeper_rows_of : PySem.W.codeIn K cd_Keeper_rows_of "Keeper.rows_of" = true)
    (k_Keeper_rows_of : PySem.W.keepIn K (.ref f_Keeper_rows_of) = true)
    (a__law_cell_of : PySem.W.nsIn K mainGlobals "_law_cell_of" = some (some (.ref f__law_cell_of)))
    (l__law_cell_of : K.lookup f__law_cell_of = some ⟨oc__law_cell_of, od__law_cell_of, .func (PySem.W.fnOf "_law_cell_of" "_law_cell_of" (defArgs s__law_cell_of) (defBody s__law_cell_of) (defScope s__law_cell_of) .none kV__law_cell_of dc__law_cell_of pm__law_cell_of an__law_cell_of cd__law_cell_of ct__law_cell_of), sl__law_cell_of⟩)
    (c__law_cell_of : PySem.W.codeIn K cd__law_cell_of "_law_cell_of" = true)
    (k__law_cell_of : PySem.W.keepIn K (.ref f__law_cell_of) = true)
    (a__law_stands : PySem.W.nsIn K mainGlobals "_law_stands" = some (some (.ref f__law_stands)))
    (l__law_stands : K.lookup f__law_stands = some ⟨oc__law_stands, od__law_stands, .func (PySem.W.fnOf "_law_stands" "_law_stands" (defArgs s__law_stands) (defBody s__law_stands) (defScope s__law_stands) .none kV__law_stands dc__law_stands pm__law_stands an__law_stands cd__law_stands ct__law_stands), sl__law_stands⟩)
    (c__law_stands : PySem.W.codeIn K cd__law_stands "_law_stands" = true)
    (k__law_stands : PySem.W.keepIn K (.ref f__law_stands) = true)
    (a_Keeper_place_of : PySem.W.findIn K (.ref C_Keeper) "place_of" = some (some (.ref f_Keeper_place_of)))
    (i_Keeper_place_of : PySem.W.isFn K (.ref f_Keeper_place_of) = true)
    (l_Keeper_place_of : K.lookup f_Keeper_place_of = some ⟨oc_Keeper_place_of, od_Keeper_place_of, .func (PySem.W.fnOf "place_of" "Keeper.place_of" (defArgs s_Keeper_place_of) (defBody s_Keeper_place_of) (defScope s_Keeper_place_of) .none kV_Keeper_place_of dc_Keeper_place_of pm_Keeper_place_of an_Keeper_place_of cd_Keeper_place_of ct_Keeper_place_of), sl_Keeper_place_of⟩)
    (c_Keeper_place_of : PySem.W.codeIn K cd_Keeper_place_of "Keeper.place_of" = true)
    (k_Keeper_place_of : PySem.W.keepIn K (.ref f_Keeper_place_of) = true)
    (a_Keeper_cell_of : PySem.W.findIn K (.ref C_Keeper) "cell_of" = some (some (.ref f_Keeper_cell_of)))
    (i_Keeper_cell_of : PySem.W.isFn K (.ref f_Keeper_cell_of) = true)
    (l_Keeper_cell_of : K.lookup f_Keeper_cell_of = some ⟨oc_Keeper_cell_of, od_Keeper_cell_of, .func (PySem.W.fnOf "cell_of" "Keeper.cell_of" (defArgs s_Keeper_cell_of) (defBody s_Keeper_cell_of) (defScope s_Keeper_cell_of) .none kV_Keeper_cell_of dc_Keeper_cell_of pm_Keeper_cell_of an_Keeper_cell_of cd_Keeper_cell_of ct_Keeper_cell_of), sl_Keeper_cell_of⟩)
    (c_Keeper_cell_of : PySem.W.codeIn K cd_Keeper_cell_of "Keeper.cell_of" = true)
    (k_Keeper_cell_of : PySem.W.keepIn K (.ref f_Keeper_cell_of) = true)
    (a_Keeper_found_anew : PySem.W.findIn K (.ref C_Keeper) "found_anew" = some (some (.ref f_Keeper_found_anew)))
    (i_Keeper_found_anew : PySem.W.isFn K (.ref f_Keeper_found_anew) = true)
    (l_Keeper_found_anew : K.lookup f_Keeper_found_anew = some ⟨oc_Keeper_found_anew, od_Keeper_found_anew, .func (PySem.W.fnOf "found_anew" "Keeper.found_anew" (defArgs s_Keeper_found_anew) (defBody s_Keeper_found_anew) (defScope s_Keeper_found_anew) .none kV_Keeper_found_anew dc_Keeper_found_anew pm_Keeper_found_anew an_Keeper_found_anew cd_Keeper_found_anew ct_Keeper_found_anew), sl_Keeper_found_anew⟩)
    (c_Keeper_found_anew : PySem.W.codeIn K cd_Keeper_found_anew "Keeper.found_anew" = true)
    (k_Keeper_found_anew : PySem.W.keepIn K (.ref f_Keeper_found_anew) = true)
    (a_Keeper_put_at : PySem.W.findIn K (.ref C_Keeper) "put_at" = some (some (.ref f_Keeper_put_at)))
    (i_Keeper_put_at : PySem.W.isFn K (.ref f_Keeper_put_at) = true)
    (l_Keeper_put_at : K.lookup f_Keeper_put_at = some ⟨oc_Keeper_put_at, od_Keeper_put_at, .func (PySem.W.fnOf "put_at" "Keeper.put_at" (defArgs s_Keeper_put_at) (defBody s_Keeper_put_at) (defScope s_Keeper_put_at) .none kV_Keeper_put_at dc_Keeper_put_at pm_Keeper_put_at an_Keeper_put_at cd_Keeper_put_at ct_Keeper_put_at), sl_Keeper_put_at⟩)
    (c_Keeper_put_at : PySem.W.codeIn K cd_Keeper_put_at "Keeper.put_at" = true)
    (k_Keeper_put_at : PySem.W.keepIn K (.ref f_Keeper_put_at) = true)
    (a_Keeper_put_row : PySem.W.findIn K (.ref C_Keeper) "put_row" = some (some (.ref f_Keeper_put_row)))
    (i_Keeper_put_row : PySem.W.isFn K (.ref f_Keeper_put_row) = true)
    (l_Keeper_put_row : K.lookup f_Keeper_put_row = some ⟨oc_Keeper_put_row, od_Keeper_put_row, .func (PySem.W.fnOf "put_row" "Keeper.put_row" (defArgs s_Keeper_put_row) (defBody s_Keeper_put_row) (defScope s_Keeper_put_row) .none kV_Keeper_put_row dc_Keeper_put_row pm_Keeper_put_row an_Keeper_put_row cd_Keeper_put_row ct_Keeper_put_row), sl_Keeper_put_row⟩)
    (c_Keeper_put_row : PySem.W.codeIn K cd_Keeper_put_row "Keeper.put_row" = true)
    (k_Keeper_put_row : PySem.W.keepIn K (.ref f_Keeper_put_row) = true)
    (a__law_changes : PySem.W.nsIn K mainGlobals "_law_changes" = some (some (.ref f__law_changes)))
    (l__law_changes : K.lookup f__law_changes = some ⟨oc__law_changes, od__law_changes, .func (PySem.W.fnOf "_law_changes" "_law_changes" (defArgs s__law_changes) (defBody s__law_changes) (defScope s__law_changes) .none kV__law_changes dc__law_changes pm__law_changes an__law_changes cd__law_changes ct__law_changes), sl__law_changes⟩)
    (c__law_changes : PySem.W.codeIn K cd__law_changes "_law_changes" = true)
    (k__law_changes : PySem.W.keepIn K (.ref f__law_changes) = true)
    (a_Keeper_taken : PySem.W.findIn K (.ref C_Keeper) "taken" = some (some (.ref f_Keeper_taken)))
    (i_Keeper_taken : PySem.W.isFn K (.ref f_Keeper_taken) = true)
    (l_Keeper_taken : K.lookup f_Keeper_taken = some ⟨oc_Keeper_taken, od_Keeper_taken, .func (PySem.W.fnOf "taken" "Keeper.taken" (defArgs s_Keeper_taken) (defBody s_Keeper_taken) (defScope s_Keeper_taken) .none kV_Keeper_taken dc_Keeper_taken pm_Keeper_taken an_Keeper_taken cd_Keeper_taken ct_Keeper_taken), sl_Keeper_taken⟩)
    (c_Keeper_taken : PySem.W.codeIn K cd_Keeper_taken "Keeper.taken" = true)
    (k_Keeper_taken : PySem.W.keepIn K (.ref f_Keeper_taken) = true)
    (a_Keeper_undo : PySem.W.findIn K (.ref C_Keeper) "undo" = some (some (.ref f_Keeper_undo)))
    (i_Keeper_undo : PySem.W.isFn K (.ref f_Keeper_undo) = true)
    (l_Keeper_undo : K.lookup f_Keeper_undo = some ⟨oc_Keeper_undo, od_Keeper_undo, .func (PySem.W.fnOf "undo" "Keeper.undo" (defArgs s_Keeper_undo) (defBody s_Keeper_undo) (defScope s_Keeper_undo) .none kV_Keeper_undo dc_Keeper_undo pm_Keeper_undo an_Keeper_undo cd_Keeper_undo ct_Keeper_undo), sl_Keeper_undo⟩)
    (c_Keeper_undo : PySem.W.codeIn K cd_Keeper_undo "Keeper.undo" = true)
    (k_Keeper_undo : PySem.W.keepIn K (.ref f_Keeper_undo) = true)
    (a__law_back : PySem.W.nsIn K mainGlobals "_law_back" = some (some (.ref f__law_back)))
    (l__law_back : K.lookup f__law_back = some ⟨oc__law_back, od__law_back, .func (PySem.W.fnOf "_law_back" "_law_back" (defArgs s__law_back) (defBody s__law_back) (defScope s__law_back) .none kV__law_back dc__law_back pm__law_back an__law_back cd__law_back ct__law_back), sl__law_back⟩)
    (c__law_back : PySem.W.codeIn K cd__law_back "_law_back" = true)
    (k__law_back : PySem.W.keepIn K (.ref f__law_back) = true)
    (a_Keeper_take_row : PySem.W.findIn K (.ref C_Keeper) "take_row" = some (some (.ref f_Keeper_take_row)))
    (i_Keeper_take_row : PySem.W.isFn K (.ref f_Keeper_take_row) = true)
    (l_Keeper_take_row : K.lookup f_Keeper_take_row = some ⟨oc_Keeper_take_row, od_Keeper_take_row, .func (PySem.W.fnOf "take_row" "Keeper.take_row" (defArgs s_Keeper_take_row) (defBody s_Keeper_take_row) (defScope s_Keeper_take_row) .none kV_Keeper_take_row dc_Keeper_take_row pm_Keeper_take_row an_Keeper_take_row cd_Keeper_take_row ct_Keeper_take_row), sl_Keeper_take_row⟩)
    (c_Keeper_take_row : PySem.W.codeIn K cd_Keeper_take_row "Keeper.take_row" = true)
    (k_Keeper_take_row : PySem.W.keepIn K (.ref f_Keeper_take_row) = true)
    (a__law_deed : PySem.W.nsIn K mainGlobals "_law_deed" = some (some (.ref f__law_deed)))
    (l__law_deed : K.lookup f__law_deed = some ⟨oc__law_deed, od__law_deed, .func (PySem.W.fnOf "_law_deed" "_law_deed" (defArgs s__law_deed) (defBody s__law_deed) (defScope s__law_deed) .none kV__law_deed dc__law_deed pm__law_deed an__law_deed cd__law_deed ct__law_deed), sl__law_deed⟩)
    (c__law_deed : PySem.W.codeIn K cd__law_deed "_law_deed" = true)
    (k__law_deed : PySem.W.keepIn K (.ref f__law_deed) = true)
    (a__law_is_gone : PySem.W.nsIn K mainGlobals "_law_is_gone" = some (some (.ref f__law_is_gone)))
    (l__law_is_gone : K.lookup f__law_is_gone = some ⟨oc__law_is_gone, od__law_is_gone, .func (PySem.W.fnOf "_law_is_gone" "_law_is_gone" (defArgs s__law_is_gone) (defBody s__law_is_gone) (defScope s__law_is_gone) .none kV__law_is_gone dc__law_is_gone pm__law_is_gone an__law_is_gone cd__law_is_gone ct__law_is_gone), sl__law_is_gone⟩)
    (c__law_is_gone : PySem.W.codeIn K cd__law_is_gone "_law_is_gone" = true)
    (k__law_is_gone : PySem.W.keepIn K (.ref f__law_is_gone) = true)
    (a_law : PySem.W.nsIn K mainGlobals "law" = some (some (.ref f_law)))
    (l_law : K.lookup f_law = some ⟨oc_law, od_law, .func (PySem.W.fnOf "law" "law" (defArgs s_law) (defBody s_law) (defScope s_law) .none kV_law dc_law pm_law an_law cd_law ct_law), sl_law⟩)
    (c_law : PySem.W.codeIn K cd_law "law" = true)
    (k_law : PySem.W.keepIn K (.ref f_law) = true)
    (z_abs : PySem.W.nsIn K mainGlobals "abs" = some none)
    (z_all : PySem.W.nsIn K mainGlobals "all" = some none)
    (z_any : PySem.W.nsIn K mainGlobals "any" = some none)
    (z_bool : PySem.W.nsIn K mainGlobals "bool" = some none)
    (z_dict : PySem.W.nsIn K mainGlobals "dict" = some none)
    (z_enumerate : PySem.W.nsIn K mainGlobals "enumerate" = some none)
    (z_int : PySem.W.nsIn K mainGlobals "int" = some none)
    (z_isinstance : PySem.W.nsIn K mainGlobals "isinstance" = some none)
    (z_len : PySem.W.nsIn K mainGlobals "len" = some none)
    (z_list : PySem.W.nsIn K mainGlobals "list" = some none)
    (z_min : PySem.W.nsIn K mainGlobals "min" = some none)
    (z_range : PySem.W.nsIn K mainGlobals "range" = some none)
    (z_sorted : PySem.W.nsIn K mainGlobals "sorted" = some none)
    (z_str : PySem.W.nsIn K mainGlobals "str" = some none)
    (z_sum : PySem.W.nsIn K mainGlobals "sum" = some none)
    (z_tuple : PySem.W.nsIn K mainGlobals "tuple" = some none)
    (z_zip : PySem.W.nsIn K mainGlobals "zip" = some none)
    (xk_NoRow : PySem.W.keepIn K (.ref C_NoRow) = true)
    (xb_NoRow : PySem.W.subIn K (.ref C_NoRow) (.type "BaseException") = some true)
    (xt_NoRow : PySem.W.typeIn K (.ref C_NoRow) = some (.type "type"))
    (xe_NoRow : PySem.W.excIn K C_NoRow [.type "ValueError", .type "Exception", .type "BaseException", .type "object"] "ValueError.__new__" = true)
    (xi_NoRow : PySem.W.isClsIn K C_NoRow = true)
    (xs_NoRow : PySem.W.subIn K (.ref C_NoRow) (.ref C_NoRow) = some true)
    (g_RISING : PySem.W.nsIn K mainGlobals "RISING" = some (some (.str "rising" tk_RISING)))
    (g_SEEN : PySem.W.nsIn K mainGlobals "SEEN" = some (some (.str "seen" tk_SEEN)))
    (g_WAYS : PySem.W.nsIn K mainGlobals "WAYS" = some (some (.ref t_WAYS)))
    (gl_WAYS : K.lookup t_WAYS = some { cls := .type "tuple", data := .seq its_WAYS n_WAYS })
    (gv_WAYS : its_WAYS.toList.map G.strOfV = (["first", "last", "sum", "count", "least", "greatest", "unlike"] : List Str).map some)
    (gz_WAYS : its_WAYS.size ≤ sizeLine) : K87.Txt K mg where
  a_Keeper_by_place := ⟨_, PySem.W.mg_of X Gn aC_Keeper, ⟨pg_Keeper, hd_Keeper, po_Keeper, sa_Keeper⟩, n_Keeper_by_place⟩
  a_Keeper_cells := ⟨_, PySem.W.mg_of X Gn aC_Keeper, ⟨pg_Keeper, hd_Keeper, po_Keeper, sa_Keeper⟩, n_Keeper_cells⟩
  a_Keeper_coming := ⟨_, PySem.W.mg_of X Gn aC_Keeper, ⟨pg_Keeper, hd_Keeper, po_Keeper, sa_Keeper⟩, n_Keeper_coming⟩
  a_Keeper_past := ⟨_, PySem.W.mg_of X Gn aC_Keeper, ⟨pg_Keeper, hd_Keeper, po_Keeper, sa_Keeper⟩, n_Keeper_past⟩
  a_Keeper_places := ⟨_, PySem.W.mg_of X Gn aC_Keeper, ⟨pg_Keeper, hd_Keeper, po_Keeper, sa_Keeper⟩, n_Keeper_places⟩
  a_Keeper_rows := ⟨_, PySem.W.mg_of X Gn aC_Keeper, ⟨pg_Keeper, hd_Keeper, po_Keeper, sa_Keeper⟩, n_Keeper_rows⟩
  a_Keeper_table := ⟨_, PySem.W.mg_of X Gn aC_Keeper, ⟨pg_Keeper, hd_Keeper, po_Keeper, sa_Keeper⟩, n_Keeper_table⟩
  a_Keeper_told := ⟨_, PySem.W.mg_of X Gn aC_Keeper, ⟨pg_Keeper, hd_Keeper, po_Keeper, sa_Keeper⟩, n_Keeper_told⟩
  d__law_cell_at := ⟨_, _, PySem.W.mg_of X Gn a__law_cell_at, fun_mk (st := s__law_cell_at) l__law_cell_at c__law_cell_at k__law_cell_at⟩
  d__law_box := ⟨_, _, PySem.W.mg_of X Gn a__law_box, fun_mk (st := s__law_box) l__law_box c__law_box k__law_box⟩
  d_look_parted := ⟨_, _, PySem.W.mg_of X Gn a_look_parted, fun_mk (st := s_look_parted) l_look_parted c_look_parted k_look_parted⟩
  d_look_order := ⟨_, _, PySem.W.mg_of X Gn a_look_order, fun_mk (st := s_look_order) l_look_order c_look_order k_look_order⟩
  d_look_ways := ⟨_, _, PySem.W.mg_of X Gn a_look_ways, fun_mk (st := s_look_ways) l_look_ways c_look_ways k_look_ways⟩
  d_places_of := ⟨_, _, PySem.W.mg_of X Gn a_places_of, fun_mk (st := s_places_of) l_places_of c_places_of k_places_of⟩
  d_at_places := ⟨_, _, PySem.W.mg_of X Gn a_at_places, fun_mk (st := s_at_places) l_at_places c_at_places k_at_places⟩
  d_parts_of := ⟨_, _, PySem.W.mg_of X Gn a_parts_of, fun_mk (st := s_parts_of) l_parts_of c_parts_of k_parts_of⟩
  d_wide_of := ⟨_, _, PySem.W.mg_of X Gn a_wide_of, fun_mk (st := s_wide_of) l_wide_of c_wide_of k_wide_of⟩
  d_is_number := ⟨_, _, PySem.W.mg_of X Gn a_is_number, fun_mk (st := s_is_number) l_is_number c_is_number k_is_number⟩
  d_sum_of := ⟨_, _, PySem.W.mg_of X Gn a_sum_of, fun_mk (st := s_sum_of) l_sum_of c_sum_of k_sum_of⟩
  d_put_together := ⟨_, _, PySem.W.mg_of X Gn a_put_together, fun_mk (st := s_put_together) l_put_together c_put_together k_put_together⟩
  d_cell_of := ⟨_, _, PySem.W.mg_of X Gn a_cell_of, fun_mk (st := s_cell_of) l_cell_of c_cell_of k_cell_of⟩
  d_unlike_ones := ⟨_, _, PySem.W.mg_of X Gn a_unlike_ones, fun_mk (st := s_unlike_ones) l_unlike_ones c_unlike_ones k_unlike_ones⟩
  d_heads_by := ⟨_, _, PySem.W.mg_of X Gn a_heads_by, fun_mk (st := s_heads_by) l_heads_by c_heads_by k_heads_by⟩
  d_numbers_by := ⟨_, _, PySem.W.mg_of X Gn a_numbers_by, fun_mk (st := s_numbers_by) l_numbers_by c_numbers_by k_numbers_by⟩
  d_rows_at := ⟨_, _, PySem.W.mg_of X Gn a_rows_at, fun_mk (st := s_rows_at) l_rows_at c_rows_at k_rows_at⟩
  d_folded_by := ⟨_, _, PySem.W.mg_of X Gn a_folded_by, fun_mk (st := s_folded_by) l_folded_by c_folded_by k_folded_by⟩
  d_Keeper_init := ⟨_, _, _, PySem.W.mg_of X Gn aC_Keeper, ⟨mk_Keeper, a_Keeper_init, i_Keeper_init, kc_Keeper⟩, fun_mk (st := s_Keeper_init) l_Keeper_init c_Keeper_init k_Keeper_init⟩
  d__law_take := ⟨_, _, PySem.W.mg_of X Gn a__law_take, fun_mk (st := s__law_take) l__law_take c__law_take k__law_take⟩
  d__law_same := ⟨_, _, PySem.W.mg_of X Gn a__law_same, fun_mk (st := s__law_same) l__law_same c__law_same k__law_same⟩
  d_Keeper_wide_now := ⟨_, _, _, PySem.W.mg_of X Gn aC_Keeper, ⟨pg_Keeper, hd_Keeper, po_Keeper, sa_Keeper⟩, ⟨a_Keeper_wide_now, i_Keeper_wide_now, k_Keeper_wide_now⟩, fun_mk (st := s_Keeper_wide_now) l_Keeper_wide_now c_Keeper_wide_now k_Keeper_wide_now⟩
  d_Keeper_rows_now := ⟨_, _, _, PySem.W.mg_of X Gn aC_Keeper, ⟨pg_Keeper, hd_Keeper, po_Keeper, sa_Keeper⟩, ⟨a_Keeper_rows_now, i_Keeper_rows_now, k_Keeper_rows_now⟩, fun_mk (st := s_Keeper_rows_now) l_Keeper_rows_now c_Keeper_rows_now k_Keeper_rows_now⟩
  d_Keeper_rows_of := ⟨_, _, _, PySem.W.mg_of X Gn aC_Keeper, ⟨pg_Keeper, hd_Keeper, po_Keeper, sa_Keeper⟩, ⟨a_Keeper_rows_of, i_Keeper_rows_of, k_Keeper_rows_of⟩, fun_mk (st := s_Keeper_rows_of) l_Keeper_rows_of c_Keeper_rows_of k_Keeper_rows_of⟩
  d__law_cell_of := ⟨_, _, PySem.W.mg_of X Gn a__law_cell_of, fun_mk (st := s__law_cell_of) l__law_cell_of c__law_cell_of k__law_cell_of⟩
  d__law_stands := ⟨_, _, PySem.W.mg_of X Gn a__law_stands, fun_mk (st := s__law_stands) l__law_stands c__law_stands k__law_stands⟩
  d_Keeper_place_of := ⟨_, _, _, PySem.W.mg_of X Gn aC_Keeper, ⟨pg_Keeper, hd_Keeper, po_Keeper, sa_Keeper⟩, ⟨a_Keeper_place_of, i_Keeper_place_of, k_Keeper_place_of⟩, fun_mk (st := s_Keeper_place_of) l_Keeper_place_of c_Keeper_place_of k_Keeper_place_of⟩
  d_Keeper_cell_of := ⟨_, _, _, PySem.W.mg_of X Gn aC_Keeper, ⟨pg_Keeper, hd_Keeper, po_Keeper, sa_Keeper⟩, ⟨a_Keeper_cell_of, i_Keeper_cell_of, k_Keeper_cell_of⟩, fun_mk (st := s_Keeper_cell_of) l_Keeper_cell_of c_Keeper_cell_of k_Keeper_cell_of⟩
  d_Keeper_found_anew := ⟨_, _, _, PySem.W.mg_of X Gn aC_Keeper, ⟨pg_Keeper, hd_Keeper, po_Keeper, sa_Keeper⟩, ⟨a_Keeper_found_anew, i_Keeper_found_anew, k_Keeper_found_anew⟩, fun_mk (st := s_Keeper_found_anew) l_Keeper_found_anew c_Keeper_found_anew k_Keeper_found_anew⟩
  d_Keeper_put_at := ⟨_, _, _, PySem.W.mg_of X Gn aC_Keeper, ⟨pg_Keeper, hd_Keeper, po_Keeper, sa_Keeper⟩, ⟨a_Keeper_put_at, i_Keeper_put_at, k_Keeper_put_at⟩, fun_mk (st := s_Keeper_put_at) l_Keeper_put_at c_Keeper_put_at k_Keeper_put_at⟩
  d_Keeper_put_row := ⟨_, _, _, PySem.W.mg_of X Gn aC_Keeper, ⟨pg_Keeper, hd_Keeper, po_Keeper, sa_Keeper⟩, ⟨a_Keeper_put_row, i_Keeper_put_row, k_Keeper_put_row⟩, fun_mk (st := s_Keeper_put_row) l_Keeper_put_row c_Keeper_put_row k_Keeper_put_row⟩
  d__law_changes := ⟨_, _, PySem.W.mg_of X Gn a__law_changes, fun_mk (st := s__law_changes) l__law_changes c__law_changes k__law_changes⟩
  d_Keeper_taken := ⟨_, _, _, PySem.W.mg_of X Gn aC_Keeper, ⟨pg_Keeper, hd_Keeper, po_Keeper, sa_Keeper⟩, ⟨a_Keeper_taken, i_Keeper_taken, k_Keeper_taken⟩, fun_mk (st := s_Keeper_taken) l_Keeper_taken c_Keeper_taken k_Keeper_taken⟩
  d_Keeper_undo := ⟨_, _, _, PySem.W.mg_of X Gn aC_Keeper, ⟨pg_Keeper, hd_Keeper, po_Keeper, sa_Keeper⟩, ⟨a_Keeper_undo, i_Keeper_undo, k_Keeper_undo⟩, fun_mk (st := s_Keeper_undo) l_Keeper_undo c_Keeper_undo k_Keeper_undo⟩
  d__law_back := ⟨_, _, PySem.W.mg_of X Gn a__law_back, fun_mk (st := s__law_back) l__law_back c__law_back k__law_back⟩
  d_Keeper_take_row := ⟨_, _, _, PySem.W.mg_of X Gn aC_Keeper, ⟨pg_Keeper, hd_Keeper, po_Keeper, sa_Keeper⟩, ⟨a_Keeper_take_row, i_Keeper_take_row, k_Keeper_take_row⟩, fun_mk (st := s_Keeper_take_row) l_Keeper_take_row c_Keeper_take_row k_Keeper_take_row⟩
  d__law_deed := ⟨_, _, PySem.W.mg_of X Gn a__law_deed, fun_mk (st := s__law_deed) l__law_deed c__law_deed k__law_deed⟩
  d__law_is_gone := ⟨_, _, PySem.W.mg_of X Gn a__law_is_gone, fun_mk (st := s__law_is_gone) l__law_is_gone c__law_is_gone k__law_is_gone⟩
  d_law := ⟨_, _, PySem.W.mg_of X Gn a_law, fun_mk (st := s_law) l_law c_law k_law⟩
  m_abs := PySem.W.mg_none_of X Gn z_abs
  m_all := PySem.W.mg_none_of X Gn z_all
  m_any := PySem.W.mg_none_of X Gn z_any
  m_bool := PySem.W.mg_none_of X Gn z_bool
  m_dict := PySem.W.mg_none_of X Gn z_dict
  m_enumerate := PySem.W.mg_none_of X Gn z_enumerate
  m_int := PySem.W.mg_none_of X Gn z_int
  m_isinstance := PySem.W.mg_none_of X Gn z_isinstance
  m_len := PySem.W.mg_none_of X Gn z_len
  m_list := PySem.W.mg_none_of X Gn z_list
  m_min := PySem.W.mg_none_of X Gn z_min
  m_range := PySem.W.mg_none_of X Gn z_range
  m_sorted := PySem.W.mg_none_of X Gn z_sorted
  m_str := PySem.W.mg_none_of X Gn z_str
  m_sum := PySem.W.mg_none_of X Gn z_sum
  m_tuple := PySem.W.mg_none_of X Gn z_tuple
  m_zip := PySem.W.mg_none_of X Gn z_zip
  x_NoRow := ⟨_, _, _, _, _, PySem.F.excBase_ValueError, xe_NoRow, PySem.W.mg_of X Gn aC_NoRow, xk_NoRow, xb_NoRow, xt_NoRow⟩
  k_NoRow := ⟨_, PySem.W.mg_of X Gn aC_NoRow, G.exm_self xb_NoRow xi_NoRow xt_NoRow xs_NoRow⟩
  v_RISING := ⟨_, PySem.W.mg_of X Gn g_RISING⟩
  v_SEEN := ⟨_, PySem.W.mg_of X Gn g_SEEN⟩
  v_WAYS := ⟨_, PySem.W.mg_of X Gn g_WAYS, G.ktup_strs (xs := ["first", "last", "sum", "count", "least", "greatest", "unlike"]) gl_WAYS gv_WAYS gz_WAYS⟩
namespace K87
open PySem PySem.Spec L2 G
open PyProof.Rows hiding St
theorem law_fd {l : PySem.W.OpenLaw} {w : World} {K : PySem.W.Frag} {mg : Str → Option Value} {fa : Addr} (T : Txt K mg) (hmg : mg "law" = some (.ref fa)) : ∃ fd : FuncData, (∀ (s : Shared) (u : Value), BindsTo s fd ⟨[u], []⟩ [("script", u)]) ∧ ∀ base : Heap, K.In base → base.Ns mainGlobals mg → FnOk l.prog w K mg base (L2.CX l.prog w) 11 fa fd ["script"] (spOf ⟨K, mg, w⟩ φ_law) := by
  obtain ⟨f, fd, h1, F⟩ := T.d_law
  have e := hmg.symm.trans h1
  cases e
  have F2 := F
  obtain ⟨oc, od, kV, doc, pm, an, cdv, ct, osl, rfl, lk, hcd⟩ := F2.ex
  exact ⟨_, fun s u => .of_eq rfl, fun base _ _ => ok_law T F⟩
end K87
open PySem PySem.W PyProof.Rows
set_option maxRecDepth 100000 in
set_option maxHeartbeats 0 in
theorem PySem.Challenge.cw_pivotfold_k87_whole_numbers_go_on_and_ba_holds : PySem.Challenge.rw_pivotfold_k87_whole_numbers_go_on_and_ba.Holds := by
  w_on; o_law; k_head; (case hw => w_witness2)
  k_fill
  refine G.walk (l := PySem.Challenge.rw_pivotfold_k87_whole_numbers_go_on_and_ba) (k := 11) (φ := K87.φ_law) K87.law_true rfl rfl ⟨rfl, by decide, by decide⟩ (fun w h Y => PySem.W.kIn_of Y) ?F
  case F =>
    intro w mg fa h KX G hmg
    refine K87.law_fd ?T hmg
    refine' K87.txt_mk KX G ?aC_Keeper ?aC_NoRow ?pg_Keeper ?hd_Keeper ?po_Keeper ?sa_Keeper ?mk_Keeper ?kc_Keeper ?n_Keeper_by_place ?n_Keeper_cells ?n_Keeper_coming ?n_Keeper_past ?n_Keeper_places ?n_Keeper_rows ?n_Keeper_table ?n_Keeper_told ?a__law_cell_at ?l__law_cell_at ?c__law_cell_at ?k__law_cell_at ?a__law_box ?l__law_box ?c__law_box ?k__law_box ?a_look_parted ?l_look_parted ?c_look_parted ?k_look_parted ?a_look_order ?l_look_order ?c_look_order ?k_look_order ?a_look_ways ?l_look_ways ?c_look_ways ?k_look_ways ?a_places_of ?l_places_of ?c_places_of ?k_places_of ?a_at_places ?l_at_places ?c_at_places ?k_at_places ?a_parts_of ?l_parts_of ?c_parts_of ?k_parts_of ?a_wide_of ?l_wide_of ?c_wide_of ?k_wide_of ?a_is_number ?l_is_number ?c_is_number ?k_is_number ?a_sum_of ?l_sum_of ?c_sum_of ?k_sum_of ?a_put_together ?l_put_together ?c_put_together ?k_put_together ?a_cell_of ?l_cell_of ?c_cell_of ?k_cell_of ?a_unlike_ones ?l_unlike_ones ?c_unlike_ones ?k_unlike_ones ?a_heads_by ?l_heads_by ?c_heads_by ?k_heads_by ?a_numbers_by ?l_numbers_by ?c_numbers_by ?k_numbers_by ?a_rows_at ?l_rows_at ?c_rows_at ?k_rows_at ?a_folded_by ?l_folded_by ?c_folded_by ?k_folded_by ?a_Keeper_init ?i_Keeper_init ?l_Keeper_init ?c_Keeper_init ?k_Keeper_init ?a__law_take ?l__law_take ?c__law_take ?k__law_take ?a__law_same ?l__law_same ?c__law_same ?k__law_same ?a_Keeper_wide_now ?i_Keeper_wide_now ?l_Keeper_wide_now ?c_Keeper_wide_now ?k_Keeper_wide_now ?a_Keeper_rows_now ?i_Keeper_rows_now ?l_Keeper_rows_now ?c_Keeper_rows_now ?k_Keeper_rows_now ?a_Keeper_rows_of ?i_Keeper_rows_of ?l_Keeper_rows_of ?c_Keeper_rows_of ?k_Keeper_rows_of ?a__law_cell_of ?l__law_cell_of ?c__law_cell_of ?k__law_cell_of ?a__law_stands ?l__law_stands ?c__law_stands ?k__law_stands ?a_Keeper_place_of ?i_Keeper_place_of ?l_Keeper_place_of ?c_Keeper_place_of ?k_Keeper_place_of ?a_Keeper_cell_of ?i_Keeper_cell_of ?l_Keeper_cell_of ?c_Keeper_cell_of ?k_Keeper_cell_of ?a_Keeper_found_anew ?i_Keeper_found_anew ?l_Keeper_found_anew ?c_Keeper_found_anew ?k_Keeper_found_anew ?a_Keeper_put_at ?i_Keeper_put_at ?l_Keeper_put_at ?c_Keeper_put_at ?k_Keeper_put_at ?a_Keeper_put_row ?i_Keeper_put_row ?l_Keeper_put_row ?c_Keeper_put_row ?k_Keeper_put_row ?a__law_changes ?l__law_changes ?c__law_changes ?k__law_changes ?a_Keeper_taken ?i_Keeper_taken ?l_Keeper_taken ?c_Keeper_taken ?k_Keeper_taken ?a_Keeper_undo ?i_Keeper_undo ?l_Keeper_undo ?c_Keeper_undo ?k_Keeper_undo ?a__law_back ?l__law_back ?c__law_back ?k__law_back ?a_Keeper_take_row ?i_Keeper_take_row ?l_Keeper_take_row ?c_Keeper_take_row ?k_Keeper_take_row ?a__law_deed ?l__law_deed ?c__law_deed ?k__law_deed ?a__law_is_gone ?l__law_is_gone ?c__law_is_gone ?k__law_is_gone ?a_law ?l_law ?c_law ?k_law ?z_abs ?z_all ?z_any ?z_bool ?z_dict ?z_enumerate ?z_int ?z_isinstance ?z_len ?z_list ?z_min ?z_range ?z_sorted ?z_str ?z_sum ?z_tuple ?z_zip ?xk_NoRow ?xb_NoRow ?xt_NoRow ?xe_NoRow ?xi_NoRow ?xs_NoRow ?g_RISING ?g_SEEN ?g_WAYS ?gl_WAYS ?gv_WAYS ?gz_WAYS
    (case aC_Keeper => k_is)
    (case aC_NoRow => k_is)
    (case pg_Keeper => k_is)
    (case hd_Keeper => k_is)
    (case po_Keeper => k_is)
    (case sa_Keeper => k_is)
    (case mk_Keeper => k_is)
    (case kc_Keeper => k_is)
    (case n_Keeper_by_place => k_is)
    (case n_Keeper_cells => k_is)
    (case n_Keeper_coming => k_is)
    (case n_Keeper_past => k_is)
    (case n_Keeper_places => k_is)
    (case n_Keeper_rows => k_is)
    (case n_Keeper_table => k_is)
    (case n_Keeper_told => k_is)
    (case a__law_cell_at => k_is)
    (case l__law_cell_at => k_is)
    (case c__law_cell_at => k_is)
    (case k__law_cell_at => k_is)
    (case a__law_box => k_is)
    (case l__law_box => k_is)
    (case c__law_box => k_is)
    (case k__law_box => k_is)
    (case a_look_parted => k_is)
    (case l_look_parted => k_is)
    (case c_look_parted => k_is)
    (case k_look_parted => k_is)
    (case a_look_order => k_is)
    (case l_look_order => k_is)
    (case c_look_order => k_is)
    (case k_look_order => k_is)
    (case a_look_ways => k_is)
    (case l_look_ways => k_is)
    (case c_look_ways => k_is)
    (case k_look_ways => k_is)
    (case a_places_of => k_is)
    (case l_places_of => k_is)
    (case c_places_of => k_is)
    (case k_places_of => k_is)
    (case a_at_places => k_is)
    (case l_at_places => k_is)
    (case c_at_places => k_is)
    (case k_at_places => k_is)
    (case a_parts_of => k_is)
    (case l_parts_of => k_is)
    (case c_parts_of => k_is)
    (case k_parts_of => k_is)
    (case a_wide_of => k_is)
    (case l_wide_of => k_is)
    (case c_wide_of => k_is)
    (case k_wide_of => k_is)
    (case a_is_number => k_is)
    (case l_is_number => k_is)
    (case c_is_number => k_is)
    (case k_is_number => k_is)
    (case a_sum_of => k_is)
    (case l_sum_of => k_is)
    (case c_sum_of => k_is)
    (case k_sum_of => k_is)
    (case a_put_together => k_is)
    (case l_put_together => k_is)
    (case c_put_together => k_is)
    (case k_put_together => k_is)
    (case a_cell_of => k_is)
    (case l_cell_of => k_is)
    (case c_cell_of => k_is)
    (case k_cell_of => k_is)
    (case a_unlike_ones => k_is)
    (case l_unlike_ones => k_is)
    (case c_unlike_ones => k_is)
    (case k_unlike_ones => k_is)
    (case a_heads_by => k_is)
    (case l_heads_by => k_is)
    (case c_heads_by => k_is)
    (case k_heads_by => k_is)
    (case a_numbers_by => k_is)
    (case l_numbers_by => k_is)
    (case c_numbers_by => k_is)
    (case k_numbers_by => k_is)
    (case a_rows_at => k_is)
    (case l_rows_at => k_is)
    (case c_rows_at => k_is)
    (case k_rows_at => k_is)
    (case a_folded_by => k_is)
    (case l_folded_by => k_is)
    (case c_folded_by => k_is)
    (case k_folded_by => k_is)
    (case a_Keeper_init => k_is)
    (case i_Keeper_init => k_is)
    (case l_Keeper_init => k_is)
    (case c_Keeper_init => k_is)
    (case k_Keeper_init => k_is)
    (case a__law_take => k_is)
    (case l__law_take => k_is)
    (case c__law_take => k_is)
    (case k__law_take => k_is)
    (case a__law_same => k_is)
    (case l__law_same => k_is)
    (case c__law_same => k_is)
    (case k__law_same => k_is)
    (case a_Keeper_wide_now => k_is)
    (case i_Keeper_wide_now => k_is)
    (case l_Keeper_wide_now => k_is)
    (case c_Keeper_wide_now => k_is)
    (case k_Keeper_wide_now => k_is)
    (case a_Keeper_rows_now => k_is)
    (case i_Keeper_rows_now => k_is)
    (case l_Keeper_rows_now => k_is)
    (case c_Keeper_rows_now => k_is)
    (case k_Keeper_rows_now => k_is)
    (case a_Keeper_rows_of => k_is)
    (case i_Keeper_rows_of => k_is)
    (case l_Keeper_rows_of => k_is)
    (case c_Keeper_rows_of => k_is)
    (case k_Keeper_rows_of => k_is)
    (case a__law_cell_of => k_is)
    (case l__law_cell_of => k_is)
    (case c__law_cell_of => k_is)
    (case k__law_cell_of => k_is)
    (case a__law_stands => k_is)
    (case l__law_stands => k_is)
    (case c__law_stands => k_is)
    (case k__law_stands => k_is)
    (case a_Keeper_place_of => k_is)
    (case i_Keeper_place_of => k_is)
    (case l_Keeper_place_of => k_is)
    (case c_Keeper_place_of => k_is)
    (case k_Keeper_place_of => k_is)
    (case a_Keeper_cell_of => k_is)
    (case i_Keeper_cell_of => k_is)
    (case l_Keeper_cell_of => k_is)
    (case c_Keeper_cell_of => k_is)
    (case k_Keeper_cell_of => k_is)
    (case a_Keeper_found_anew => k_is)
    (case i_Keeper_found_anew => k_is)
    (case l_Keeper_found_anew => k_is)
    (case c_Keeper_found_anew => k_is)
    (case k_Keeper_found_anew => k_is)
    (case a_Keeper_put_at => k_is)
    (case i_Keeper_put_at => k_is)
    (case l_Keeper_put_at => k_is)
    (case c_Keeper_put_at => k_is)
    (case k_Keeper_put_at => k_is)
    (case a_Keeper_put_row => k_is)
    (case i_Keeper_put_row => k_is)
    (case l_Keeper_put_row => k_is)
    (case c_Keeper_put_row => k_is)
    (case k_Keeper_put_row => k_is)
    (case a__law_changes => k_is)
    (case l__law_changes => k_is)
    (case c__law_changes => k_is)
    (case k__law_changes => k_is)
    (case a_Keeper_taken => k_is)
    (case i_Keeper_taken => k_is)
    (case l_Keeper_taken => k_is)
    (case c_Keeper_taken => k_is)
    (case k_Keeper_taken => k_is)
    (case a_Keeper_undo => k_is)
    (case i_Keeper_undo => k_is)
    (case l_Keeper_undo => k_is)
    (case c_Keeper_undo => k_is)
    (case k_Keeper_undo => k_is)
    (case a__law_back => k_is)
    (case l__law_back => k_is)
    (case c__law_back => k_is)
    (case k__law_back => k_is)
    (case a_Keeper_take_row => k_is)
    (case i_Keeper_take_row => k_is)
    (case l_Keeper_take_row => k_is)
    (case c_Keeper_take_row => k_is)
    (case k_Keeper_take_row => k_is)
    (case a__law_deed => k_is)
    (case l__law_deed => k_is)
    (case c__law_deed => k_is)
    (case k__law_deed => k_is)
    (case a__law_is_gone => k_is)
    (case l__law_is_gone => k_is)
    (case c__law_is_gone => k_is)
    (case k__law_is_gone => k_is)
    (case a_law => k_is)
    (case l_law => k_is)
    (case c_law => k_is)
    (case k_law => k_is)
    (case z_abs => k_is)
    (case z_all => k_is)
    (case z_any => k_is)
    (case z_bool => k_is)
    (case z_dict => k_is)
    (case z_enumerate => k_is)
    (case z_int => k_is)
    (case z_isinstance => k_is)
    (case z_len => k_is)
    (case z_list => k_is)
    (case z_min => k_is)
    (case z_range => k_is)
    (case z_sorted => k_is)
    (case z_str => k_is)
    (case z_sum => k_is)
    (case z_tuple => k_is)
    (case z_zip => k_is)
    (case xk_NoRow => k_is)
    (case xb_NoRow => k_is)
    (case xt_NoRow => k_is)
    (case xe_NoRow => k_exc)
    (case xi_NoRow => k_is)
    (case xs_NoRow => first | rfl | k_is)
    (case g_RISING => k_is)
    (case g_SEEN => k_is)
    (case g_WAYS => k_is)
    (case gl_WAYS => k_is)
    (case gv_WAYS => rfl)
    (case gz_WAYS => first | decide | (rw [sizeLine_eq]; decide))
