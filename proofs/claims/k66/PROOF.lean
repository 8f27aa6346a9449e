import PyProof.Rows.All
import Wide.All
import OpenK.AllK
import Wide.FinOn
import HandS.ForMost
import HandS.Wide
import HandS.IsInst
import HandS.FStr
import HandS.Flow
import HandS.Lambda
import KE.KDictKeyed
import KE.KeyNested
import HandS.SetBool
import HandS.TupAny
import HandS.RaiseMore
import HandS.EndBits
import HandS.Defaults
import PyProof.ReprLen
import HandS.Zip
import PyProof.CollectIter
import PyProof.ListRange
import HandS.More
import HandS.Style
import KE.KStrBytes
import HandS.TupMul
import HandS.StrSplit
import HandS.ForExc
import HandS.TryOnly
import HandS.ExcIs
import HandS.TupLen
import HandS.DictTup
import KE.SortKeyHeap
import HandS.DictComp
import HandS.List
import HandS.Deep
import KE.KDictDisplayH
import KE.SortData
import HandS.Finally
import HandS.Conv
import KE.DataCmp
import KE.DataMinMax
import PyProof.AutoSeq1
import KE.KDictWalk
import PyProof.InstNe
import PyProof.CallStr
import PyProof.Rows.Range3
import PyProof.NeKinds
import HandS.SortKw
import HandS.SetFor
import HandS.Strs
import PyProof.P3In
import KE.KDictZip
import PySem.Challenge.RW_heardalike_k66_value_texts
set_option Elab.async false
set_option linter.all false
set_option maxRecDepth 100000
/-! DBase: values as trees (tuples are trees), a heap of what may change, and the weakest ends over them, above HandS. -/
namespace L2.Dl
open PySem PySem.Spec PyProof.Rows
structure KW where
  F : PySem.W.Frag
  P : Program
  w : World
  mg : Str → Option Value
  T : List (Addr × Str)
instance : Coe KW PySem.W.Frag := ⟨KW.F⟩
/-- the tables of code objects at which lambdas write -/
structure Tbl where
  c : Addr
  P : Addr
  q : Str
class Tb where
  C : List Tbl
def Tb.T [Tb] : List (Addr × Str) := Tb.C.map fun t => (t.P, t.q)
abbrev kwo [Tb] (P : Program) (w : World) (K : PySem.W.Frag) (mg : Str → Option Value) : KW := ⟨K, P, w, mg, Tb.T⟩
abbrev _root_.L2.Cx.kw [Tb] (X : L2.Cx) : KW := kwo X.prog X.w X.K X.mg


inductive D where
  | non | bl (b : Bool) | int (i : Int) | str (x : Str) | tup (ds : List D) | clst (ds : List D) | cdic (ks : List Key) (ds : List D) | ref (a : Addr) | ty (n : String)
inductive MO where
  | lst (ds : List D) | dK (kvs : List (Key × D)) | dN (ep : Nat) (kvs : List (D × D)) | ins (C : Str) (fs : List (Str × D)) | st (xs : List Str)
abbrev Mp := Addr → Option MO
def mup (M : Mp) (a : Addr) (o : MO) : Mp := fun b => if b = a then some o else M b
@[simp] theorem mup_same {M : Mp} {a : Addr} {o : MO} : mup M a o a = some o := if_pos rfl
theorem mup_ne {M : Mp} {a b : Addr} {o : MO} (h : b ≠ a) : mup M a o b = M b := if_neg h

/-- all that the map tells stays, but at S -/
def Fr (S : List Addr) (M M' : Mp) : Prop := ∀ a o, a ∉ S → M a = some o → M' a = some o
/-- a new object; an object changed -/
def New (M : Mp) (o : MO) (Q : Addr → Mp → Prop) : Prop := ∀ p M', M p = none → M' p = some o → Fr [] M M' → Q p M'
def Put (M : Mp) (a : Addr) (o : MO) (Q : Mp → Prop) : Prop := ∀ M', M' a = some o → Fr [a] M M' → Q M'
theorem New.at {M : Mp} {o : MO} {Q : Addr → Mp → Prop} {p : Addr} (h : New M o Q) (hp : M p = none) : Q p (mup M p o) := h p _ hp mup_same fun a x _ e => by
  rw [mup_ne (fun z : a = p => by rw [z, hp] at e; cases e)]; exact e
theorem Put.at {M : Mp} {a : Addr} {o : MO} {Q : Mp → Prop} (h : Put M a o Q) : Q (mup M a o) := h _ mup_same fun b x n e => by
  rw [mup_ne (fun z : b = a => n (by rw [z]; exact List.mem_singleton_self a))]; exact e
/-- a tuple: laid by the call, or of the written part -/
def TupAt (K : PySem.W.Frag) (H : Hp) (a : Addr) (vs : List V) : Prop := H a = some (.tup vs) ∨ SqT K (fun _ => none) a vs
def ClsAt (K : PySem.W.Frag) (H : Hp) (a : Addr) (vs : List V) : Prop := (∃ o, H a = some (.frz o (.lst vs))) ∨ SqL K (fun _ => none) a vs
mutual
def RelD (K : PySem.W.Frag) (H : Hp) : D → V → Prop
  | .non, v => v = V.non
  | .bl b, v => v = V.bl b
  | .int i, v => v = V.int i
  | .str x, v => v = V.str x
  | .tup ds, v => ∃ a vs, v = V.ref a ∧ TupAt K H a vs ∧ RelDs K H ds vs
  | .clst ds, v => ∃ a vs, v = V.ref a ∧ ClsAt K H a vs ∧ RelDs K H ds vs
  | .cdic ks ds, v => ∃ a vs o, v = V.ref a ∧ ks.length = ds.length ∧ H a = some (.frz o (.dK (ks.zip vs))) ∧ RelDs K H ds vs
  | .ref a, v => v = V.ref a
  | .ty n, v => v = V.ty n
def RelDs (K : PySem.W.Frag) (H : Hp) : List D → List V → Prop
  | [], vs => vs = []
  | d :: ds, vs => ∃ v r, vs = v :: r ∧ RelD K H d v ∧ RelDs K H ds r
end

/-- what never changes stays -/
def Keep (H H' : Hp) : Prop := (∀ a xs, H a = some (.tup xs) → H' a = some (.tup xs)) ∧ ∀ a o u, H a = some (.frz o u) → H' a = some (.frz o u)
theorem Keep.refl {H : Hp} : Keep H H := ⟨fun _ _ h => h, fun _ _ _ h => h⟩
theorem Keep.trans {H H1 H2 : Hp} (a : Keep H H1) (b : Keep H1 H2) : Keep H H2 := ⟨fun x xs h => b.1 x xs (a.1 x xs h), fun x o u h => b.2 x o u (a.2 x o u h)⟩
theorem Keep.fresh {H : Hp} {p : Addr} {o : HO} (h : H p = none) : Keep H (upd H p o) :=
  ⟨fun a xs e => by rw [upd_ne (ne_of_none e h)]; exact e, fun a _ u e => by rw [upd_ne (ne_of_none e h)]; exact e⟩
theorem TupAt.keep {K : PySem.W.Frag} {H H' : Hp} {a : Addr} {vs : List V} (k : Keep H H') (h : TupAt K H a vs) : TupAt K H' a vs := h.imp (k.1 a vs) id
theorem ClsAt.keep {K : PySem.W.Frag} {H H' : Hp} {a : Addr} {vs : List V} (k : Keep H H') (h : ClsAt K H a vs) : ClsAt K H' a vs := h.imp (fun ⟨o, e⟩ => ⟨o, k.2 a o _ e⟩) id
theorem sqT_none {K : PySem.W.Frag} {H : Hp} {a : Addr} {vs : List V} (h : SqT K (fun _ => none) a vs) : SqT K H a vs := by
  rcases h with (h | ⟨_, h⟩) | h
  · cases h
  · cases h
  · exact .inr h
theorem sqL_none {K : PySem.W.Frag} {H : Hp} {a : Addr} {vs : List V} (h : SqL K (fun _ => none) a vs) : SqL K H a vs := by
  rcases h with (h | ⟨_, h⟩) | h
  · cases h
  · cases h
  · exact .inr h
theorem TupAt.sq {K : PySem.W.Frag} {H : Hp} {a : Addr} {vs : List V} (h : TupAt K H a vs) : SqT K H a vs := h.elim SqT.of sqT_none
theorem ClsAt.sq {K : PySem.W.Frag} {H : Hp} {a : Addr} {vs : List V} (h : ClsAt K H a vs) : SqL K H a vs := h.elim (fun ⟨o, e⟩ => .inl (.inr ⟨o, e⟩)) sqL_none

mutual
theorem RelD.keep {K : PySem.W.Frag} {H H' : Hp} (k : Keep H H') : ∀ {d : D} {v : V}, RelD K H d v → RelD K H' d v
  | .non, _, h => h
  | .bl _, _, h => h
  | .int _, _, h => h
  | .str _, _, h => h
  | .tup ds, _, h => by
    unfold RelD at h ⊢
    obtain ⟨a, vs, e, t, r⟩ := h
    exact ⟨a, vs, e, t.keep k, RelDs.keep k r⟩
  | .clst ds, _, h => by
    unfold RelD at h ⊢
    obtain ⟨a, vs, e, t, r⟩ := h
    exact ⟨a, vs, e, t.keep k, RelDs.keep k r⟩
  | .cdic ks ds, _, h => by
    unfold RelD at h ⊢
    obtain ⟨a, vs, o, e, l, t, r⟩ := h
    exact ⟨a, vs, o, e, l, k.2 a o _ t, RelDs.keep k r⟩
  | .ref _, _, h => h
  | .ty _, _, h => h
theorem RelDs.keep {K : PySem.W.Frag} {H H' : Hp} (k : Keep H H') : ∀ {ds : List D} {vs : List V}, RelDs K H ds vs → RelDs K H' ds vs
  | [], _, h => h
  | d :: ds, _, h => by
    unfold RelDs at h ⊢
    obtain ⟨v, r, e, h1, h2⟩ := h
    exact ⟨v, r, e, RelD.keep k h1, RelDs.keep k h2⟩
end
section
variable {K : PySem.W.Frag} {H H' : Hp}
theorem RelDs.nil : RelDs K H [] [] := rfl
theorem RelDs.cons {d : D} {v : V} {ds : List D} {vs : List V} (h : RelD K H d v) (r : RelDs K H ds vs) : RelDs K H (d :: ds) (v :: vs) := ⟨v, vs, rfl, h, r⟩
theorem RelDs.len : ∀ {ds : List D} {vs : List V}, RelDs K H ds vs → ds.length = vs.length
  | [], _, h => by cases h; rfl
  | _ :: ds, _, h => by
    obtain ⟨v, r, rfl, _, h2⟩ := h
    exact congrArg (· + 1) (RelDs.len h2)
theorem RelDs.get : ∀ {ds : List D} {vs : List V} {i : Nat} {d : D}, RelDs K H ds vs → ds[i]? = some d → ∃ v, vs[i]? = some v ∧ RelD K H d v
  | [], _, _, _, _, e => by simp at e
  | _ :: ds, _, 0, d, h, e => by
    obtain ⟨v, r, rfl, h1, _⟩ := h
    have e' := Option.some.inj e
    subst e'
    exact ⟨v, rfl, h1⟩
  | _ :: ds, _, i + 1, d, h, e => by
    obtain ⟨v, r, rfl, _, h2⟩ := h
    exact RelDs.get (i := i) h2 e
theorem RelDs.app : ∀ {ds es : List D} {vs us : List V}, RelDs K H ds vs → RelDs K H es us → RelDs K H (ds ++ es) (vs ++ us)
  | [], _, _, _, h, r => by cases h; exact r
  | _ :: ds, _, _, _, h, r => by
    obtain ⟨v, w, rfl, h1, h2⟩ := h
    exact .cons h1 (RelDs.app h2 r)
theorem RelDs.drop : ∀ {ds : List D} {vs : List V} (n : Nat), RelDs K H ds vs → RelDs K H (ds.drop n) (vs.drop n)
  | _, _, 0, h => h
  | [], _, n + 1, h => by cases h; exact .nil
  | _ :: ds, _, n + 1, h => by
    obtain ⟨v, r, rfl, _, h2⟩ := h
    exact RelDs.drop n h2
theorem RelDs.take : ∀ {ds : List D} {vs : List V} (n : Nat), RelDs K H ds vs → RelDs K H (ds.take n) (vs.take n)
  | _, _, 0, h => rfl
  | [], _, n + 1, h => by cases h; exact .nil
  | _ :: ds, _, n + 1, h => by
    obtain ⟨v, r, rfl, h1, h2⟩ := h
    exact .cons h1 (RelDs.take n h2)
theorem RelDs.set : ∀ {ds : List D} {vs : List V} (n : Nat) {d : D} {v : V}, RelDs K H ds vs → RelD K H d v → RelDs K H (ds.set n d) (vs.set n v)
  | [], _, _, _, _, h, _ => by cases h; exact .nil
  | _ :: ds, _, 0, _, _, h, q => by
    obtain ⟨v, r, rfl, h1, h2⟩ := h
    exact .cons q h2
  | _ :: ds, _, n + 1, _, _, h, q => by
    obtain ⟨v, r, rfl, h1, h2⟩ := h
    exact .cons h1 (RelDs.set n h2 q)
theorem RelDs.rev : ∀ {ds : List D} {vs : List V}, RelDs K H ds vs → RelDs K H ds.reverse vs.reverse
  | [], _, h => by cases h; exact .nil
  | d :: ds, _, h => by
    obtain ⟨v, r, rfl, h1, h2⟩ := h
    rw [List.reverse_cons, List.reverse_cons]
    exact (RelDs.rev h2).app (.cons h1 .nil)
theorem RelDs.ints : ∀ {is : List Int}, RelDs K H (is.map D.int) (is.map V.int)
  | [] => rfl
  | i :: is => .cons rfl RelDs.ints
theorem RelDs.strs : ∀ {is : List Str}, RelDs K H (is.map D.str) (is.map V.str)
  | [] => rfl
  | i :: is => .cons rfl RelDs.strs
theorem RelDs.strs_of : ∀ {is : List Str} {vs : List V}, RelDs K H (is.map D.str) vs → vs = is.map V.str
  | [], _, h => h
  | i :: is, _, h => by
    obtain ⟨v, r, rfl, h1, h2⟩ := h
    rw [RelDs.strs_of h2, show v = V.str i from h1]
    rfl
end

/-! ### keys of dicts: tuples, nested -/
mutual
def nkD : D → Option NestedKey
  | .non => some .none
  | .bl b => some (.num (if b = true then 1 else 0))
  | .int i => some (.num i)
  | .str x => some (.text x)
  | .tup ds => (nkDs ds).map .tup
  | _ => none
def nkDs : List D → Option (List NestedKey)
  | [] => some []
  | d :: r => match nkD d, nkDs r with
    | some a, some b => some (a :: b)
    | _, _ => none
end
/-- a dict at a with keys that are tuples: its entries -/
def DicO (w : World) (a : Addr) (xs : List (NestedKey × Addr × V)) (ep : Nat) : HO := .ext fun h => ∃ (o : Obj) (es : Array DictEntry), h.get? a = some o ∧ o.ExactDict ∧ o.data = .dict es ep ∧
  Paired (fun (x : NestedKey × Addr × V) (e : DictEntry) => RelV x.2.2 e.val ∧ e.key = .ref x.2.1 ∧ e.hash = x.1.hash w) xs es.toList
theorem dicO_ne {w : World} {a : Addr} {xs : List (NestedKey × Addr × V)} {ep : Nat} {c : Addr} {q : Str} : DicO w a xs ep ≠ LamX.CodeO c q := fun z => by
  have z' := HO.ext.inj (show HO.ext _ = HO.ext _ from z)
  have g : ∀ b, b < c + 1 → (⟨Array.replicate (c + 1) { cls := .none, data := .fields #[.none, .str q default] }, {}⟩ : Heap).get? b = some { cls := .none, data := .fields #[.none, .str q default] } := fun b hb => by
    unfold Heap.get?
    simp [hb]
  have g2 : ∀ b, ¬ b < c + 1 → (⟨Array.replicate (c + 1) { cls := .none, data := .fields #[.none, .str q default] }, {}⟩ : Heap).get? b = none := fun b hb => by
    unfold Heap.get?
    simp [hb]
  have h2 := (congrFun z' (⟨Array.replicate (c + 1) { cls := .none, data := .fields #[.none, .str q default] }, {}⟩ : Heap)).mpr ⟨_, _, default, g c (Nat.lt_succ_self c), rfl, rfl⟩
  obtain ⟨o, es, e, _, hd, _⟩ := h2
  by_cases hb : a < c + 1
  · rw [g a hb] at e
    cases e
    cases (show Data.fields _ = Data.dict es ep from hd)
  · rw [g2 a hb] at e
    cases e

/-- of a set's entry: its text -/
def sKey (e : Int × Value) : Str := match e.2 with
  | .str k _ => k
  | _ => ""
def sGood (w : World) (e : Int × Value) : Prop := ∃ (k : Str) (t : Tok), e.2 = Value.str k t ∧ e.1 = hashStr w k
/-- the set of texts at a -/
def SetS (w : World) (h : Heap) (a : Addr) (xs : List Str) : Prop := ∃ (o : Obj) (es : Array (Int × Value)) (ep : Nat) (tb : SetTable), h.get? a = some o ∧ o.ExactSet ∧ o.data = .set es ep tb ∧
  (∀ e ∈ es.toList, sGood w e) ∧ (es.toList.map sKey).Perm xs ∧ xs.Nodup ∧ es.size < scanBound ∧ tb.fits es.size = true ∧ L2.Ris tb.place.toList ∧ (w.params.followText "set-order" = true ∨ tb.led = true)
def SetSO (w : World) (a : Addr) (xs : List Str) : HO := .ext fun h => SetS w h a xs
theorem setSO_ne {w : World} {a : Addr} {xs : List Str} {c : Addr} {q : Str} : SetSO w a xs ≠ LamX.CodeO c q := fun z => by
  have z' := HO.ext.inj (show HO.ext _ = HO.ext _ from z)
  have g : ∀ b, b < c + 1 → (⟨Array.replicate (c + 1) { cls := .none, data := .fields #[.none, .str q default] }, {}⟩ : Heap).get? b = some { cls := .none, data := .fields #[.none, .str q default] } := fun b hb => by
    unfold Heap.get?
    simp [hb]
  have g2 : ∀ b, ¬ b < c + 1 → (⟨Array.replicate (c + 1) { cls := .none, data := .fields #[.none, .str q default] }, {}⟩ : Heap).get? b = none := fun b hb => by
    unfold Heap.get?
    simp [hb]
  have h2 := (congrFun z' (⟨Array.replicate (c + 1) { cls := .none, data := .fields #[.none, .str q default] }, {}⟩ : Heap)).mpr ⟨_, _, default, g c (Nat.lt_succ_self c), rfl, rfl⟩
  obtain ⟨o, es, ep, tb, e, _, hd, _⟩ := h2
  by_cases hb : a < c + 1
  · rw [g a hb] at e
    cases e
    cases (show Data.fields _ = Data.set es ep tb from hd)
  · rw [g2 a hb] at e
    cases e

/-- an object that may change -/
def RelKv (K : PySem.W.Frag) (H : Hp) {κ : Type} (kds : List (κ × D)) (kvs : List (κ × V)) : Prop := Paired (fun (p : κ × D) (q : κ × V) => p.1 = q.1 ∧ RelD K H p.2 q.2) kds kvs
def RelN (K : PySem.W.Frag) (H : Hp) (kds : List (D × D)) (xs : List (NestedKey × Addr × V)) : Prop :=
  Paired (fun (p : D × D) (x : NestedKey × Addr × V) => nkD p.1 = some x.1 ∧ x.1.depth ≤ 8 ∧ RelD K H p.1 (.ref x.2.1) ∧ RelD K H p.2 x.2.2) kds xs
def RelO (K : KW) (H : Hp) (a : Addr) : MO → Prop
  | .lst ds => ∃ vs, H a = some (.lst vs) ∧ RelDs K H ds vs
  | .dK kds => ∃ kvs, H a = some (.dK kvs) ∧ RelKv K H kds kvs
  | .dN ep kds => kds.length ≤ sizeLine ∧ (a == sysModules) = false ∧ ∃ xs, H a = some (DicO K.w a xs ep) ∧ (xs.map (·.1)).Nodup ∧ RelN K H kds xs
  | .ins n fs => ∃ C dx gs, K.mg n = some (.ref C) ∧ H a = some (.ins C dx gs) ∧ RelKv K H fs gs
  | .st xs => H a = some (SetSO K.w a xs)
structure RelM (K : KW) (H : Hp) (M : Mp) : Prop where
  rel : ∀ a o, M a = some o → RelO K H a o
  tab : LamX.Tabs K.T H
instance {K : KW} {H : Hp} {M : Mp} : CoeFun (RelM K H M) (fun _ => ∀ a o, M a = some o → RelO K H a o) := ⟨RelM.rel⟩
section
variable {K : KW} {H H' : Hp} {M : Mp} {a p : Addr} {o : MO} {u : HO}
theorem RelKv.keep {K : PySem.W.Frag} {κ : Type} {kds : List (κ × D)} {kvs : List (κ × V)} (k : Keep H H') (h : RelKv K H kds kvs) : RelKv K H' kds kvs := Paired.mapP h fun _ _ z => ⟨z.1, z.2.keep k⟩
theorem RelN.keep {K : PySem.W.Frag} {kds : List (D × D)} {xs : List (NestedKey × Addr × V)} (k : Keep H H') (h : RelN K H kds xs) : RelN K H' kds xs := Paired.mapP h fun _ _ z => ⟨z.1, z.2.1, z.2.2.1.keep k, z.2.2.2.keep k⟩
theorem RelO.move (k : Keep H H') (e : H' a = H a) (h : RelO K H a o) : RelO K H' a o := by
  cases o with
  | lst ds => obtain ⟨vs, h1, h2⟩ := h; exact ⟨vs, e.trans h1, h2.keep k⟩
  | dK ds => obtain ⟨vs, h1, h2⟩ := h; exact ⟨vs, e.trans h1, h2.keep k⟩
  | dN ep ds => obtain ⟨z, y, xs, h1, h2, h3⟩ := h; exact ⟨z, y, xs, e.trans h1, h2, h3.keep k⟩
  | ins n fs => obtain ⟨C, dx, gs, h0, h1, h2⟩ := h; exact ⟨C, dx, gs, h0, e.trans h1, h2.keep k⟩
  | st xs => exact e.trans h
theorem RelO.there (h : RelO K H a o) : ∃ u, H a = some u := by
  cases o with
  | lst ds => obtain ⟨vs, h1, h2⟩ := h; exact ⟨_, h1⟩
  | dK ds => obtain ⟨vs, h1, h2⟩ := h; exact ⟨_, h1⟩
  | dN ep ds => obtain ⟨z, y, xs, h1, _⟩ := h; exact ⟨_, h1⟩
  | ins n fs => obtain ⟨C, dx, gs, h0, h1, h2⟩ := h; exact ⟨_, h1⟩
  | st xs => exact ⟨_, h⟩
theorem RelM.free (r : RelM K H M) (h : H p = none) : M p = none := by
  cases e : M p with
  | none => rfl
  | some o =>
    obtain ⟨u, q⟩ := (r p o e).there
    rw [h] at q
    cases q
/-- a smaller map -/
def Sub (M0 M : Mp) : Prop := ∀ a o, M0 a = some o → M a = some o
theorem RelM.sub {M0 : Mp} (r : RelM K H M) (s : Sub M0 M) : RelM K H M0 := ⟨fun a o e => r a o (s a o e), r.tab⟩
/-- a new object that the map does not tell -/
theorem RelM.skip (r : RelM K H M) (h : H p = none) : RelM K (upd H p u) M := ⟨fun a o e => by
  obtain ⟨x, q⟩ := (r a o e).there
  exact (r a o e).move (.fresh h) (upd_ne (ne_of_none q h)), r.tab.ext fun b o e => by rw [upd_ne (ne_of_none e h)]; exact e⟩
/-- a new object that it tells -/
theorem RelM.new (r : RelM K H M) (h : H p = none) (n : RelO K (upd H p u) p o) : RelM K (upd H p u) (mup M p o) := ⟨fun a x e => by
  by_cases ea : a = p
  · subst ea
    rw [mup_same] at e
    cases e
    exact n
  · rw [mup_ne ea] at e
    exact (r.skip h) a x e, (r.skip (u := u) h).tab⟩
/-- what may be changed is no tuple -/
def Soft : HO → Prop
  | .lst _ => True
  | .dK _ => True
  | .dT _ => True
  | .set _ _ => True
  | .ins _ _ _ => True
  | .ext φ => (∃ w a xs ep, HO.ext φ = DicO w a xs ep) ∨ ∃ w a xs, HO.ext φ = SetSO w a xs
  | _ => False
theorem Soft.notCode {c : Addr} {q : Str} : ¬ Soft (LamX.CodeO c q) := fun z => by
  rcases (show (∃ w a xs ep, _ = DicO w a xs ep) ∨ ∃ w a xs, _ = SetSO w a xs from z) with ⟨w, a, xs, ep, e⟩ | ⟨w, a, xs, e⟩
  · exact dicO_ne e.symm
  · exact setSO_ne e.symm
theorem Soft.dic {w : World} {a : Addr} {xs : List (NestedKey × Addr × V)} {ep : Nat} : Soft (DicO w a xs ep) := .inl ⟨w, a, xs, ep, rfl⟩
theorem Soft.set {w : World} {a : Addr} {xs : List Str} : Soft (SetSO w a xs) := .inr ⟨w, a, xs, rfl⟩
theorem Keep.write {x : HO} (h : H a = some x) (s : Soft x) : Keep H (upd H a u) := by
  refine ⟨fun b xs e => ?_, fun b o v e => ?_⟩
  · rw [upd_ne (ne_of e h fun z => by subst z; exact s)]
    exact e
  · rw [upd_ne (ne_of e h fun z => by subst z; exact s)]
    exact e
theorem tabs_write {T : List (Addr × Str)} {x : HO} (t : LamX.Tabs T H) (h : H a = some x) (s : Soft x) : LamX.Tabs T (upd H a u) := fun p hp => by
  obtain ⟨ps, h1, h2, h3⟩ := t p hp
  refine ⟨ps, by rw [upd_ne (ne_of h1 h fun z => by subst z; exact s)]; exact h1, h2, fun pos cv hc => ?_⟩
  obtain ⟨c, e1, e2⟩ := h3 pos cv hc
  exact ⟨c, e1, by rw [upd_ne (ne_of e2 h fun z => by subst z; exact s.notCode)]; exact e2⟩
theorem RelM.write {x : HO} (r : RelM K H M) (h : H a = some x) (s : Soft x) (n : RelO K (upd H a u) a o) : RelM K (upd H a u) (mup M a o) := ⟨fun b y e => by
  by_cases ea : b = a
  · subst ea
    rw [mup_same] at e
    cases e
    exact n
  · rw [mup_ne ea] at e
    exact (r b y e).move (.write h s) (upd_ne ea), tabs_write r.tab h s⟩
/-- an object that is not told any more -/
theorem RelM.freeze {M0 : Mp} {x : HO} (r : RelM K H M) (h : H a = some x) (s : Soft x) (h0 : M0 a = none) (hs : Sub M0 M) : RelM K (upd H a u) M0 := ⟨fun b y e => by
  by_cases ea : b = a
  · subst ea
    rw [h0] at e
    cases e
  · exact (r b y (hs b y e)).move (.write h s) (upd_ne ea), tabs_write r.tab h s⟩
end

/-! ### the slots -/
abbrev Ev := List (Option D)
def RelS (K : PySem.W.Frag) (H : Hp) (env : Ev) (σ : St) : Prop := env.length = σ.length ∧ ∀ (i : Nat) (d : D), env[i]? = some (some d) → ∃ v, σ[i]? = some (some v) ∧ RelD K H d v
section
variable {K : PySem.W.Frag} {H H' : Hp} {env : Ev} {σ : St}
theorem RelS.keep (k : Keep H H') (r : RelS K H env σ) : RelS K H' env σ := ⟨r.1, fun i d e => let ⟨v, h1, h2⟩ := r.2 i d e; ⟨v, h1, h2.keep k⟩⟩
theorem RelS.set {i : Nat} {d : D} {v : V} (r : RelS K H env σ) (h : RelD K H d v) : RelS K H (env.set i (some d)) (σ.set i (some v)) := by
  refine ⟨by rw [List.length_set, List.length_set]; exact r.1, fun j e q => ?_⟩
  by_cases hj : i = j
  · subst hj
    have hl : i < env.length := by
      have := (List.getElem?_eq_some_iff.mp q).1
      rwa [List.length_set] at this
    rw [List.getElem?_set_self hl] at q
    cases q
    exact ⟨v, List.getElem?_set_self (by rw [← r.1]; exact hl), h⟩
  · rw [List.getElem?_set_ne hj] at q ⊢
    exact r.2 j e q
theorem RelS.out {i : Nat} (r : RelS K H env σ) : RelS K H (env.set i none) (σ.set i none) := by
  refine ⟨by rw [List.length_set, List.length_set]; exact r.1, fun j e q => ?_⟩
  by_cases hj : i = j
  · subst hj
    by_cases hl : i < env.length
    · rw [List.getElem?_set_self hl] at q
      cases q
    · rw [List.getElem?_eq_none (by rw [List.length_set]; omega)] at q
      cases q
  · rw [List.getElem?_set_ne hj] at q ⊢
    exact r.2 j e q
def ewipe (env : Ev) : List Nat → Ev
  | [] => env
  | v :: vs => (ewipe env vs).set v none
theorem RelS.wipe (r : RelS K H env σ) : ∀ vs : List Nat, RelS K H (ewipe env vs) (L2.wipe σ vs)
  | [] => r
  | v :: vs => (RelS.wipe r vs).out
theorem RelS.start {N : List Str} {ds : List D} {vs : List V} (r : RelDs K H ds vs) : RelS K H (ds.map some ++ List.replicate (N.length - ds.length) none) (L2.start N vs) := by
  have hl := r.len
  refine ⟨by simp [L2.start, hl], fun i d e => ?_⟩
  by_cases hi : i < ds.length
  · rw [List.getElem?_append_left (by simpa using hi), List.getElem?_map] at e
    cases q : ds[i]? with
    | none => rw [q] at e; cases e
    | some x =>
      rw [q] at e
      cases e
      obtain ⟨v, hv, hr⟩ := r.get q
      refine ⟨v, ?_, hr⟩
      unfold L2.start
      rw [List.getElem?_append_left (by simpa [← hl] using hi), List.getElem?_map, hv]
      rfl
  · rw [List.getElem?_append_right (by simpa using hi), List.getElem?_replicate] at e
    split at e <;> cases e
end
end L2.Dl

/-! DRule: the constructs' weakest ends over trees, each shown by HandS's rule. -/
namespace L2.Dl
open PySem PySem.Spec PyProof.Rows
variable [Tb]

abbrev DQ := D → Mp → Prop
abbrev WE := Ev → Mp → DQ → Prop
abbrev WT := Ev → Mp → (Bool → Mp → Prop) → Prop
abbrev WA := Ev → Mp → (List D → Mp → Prop) → Prop
structure DEnds where
  nx : Ev → Mp → Prop
  rt : DQ
  bk : Ev → Mp → Prop := fun _ _ => False
  ct : Ev → Mp → Prop := fun _ _ => False
abbrev WS := DEnds → Ev → Mp → Prop
abbrev WG := D → Ev → Mp → (Ev → Mp → Prop) → Prop

def Lift (K : KW) (H : Hp) (Qd : DQ) (Q : VK) : Prop := ∀ d M v H', Qd d M → RelD K H' d v → Keep H H' → RelM K H' M → Q v H'
def LiftB (K : KW) (H : Hp) (Qd : Bool → Mp → Prop) (Q : Bool → Hp → Prop) : Prop := ∀ b M H', Qd b M → Keep H H' → RelM K H' M → Q b H'
def LiftA (K : KW) (H : Hp) (Qd : List D → Mp → Prop) (Q : List V → Hp → Prop) : Prop := ∀ ds M vs H', Qd ds M → RelDs K H' ds vs → Keep H H' → RelM K H' M → Q vs H'
def LiftS (K : KW) (H : Hp) (Qd : Ev → Mp → Prop) (Q : St → Hp → Prop) : Prop := ∀ env M σ H', Qd env M → RelS K H' env σ → Keep H H' → RelM K H' M → Q σ H'
structure LiftD (K : KW) (H : Hp) (Ed : DEnds) (E : Ends) : Prop where
  nx : LiftS K H Ed.nx E.nx
  rt : Lift K H Ed.rt E.rt
  bk : LiftS K H Ed.bk E.bk
  ct : LiftS K H Ed.ct E.ct
def tD (K : KW) (w : WE) : TE := fun σ H Q => ∃ env M Qd, RelS K H env σ ∧ RelM K H M ∧ w env M Qd ∧ Lift K H Qd Q
def tT (K : KW) (w : WT) : TT := fun σ H Q => ∃ env M Qd, RelS K H env σ ∧ RelM K H M ∧ w env M Qd ∧ LiftB K H Qd Q
def tA (K : KW) (w : WA) : TA := fun σ H Q => ∃ env M Qd, RelS K H env σ ∧ RelM K H M ∧ w env M Qd ∧ LiftA K H Qd Q
def tS (K : KW) (w : WS) : TS := fun E σ H => ∃ env M Ed, RelS K H env σ ∧ RelM K H M ∧ w Ed env M ∧ LiftD K H Ed E
def tG (K : KW) (w : WG) : TG := fun v σ H Q => ∃ d env M Qd, RelD K H d v ∧ RelS K H env σ ∧ RelM K H M ∧ w d env M Qd ∧ LiftS K H Qd Q
def DE (X : Cx) (e : Expr) (w : WE) : Prop := PE X e (tD X.kw w)
def DT (X : Cx) (e : Expr) (w : WT) : Prop := PT X e (tT X.kw w)
def DW (X : Cx) (e : Expr) (w : WT) : Prop := PW X e (tT X.kw w)
def DA (X : Cx) (e : List Expr) (w : WA) : Prop := PA X e (tA X.kw w)
def DS (X : Cx) (e : Stmt) (w : WS) : Prop := PS X e (tS X.kw w)
def DSs (X : Cx) (e : List Stmt) (w : WS) : Prop := PSs X e (tS X.kw w)
def DG (X : Cx) (e : Expr) (w : WG) : Prop := PG X e (tG X.kw w)

section
variable {X : Cx} {e : Expr}
theorem pe_wk {t t' : TE} (h : PE X e t) (k : ∀ σ H Q, t' σ H Q → t σ H Q) : PE X e t' := ⟨fun pins s σ H Q I q => h.run pins s σ H Q I (k σ H Q q)⟩
theorem pt_wk {t t' : TT} (h : PT X e t) (k : ∀ σ H Q, t' σ H Q → t σ H Q) : PT X e t' := ⟨fun pins s σ H Q I q => h.run pins s σ H Q I (k σ H Q q)⟩
theorem pw_wk {t t' : TT} (h : PW X e t) (k : ∀ σ H Q, t' σ H Q → t σ H Q) : PW X e t' := ⟨fun wh pins s σ H Q I q => h.run wh pins s σ H Q I (k σ H Q q)⟩
theorem pa_wk {es : List Expr} {t t' : TA} (h : PA X es t) (k : ∀ σ H Q, t' σ H Q → t σ H Q) : PA X es t' := ⟨fun pos pins s σ H Q I q => h.run pos pins s σ H Q I (k σ H Q q)⟩
theorem ps_wk {st : Stmt} {t t' : TS} (h : PS X st t) (k : ∀ E σ H, t' E σ H → t E σ H) : PS X st t' := ⟨fun pins s σ H E I q => h.run pins s σ H E I (k E σ H q)⟩
theorem pss_wk {st : List Stmt} {t t' : TS} (h : PSs X st t) (k : ∀ E σ H, t' E σ H → t E σ H) : PSs X st t' := ⟨fun pins s σ H E I q => h.run pins s σ H E I (k E σ H q)⟩
theorem pg_wk {t t' : TG} (h : PG X e t) (k : ∀ v σ H Q, t' v σ H Q → t v σ H Q) : PG X e t' := ⟨fun pins s σ H v u Q I r q => h.run pins s σ H v u Q I r (k v σ H Q q)⟩
end
section
variable {K : KW} {H H1 H' : Hp}
theorem Lift.at {Qd : DQ} {Q : VK} (l : Lift K H Qd Q) (k : Keep H H1) : Lift K H1 Qd Q := fun d M v H' q r k' m => l d M v H' q r (k.trans k') m
theorem LiftS.at {Qd : Ev → Mp → Prop} {Q : St → Hp → Prop} (l : LiftS K H Qd Q) (k : Keep H H1) : LiftS K H1 Qd Q := fun d M v H' q r k' m => l d M v H' q r (k.trans k') m
theorem LiftB.at {Qd : Bool → Mp → Prop} {Q : Bool → Hp → Prop} (l : LiftB K H Qd Q) (k : Keep H H1) : LiftB K H1 Qd Q := fun b M H' q k' m => l b M H' q (k.trans k') m
theorem LiftD.at {Ed : DEnds} {E : Ends} (l : LiftD K H Ed E) (k : Keep H H1) : LiftD K H1 Ed E := ⟨l.nx.at k, l.rt.at k, l.bk.at k, l.ct.at k⟩
end

section
variable {X : Cx} {a b c e : Expr} {es : List Expr} {wa wb wc we : WE} {wt wu wv : WT} {wx : WA} {pos : Pos}
/-! names, constants -/
def wVar (i : Nat) : WE | env, M, Q => match env[i]? with
  | some (some d) => Q d M
  | _ => False
theorem d_var {i : Nat} {x : Str} (hN : X.N[i]? = some x) (hv : Vis X.env.scope x) (hd : (x == ("__debug__" : Str)) = false := by decide) (hcd : (x == ("__classdict__" : Str)) = false := by decide) : DE X (.Name x pos) (wVar i) :=
  pe_wk (pe_var hN hv hd hcd) fun σ H Q ⟨env, M, Qd, hs, hm, hw, hl⟩ => by
    have hw : (match env[i]? with
      | some (some d) => Qd d M
      | _ => False) := hw
    split at hw
    · rename_i d e
      obtain ⟨v, e', r⟩ := hs.2 _ _ e
      exact ⟨v, e', hl d M v H hw r .refl hm⟩
    · cases hw
def wC (d : D) : WE | _, M, Q => Q d M
theorem d_int {i j} : DE X (.Constant (.int i) j pos) (wC (.int i)) := pe_wk pe_int fun σ H Q ⟨env, M, Qd, hs, hm, hw, hl⟩ => hl _ M _ H hw rfl .refl hm
theorem d_bl {i j} : DE X (.Constant (.bool i) j pos) (wC (.bl i)) := pe_wk pe_bl fun σ H Q ⟨env, M, Qd, hs, hm, hw, hl⟩ => hl _ M _ H hw rfl .refl hm
theorem d_non {j} : DE X (.Constant .none j pos) (wC .non) := pe_wk pe_non fun σ H Q ⟨env, M, Qd, hs, hm, hw, hl⟩ => hl _ M _ H hw rfl .refl hm
theorem d_str {x : Str} {j} : DE X (.Constant (.str x) j pos) (wC (.str x)) := pe_wk pe_str fun σ H Q ⟨env, M, Qd, hs, hm, hw, hl⟩ => hl _ M _ H hw rfl .refl hm
theorem d_bty {x : Str} {n : String} (hg : Gl X x) (hm : X.mg x = none) (hv : bootBuiltins x = some (.type n)) (hn : x ≠ "__name__" := by decide) (hd : (x == ("__debug__" : Str)) = false := by decide) : DE X (.Name x pos) (wC (.ty n)) :=
  pe_wk (pe_bltn (v := .ty n) hg hm hv rfl hn hd) fun σ H Q ⟨env, M, Qd, hs, hm, hw, hl⟩ => hl _ M _ H hw rfl .refl hm

/-! two values, an operation on them -/
abbrev W2 := D → D → Mp → DQ → Prop
def rD (K : KW) (r : W2) : R2 := fun x y H Q => ∃ d e M Qd, RelD K H d x ∧ RelD K H e y ∧ RelM K H M ∧ r d e M Qd ∧ Lift K H Qd Q
def OpD (X : Cx) (f : Value → Value → Sem Value) (r : W2) : Prop := OpR X f (rD X.kw r)
def wOp (r : W2) (wa wb : WE) : WE | env, M, Q => wa env M fun x M1 => wb env M1 fun y M2 => r x y M2 Q
theorem tOp_of {K : KW} {r : W2} {σ : St} {H : Hp} {Q : VK} (h : tD K (wOp r wa wb) σ H Q) : tOp (rD K r) (tD K wa) (tD K wb) σ H Q := by
  obtain ⟨env, M, Qd, hs, hm, hw, hl⟩ := h
  exact ⟨env, M, _, hs, hm, hw, fun x M1 v H1 q rv k m1 => ⟨env, M1, _, hs.keep k, m1, q, fun y M2 u H2 q2 ru k2 m2 => ⟨x, y, M2, Qd, rv.keep k2, ru, m2, q2, (hl.at k).at k2⟩⟩⟩
theorem d_op {op : Operator} {r : W2} (ho : OpD X (binaryOp op) r) (ha : DE X a wa) (hb : DE X b wb) : DE X (.BinOp a op b pos) (wOp r wa wb) := pe_wk (pe_op ho ha hb) fun _ _ _ h => tOp_of h
theorem d_cmp {op : CmpOp} {r : W2} (ho : OpD X (compareOp op) r) (ha : DE X a wa) (hb : DE X b wb) (hm : behindInMarks op b = false) : DE X (.Compare a [op] [b] pos) (wOp r wa wb) := pe_wk (pe_cmpR ho ha hb hm) fun _ _ _ h => tOp_of h
/-- a value that is True or False, as a test -/
def wTst (w : WE) : WT | env, M, Q => w env M fun d M1 => match d with
  | .bl k => Q k M1
  | _ => False
theorem tTst_of {K : KW} {w : WE} {t : TE} (k : ∀ σ H Q, tD K w σ H Q → t σ H Q) {σ : St} {H : Hp} {Q : Bool → Hp → Prop} (h : tT K (wTst w) σ H Q) : t σ H fun x H' => ∃ k, x = .bl k ∧ Q k H' := by
  obtain ⟨env, M, Qd, hs, hm, hw, hl⟩ := h
  refine k _ _ _ ⟨env, M, _, hs, hm, hw, fun x M1 v H1 q rv kk m1 => ?_⟩
  cases x with
  | bl b => exact ⟨b, rv, hl b M1 H1 q kk m1⟩
  | _ => exact q.elim
theorem t_cmp {op : CmpOp} {r : W2} (ho : OpD X (compareOp op) r) (ha : DE X a wa) (hb : DE X b wb) (hm : behindInMarks op b = false) : DT X (.Compare a [op] [b] pos) (wTst (wOp r wa wb)) :=
  pt_wk (pt_cmpR ho ha hb hm) fun _ _ _ h => tTst_of (fun _ _ _ => tOp_of) h
def wChain (r r' : W2) (wa wb wc : WE) : WE | env, M, Q => wa env M fun x M1 => wb env M1 fun y M2 => r x y M2 fun z M3 => match z with
  | .bl k => if k = true then wc env M3 fun w M4 => r' y w M4 Q else Q (.bl false) M3
  | _ => False
/-! truth -/
def truD (d : D) (M : Mp) (Q : Bool → Prop) : Prop := match d with
  | .non => Q false
  | .bl b => Q b
  | .int i => Q (i != 0)
  | .str y => y.length ≤ sizeLine ∧ Q (decide (y.length ≠ 0))
  | .tup ds => Q (!ds.isEmpty)
  | .clst ds => Q (!ds.isEmpty)
  | .ref a => match M a with
    | some (.lst ds) => Q (!ds.isEmpty)
    | some (.dK kvs) => Q (!kvs.isEmpty)
    | _ => False
  | _ => False
theorem emp_rel {K : PySem.W.Frag} {H : Hp} {ds : List D} {vs : List V} (r : RelDs K H ds vs) : ds.isEmpty = vs.isEmpty := by
  have := r.len
  cases ds <;> cases vs <;> simp_all
theorem emp_kv {K : PySem.W.Frag} {H : Hp} {κ : Type} {ds : List (κ × D)} {vs : List (κ × V)} (r : RelKv K H ds vs) : ds.isEmpty = vs.isEmpty := by
  cases r <;> rfl
theorem tru_of {K : KW} {H : Hp} {M : Mp} {d : D} {v : V} {Q : Bool → Prop} (r : RelD K H d v) (m : RelM K H M) (h : truD d M Q) : ∃ k, TruV K v H k ∧ Q k := by
  cases d with
  | non => cases (show v = _ from r); exact ⟨_, rfl, h⟩
  | bl b => cases (show v = _ from r); exact ⟨_, rfl, h⟩
  | int i => cases (show v = _ from r); exact ⟨_, rfl, h⟩
  | str y =>
    cases (show v = _ from r)
    refine ⟨_, ⟨h.1, rfl⟩, ?_⟩
    have e : ((y.length : Int) != 0) = decide (y.length ≠ 0) := by
      by_cases hy : y.length = 0
      · rw [hy]; rfl
      · rw [decide_eq_true hy]
        exact bne_iff_ne.mpr (by omega)
    rw [e]
    exact h.2
  | tup ds =>
    obtain ⟨a, vs, rfl, t, rs⟩ := r
    exact ⟨_, .inr (.inl ⟨vs, t.sq, rfl⟩), by rw [← emp_rel rs]; exact h⟩
  | clst ds =>
    obtain ⟨a, vs, rfl, t, rs⟩ := r
    exact ⟨_, .inl ⟨vs, t.sq, rfl⟩, by rw [← emp_rel rs]; exact h⟩
  | ref a =>
    cases (show v = _ from r)
    unfold truD at h
    simp only at h
    cases e : M a with
    | none => rw [e] at h; exact h.elim
    | some o =>
      rw [e] at h
      have ro := m a o e
      cases o with
      | lst ds =>
        obtain ⟨vs, q, rs⟩ := ro
        exact ⟨_, .inl ⟨vs, .of q, rfl⟩, by rw [← emp_rel rs]; exact h⟩
      | dK kvs =>
        obtain ⟨vs, q, rs⟩ := ro
        exact ⟨_, .inr (.inr ⟨vs, q, rfl⟩), by rw [← emp_kv rs]; exact h⟩
      | _ => exact h.elim
  | _ => exact h.elim
def wTru (w : WE) : WT | env, M, Q => w env M fun d M1 => truD d M1 fun k => Q k M1
theorem t_tru (ha : DE X a wa) (he : ∀ whole, isTrue a X.env whole = (do let v ← whole; standAt a.pos; holding [v] (truthy v)) := by intro _; rfl) : DT X a (wTru wa) :=
  pt_wk (pt_truth ha he) fun σ H Q ⟨env, M, Qd, hs, hm, hw, hl⟩ => ⟨env, M, _, hs, hm, hw, fun d M1 v H1 q r k m1 => by
    obtain ⟨b, h1, h2⟩ := tru_of r m1 q
    exact ⟨b, h1, hl b M1 H1 h2 k m1⟩⟩
/-! and, or, not, if-else -/
def wAnd (wa wb : WE) : WE | env, M, Q => wa env M fun x M1 => truD x M1 fun k => if k = true then wb env M1 Q else Q x M1
def wOr (wa wb : WE) : WE | env, M, Q => wa env M fun x M1 => truD x M1 fun k => if k = true then Q x M1 else wb env M1 Q
def wNot (wa : WE) : WE | env, M, Q => wa env M fun x M1 => truD x M1 fun k => Q (.bl (!k)) M1
theorem d_one {op} (h : DE X a wa) : DE X (.BoolOp op [a] pos) wa := pe_one h
theorem d_and {rest : List Expr} (ha : DE X a wa) (hb : DE X (.BoolOp .And (b :: rest) pos) wb) : DE X (.BoolOp .And (a :: b :: rest) pos) (wAnd wa wb) :=
  pe_wk (pe_andT ha hb) fun σ H Q ⟨env, M, Qd, hs, hm, hw, hl⟩ => ⟨env, M, _, hs, hm, hw, fun d M1 v H1 q r k m1 => by
    obtain ⟨b, h1, h2⟩ := tru_of r m1 q
    refine ⟨b, h1, ?_⟩
    cases b with
    | true => exact ⟨env, M1, Qd, hs.keep k, m1, h2, hl.at k⟩
    | false => exact hl _ _ _ _ h2 r k m1⟩
def wtAnd (wt wu : WT) : WT | env, M, Q => wt env M fun k M1 => if k = true then wu env M1 Q else Q false M1
def wtOr (wt wu : WT) : WT | env, M, Q => wt env M fun k M1 => if k = true then Q true M1 else wu env M1 Q
def wtNot (wt : WT) : WT | env, M, Q => wt env M fun k M1 => Q (!k) M1
theorem w_and1 (ha : DT X a wt) : DW X (.BoolOp .And [a] pos) wt := pw_and1 ha
theorem w_or1 (ha : DT X a wt) : DW X (.BoolOp .Or [a] pos) wt := pw_or1 ha
theorem w_and {rest : List Expr} (ha : DT X a wt) (hb : DW X (.BoolOp .And (b :: rest) pos) wu) : DW X (.BoolOp .And (a :: b :: rest) pos) (wtAnd wt wu) :=
  pw_wk (pw_and ha hb) fun σ H Q ⟨env, M, Qd, hs, hm, hw, hl⟩ => ⟨env, M, _, hs, hm, hw, fun b M1 H1 q k m1 => by
    cases b with
    | true => exact ⟨env, M1, Qd, hs.keep k, m1, q, hl.at k⟩
    | false => exact hl _ _ _ q k m1⟩
theorem w_or {rest : List Expr} (ha : DT X a wt) (hb : DW X (.BoolOp .Or (b :: rest) pos) wu) : DW X (.BoolOp .Or (a :: b :: rest) pos) (wtOr wt wu) :=
  pw_wk (pw_or ha hb) fun σ H Q ⟨env, M, Qd, hs, hm, hw, hl⟩ => ⟨env, M, _, hs, hm, hw, fun b M1 H1 q k m1 => by
    cases b with
    | false => exact ⟨env, M1, Qd, hs.keep k, m1, q, hl.at k⟩
    | true => exact hl _ _ _ q k m1⟩
theorem t_w (h : DW X a wt) : DT X a wt := PW.pt h
theorem t_not (ha : DT X a wt) : DT X (.UnaryOp .Not a pos) (wtNot wt) :=
  pt_wk (pt_not ha) fun σ H Q ⟨env, M, Qd, hs, hm, hw, hl⟩ => ⟨env, M, _, hs, hm, hw, fun b M1 H1 q k m1 => hl _ _ _ q k m1⟩
def wIf (wt : WT) (wa wb : WE) : WE | env, M, Q => wt env M fun k M1 => if k = true then wa env M1 Q else wb env M1 Q
theorem d_if (hc : DT X c wt) (ha : DE X a wa) (hb : DE X b wb) : DE X (.IfExp c a b pos) (wIf wt wa wb) :=
  pe_wk (pe_ifExp hc ha hb) fun σ H Q ⟨env, M, Qd, hs, hm, hw, hl⟩ => ⟨env, M, _, hs, hm, hw, fun b M1 H1 q k m1 => by
    cases b with
    | true => exact ⟨env, M1, Qd, hs.keep k, m1, q, hl.at k⟩
    | false => exact ⟨env, M1, Qd, hs.keep k, m1, q, hl.at k⟩⟩

/-! arguments, displays -/
def wNil : WA | _, M, Q => Q [] M
def wCons (wa : WE) (wx : WA) : WA | env, M, Q => wa env M fun d M1 => wx env M1 fun ds M2 => Q (d :: ds) M2
theorem a_nil : DA X [] wNil := pa_wk pa_nil fun σ H Q ⟨env, M, Qd, hs, hm, hw, hl⟩ => hl _ _ _ _ hw .nil .refl hm
theorem a_cons (ha : DE X a wa) (hr : DA X es wx) (hs : starEach (a :: es) X.env = (false, eval a X.env) :: starEach es X.env := by rfl) : DA X (a :: es) (wCons wa wx) :=
  pa_wk (pa_cons ha hr hs) fun σ H Q ⟨env, M, Qd, hs, hm, hw, hl⟩ => ⟨env, M, _, hs, hm, hw, fun d M1 v H1 q r k m1 => ⟨env, M1, _, hs.keep k, m1, q, fun ds M2 vs H2 q2 rs k2 m2 => hl _ _ _ _ q2 (.cons (r.keep k2) rs) (k.trans k2) m2⟩⟩
def wTup (wx : WA) : WE | env, M, Q => wx env M fun ds M1 => ds.length ≤ sizeLine ∧ Q (.tup ds) M1
theorem d_tup {x1} (h : DA X es wx) : DE X (.Tuple es x1 pos) (wTup wx) :=
  pe_wk (pe_tup h) fun σ H Q ⟨env, M, Qd, hs, hm, hw, hl⟩ => ⟨env, M, _, hs, hm, hw, fun ds M1 vs H1 q rs k m1 => ⟨by rw [← rs.len]; exact q.1, fun p hp => by
    have kk : Keep H1 (upd H1 p (.tup vs)) := .fresh hp
    exact hl _ M1 _ _ q.2 ⟨p, vs, rfl, .inl upd_same, rs.keep kk⟩ (k.trans kk) (m1.skip hp)⟩⟩
def wLst (wx : WA) : WE | env, M, Q => wx env M fun ds M1 => ds.length ≤ sizeLine ∧ New M1 (.lst ds) fun p M2 => Q (.ref p) M2
/-- a new list -/
theorem Lift.newL {K : KW} {H : Hp} {M : Mp} {Qd : DQ} {Q : VK} {ds : List D} {vs : List V} (l : Lift K H Qd Q) (rs : RelDs K H ds vs) (m : RelM K H M) (q : New M (.lst ds) fun p M2 => Qd (.ref p) M2) :
    ∀ p, H p = none → Q (.ref p) (upd H p (.lst vs)) := fun p hp => by
  have kk : Keep H (upd H p (.lst vs)) := .fresh hp
  exact l _ _ _ _ (q.at (m.free hp)) rfl kk (m.new hp ⟨vs, upd_same, rs.keep kk⟩)
theorem d_lst (h : DA X es wx) : DE X (.List es pos) (wLst wx) :=
  pe_wk (pe_lst h) fun σ H Q ⟨env, M, Qd, hs, hm, hw, hl⟩ => ⟨env, M, _, hs, hm, hw, fun ds M1 vs H1 q rs k m1 => ⟨by rw [← rs.len]; exact q.1, (hl.at k).newL rs m1 q.2⟩⟩

/-! one value, an operation; a call of a built-in -/
def rD1 (K : KW) (r : D → Mp → DQ → Prop) : V → Hp → VK → Prop := fun x H Q => ∃ d M Qd, RelD K H d x ∧ RelM K H M ∧ r d M Qd ∧ Lift K H Qd Q
def UnD (X : Cx) (f : Value → Sem Value) (r : D → Mp → DQ → Prop) : Prop := UnR X f (rD1 X.kw r)
def wUn (r : D → Mp → DQ → Prop) (wa : WE) : WE | env, M, Q => wa env M fun x M1 => r x M1 Q
theorem d_un {op : UnaryOp} {r : D → Mp → DQ → Prop} (ho : UnD X (unaryOp op) r) (ha : DE X a wa) : DE X (.UnaryOp op a pos) (wUn r wa) :=
  pe_wk (pe_un ho ha) fun σ H Q ⟨env, M, Qd, hs, hm, hw, hl⟩ => ⟨env, M, _, hs, hm, hw, fun d M1 v H1 q r k m1 => ⟨d, M1, Qd, r, m1, q, hl.at k⟩⟩
abbrev WC := List D → Mp → DQ → Prop
def rDs (K : KW) (r : WC) : List V → Hp → VK → Prop := fun xs H Q => ∃ ds M Qd, RelDs K H ds xs ∧ RelM K H M ∧ r ds M Qd ∧ Lift K H Qd Q
def CallD (X : Cx) (f : Value) (r : WC) : Prop := CallR X f (rDs X.kw r)
def wCall (r : WC) (wx : WA) : WE | env, M, Q => wx env M fun ds M1 => r ds M1 Q
theorem tCall_of {K : KW} {r : WC} {σ : St} {H : Hp} {Q : VK} (h : tD K (wCall r wx) σ H Q) : tA K wx σ H fun xs H1 => rDs K r xs H1 Q := by
  obtain ⟨env, M, Qd, hs, hm, hw, hl⟩ := h
  exact ⟨env, M, _, hs, hm, hw, fun d M1 v H1 q r k m1 => ⟨d, M1, Qd, r, m1, q, hl.at k⟩⟩
theorem d_callB {x : Str} {id : String} {r : WC} {p : Pos} (hc : CallD X (.builtin id) r) (hg : Gl X x) (hm : X.mg x = none) (hv : bootBuiltins x = some (.builtin id)) (ha : DA X (e :: es) wx) (hn : x ≠ "__name__" := by decide)
    (hdb : (x == ("__debug__" : Str)) = false := by decide) (he : starEach (e :: es) X.env = (false, eval e X.env) :: starEach es X.env := by rfl) (hpl : (backTo pos (starEach es X.env)).any (·.1) = false := by rfl) :
    DE X (.Call (.Name x p) (e :: es) [] pos) (wCall r wx) := pe_wk (pe_callB hc hg hm hv ha hn hdb he hpl) fun _ _ _ h => tCall_of h
theorem d_callTy {x : Str} {T : String} {r : WC} {p : Pos} (hc : CallD X (.type T) r) (hg : Gl X x) (hm : X.mg x = none) (hv : bootBuiltins x = some (.type T)) (ha : DA X (e :: es) wx) (hn : x ≠ "__name__" := by decide)
    (hdb : (x == ("__debug__" : Str)) = false := by decide) (he : starEach (e :: es) X.env = (false, eval e X.env) :: starEach es X.env := by rfl) (hpl : (backTo pos (starEach es X.env)).any (·.1) = false := by rfl) :
    DE X (.Call (.Name x p) (e :: es) [] pos) (wCall r wx) := pe_wk (pe_callTy hc hg hm hv ha hn hdb he hpl) fun _ _ _ h => tCall_of h
end

/-! ### statements -/
section
variable {X : Cx} {st : Stmt} {rest sa sb : List Stmt} {a b c e : Expr} {we wb : WE} {wt : WT} {w u : WS} {wg : WG} {pos : Pos}
def wNext : WS | E, env, M => E.nx env M
def wSeq (w u : WS) : WS | E, env, M => w { E with nx := fun env' M' => u E env' M' } env M
theorem s_nil : DSs X [] wNext := pss_wk pss_nil fun E σ H ⟨env, M, Ed, hs, hm, hw, hl⟩ => hl.nx _ _ _ _ hw hs .refl hm
theorem s_cons (h1 : DS X st w) (h2 : DSs X rest u) : DSs X (st :: rest) (wSeq w u) :=
  pss_wk (pss_cons h1 h2) fun E σ H ⟨env, M, Ed, hs, hm, hw, hl⟩ => ⟨env, M, _, hs, hm, hw, ⟨fun env1 M1 σ1 H1 q r k m => ⟨env1, M1, Ed, r, m, q, hl.at k⟩, hl.rt, hl.bk, hl.ct⟩⟩
theorem s_one (h1 : DS X st w) : DSs X [st] w := pss_one h1
def wBreak : WS | E, env, M => E.bk env M
def wCont : WS | E, env, M => E.ct env M
def wDrop (we : WE) : WS | E, env, M => we env M fun _ M1 => E.nx env M1
theorem s_expr (he : DE X e we) (hs : swapsWith e none pos.line X.env = pure false := by rfl) : DS X (.Expr e pos) (wDrop we) :=
  ps_wk (ps_expr he hs) fun E σ H ⟨env, M, Ed, hs, hm, hw, hl⟩ => ⟨env, M, _, hs, hm, hw, fun d M1 v H1 q r k m1 => hl.nx _ _ _ _ q (hs.keep k) k m1⟩
def wRet (we : WE) : WS | E, env, M => we env M E.rt
theorem s_ret (he : DE X e we) : DS X (.Return (some e) pos) (wRet we) := ps_wk (ps_ret he) fun E σ H ⟨env, M, Ed, hs, hm, hw, hl⟩ => ⟨env, M, _, hs, hm, hw, hl.rt⟩
def wRetN : WS | E, _, M => E.rt .non M
def wIfS (wt : WT) (w u : WS) : WS | E, env, M => wt env M fun k M1 => if k = true then w E env M1 else u E env M1
theorem s_if (hc : DT X c wt) (ha : DSs X sa w) (hb : DSs X sb u) : DS X (.If c sa sb pos) (wIfS wt w u) :=
  ps_wk (ps_if hc ha hb) fun E σ H ⟨env, M, Ed, hs, hm, hw, hl⟩ => ⟨env, M, _, hs, hm, hw, fun b M1 H1 q k m1 => by
    cases b with
    | true => exact ⟨env, M1, Ed, hs.keep k, m1, q, hl.at k⟩
    | false => exact ⟨env, M1, Ed, hs.keep k, m1, q, hl.at k⟩⟩
/-! targets -/
def gN (i : Nat) : WG | d, env, M, Q => Q (env.set i (some d)) M
theorem g_name {i : Nat} {x : Str} (hN : X.N.Nodup) (hi : X.N[i]? = some x) (hx : Loc X.env.scope x) (hf : X.fn x = true ∨ X.env.scope.names.lookup x = some .local := by first | exact .inl rfl | exact .inr rfl | assumption) : DG X (.Name x pos) (gN i) :=
  pg_wk (pg_name hN hi hx hf) fun v σ H Q ⟨d, env, M, Qd, hr, hs, hm, hw, hl⟩ => hl _ _ _ _ hw (hs.set hr) .refl hm
abbrev WGs := List D → Ev → Mp → (Ev → Mp → Prop) → Prop
def tGs (K : KW) (w : WGs) : TGs := fun vs σ H Q => ∃ ds env M Qd, RelDs K H ds vs ∧ RelS K H env σ ∧ RelM K H M ∧ w ds env M Qd ∧ LiftS K H Qd Q
def DGs (X : Cx) (es : List Expr) (w : WGs) : Prop := PGs X es (tGs X.kw w)
theorem pgs_wk {es : List Expr} {t t' : TGs} (h : PGs X es t) (k : ∀ v σ H Q, t' v σ H Q → t v σ H Q) : PGs X es t' := ⟨fun pins s σ H v u Q I r q => h.run pins s σ H v u Q I r (k v σ H Q q)⟩
def gsNil : WGs | ds, env, M, Q => ds = [] ∧ Q env M
def gsCons (g : WG) (gs : WGs) : WGs | ds, env, M, Q => match ds with
  | d :: r => g d env M fun env1 M1 => gs r env1 M1 Q
  | [] => False
theorem gs_nil : DGs X [] gsNil := pgs_wk pgs_nil fun vs σ H Q ⟨ds, env, M, Qd, hr, hs, hm, hw, hl⟩ => by
  obtain ⟨rfl, q⟩ := hw
  cases hr
  exact ⟨rfl, hl _ _ _ _ q hs .refl hm⟩
theorem gs_cons {es : List Expr} {gs : WGs} (h1 : DG X e wg) (h2 : DGs X es gs) (hs : (assignEach (e :: es) X.env).map (·.2) = assign e X.env :: (assignEach es X.env).map (·.2) := by rfl) : DGs X (e :: es) (gsCons wg gs) :=
  pgs_wk (pgs_cons h1 h2 hs) fun vs σ H Q ⟨ds, env, M, Qd, hr, hs, hm, hw, hl⟩ => by
    cases ds with
    | nil => exact hw.elim
    | cons d r =>
      obtain ⟨v, vr, rfl, rv, rr⟩ := hr
      exact ⟨v, vr, rfl, d, env, M, _, rv, hs, hm, hw, fun env1 M1 σ1 H1 q r1 k m1 => ⟨r, env1, M1, Qd, rr.keep k, r1, m1, q, hl.at k⟩⟩
def gTu (n : Nat) (gs : WGs) : WG | d, env, M, Q => match d with
  | .tup ds => ds.length = n ∧ gs ds env M Q
  | _ => False
theorem g_tup {es : List Expr} {k : Nat} {gs : WGs} {n : Nat} (hc : X.calm = true) (h : DGs X es gs) (hn : (assignEach es X.env).length = n := by rfl) (hst : (assignEach es X.env).findIdx? (·.1) = none := by rfl) :
    DG X (.Tuple es k pos) (gTu n gs) := pg_wk (pg_tup hc h hn hst) fun v σ H Q ⟨d, env, M, Qd, hr, hs, hm, hw, hl⟩ => by
  cases d with
  | tup ds =>
    obtain ⟨a, vs, rfl, t, rs⟩ := hr
    exact ⟨a, vs, rfl, t.sq, by rw [← rs.len]; exact hw.1, ds, env, M, Qd, rs, hs, hm, hw.2, hl⟩
  | _ => exact hw.elim
def wAsg (we : WE) (g : WG) : WS | E, env, M => we env M fun d M1 => g d env M1 E.nx
theorem tAsg_of {K : KW} {E : Ends} {σ : St} {H : Hp} (h : tS K (wAsg we wg) E σ H) : tAsg (tD K we) (tG K wg) E σ H := by
  obtain ⟨env, M, Ed, hs, hm, hw, hl⟩ := h
  exact ⟨env, M, _, hs, hm, hw, fun d M1 v H1 q r k m1 => ⟨d, env, M1, _, r, hs.keep k, m1, q, hl.nx.at k⟩⟩
theorem s_asg {tg : Expr} (he : DE X e we) (hg : DG X tg wg) (hs : swapsWithSole [tg] e pos.line X.env = pure false := by rfl) (hw : swappedStores [tg] e X.env = pure none := by rfl)
    (h1 : (assignEach [tg] X.env).map (·.2) = [assign tg X.env] := by rfl) : DS X (.Assign [tg] e pos) (wAsg we wg) := ps_wk (ps_asg he hg hs hw h1) fun _ _ _ h => tAsg_of h
theorem s_set {i : Nat} {x : Str} {pos' : Pos} (hN : X.N.Nodup) (hi : X.N[i]? = some x) (hx : Loc X.env.scope x) (he : DE X e we) (hs : swapsWith e (some (.Name x pos')) pos.line X.env = pure false := by rfl)
    (hf : X.fn x = true ∨ X.env.scope.names.lookup x = some .local := by first | exact .inl rfl | exact .inr rfl | assumption) : DS X (.Assign [.Name x pos'] e pos) (wAsg we (gN i)) :=
  ps_wk (ps_set hN hi hx he hs hf) fun E σ H ⟨env, M, Ed, hs, hm, hw, hl⟩ => ⟨env, M, _, hs, hm, hw, fun d M1 v H1 q r k m1 => hl.nx _ _ _ _ q ((hs.keep k).set r) k m1⟩
def wPar (i j : Nat) (wx : WA) : WS | E, env, M => wx env M fun ds M1 => match ds with
  | [d, e] => E.nx ((env.set i (some d)).set j (some e)) M1
  | _ => False
end
end L2.Dl

/-! DLoop: what is walked, for, while, list comprehensions; calls of defs. -/
namespace L2.Dl
open PySem PySem.Spec PyProof.Rows
variable [Tb]

/-! ### what is walked -/
structure ItD (K : KW) (H0 : Hp) (J : It) (ok : Mp → Prop) (items : List D) : Prop where
  go : ∀ i H M, Keep H0 H → RelM K H M → ok M → i < items.length → J.go i H
  yld : ∀ i H M x H' d, Keep H0 H → RelM K H M → ok M → J.yld i H x H' → items[i]? = some d → RelD K H' d x ∧ Keep H H' ∧ RelM K H' M
  stop : ∀ i H M, Keep H0 H → RelM K H M → ok M → items.length ≤ i → J.stop i H
abbrev WI := Ev → Mp → ((Mp → Prop) → List D → Mp → Prop) → Prop
def tI (K : KW) (wi : WI) : TI := fun σ H R => ∃ env M Rd, RelS K H env σ ∧ RelM K H M ∧ wi env M Rd ∧ ∀ ok items M' H' J, Rd ok items M' → Keep H H' → RelM K H' M' → ItD K H' J ok items → R J H'
def DI (X : Cx) (tg iter : Expr) (wi : WI) : Prop := PI X tg iter (tI X.kw wi)
theorem pi_wk {X : Cx} {tg it : Expr} {t t' : TI} (h : PI X tg it t) (k : ∀ σ H R, t' σ H R → t σ H R) : PI X tg it t' := ⟨fun pins s σ H R I q => h.run pins s σ H R I (k σ H R q)⟩

def runFor (ok : Mp → Prop) (g : WG) (w : WS) (E : DEnds) : List D → Ev → Mp → Prop
  | [], env, M => ok M ∧ E.nx env M
  | d :: r, env, M => ok M ∧ g d env M fun env1 M1 => w { nx := runFor ok g w E r, rt := E.rt, bk := E.nx, ct := runFor ok g w E r } env1 M1
def wFor (wi : WI) (g : WG) (w : WS) : WS | E, env, M => wi env M fun ok items M1 => runFor ok g w E items env M1
section
variable {X : Cx} {tg it e c : Expr} {body : List Stmt} {wi : WI} {wg : WG} {w : WS} {we : WE} {wt : WT} {pos : Pos}
theorem s_for (hp : PassesOwn (model X.prog X.w) X.A X.env X.xe) (hc : X.calm = true) (hi : DI X tg it wi) (hg : DG X tg wg) (hb : DSs X body w) (hs : ∀ x, foldedSetIterable it X.env x = pure x := by intro _; rfl) : DS X (.For tg it body [] pos) (wFor wi wg w) :=
  ps_wk (ps_for hp hc hi hg hb hs) fun E σ H ⟨env, M, Ed, hs, hm, hw, hl⟩ => by
    refine ⟨env, M, _, hs, hm, hw, fun ok items M1 H1 J q k1 m1 D => ?_⟩
    refine ⟨fun i m σ2 H2 => ∃ env2 M2, Keep H1 H2 ∧ RelS X.K H2 env2 σ2 ∧ RelM X.kw H2 M2 ∧ i + m = items.length ∧ runFor ok wg w Ed (items.drop i) env2 M2, ⟨items.length, env, M1, .refl, hs.keep k1, m1, Nat.zero_add _, q⟩, fun i m σ2 H2 hW => ?_⟩
    obtain ⟨env2, M2, k2, s2, m2, hi, hr⟩ := hW
    by_cases h : i < items.length
    · rw [List.drop_eq_getElem_cons h] at hr
      obtain ⟨ho, hr⟩ := hr
      refine .inr ⟨D.go i H2 M2 k2 m2 ho h, fun σ' H' => ∃ env' M', Keep H1 H' ∧ RelS X.K H' env' σ' ∧ RelM X.kw H' M' ∧ runFor ok wg w Ed (items.drop (i + 1)) env' M', fun σ' H' hN => ?_, fun x H' hy => ?_⟩
      · obtain ⟨env', M', k', s', m', r'⟩ := hN
        exact ⟨m - 1, by omega, env', M', k', s', m', by omega, r'⟩
      · obtain ⟨rd, k3, m3⟩ := D.yld i H2 M2 x H' _ k2 m2 ho hy (List.getElem?_eq_getElem h)
        refine ⟨_, env2, M2, _, rd, s2.keep k3, m3, hr, fun env4 M4 σ4 H4 q4 s4 k4 m4 => ⟨env4, M4, _, s4, m4, q4, ?_⟩⟩
        have kk : Keep H1 H4 := (k2.trans k3).trans k4
        have nx : LiftS X.kw H4 (runFor ok wg w Ed (items.drop (i + 1))) fun σ' H' => ∃ env' M', Keep H1 H' ∧ RelS X.K H' env' σ' ∧ RelM X.kw H' M' ∧ runFor ok wg w Ed (items.drop (i + 1)) env' M' :=
          fun env5 M5 σ5 H5 q5 s5 k5 m5 => ⟨env5, M5, kk.trans k5, s5, m5, q5⟩
        exact ⟨nx, hl.rt.at (k1.trans kk), hl.nx.at (k1.trans kk), nx⟩
    · rw [List.drop_of_length_le (by omega)] at hr
      exact .inl ⟨D.stop i H2 M2 k2 m2 hr.1 (by omega), hl.nx _ _ _ _ hr.2 s2 (k1.trans k2) m2⟩

def runWhile (wt : WT) (w : WS) (E : DEnds) : Nat → Ev → Mp → Prop
  | 0, _, _ => False
  | n + 1, env, M => wt env M fun k M1 => if k = true then w { nx := runWhile wt w E n, rt := E.rt, bk := E.nx, ct := runWhile wt w E n } env M1 else E.nx env M1
def wWhile (wt : WT) (w : WS) : WS | E, env, M => ∃ n, runWhile wt w E n env M
theorem s_while (hp : PassesOwn (model X.prog X.w) X.A X.env X.xe) (hc : DT X c wt) (hb : DSs X body w) : DS X (.While c body [] pos) (wWhile wt w) :=
  ps_wk (ps_while hp hc hb) fun E σ H ⟨env, M, Ed, hs, hm, ⟨n, hw⟩, hl⟩ => by
    refine ⟨fun m σ2 H2 => ∃ env2 M2, Keep H H2 ∧ RelS X.K H2 env2 σ2 ∧ RelM X.kw H2 M2 ∧ runWhile wt w Ed m env2 M2, ⟨n, env, M, .refl, hs, hm, hw⟩, fun m σ2 H2 hW => ?_⟩
    obtain ⟨env2, M2, k2, s2, m2, hr⟩ := hW
    cases m with
    | zero => exact hr.elim
    | succ m =>
      refine ⟨env2, M2, _, s2, m2, hr, fun b M3 H3 q3 k3 m3 => ?_⟩
      cases b with
      | true =>
        refine ⟨fun σ' H' => ∃ env' M', Keep H H' ∧ RelS X.K H' env' σ' ∧ RelM X.kw H' M' ∧ runWhile wt w Ed m env' M', fun σ' H' hN => ⟨m, Nat.lt_succ_self _, hN⟩, env2, M3, _, s2.keep k3, m3, q3, ?_⟩
        have kk : Keep H H3 := k2.trans k3
        have nx : LiftS X.kw H3 (runWhile wt w Ed m) fun σ' H' => ∃ env' M', Keep H H' ∧ RelS X.K H' env' σ' ∧ RelM X.kw H' M' ∧ runWhile wt w Ed m env' M' := fun env5 M5 σ5 H5 q5 s5 k5 m5 => ⟨env5, M5, kk.trans k5, s5, m5, q5⟩
        exact ⟨nx, hl.rt.at kk, hl.nx.at kk, nx⟩
      | false => exact hl.nx _ _ _ _ q3 (s2.keep k3) (k2.trans k3) m3

/-! ### list comprehensions -/
/-- a target of a block's own names -/
def LiftW (K : KW) (vs : List Nat) (σ0 : St) (H : Hp) (Qd : Ev → Mp → Prop) (Q : St → Hp → Prop) : Prop := ∀ env M σ H', Qd env M → RelS K H' env σ → Keep H H' → RelM K H' M → L2.wipe σ vs = L2.wipe σ0 vs → Q σ H'
def tGo (K : KW) (vs : List Nat) (w : WG) : TG := fun v σ H Q => ∃ d env M Qd, RelD K H d v ∧ RelS K H env σ ∧ RelM K H M ∧ w d env M Qd ∧ LiftW K vs σ H Qd Q
def DGo (X : Cx) (vs : List Nat) (e : Expr) (w : WG) : Prop := PG X e (tGo X.kw vs w)
theorem wipe_set {σ : St} {i : Nat} {o : Option V} : ∀ {vs : List Nat}, i ∈ vs → L2.wipe (σ.set i o) vs = L2.wipe σ vs
  | [], h => by simp at h
  | v :: vs, h => by
    unfold L2.wipe
    by_cases hv : i ∈ vs
    · rw [wipe_set hv]
    · have hiv : i = v := (List.mem_cons.mp h).resolve_right hv
      subst hiv
      have step : ∀ us : List Nat, i ∉ us → ∀ τ : St, L2.wipe (τ.set i o) us = (L2.wipe τ us).set i o := fun us => by
        induction us with
        | nil => intro _ τ; rfl
        | cons u us ih =>
          intro hn τ
          unfold L2.wipe
          rw [ih (fun z => hn (List.mem_cons_of_mem _ z)) τ, List.set_comm _ _ (fun z : i = u => hn (z ▸ List.mem_cons_self))]
      rw [step vs hv σ, List.set_set]
theorem wipe_comm {v : Nat} : ∀ (us : List Nat) (τ : St), L2.wipe (τ.set v none) us = (L2.wipe τ us).set v none
  | [], _ => rfl
  | u :: us, τ => by
    unfold L2.wipe
    rw [wipe_comm us τ]
    by_cases h : v = u
    · subst h
      rfl
    · rw [List.set_comm _ _ h]
theorem wipe_idem : ∀ (us : List Nat) (τ : St), L2.wipe (L2.wipe τ us) us = L2.wipe τ us
  | [], _ => rfl
  | u :: us, τ => by
    show (L2.wipe ((L2.wipe τ us).set u none) us).set u none = (L2.wipe τ us).set u none
    rw [wipe_comm, wipe_idem us τ, List.set_set]
theorem go_name {vs : List Nat} {i : Nat} {x : Str} (hN : X.N.Nodup) (hi : X.N[i]? = some x) (hx : Loc X.env.scope x) (hv : i ∈ vs := by decide) (hf : X.fn x = true ∨ X.env.scope.names.lookup x = some .local := by first | exact .inl rfl | exact .inr rfl | assumption) :
    DGo X vs (.Name x pos) (gN i) :=
  pg_wk (pg_name hN hi hx hf) fun v σ H Q ⟨d, env, M, Qd, hr, hs, hm, hw, hl⟩ => hl _ _ _ _ hw (hs.set hr) .refl hm (wipe_set hv)
def DTs (X : Cx) (ifs : List Expr) (w : WT) : Prop := PTs X ifs (tT X.kw w)
theorem pts_wk {ifs : List Expr} {t t' : TT} (h : PTs X ifs t) (k : ∀ σ H Q, t' σ H Q → t σ H Q) : PTs X ifs t' := ⟨fun pins s σ H Q I q => h.run pins s σ H Q I (k σ H Q q)⟩
def wYes : WT | _, M, Q => Q true M
theorem ts_nil : DTs X [] wYes := pts_wk pts_nil fun σ H Q ⟨env, M, Qd, hs, hm, hw, hl⟩ => hl _ _ _ hw .refl hm
theorem ts_one (h : DT X c wt) : DTs X [c] wt := pts_one h
def runLc (ok : Mp → Prop) (g : WG) (wt : WT) (we : WE) (env0 : Ev) (p : Addr) (Q : DQ) : List D → Mp → Prop
  | [], M => ok M ∧ Q (.ref p) M
  | d :: r, M => ok M ∧ g d env0 M fun env2 M2 => wt env2 M2 fun k M3 => if k = true then we env2 M3 fun y M4 => ∃ acc, M4 p = some (.lst acc) ∧ acc.length < sizeLine ∧ Put M4 p (.lst (acc ++ [y])) fun M5 => runLc ok g wt we env0 p Q r M5
    else runLc ok g wt we env0 p Q r M3
def wLc (wi : WI) (g : WG) (wt : WT) (we : WE) (vs : List Nat) : WE | env, M, Q => wi env M fun ok items M1 => New M1 (.lst []) fun p M2 => runLc ok g wt we (ewipe env vs) p Q items M2
theorem tLc_of {K : KW} {vs : List Nat} {σ : St} {H : Hp} {Q : VK} (h : tD K (wLc wi wg wt we vs) σ H Q) : tLc (tI K wi) (tGo K vs wg) (tT K wt) (tD K we) vs σ H Q := by
  obtain ⟨env, M, Qd, hs, hm, hw, hl⟩ := h
  refine ⟨env, M, _, hs, hm, hw, fun ok items M1 H1 J q k1 m1 D p hp => ?_⟩
  have hq := q.at (m1.free hp)
  have kp : Keep H1 (upd H1 p (.lst [])) := .fresh hp
  have mp : RelM K (upd H1 p (.lst [])) (mup M1 p (.lst [])) := m1.new hp ⟨[], upd_same, .nil⟩
  refine ⟨fun i m H2 => ∃ M2, Keep H1 H2 ∧ RelM K H2 M2 ∧ i + m = items.length ∧ runLc ok wg wt we (ewipe env vs) p Qd (items.drop i) M2, ⟨items.length, _, kp, mp, Nat.zero_add _, hq⟩, fun i m H2 hW => ?_⟩
  obtain ⟨M2, k2, m2, hi, hr⟩ := hW
  by_cases h : i < items.length
  · rw [List.drop_eq_getElem_cons h] at hr
    obtain ⟨ho, hr⟩ := hr
    refine .inr ⟨D.go i H2 M2 k2 m2 ho h, fun H' => ∃ M', Keep H1 H' ∧ RelM K H' M' ∧ runLc ok wg wt we (ewipe env vs) p Qd (items.drop (i + 1)) M', fun H' hN => ?_, fun x H' hy => ?_⟩
    · obtain ⟨M', k', m', r'⟩ := hN
      exact ⟨m - 1, by omega, M', k', m', by omega, r'⟩
    · obtain ⟨rd, k3, m3⟩ := D.yld i H2 M2 x H' _ k2 m2 ho hy (List.getElem?_eq_getElem h)
      refine ⟨_, ewipe env vs, M2, _, rd, (((hs.keep k1).keep k2).keep k3).wipe vs, m3, hr, fun env4 M4 σ4 H4 q4 s4 k4 m4 e4 => ⟨?_, env4, M4, _, s4, m4, q4, fun b M5 H5 q5 k5 m5 => ?_⟩⟩
      · exact e4.trans (wipe_idem vs σ)
      have kk : Keep H1 H5 := ((k2.trans k3).trans k4).trans k5
      cases b with
      | true =>
        refine ⟨env4, M5, _, s4.keep k5, m5, q5, fun y M6 u H6 q6 ru k6 m6 => ?_⟩
        obtain ⟨acc, ea, hz, hn⟩ := q6
        obtain ⟨us, eu, rs⟩ := m6 _ _ ea
        have kw : Keep H6 (upd H6 p (.lst (us ++ [u]))) := .write eu trivial
        exact ⟨us, eu, by rw [← rs.len]; exact hz, _, (kk.trans k6).trans kw, RelM.write (o := .lst (acc ++ [y])) m6 eu trivial ⟨_, upd_same, (rs.keep kw).app (.cons (ru.keep kw) .nil)⟩, hn.at⟩
      | false => exact ⟨M5, kk, m5, q5⟩
  · rw [List.drop_of_length_le (by omega)] at hr
    exact .inl ⟨D.stop i H2 M2 k2 m2 hr.1 (by omega), hl _ _ _ _ hr.2 rfl (k1.trans k2) m2⟩
theorem d_lc {elt : Expr} {ifs : List Expr} {scope : Scope} {own : List (Str × Nat)} (hc : X.calm = true) (hN : X.N.Nodup) (hi : DI X tg it wi) (ok : BlkOk X.N X.env.scope scope own)
    (hg : ∀ (s : Shared) (H : Hp) (C : Addr) (cl : List (Str × Addr)) (fp : List Addr), DGo (X.blk s H scope (compEnvC scope cl C X.env) fp) (own.map (·.2)) tg wg) (ht : ∀ (s : Shared) (H : Hp) (C : Addr) (cl : List (Str × Addr)) (fp : List Addr), DTs (X.blk s H scope (compEnvC scope cl C X.env) fp) ifs wt)
    (he : ∀ (s : Shared) (H : Hp) (C : Addr) (cl : List (Str × Addr)) (fp : List Addr), DE (X.blk s H scope (compEnvC scope cl C X.env) fp) elt we) (hs : ∀ x, foldedSetIterable it X.env x = pure x := by intro _; rfl) :
    DE X (.ListComp elt [⟨tg, it, ifs, 0⟩] scope pos) (wLc wi wg wt we (own.map (·.2))) := pe_wk (pe_lc (g := tGo X.kw (List.map (fun (p : Str × Nat) => p.2) own) wg) (tt := tT X.kw wt) (te := tD X.kw we) hc hN hi ok hg ht he hs) fun _ _ _ h => tLc_of h
theorem s_setLc {i : Nat} {y : Str} {py spos : Pos} {elt : Expr} {ifs : List Expr} {scope : Scope} {own : List (Str × Nat)} (hc : X.calm = true) (hN : X.N.Nodup) (hy : X.N[i]? = some y) (hyl : X.env.scope.names.lookup y = some .local)
    (hsw : swapsWith (.ListComp elt [⟨tg, it, ifs, 0⟩] scope pos) (some (.Name y py)) spos.line X.env = pure true) (hi : DI X tg it wi) (ok : BlkOk X.N X.env.scope scope own)
    (hg : ∀ (s : Shared) (H : Hp) (C : Addr) (cl : List (Str × Addr)) (fp : List Addr), DGo (X.blk s H scope (compEnvC scope cl C X.env) fp) (own.map (·.2)) tg wg) (ht : ∀ (s : Shared) (H : Hp) (C : Addr) (cl : List (Str × Addr)) (fp : List Addr), DTs (X.blk s H scope (compEnvC scope cl C X.env) fp) ifs wt)
    (he : ∀ (s : Shared) (H : Hp) (C : Addr) (cl : List (Str × Addr)) (fp : List Addr), DE (X.blk s H scope (compEnvC scope cl C X.env) fp) elt we) (hs : ∀ x, foldedSetIterable it X.env x = pure x := by intro _; rfl) :
    DS X (.Assign [.Name y py] (.ListComp elt [⟨tg, it, ifs, 0⟩] scope pos) spos) (wAsg (wLc wi wg wt we (own.map (·.2))) (gN i)) :=
  ps_wk (ps_setLc (g := tGo X.kw (List.map (fun (p : Str × Nat) => p.2) own) wg) (tt := tT X.kw wt) (te := tD X.kw we) hc hN hy hyl hsw hi ok hg ht he hs) fun E σ H ⟨env, M, Ed, hs, hm, hw, hl⟩ => tLc_of ⟨env, M, _, hs, hm, hw, fun d M1 v H1 q r k m1 => hl.nx _ _ _ _ q ((hs.keep k).set r) k m1⟩

/-! ### iterators -/
/-- a list: one that stays as it is while it is walked, or one that never changes -/
def iSeq (d : D) (M : Mp) (R : (Mp → Prop) → List D → Prop) : Prop := match d with
  | .tup ds => R (fun _ => True) ds
  | .clst ds => R (fun _ => True) ds
  | .ref a => ∃ ds, M a = some (.lst ds) ∧ R (fun M' => M' a = some (.lst ds)) ds
  | .str x => R (fun _ => True) (x.cps.toList.map fun c => .str ⟨#[c]⟩)
  | _ => False
def itS (we : WE) (p : D → Bool) : WI | env, M, R => we env M fun d M1 => p d = true ∧ iSeq d M1 fun ok ds => R ok ds M1
theorem itl_ok {K : KW} {H0 : Hp} {a : Addr} {ds : List D} {ok : Mp → Prop} (h : ∀ H M, Keep H0 H → RelM K H M → ok M → ∃ vs, SqL K H a vs ∧ RelDs K H ds vs) : ItD K H0 (Itl K a) ok ds where
  go := fun i H M k m o hi => by
    obtain ⟨vs, hq, rs⟩ := h H M k m o
    have hl := rs.len
    exact ⟨vs, vs[i]'(by omega), hq, List.getElem?_eq_getElem (by omega)⟩
  yld := fun i H M x H' d k m o hy hd => by
    obtain ⟨rfl, hx⟩ := hy
    obtain ⟨vs, hq, rs⟩ := h _ M k m o
    obtain ⟨v, e, r⟩ := rs.get hd
    have := hx vs hq
    rw [e] at this
    cases this
    exact ⟨r, .refl, m⟩
  stop := fun i H M k m o hi => by
    obtain ⟨vs, hq, rs⟩ := h H M k m o
    exact ⟨vs, hq, by rw [← rs.len]; exact hi⟩
theorem itt_ok {K : KW} {H0 : Hp} {a : Addr} {ds : List D} {ok : Mp → Prop} (h : ∀ H M, Keep H0 H → RelM K H M → ok M → ∃ vs, SqT K H a vs ∧ RelDs K H ds vs) : ItD K H0 (Itt K a) ok ds where
  go := fun i H M k m o hi => by
    obtain ⟨vs, hq, rs⟩ := h H M k m o
    have hl := rs.len
    exact ⟨vs, vs[i]'(by omega), hq, List.getElem?_eq_getElem (by omega)⟩
  yld := fun i H M x H' d k m o hy hd => by
    obtain ⟨rfl, hx⟩ := hy
    obtain ⟨vs, hq, rs⟩ := h _ M k m o
    obtain ⟨v, e, r⟩ := rs.get hd
    have := hx vs hq
    rw [e] at this
    cases this
    exact ⟨r, .refl, m⟩
  stop := fun i H M k m o hi => by
    obtain ⟨vs, hq, rs⟩ := h H M k m o
    exact ⟨vs, hq, by rw [← rs.len]; exact hi⟩
def rngD (lo : Int) (n : Nat) : List D := (List.range n).map fun i => .int (lo + (i : Nat))
theorem itr_ok {K : KW} {H0 : Hp} {lo : Int} {n : Nat} : ItD K H0 (Itr lo n) (fun _ => True) (rngD lo n) where
  go := fun i H M k m o hi => by
    show i < n
    simpa [rngD] using hi
  yld := fun i H M x H' d k m o hy hd => by
    obtain ⟨rfl, rfl⟩ := hy
    unfold rngD at hd
    rw [List.getElem?_map] at hd
    cases q : (List.range n)[i]? with
    | none => rw [q] at hd; cases hd
    | some j =>
      rw [q] at hd
      cases hd
      have := List.getElem?_eq_some_iff.mp q
      obtain ⟨h1, h2⟩ := this
      rw [List.getElem_range] at h2
      subst h2
      exact ⟨rfl, .refl, m⟩
  stop := fun i H M k m o hi => by
    show n ≤ i
    simpa [rngD] using hi
def itRng1 (wx : WA) : WI | env, M, R => wx env M fun ds M1 => match ds with
  | [.int j] => -(2 ^ 62) ≤ j ∧ j < 2 ^ 62 ∧ R (fun _ => True) (rngD 0 j.toNat) M1
  | _ => False
theorem i_rng1 {a : Expr} {wx : WA} {p : Pos} (hg : Gl X "range") (hm : X.mg "range" = none) (ha : DA X [a] wx) (hs : starEach [a] X.env = [(false, eval a X.env)] := by rfl) : DI X tg (.Call (.Name "range" p) [a] [] pos) (itRng1 wx) :=
  pi_wk (pi_range1 hg hm ha hs) fun σ H R ⟨env, M, Rd, hs, hm, hw, hl⟩ => ⟨env, M, _, hs, hm, hw, fun ds M1 vs H1 q r k m1 => by
    split at q
    · rename_i j
      obtain ⟨v, r1, rfl, hv, e2⟩ := r
      cases (show v = _ from hv)
      cases e2
      exact ⟨j, rfl, q.1, q.2.1, hl _ _ _ _ _ q.2.2 k m1 itr_ok⟩
    · exact q.elim⟩
end

/-! ### defs -/
def Rm (k : Nat) (A : Around) : Prop := Room k A ∧ A.guards = some []
theorem Rm.mono {j k : Nat} {A : Around} (r : Rm k A) (h : j ≤ k) : Rm j A := ⟨r.1.mono h, r.2⟩
theorem Rm.deeper {k : Nat} {A : Around} (r : Rm (k + 1) A) (env : Env) : Rm k (A.deeper env) := ⟨r.1.deeper env, r.2⟩
/-- a def's promise over trees -/
structure FnG (P : Program) (w : World) (K : PySem.W.Frag) (mg : Str → Option Value) (base : Heap) (k : Nat) (f : Addr) (fd : FuncData) (ps : List Str) (W : WC) : Prop where
  len : ∀ ds M Q, W ds M Q → ds.length = ps.length
  run : ∀ (A : Around) (outer : List Env) (s : Shared) (H : Hp) (args : Args) (us : List Value) (vs : List V) (Q : VK), Rm k A → Env0 P w K mg base A outer s H → BindsTo s fd args (ps.zip us) → Vals vs us → rDs (kwo P w K mg) W vs H Q →
    codeAny (model P w) A (.call (.ref f) args) (CR CX0 outer P w H s Q E0) s
theorem FnG.mono {P : Program} {w : World} {K : PySem.W.Frag} {mg : Str → Option Value} {base : Heap} {j k : Nat} {f : Addr} {fd : FuncData} {ps : List Str} {W : WC} (F : FnG P w K mg base j f fd ps W) (h : j ≤ k) : FnG P w K mg base k f fd ps W :=
  ⟨F.len, fun A outer s H args us vs Q hr => F.run A outer s H args us vs Q (hr.mono h)⟩
/-- a def of n slots and np parameters -/
def dropQ (Q : DQ) : DQ := fun d M => ∃ M0, Sub M0 M ∧ Q d M0
theorem Sub.refl {M : Mp} : Sub M M := fun _ _ h => h
theorem Sub.trans {A B C : Mp} (h : Sub A B) (k : Sub B C) : Sub A C := fun a o e => k a o (h a o e)
def wDef (n np : Nat) (body : WS) : WC | ds, M, Q => ds.length = np ∧ body { nx := fun _ M' => dropQ Q .non M', rt := dropQ Q } (ds.map some ++ List.replicate (n - ds.length) none) M
/-- a def as it stands behind the top, with its defaults (dV: a tuple or None; kV: the keyword-only ones) -/
structure FunA (K : PySem.W.Frag) (x qual : Str) (st : Stmt) (dV kV cdv : Value) (f : Addr) (fd : FuncData) : Prop where
  ex : ∃ (oc : Value) (od : Option Addr) (doc pm : Value) (an : Option Addr) (ct : Value) (osl : Array (Option Value)), fd = PySem.W.fnOf x qual (defArgs st) (defBody st) (defScope st) dV kV doc pm an cdv ct ∧ K.lookup f = some ⟨oc, od, .func fd, osl⟩ ∧ PySem.W.codeIn K cdv qual = true
  kp : PySem.W.keepIn K (.ref f) = true
theorem fn_g {P : Program} {w : World} {K : PySem.W.Frag} {mg : Str → Option Value} {base : Heap} {k : Nat} {x qual : Str} {st : Stmt} {f : Addr} {fd : FuncData} {N ps : List Str} {body : WS} {dV kV cdv : Value} (F : FunA K x qual st dV kV cdv f fd) (S : FnScope N ps (defScope st))
    (hb : ∀ (A : Around) (outer : List Env) (s : Shared) (H : Hp), Rm k (A.deeper (envOfC qual (defScope st) s.heap.objs.size f cdv)) →
      DSs (cxOf CX0 P w K mg base N qual (defScope st) f cdv A outer s H E0).nox (defBody st) body) : FnG P w K mg base (k + 1) f fd ps (wDef N.length ps.length body) := by
  obtain ⟨oc, od, doc, pm, an, ct, osl, rfl, lk, hcd⟩ := F.ex
  refine ⟨fun ds M Q h => h.1, fun A outer s H args us vs Q hr e0 hbd rv hW => ?_⟩
  obtain ⟨ds, M, Qd, rd, rm, ⟨hl, hw⟩, lf⟩ := hW
  have hlen : vs.length = ps.length := by rw [← rd.len]; exact hl
  have KX : K.In s.heap := e0.mod.kin.keeps fun b o e => (e0.bs b o e).1
  have lim : s.heap.NoLimit := e0.mod.nolimit.keeps fun b o e => (e0.bs b o e).1
  have hk : ∀ y ∈ ps.zip us, (defScope st).names.lookup y.1 = some .local ∨ ((defScope st).names.lookup y.1 = some .cell ∧ ((cellsFrom (s.heap.objs.size + 1) (defScope st).names []).lookup y.1).isSome = true) := fun y hy =>
    (S.par y.1 (List.of_mem_zip (show (y.1, y.2) ∈ ps.zip us from hy)).1).imp id fun q => ⟨q, PySem.W.cellsFrom_some _ _ _ (.inl q)⟩
  refine codeAny_call_function hr.1.depth (KX _ _ lk) rfl S.co S.gen rfl (PySem.W.codeRec_of KX hcd) (hbd _ _ _ _ (wpAny_newFunctionEnv_cells S.kind hk fun env he s1 x => ?_))
  subst he
  refine ⟨lim.keeps x.toInCall.keep, codeAny_func ?_⟩
  have I : Inv (cxOf CX0 P w K mg base N qual (defScope st) f cdv A outer s H E0) [] (L2.start N vs) H s1 := inv_start S hr.1.hd e0 hlen rv x
  have B : DSs (cxOf CX0 P w K mg base N qual (defScope st) f cdv A outer s H E0) (defBody st) body := PSs.nox (hb A outer s H (hr.deeper _))
  have goal : ∀ {σ' : St} {H' : Hp} {v : V} {u : Value} {s' : Shared}, Inv (cxOf CX0 P w K mg base N qual (defScope st) f cdv A outer s H E0) [] σ' H' s' → RelV v u → Q v H' → CE outer P w H s Q u s' :=
    fun J r q => ⟨_, _, J.os, J.bare, J.base, J.hok, r, q⟩
  refine wpAny_mono (B.run [] s1 (L2.start N vs) H { nx := fun _ H' => Q .non H', rt := Q } I ⟨_, M, _, .start rd, rm, hw, ⟨fun _ M' _ H' ⟨M0, hs, q⟩ _ k m => lf _ M0 _ H' q rfl k (m.sub hs), fun d M' v H' ⟨M0, hs, q⟩ r k m => lf d M0 v H' q r k (m.sub hs), fun _ _ _ _ q => q.elim, fun _ _ _ _ q => q.elim⟩⟩) (fun fl s' hs => ?_) fun e s' hs => hs
  cases fl with
  | ret u =>
    obtain ⟨v, σ', H', J, r, q⟩ := hs
    exact goal J r q
  | next =>
    obtain ⟨σ', H', J, q⟩ := hs
    exact goal (v := V.non) (u := Value.none) J rfl q
  | brk =>
    obtain ⟨_, _, _, q⟩ := hs
    exact q.elim
  | cont =>
    obtain ⟨_, _, _, q⟩ := hs
    exact q.elim
section
variable {X : Cx} {k : Nat} {f : Addr} {fd : FuncData} {ps : List Str} {W : WC} {x : Str} {p pos : Pos} {e : Expr} {es : List Expr} {wx wk : WA}
/-- how positional values bind -/
def PB (K : PySem.W.Frag) (fd : FuncData) (ps : List Str) : Prop := ∀ (s : Shared) (us : List Value), K.In s.heap → us.length = ps.length → BindsTo s fd ⟨us, []⟩ (ps.zip us)
theorem run_g {args : Args} {pins : List (Addr × Obj)} {σ : St} {H : Hp} {s : Shared} {Q : VK} {us : List Value} {vs : List V} {kw : List (Str × Value)} {a : List Value} (F : FnG X.prog X.w X.K X.mg X.base k f fd ps W) (hr : Rm k X.A)
    (hb : BindsTo s fd ⟨a, kw⟩ (ps.zip us)) (I : Inv X pins σ H s) (r : Vals vs us) (h : rDs X.kw W vs H Q) : wpAny (model X.prog X.w) X.A (call (.ref f) a kw) (EP X pins σ Q) X.xe s := by
  refine wpAny_call (codeAny_mono (F.run X.A X.stack s H ⟨a, kw⟩ us vs Q hr I.env0 hb r h) fun r s' hq => ?_)
  cases r with
  | error e => exact False.elim hq
  | ok fl =>
    cases fl with
    | ret u => exact I.after hq
    | _ => exact False.elim hq
theorem d_call (F : FnG X.prog X.w X.K X.mg X.base k f fd ps W) (hr : Rm k X.A) (hg : Gl X x) (hm : X.mg x = some (.ref f)) (hk : PySem.W.keepIn X.K (.ref f) = true) (hb : PB X.K fd ps) (ha : DA X (e :: es) wx)
    (hdb : (x == ("__debug__" : Str)) = false := by decide) (he : starEach (e :: es) X.env = (false, eval e X.env) :: starEach es X.env := by rfl) (hpl : (backTo pos (starEach es X.env)).any (·.1) = false := by rfl) :
    DE X (.Call (.Name x p) (e :: es) [] pos) (wCall W wx) := by
  refine ⟨fun pins s σ H Q I h => wpAny_Call_Name_kw (ld_glob I hg hm ?_ hdb)⟩
  refine PySem.W.callWith_K (h₀ := X.base) I.ok.mod.kin hk (thn (ha.run pos pins s σ H _ I (tCall_of h)) fun us s1 ⟨vs, H1, I1, r, q⟩ => ⟨I1.kIn, ?_⟩) he hpl
  obtain ⟨ds, M, Qd, rd, rm, hW, lf⟩ := id q
  exact run_g (args := ⟨us, []⟩) F hr (hb s1 us I1.kIn (by rw [← r.length, ← rd.len]; exact F.len _ _ _ hW)) I1 r q
theorem d_call0 (F : FnG X.prog X.w X.K X.mg X.base k f fd ps W) (hr : Rm k X.A) (hg : Gl X x) (hm : X.mg x = some (.ref f)) (hk : PySem.W.keepIn X.K (.ref f) = true) (hb : PB X.K fd ps) (hdb : (x == ("__debug__" : Str)) = false := by decide) :
    DE X (.Call (.Name x p) [] [] pos) (wCall W wNil) := by
  refine ⟨fun pins s σ H Q I h => wpAny_Call_Name_kw (ld_glob I hg hm ?_ hdb)⟩
  obtain ⟨env, M, Qd, hs, rm, hW, lf⟩ := h
  refine PySem.W.callWith_K0 I.kIn hk (run_g (args := ⟨[], []⟩) (us := []) (vs := []) F hr (hb s [] I.kIn ?_) I .nil ⟨[], M, Qd, .nil, rm, hW, lf⟩)
  exact F.len _ _ _ hW
/-- where a parameter's value comes from -/
inductive Src where
  | p (i : Nat) | k (j : Nat) | c (d : D) (v : V) (u : Value)
def Src.D (us ws : List Dl.D) : Src → Dl.D
  | .p i => us.getD i .non
  | .k j => ws.getD j .non
  | .c d _ _ => d
def Src.V (us ws : List L2.V) : Src → L2.V
  | .p i => us.getD i .non
  | .k j => ws.getD j .non
  | .c _ v _ => v
def Src.U (us ws : List Value) : Src → Value
  | .p i => us.getD i .none
  | .k j => ws.getD j .none
  | .c _ _ u => u
/-- .. told of trees alone -/
inductive SrcD where
  | p (i : Nat) | k (j : Nat) | c (d : D)
def SrcD.D (us ws : List Dl.D) : SrcD → Dl.D
  | .p i => us.getD i .non
  | .k j => ws.getD j .non
  | .c d => d
def Src.d : Src → SrcD
  | .p i => .p i
  | .k j => .k j
  | .c d _ _ => .c d
structure KB (K : PySem.W.Frag) (fd : FuncData) (ps : List Str) (n : Nat) (ks : List Str) (sel : List Src) : Prop where
  to : ∀ (s : Shared) (us ws : List Value), K.In s.heap → us.length = n → ws.length = ks.length → BindsTo s fd ⟨us, ks.zip ws⟩ (ps.zip (sel.map (Src.U us ws)))
  ok : ∀ d v u, Src.c d v u ∈ sel → RelV v u ∧ RelD K (fun _ => none) d v
def wCallK (W : WC) (n m : Nat) (sel : List SrcD) (wx wk : WA) : WE | env, M, Q => wx env M fun ds M1 => wk env M1 fun zs M2 => ds.length = n ∧ zs.length = m ∧ W (sel.map (SrcD.D ds zs)) M2 Q
end
end L2.Dl

/-! DOps: operators, comparisons, built-ins by values. -/
namespace L2.Dl
open PySem PySem.Spec PyProof.Rows
variable [Tb]

section
variable {K : KW} {H : Hp} {M : Mp} {Qd : DQ} {Q : VK} {pins : List (Addr × Obj)} {s : Shared}
theorem Lift.val (l : Lift K H Qd Q) (m : RelM K H M) {d : D} {v : V} (q : Qd d M) (r : RelD K H d v) : Q v H := l d M v H q r .refl m
theorem Lift.newT (l : Lift K H Qd Q) {ds : List D} {vs : List V} (rs : RelDs K H ds vs) (m : RelM K H M) (q : Qd (.tup ds) M) : ∀ p, H p = none → Q (.ref p) (upd H p (.tup vs)) := fun p hp => by
  have kk : Keep H (upd H p (.tup vs)) := .fresh hp
  exact l _ M _ _ q ⟨p, vs, rfl, .inl upd_same, rs.keep kk⟩ kk (m.skip hp)
end

/-! ### arithmetic -/
def lstOf (d : D) (M : Mp) : Option (List D) := match d with
  | .clst ds => some ds
  | .ref a => match M a with
    | some (.lst ds) => some ds
    | _ => none
  | _ => none
theorem lst_of {K : KW} {H : Hp} {M : Mp} {d : D} {v : V} {ds : List D} (m : RelM K H M) (r : RelD K H d v) (h : lstOf d M = some ds) : ∃ a vs, v = .ref a ∧ SqL K H a vs ∧ RelDs K H ds vs := by
  cases d with
  | clst es =>
    cases h
    obtain ⟨a, vs, rfl, t, rs⟩ := r
    exact ⟨a, vs, rfl, t.sq, rs⟩
  | ref a =>
    cases (show v = _ from r)
    unfold lstOf at h
    simp only at h
    split at h
    · rename_i es e
      cases h
      obtain ⟨vs, h3, rs⟩ := m _ _ e
      exact ⟨a, vs, rfl, .of h3, rs⟩
    · cases h
  | _ => cases h
section
variable {X : Cx}
def rCatL (K : PySem.W.Frag) : R2 := fun x y H Q => ∃ l b xs zs, x = .ref l ∧ y = .ref b ∧ SqL K H l xs ∧ SqL K H b zs ∧ xs.length + zs.length ≤ sizeLine ∧ ∀ p, H p = none → Q (.ref p) (upd H p (.lst (xs ++ zs)))
theorem op_catL : OpR X (binaryOp .Add) (rCatL X.K) := by
  intro pins s σ H x y v u Q I rx ry ⟨l, b, xs, zs, e1, e2, h1, h2, hz, q⟩
  subst e1 e2
  cases rx
  cases ry
  obtain ⟨its, r, ⟨⟨cl, dd, dt, sl⟩, n, ho, hc, hd, hdt⟩, hl⟩ := I.list h1
  obtain ⟨its2, r2, ⟨⟨cl2, dd2, dt2, sl2⟩, n2, ho2, hc2, hd2, hdt2⟩, hl2⟩ := I.list h2
  simp only at hc hdt hc2 hdt2
  subst hc hdt hc2 hdt2
  have ea : its.toArray ++ its2.toArray = (its ++ its2).toArray := by simp
  refine concat_meets ⟨_, ho, rfl⟩ ⟨_, ho2, rfl⟩ noFill_list_add seq_list_add PySem.F.slot_list_add PySem.F.entry_list_add (PySem.F.args_list_add_2 _ _) (list_addW l b its.toArray its2.toArray n n2 dd dd2 sl sl2 (by rw [List.size_toArray, List.size_toArray, ← r.length, ← r2.length]; exact hz)) ⟨ho, ho2, ?_⟩
  rw [ea]
  exact ⟨.ref _, _, I.lnew (t' := s.toks) (r.append r2) (by rw [List.length_append]; exact hz), rfl, q _ I.fresh⟩
end
def bAdd : W2 | d, e, M, Q => match d, e with
  | .int i, .int j => Q (.int (i + j)) M
  | .str x, .str y => x.length + y.length ≤ sizeLine ∧ Q (.str (x ++ y)) M
  | .tup xs, .tup ys => xs.length + ys.length ≤ sizeLine ∧ Q (.tup (xs ++ ys)) M
  | d, e => ∃ xs ys, lstOf d M = some xs ∧ lstOf e M = some ys ∧ xs.length + ys.length ≤ sizeLine ∧ New M (.lst (xs ++ ys)) fun p M2 => Q (.ref p) M2
def bInt (C : Int → Int → Prop) (f : Int → Int → Int) : W2 | d, e, M, Q => match d, e with
  | .int i, .int j => C i j ∧ Q (.int (f i j)) M
  | _, _ => False
def bSub : W2 := bInt (fun _ _ => True) fun i j => i - j
def bMul : W2 := bInt CMulW fun i j => i * j
def bMod : W2 := bInt (fun _ j => 0 < j) fun i j => i % j
def bDiv : W2 := bInt CDivW fun i j => i / j
def bPow : W2 := bInt CPow fun i j => i ^ j.toNat
section
variable {X : Cx}
theorem o_int {f : Value → Value → Sem Value} {C : Int → Int → Prop} {g : Int → Int → Int} (h : OpR X f (rI C fun i j => .int (g i j))) : OpD X f (bInt C g) := by
  intro pins s σ H x y v u Q I rx ry ⟨d, e, M, Qd, hd, he, hm, hr, hl⟩
  cases d with
  | int i =>
    cases e with
    | int j => exact h pins s σ H x y v u Q I rx ry ⟨i, j, hd, he, hr.1, hl.val hm hr.2 rfl⟩
    | _ => exact hr.elim
  | _ => exact hr.elim
theorem o_sub : OpD X (binaryOp .Sub) bSub := o_int fun pins s σ H x y v u Q I rx ry ⟨i, j, h1, h2, _, q⟩ => op_sub pins s σ H x y v u Q I rx ry ⟨i, j, h1, h2, q⟩
theorem o_mul : OpD X (binaryOp .Mult) bMul := o_int op_mulW
theorem o_mod : OpD X (binaryOp .Mod) bMod := o_int op_mod
theorem o_div : OpD X (binaryOp .FloorDiv) bDiv := o_int op_fdivW
theorem o_pow : OpD X (binaryOp .Pow) bPow := o_int op_pow
theorem o_add : OpD X (binaryOp .Add) bAdd := by
  intro pins s σ H x y v u Q I rx ry ⟨d, e, M, Qd, hd, he, hm, hr, hl⟩
  have lst : (∃ xs ys, lstOf d M = some xs ∧ lstOf e M = some ys ∧ xs.length + ys.length ≤ sizeLine ∧ New M (.lst (xs ++ ys)) fun p M2 => Qd (.ref p) M2) → wpAny (model X.prog X.w) X.A (binaryOp .Add v u) (EP X pins σ Q) X.xe s := fun ⟨xs, ys, e1, e2, hz, q⟩ => by
    obtain ⟨a, vs, rfl, h1, r1⟩ := lst_of hm hd e1
    obtain ⟨b, us, rfl, h2, r2⟩ := lst_of hm he e2
    exact op_catL pins s σ H _ _ v u Q I rx ry ⟨a, b, vs, us, rfl, rfl, h1, h2, by rw [← r1.len, ← r2.len]; exact hz, hl.newL (r1.app r2) hm q⟩
  cases d with
  | int i =>
    cases e with
    | int j => exact op_add pins s σ H x y v u Q I rx ry ⟨i, j, hd, he, hl.val hm hr rfl⟩
    | _ => exact lst hr
  | str i =>
    cases e with
    | str j => exact op_add_str pins s σ H x y v u Q I rx ry ⟨i, j, hd, he, hr.1, hl.val hm hr.2 rfl⟩
    | _ => exact lst hr
  | tup xs =>
    cases e with
    | tup ys =>
      obtain ⟨a, vs, rfl, ta, ra⟩ := hd
      obtain ⟨b, us, rfl, tb, rb⟩ := he
      refine op_catA pins s σ H _ _ v u Q I rx ry ⟨a, b, vs, us, rfl, rfl, ta.sq, tb.sq, by rw [← ra.len, ← rb.len]; exact hr.1, fun e => ?_, fun e1 e2 => ?_, fun _ _ => hl.newT (ra.app rb) hm hr.2⟩
      · have : xs = [] := List.length_eq_zero_iff.mp (by rw [ra.len, e]; rfl)
        subst this
        exact hl.val hm hr.2 ⟨b, us, rfl, tb, rb⟩
      · have : ys = [] := List.length_eq_zero_iff.mp (by rw [rb.len, e2]; rfl)
        subst this
        have q := hr.2
        rw [List.append_nil] at q
        exact hl.val hm q ⟨a, vs, rfl, ta, ra⟩
    | _ => exact lst hr
  | _ => exact lst hr
def bNeg : D → Mp → DQ → Prop := fun d M Q => match d with
  | .int i => Q (.int (-i)) M
  | _ => False
theorem o_neg : UnD X (unaryOp .USub) bNeg := by
  intro pins s σ H x v Q I rx ⟨d, M, Qd, hd, hm, hr, hl⟩
  cases d with
  | int i => exact un_neg pins s σ H x v Q I rx ⟨i, hd, hl.val hm hr rfl⟩
  | _ => exact hr.elim

/-! ### equality -/
mutual
/-- a tree as plain data; lists by f -/
def datW (f : Addr → Option PyData) : D → Option PyData
  | .non => some .none
  | .bl b => some (.bool b)
  | .int i => some (.int i)
  | .str x => some (.str x)
  | .tup ds => (datWs f ds).map .tuple
  | .clst ds => (datWs f ds).map .list
  | .ref a => f a
  | _ => none
def datWs (f : Addr → Option PyData) : List D → Option (List PyData)
  | [] => some []
  | d :: ds => match datW f d with
    | some p => (datWs f ds).map (p :: ·)
    | none => none
end
def datL (M : Mp) : Nat → Addr → Option PyData
  | 0, _ => none
  | n + 1, a => match M a with
    | some (.lst ds) => (datWs (datL M n) ds).map .list
    | _ => none
def dat (M : Mp) (d : D) : Option PyData := datW (datL M 8) d
mutual
theorem datW_dp {K : PySem.W.Frag} {H : Hp} {f : Addr → Option PyData} (hf : ∀ a p, f a = some p → Dp K H (.ref a) p) : ∀ {d : D} {v : V} {p : PyData}, RelD K H d v → datW f d = some p → Dp K H v p
  | .non, v, p, r, e => by cases (show v = _ from r); cases e; exact .non
  | .bl b, v, p, r, e => by cases (show v = _ from r); cases e; exact .bl b
  | .int i, v, p, r, e => by cases (show v = _ from r); cases e; exact .int i
  | .str x, v, p, r, e => by cases (show v = _ from r); cases e; exact .str x
  | .tup ds, v, p, r, e => by
    obtain ⟨a, vs, rfl, t, rs⟩ := r
    unfold datW at e
    cases q : datWs f ds with
    | none => rw [q] at e; cases e
    | some ps =>
      rw [q] at e
      cases e
      exact .tup t.sq (datWs_dp hf rs q)
  | .clst ds, v, p, r, e => by
    obtain ⟨a, vs, rfl, t, rs⟩ := r
    unfold datW at e
    cases q : datWs f ds with
    | none => rw [q] at e; cases e
    | some ps =>
      rw [q] at e
      cases e
      exact .lst t.sq (datWs_dp hf rs q)
  | .ref a, v, p, r, e => by cases (show v = _ from r); exact hf a p e
  | .cdic _ _, _, _, _, e => by unfold datW at e; cases e
  | .ty _, _, _, _, e => by unfold datW at e; cases e
theorem datWs_dp {K : PySem.W.Frag} {H : Hp} {f : Addr → Option PyData} (hf : ∀ a p, f a = some p → Dp K H (.ref a) p) : ∀ {ds : List D} {vs : List V} {ps : List PyData}, RelDs K H ds vs → datWs f ds = some ps → DpAll K H vs ps
  | [], _, _, r, e => by cases r; cases e; exact .nil
  | d :: ds, _, _, r, e => by
    obtain ⟨v, w, rfl, h1, h2⟩ := r
    unfold datWs at e
    cases q : datW f d with
    | none => rw [q] at e; cases e
    | some p =>
      rw [q] at e
      cases q2 : datWs f ds with
      | none => rw [q2] at e; cases e
      | some ps =>
        rw [q2] at e
        cases e
        exact .cons (datW_dp hf h1 q) (datWs_dp hf h2 q2)
end
theorem datL_dp {K : KW} {H : Hp} {M : Mp} (m : RelM K H M) : ∀ (n : Nat) (a : Addr) (p : PyData), datL M n a = some p → Dp K H (.ref a) p
  | 0, _, _, e => by cases e
  | n + 1, a, p, e => by
    unfold datL at e
    split at e
    · rename_i ds q
      cases q2 : datWs (datL M n) ds with
      | none => rw [q2] at e; cases e
      | some ps =>
        rw [q2] at e
        cases e
        obtain ⟨vs, h1, rs⟩ := m _ _ q
        exact .lst (.of h1) (datWs_dp (datL_dp m n) rs q2)
    · cases e
theorem dat_dp {K : KW} {H : Hp} {M : Mp} {d : D} {v : V} {p : PyData} (m : RelM K H M) (r : RelD K H d v) (e : dat M d = some p) : Dp K H v p := datW_dp (datL_dp m 8) r e
/-- a flat tree as a value -/
def flv : D → V
  | .non => .non
  | .bl b => .bl b
  | .int i => .int i
  | .str x => .str x
  | _ => .ty "-"
theorem flv_scal {K : PySem.W.Frag} {H : Hp} {d e : D} {x y : V} (h : scal (flv d) (flv e) = true) (r1 : RelD K H d x) (r2 : RelD K H e y) : x = flv d ∧ y = flv e := by
  cases d <;> cases e <;> first
    | exact ⟨r1, r2⟩
    | exact Bool.noConfusion h
def eqR (d e : D) (M : Mp) (Q : Bool → Prop) : Prop := if scal (flv d) (flv e) = true then Q (decide (flv d = flv e))
  else ∃ p q, dat M d = some p ∧ dat M e = some q ∧ SeqAt.shaped p = true ∧ SeqAt.shaped q = true ∧ Q (PyData.eqv p q)
def cEq : W2 | d, e, M, Q => match d, e with
  | .tup ds, .tup [] => Q (.bl ds.isEmpty) M
  | d, e => eqR d e M fun k => Q (.bl k) M
def cNe : W2 | d, e, M, Q => eqR d e M fun k => Q (.bl (!k)) M
theorem o_eqR (hu : X.A.units + 64 < cLine) : OpD X (compareOp .Eq) (fun d e M Q => eqR d e M fun k => Q (.bl k) M) := by
  intro pins s σ H x y v u Q I rx ry ⟨d, e, M, Qd, hd, he, hm, hr, hl⟩
  simp only [eqR] at hr
  by_cases h : scal (flv d) (flv e) = true
  · rw [if_pos h] at hr
    obtain ⟨rfl, rfl⟩ := flv_scal h hd he
    exact op_eq pins s σ H _ _ v u Q I rx ry ⟨h, hl.val hm hr rfl⟩
  · rw [if_neg h] at hr
    obtain ⟨p, q, e1, e2, s1, s2, z⟩ := hr
    exact op_eqD hu pins s σ H x y v u Q I rx ry ⟨p, q, dat_dp hm hd e1, dat_dp hm he e2, s1, s2, hl.val hm z rfl⟩
theorem o_eq (hu : X.A.units + 64 < cLine) : OpD X (compareOp .Eq) cEq := by
  intro pins s σ H x y v u Q I rx ry ⟨d, e, M, Qd, hd, he, hm, hr, hl⟩
  cases d with
  | tup ds =>
    cases e with
    | tup es =>
      cases es with
      | nil =>
        obtain ⟨a, vs, rfl, t, rs⟩ := hd
        obtain ⟨b, us, rfl, t2, rs2⟩ := he
        cases rs2
        cases (show v = _ from rx)
        cases (show u = _ from ry)
        obtain ⟨its, rv, p1, _⟩ := I.tuple t.sq
        obtain ⟨its2, rv2, p2, _⟩ := I.tuple t2.sq
        cases rv2
        have hE : ds.isEmpty = (its.toArray.size == 0) := by
          rw [emp_rel rs]
          cases rv <;> simp
        refine SeqAt.eq_tupleAt (e := fun _ => true) (show s.heap.IsTuple a its.toArray from p1) (show s.heap.IsTuple b #[] from p2) (by omega) (fun j h1 h2 => absurd h2 (by simp)) ⟨.bl ds.isEmpty, H, I, ?_, hl.val hm hr rfl⟩
        show _ = _
        rw [hE]
        simp
      | cons z zs => exact o_eqR hu pins s σ H x y v u Q I rx ry ⟨_, _, M, Qd, hd, he, hm, hr, hl⟩
    | _ => exact o_eqR hu pins s σ H x y v u Q I rx ry ⟨_, _, M, Qd, hd, he, hm, hr, hl⟩
  | _ => exact o_eqR hu pins s σ H x y v u Q I rx ry ⟨_, _, M, Qd, hd, he, hm, hr, hl⟩
theorem o_ne (hu : X.A.units + 64 < cLine) : OpD X (compareOp .NotEq) cNe := by
  intro pins s σ H x y v u Q I rx ry ⟨d, e, M, Qd, hd, he, hm, hr, hl⟩
  simp only [cNe, eqR] at hr
  by_cases h : scal (flv d) (flv e) = true
  · rw [if_pos h] at hr
    obtain ⟨rfl, rfl⟩ := flv_scal h hd he
    exact op_ne pins s σ H _ _ v u Q I rx ry ⟨h, hl.val hm hr rfl⟩
  · rw [if_neg h] at hr
    obtain ⟨p, q, e1, e2, s1, s2, z⟩ := hr
    exact op_neD hu pins s σ H x y v u Q I rx ry ⟨p, q, dat_dp hm hd e1, dat_dp hm he e2, s1, s2, hl.val hm z rfl⟩
/-! ### order -/
def cInt (f : Int → Int → Bool) : W2 | d, e, M, Q => match d, e with
  | .int i, .int j => Q (.bl (f i j)) M
  | _, _ => False
def cLe : W2 := cInt fun i j => decide (i ≤ j)
def cGt : W2 := cInt fun i j => decide (j < i)
def cGe : W2 := cInt fun i j => decide (j ≤ i)
theorem o_cint {f : Value → Value → Sem Value} {g : Int → Int → Bool} (h : OpR X f (rI0 fun i j => .bl (g i j))) : OpD X f (cInt g) := by
  intro pins s σ H x y v u Q I rx ry ⟨d, e, M, Qd, hd, he, hm, hr, hl⟩
  cases d with
  | int i =>
    cases e with
    | int j => exact h pins s σ H x y v u Q I rx ry ⟨i, j, hd, he, hl.val hm hr rfl⟩
    | _ => exact hr.elim
  | _ => exact hr.elim
theorem o_gt : OpD X (compareOp .Gt) cGt := o_cint op_gt
def cIsN : W2 | d, e, M, Q => match e with
  | .non => match d with
    | .non => Q (.bl true) M
    | _ => Q (.bl false) M
  | _ => False
def cNotN : W2 | d, e, M, Q => match e with
  | .non => match d with
    | .non => Q (.bl false) M
    | _ => Q (.bl true) M
  | _ => False
theorem non_iff {K : PySem.W.Frag} {H : Hp} {d : D} {x : V} (r : RelD K H d x) : (d = .non ∧ x = .non) ∨ (d ≠ .non ∧ x ≠ .non) := by
  cases d with
  | non => exact .inl ⟨rfl, r⟩
  | tup ds => obtain ⟨a, vs, rfl, _⟩ := r; exact .inr ⟨(fun z => nomatch z), fun z => nomatch z⟩
  | clst ds => obtain ⟨a, vs, rfl, _⟩ := r; exact .inr ⟨(fun z => nomatch z), fun z => nomatch z⟩
  | cdic ks ds => obtain ⟨a, vs, o, rfl, _⟩ := r; exact .inr ⟨(fun z => nomatch z), fun z => nomatch z⟩
  | _ => cases (show x = _ from r); exact .inr ⟨(fun z => nomatch z), fun z => nomatch z⟩
theorem o_isn : OpD X (compareOp .Is) cIsN := by
  intro pins s σ H x y v u Q I rx ry ⟨d, e, M, Qd, hd, he, hm, hr, hl⟩
  cases e with
  | non =>
    refine op_isN pins s σ H x y v u Q I rx ry ⟨he, ?_⟩
    rcases non_iff hd with ⟨rfl, rfl⟩ | ⟨h1, h2⟩
    · exact hl.val hm hr rfl
    · rw [decide_eq_false h2]
      refine hl.val (d := .bl false) hm ?_ rfl
      cases d <;> first | exact absurd rfl h1 | exact hr
  | _ => exact hr.elim
/-! ### in -/
def strIn (x y : Str) : Bool := !(Builtin.Str.occurrences y x 0 y.length 1).isEmpty
def flats (ds : List D) : Bool := ds.all fun d => flatV (flv d)
def inR (d e : D) (M : Mp) (Q : Bool → Prop) : Prop := match e with
  | .str y => match d with
    | .str x => Q (strIn x y)
    | _ => False
  | .tup ds => flatV (flv d) = true ∧ flats ds = true ∧ Q (inV (flv d) (ds.map flv))
  | .clst ds => flatV (flv d) = true ∧ flats ds = true ∧ Q (inV (flv d) (ds.map flv))
  | .ref a => match M a with
    | some (.lst ds) => flatV (flv d) = true ∧ flats ds = true ∧ Q (inV (flv d) (ds.map flv))
    | _ => False
  | _ => False
def cIn : W2 | d, e, M, Q => inR d e M fun k => Q (.bl k) M
def cNotIn : W2 | d, e, M, Q => inR d e M fun k => Q (.bl (!k)) M
theorem flat_val {K : PySem.W.Frag} {H : Hp} {d : D} {x : V} (h : flatV (flv d) = true) (r : RelD K H d x) : x = flv d := by
  cases d <;> first
    | exact r
    | exact Bool.noConfusion h
theorem flats_val {K : PySem.W.Frag} {H : Hp} : ∀ {ds : List D} {xs : List V}, flats ds = true → RelDs K H ds xs → xs = ds.map flv ∧ xs.all flatV = true
  | [], _, _, r => by cases r; exact ⟨rfl, rfl⟩
  | d :: ds, _, h, r => by
    obtain ⟨v, w, rfl, h1, h2⟩ := r
    have h' : (flatV (flv d) && flats ds) = true := h
    rw [Bool.and_eq_true] at h'
    obtain ⟨e1, e2⟩ := flats_val h'.2 h2
    have e3 := flat_val h'.1 h1
    subst e1 e3
    refine ⟨rfl, ?_⟩
    rw [List.all_cons, h'.1, e2]
    rfl
theorem o_in : OpD X (compareOp .In) cIn := by
  intro pins s σ H x y v u Q I rx ry ⟨d, e, M, Qd, hd, he, hm, hr, hl⟩
  cases e with
  | str z =>
    cases d with
    | str w => exact op_in_str pins s σ H x y v u Q I rx ry ⟨w, z, hd, he, hl.val hm hr rfl⟩
    | _ => exact hr.elim
  | tup ds =>
    obtain ⟨a, vs, rfl, t, rs⟩ := he
    obtain ⟨h1, h2, q⟩ := hr
    obtain ⟨e1, e2⟩ := flats_val h2 rs
    have e3 := flat_val h1 hd
    refine op_in_seq pins s σ H x _ v u Q I rx ry ⟨a, vs, rfl, .inr t.sq, by rw [e3]; exact h1, e2, ?_⟩
    rw [e1, e3]
    exact hl.val hm q rfl
  | clst ds =>
    obtain ⟨a, vs, rfl, t, rs⟩ := he
    obtain ⟨h1, h2, q⟩ := hr
    obtain ⟨e1, e2⟩ := flats_val h2 rs
    have e3 := flat_val h1 hd
    refine op_in_seq pins s σ H x _ v u Q I rx ry ⟨a, vs, rfl, .inl t.sq, by rw [e3]; exact h1, e2, ?_⟩
    rw [e1, e3]
    exact hl.val hm q rfl
  | ref a =>
    simp only [cIn, inR] at hr
    split at hr
    · rename_i ds e
      obtain ⟨vs, h3, rs⟩ := hm _ _ e
      obtain ⟨h1, h2, q⟩ := hr
      obtain ⟨e1, e2⟩ := flats_val h2 rs
      have e3 := flat_val h1 hd
      refine op_in_seq pins s σ H x _ v u Q I rx ry ⟨a, vs, he, .inl (.of h3), by rw [e3]; exact h1, e2, ?_⟩
      rw [e1, e3]
      exact hl.val hm q rfl
    · exact hr.elim
  | _ => exact hr.elim
theorem o_notin : OpD X (compareOp .NotIn) cNotIn := by
  intro pins s σ H x y v u Q I rx ry ⟨d, e, M, Qd, hd, he, hm, hr, hl⟩
  cases e with
  | str z =>
    cases d with
    | str w => exact op_notin_str pins s σ H x y v u Q I rx ry ⟨w, z, hd, he, hl.val (d := .bl (!strIn w z)) hm hr rfl⟩
    | _ => exact hr.elim
  | tup ds =>
    obtain ⟨a, vs, rfl, t, rs⟩ := he
    obtain ⟨h1, h2, q⟩ := hr
    obtain ⟨e1, e2⟩ := flats_val h2 rs
    have e3 := flat_val h1 hd
    refine op_notIn_seq pins s σ H x _ v u Q I rx ry ⟨a, vs, rfl, .inr t.sq, by rw [e3]; exact h1, e2, ?_⟩
    rw [e1, e3]
    exact hl.val hm q rfl
  | clst ds =>
    obtain ⟨a, vs, rfl, t, rs⟩ := he
    obtain ⟨h1, h2, q⟩ := hr
    obtain ⟨e1, e2⟩ := flats_val h2 rs
    have e3 := flat_val h1 hd
    refine op_notIn_seq pins s σ H x _ v u Q I rx ry ⟨a, vs, rfl, .inl t.sq, by rw [e3]; exact h1, e2, ?_⟩
    rw [e1, e3]
    exact hl.val hm q rfl
  | ref a =>
    simp only [cNotIn, inR] at hr
    split at hr
    · rename_i ds e
      obtain ⟨vs, h3, rs⟩ := hm _ _ e
      obtain ⟨h1, h2, q⟩ := hr
      obtain ⟨e1, e2⟩ := flats_val h2 rs
      have e3 := flat_val h1 hd
      refine op_notIn_seq pins s σ H x _ v u Q I rx ry ⟨a, vs, he, .inl (.of h3), by rw [e3]; exact h1, e2, ?_⟩
      rw [e1, e3]
      exact hl.val hm q rfl
    · exact hr.elim
  | _ => exact hr.elim
/-! ### built-ins -/
def fLen : WC | ds, M, Q => match ds with
  | [.str x] => x.length ≤ sizeLine ∧ Q (.int x.length) M
  | [.tup ds] => Q (.int ds.length) M
  | [.clst ds] => Q (.int ds.length) M
  | [.ref a] => match M a with
    | some (.lst ds) => Q (.int ds.length) M
    | some (.dK kvs) => Q (.int kvs.length) M
    | _ => False
  | _ => False
theorem paired_len {α β : Type} {F : α → β → Prop} : ∀ {l : List α} {m : List β}, Paired F l m → l.length = m.length
  | _, _, .nil => rfl
  | _, _, .cons _ t => congrArg (· + 1) (paired_len t)
theorem c_len : CallD X (.builtin "len") fLen := by
  intro pins s σ H xs us Q I r ⟨ds, M, Qd, rd, hm, hr, hl⟩
  match ds, hr with
  | [.str x], hr =>
    obtain ⟨v, r1, rfl, hv, e⟩ := rd
    cases e
    exact call_len_str pins s σ H _ us Q I r ⟨x, by rw [show v = _ from hv], hr.1, hl.val hm hr.2 rfl⟩
  | [.tup ds], hr =>
    obtain ⟨v, r1, rfl, ⟨a, vs, rfl, t, rs⟩, e⟩ := rd
    cases e
    exact call_len_seq pins s σ H _ us Q I r ⟨a, vs, rfl, .inr t.sq, by rw [← rs.len]; exact hl.val hm hr rfl⟩
  | [.clst ds], hr =>
    obtain ⟨v, r1, rfl, ⟨a, vs, rfl, t, rs⟩, e⟩ := rd
    cases e
    exact call_len_seq pins s σ H _ us Q I r ⟨a, vs, rfl, .inl t.sq, by rw [← rs.len]; exact hl.val hm hr rfl⟩
  | [.ref a], hr =>
    obtain ⟨v, r1, rfl, hv, e⟩ := rd
    cases (show v = _ from hv)
    cases e
    simp only [fLen] at hr
    split at hr
    · rename_i ds e
      obtain ⟨vs, h3, rs⟩ := hm _ _ e
      exact call_len_seq pins s σ H _ us Q I r ⟨a, vs, rfl, .inl (.of h3), by rw [← rs.len]; exact hl.val hm hr rfl⟩
    · rename_i ds e
      obtain ⟨vs, h3, rs⟩ := hm _ _ e
      exact call_lenD pins s σ H _ us Q I r ⟨a, vs, rfl, h3, by rw [← paired_len rs]; exact hl.val hm hr rfl⟩
    · exact hr.elim
def fI1 (g : Int → D) : WC | ds, M, Q => match ds with
  | [.int i] => Q (g i) M
  | _ => False
def fI2 (g : Int → Int → D) : WC | ds, M, Q => match ds with
  | [.int i, .int j] => Q (g i j) M
  | _ => False
def fAbs : WC := fI1 fun i => .int (if i < 0 then -i else i)
def fMax2 : WC := fI2 fun i j => .int (if j > i then j else i)
def fMin2 : WC := fI2 fun i j => .int (if j < i then j else i)
theorem rel1 {K : PySem.W.Frag} {H : Hp} {d : D} {xs : List V} (r : RelDs K H [d] xs) : ∃ v, xs = [v] ∧ RelD K H d v := by
  obtain ⟨v, r1, rfl, hv, e⟩ := r
  cases e
  exact ⟨v, rfl, hv⟩
theorem rel2 {K : PySem.W.Frag} {H : Hp} {d e : D} {xs : List V} (r : RelDs K H [d, e] xs) : ∃ v u, xs = [v, u] ∧ RelD K H d v ∧ RelD K H e u := by
  obtain ⟨v, r1, rfl, hv, u, r2, rfl, hu, e⟩ := r
  cases e
  exact ⟨v, u, rfl, hv, hu⟩
theorem c_abs : CallD X (.builtin "abs") fAbs := by
  intro pins s σ H xs us Q I r ⟨ds, M, Qd, rd, hm, hr, hl⟩
  match ds, hr with
  | [.int i], hr =>
    obtain ⟨v, rfl, hv⟩ := rel1 rd
    exact call_abs pins s σ H _ us Q I r ⟨i, by rw [show v = _ from hv], hl.val hm hr rfl⟩
theorem c_max2 (hc : X.calm = true) : CallD X (.builtin "max") fMax2 := by
  intro pins s σ H xs us Q I r ⟨ds, M, Qd, rd, hm, hr, hl⟩
  match ds, hr with
  | [.int i, .int j], hr =>
    obtain ⟨v, u, rfl, hv, hu⟩ := rel2 rd
    exact call_max2 hc pins s σ H _ us Q I r ⟨i, j, by rw [show v = _ from hv, show u = _ from hu], hl.val hm hr rfl⟩
theorem c_min2 (hc : X.calm = true) : CallD X (.builtin "min") fMin2 := by
  intro pins s σ H xs us Q I r ⟨ds, M, Qd, rd, hm, hr, hl⟩
  match ds, hr with
  | [.int i, .int j], hr =>
    obtain ⟨v, u, rfl, hv, hu⟩ := rel2 rd
    exact call_min2 hc pins s σ H _ us Q I r ⟨i, j, by rw [show v = _ from hv, show u = _ from hu], hl.val hm hr rfl⟩
def fStr : WC | ds, M, Q => match ds with
  | [.int i] => i.natAbs.log2 < 1920 ∧ Q (.str (toString i)) M
  | [.str x] => Q (.str x) M
  | _ => False
theorem c_str : CallD X (.type "str") fStr := by
  intro pins s σ H xs us Q I r ⟨ds, M, Qd, rd, hm, hr, hl⟩
  match ds, hr with
  | [.int i], hr =>
    obtain ⟨v, rfl, hv⟩ := rel1 rd
    exact call_str_int pins s σ H _ us Q I r ⟨i, by rw [show v = _ from hv], hr.1, hl.val hm hr.2 rfl⟩
  | [.str i], hr =>
    obtain ⟨v, rfl, hv⟩ := rel1 rd
    exact _root_.SkE.call_str_str pins s σ H _ us Q I r ⟨i, by rw [show v = _ from hv], hl.val hm hr rfl⟩
def fInt : WC | ds, M, Q => match ds with
  | [.int i] => Q (.int i) M
  | [.bl b] => Q (.int (if b then 1 else 0)) M
  | [.str x] => ∃ n, PySem.intText? x = some n ∧ x.length ≤ 640 ∧ Q (.int n) M
  | _ => False
theorem c_int : CallD X (.type "int") fInt := by
  intro pins s σ H xs us Q I r ⟨ds, M, Qd, rd, hm, hr, hl⟩
  match ds, hr with
  | [.int i], hr =>
    obtain ⟨v, rfl, hv⟩ := rel1 rd
    exact call_int1 pins s σ H _ us Q I r (.inl ⟨i, by rw [show v = _ from hv], hl.val hm hr rfl⟩)
  | [.bl i], hr =>
    obtain ⟨v, rfl, hv⟩ := rel1 rd
    exact call_int1 pins s σ H _ us Q I r (.inr ⟨i, by rw [show v = _ from hv], hl.val hm hr rfl⟩)
  | [.str i], hr =>
    obtain ⟨v, rfl, hv⟩ := rel1 rd
    obtain ⟨n, h1, h2, q⟩ := hr
    exact call_int_str pins s σ H _ us Q I r ⟨i, n, by rw [show v = _ from hv], h1, h2, hl.val hm q rfl⟩
def seqOf (d : D) (M : Mp) : Option (List D) := match d with
  | .tup ds => some ds
  | _ => lstOf d M
theorem seq_of {K : KW} {H : Hp} {M : Mp} {d : D} {v : V} {ds : List D} (m : RelM K H M) (r : RelD K H d v) (h : seqOf d M = some ds) : ∃ a vs, v = .ref a ∧ (SqL K H a vs ∨ SqT K H a vs) ∧ RelDs K H ds vs := by
  cases d with
  | tup es =>
    cases h
    obtain ⟨a, vs, rfl, t, rs⟩ := r
    exact ⟨a, vs, rfl, .inr t.sq, rs⟩
  | _ =>
    obtain ⟨a, vs, h1, h2, h3⟩ := lst_of m r h
    exact ⟨a, vs, h1, .inl h2, h3⟩
/-! ### isinstance -/
def tyD (d : D) (M : Mp) : Option String := match d with
  | .non => some "NoneType"
  | .bl _ => some "bool"
  | .int _ => some "int"
  | .str _ => some "str"
  | .tup _ => some "tuple"
  | .clst _ => some "list"
  | .ref a => match M a with
    | some (.lst _) => some "list"
    | some (.dK _) => some "dict"
    | _ => none
  | _ => none
def fIsi : WC | ds, M, Q => match ds with
  | [d, .ty n] => ∃ t b, tyD d M = some t ∧ kitB t n = some b ∧ Q (.bl b) M
  | _ => False
theorem tyx_of {K : KW} {H : Hp} {M : Mp} {d : D} {v : V} {t : String} (m : RelM K H M) (r : RelD K H d v) (h : tyD d M = some t) : TyX K H v (.type t) := by
  cases d with
  | non => cases (show v = _ from r); cases h; exact .base .non
  | bl b => cases (show v = _ from r); cases h; exact .base (.bl b)
  | int b => cases (show v = _ from r); cases h; exact .base (.int b)
  | str b => cases (show v = _ from r); cases h; exact .base (.str b)
  | tup ds =>
    cases h
    obtain ⟨a, vs, rfl, ta | ta, rs⟩ := r
    · exact .base (.tup ta)
    · rcases ta with (z | ⟨_, z⟩) | ⟨o, its, n, h1, h2, _⟩
      · cases z
      · cases z
      · exact .kTuple h1 h2
  | clst ds =>
    cases h
    obtain ⟨a, vs, rfl, ⟨o, ta⟩ | ta, rs⟩ := r
    · exact .base (.frz ta)
    · rcases ta with (z | ⟨_, z⟩) | ⟨o, its, n, h1, h2, _⟩
      · cases z
      · cases z
      · exact .kList h1 h2
  | ref a =>
    cases (show v = _ from r)
    unfold tyD at h
    simp only at h
    split at h
    · rename_i ds e
      cases h
      obtain ⟨vs, h1, _⟩ := m _ _ e
      exact .base (.lst h1)
    · rename_i ds e
      cases h
      obtain ⟨vs, h1, _⟩ := m _ _ e
      exact .base (.dK h1)
    · cases h
  | _ => cases h
end
end L2.Dl

/-! DOps2: places, slices, stores, methods, displays of dicts, repr, f-strings. -/
namespace L2.Dl
open PySem PySem.Spec PyProof.Rows
variable [Tb]

section
variable {X : Cx} {a b e : Expr} {es : List Expr} {wa wb we : WE} {wx : WA} {pos : Pos}
theorem RelDs.atI {K : KW} {H : Hp} {ds : List D} {vs : List V} {i : Int} {d : D} (r : RelDs K H ds vs) (h : L2.atI ds i = some d) : ∃ v, L2.atI vs i = some v ∧ RelD K H d v := by
  unfold L2.atI at h ⊢
  rw [← r.len]
  cases q : ixN ds.length i with
  | none => rw [q] at h; cases h
  | some j =>
    rw [q] at h
    exact r.get (i := j) h
/-- x[i] -/
def bIx : W2 | d, e, M, Q => match e with
  | .int i => match d with
    | .str z => z.length ≤ sizeLine ∧ ∃ c, L2.atI z.cps.toList i = some c ∧ Q (.str ⟨#[c]⟩) M
    | _ => ∃ ds x, seqOf d M = some ds ∧ L2.atI ds i = some x ∧ Q x M
  | _ => False
theorem ix_plain : IxR X (rD X.kw bIx) := by
  intro value slice pins s σ H x y v u Q I rx ry ⟨d, e, M, Qd, hd, he, hm, hr, hl⟩ hsub
  cases e with
  | int i =>
    have seq : (∃ ds x, seqOf d M = some ds ∧ L2.atI ds i = some x ∧ Qd x M) → wpAny (model X.prog X.w) X.A (subscriptTail value slice v u) (EP X pins σ Q) X.xe s := fun ⟨ds, z, h1, h2, q⟩ => by
      obtain ⟨p, vs, rfl, hq, rs⟩ := seq_of hm hd h1
      obtain ⟨w, h3, rw⟩ := rs.atI h2
      rcases hq with hq | hq
      · exact ix_list value slice pins s σ H _ y v u Q I rx ry ⟨p, vs, i, w, rfl, he, hq, h3, hl.val hm q rw⟩ hsub
      · exact ix_tup value slice pins s σ H _ y v u Q I rx ry ⟨p, vs, i, w, rfl, he, hq, h3, hl.val hm q rw⟩ hsub
    cases d with
    | str z =>
      obtain ⟨hz, c, hc, q⟩ := hr
      exact ix_str value slice pins s σ H _ y v u Q I rx ry ⟨z, i, c, hd, he, hz, hc, hl.val hm q rfl⟩ hsub
    | _ => exact seq hr
  | _ => exact hr.elim
/-! slices -/
abbrev WO := Ev → Mp → (Option Int → Mp → Prop) → Prop
def LiftO (K : KW) (H : Hp) (Qd : Option Int → Mp → Prop) (Q : Option Int → Hp → Prop) : Prop := ∀ b M H', Qd b M → Keep H H' → RelM K H' M → Q b H'
def tO (K : KW) (w : WO) : TO := fun σ H Q => ∃ env M Qd, RelS K H env σ ∧ RelM K H M ∧ w env M Qd ∧ LiftO K H Qd Q
def DO (X : Cx) (e : Option Expr) (w : WO) : Prop := PO X e (tO X.kw w)
theorem po_wk {e : Option Expr} {t t' : TO} (h : PO X e t) (k : ∀ σ H Q, t' σ H Q → t σ H Q) : PO X e t' := ⟨fun pins s σ H Q I q => h.run pins s σ H Q I (k σ H Q q)⟩
def wNoPart : WO | _, M, Q => Q none M
def wPart (w : WE) : WO | env, M, Q => w env M fun d M1 => match d with
  | .int i => Q (some i) M1
  | _ => False
theorem o_none : DO X none wNoPart := po_wk po_none fun σ H Q ⟨env, M, Qd, hs, hm, hw, hl⟩ => hl _ _ _ hw .refl hm
theorem o_some (h : DE X e we) : DO X (some e) (wPart we) := po_wk (po_some h) fun σ H Q ⟨env, M, Qd, hs, hm, hw, hl⟩ => ⟨env, M, _, hs, hm, hw, fun d M1 v H1 q r k m1 => by
  cases d with
  | int i => exact ⟨i, r, hl _ _ _ q k m1⟩
  | _ => exact q.elim⟩
def cutL {α : Type} (xs : List α) (lo hi : Option Int) : List α := (xs.drop (HT.sIx xs.length 0 lo)).take (HT.sIx xs.length xs.length hi - HT.sIx xs.length 0 lo)
theorem RelDs.cut {K : PySem.W.Frag} {H : Hp} {ds : List D} {vs : List V} (lo hi : Option Int) (r : RelDs K H ds vs) : RelDs K H (cutL ds lo hi) (cutV vs lo hi) := by
  unfold cutL cutV
  rw [← r.len]
  exact (r.drop _).take _
def slR (d : D) (lo hi : Option Int) (M : Mp) (Q : DQ) : Prop := match d with
  | .str z => z.length ≤ sizeLine ∧ Q (.str (cutS z lo hi)) M
  | .tup ds => Q (.tup (cutL ds lo hi)) M
  | _ => ∃ ds, lstOf d M = some ds ∧ New M (.lst (cutL ds lo hi)) fun p M2 => Q (.ref p) M2
def wSl (we : WE) (wl wh : WO) : WE | env, M, Q => we env M fun d M1 => wl env M1 fun lo M2 => wh env M2 fun hi M3 => slR d lo hi M3 Q
theorem d_slice {lo hi : Option Expr} {p2 : Pos} {wl wh : WO} (he : DE X e we) (hl : DO X lo wl) (hh : DO X hi wh) : DE X (.Subscript e (.Slice lo hi none p2) pos) (wSl we wl wh) := by
  have hr : SlR X (fun x lo hi H Q => ∃ d M Qd, RelD X.K H d x ∧ RelM X.kw H M ∧ slR d lo hi M Qd ∧ Lift X.kw H Qd Q) := by
    intro pins s σ H x v vl vu lo hi sl Q I rx hsl pl pu ⟨d, M, Qd, hd, hm, hr, hl⟩
    have lst : (∃ ds, lstOf d M = some ds ∧ New M (.lst (cutL ds lo hi)) fun p M2 => Qd (.ref p) M2) → ∃ T id, typeLookup (.type T) "__getitem__" = pure (some (.builtin id)) ∧ s.TypeIs v T ∧ wpAny (model X.prog X.w) X.A (getItem v (.ref sl)) (EP X pins σ Q) X.xe s := fun ⟨ds, h1, q⟩ => by
      obtain ⟨p, vs, rfl, hq, rs⟩ := lst_of hm hd h1
      exact sl_list pins s σ H _ v vl vu lo hi sl Q I rx hsl pl pu ⟨p, vs, rfl, hq, hl.newL (rs.cut lo hi) hm q⟩
    cases d with
    | str z => exact sl_str pins s σ H _ v vl vu lo hi sl Q I rx hsl pl pu ⟨z, hd, hr.1, hl.val hm hr.2 rfl⟩
    | tup ds =>
      obtain ⟨p, vs, rfl, t, rs⟩ := hd
      refine sl_tupA pins s σ H _ v vl vu lo hi sl Q I rx hsl pl pu ⟨p, vs, rfl, t.sq, fun ⟨h1, h2⟩ => ?_, fun _ => hl.newT (rs.cut lo hi) hm hr⟩
      have e : cutL ds lo hi = ds := by
        unfold cutL
        rw [rs.len, h1, h2, ← rs.len]
        exact List.take_of_length_le (Nat.le_refl _)
      have q : Qd (.tup (cutL ds lo hi)) M := hr
      rw [e] at q
      exact hl.val hm q ⟨p, vs, rfl, t, rs⟩
    | _ => exact lst hr
  exact pe_wk (pe_slice hr he hl hh) fun σ H Q ⟨env, M, Qd, hs, hm, hw, lf⟩ => ⟨env, M, _, hs, hm, hw, fun d M1 v H1 q r k m1 => ⟨env, M1, _, hs.keep k, m1, q, fun l M2 H2 q2 k2 m2 =>
    ⟨env, M2, _, (hs.keep k).keep k2, m2, q2, fun h M3 H3 q3 k3 m3 => ⟨d, M3, Qd, (r.keep k2).keep k3, m3, q3, ((lf.at k).at k2).at k3⟩⟩⟩⟩
/-! o[i] = v -/
abbrev W3 := D → D → D → Mp → (Mp → Prop) → Prop
def LiftM (K : KW) (H : Hp) (Qd : Mp → Prop) (Q : Hp → Prop) : Prop := ∀ M H', Qd M → Keep H H' → RelM K H' M → Q H'
def SetD (X : Cx) (r : W3) : Prop := PSet X (fun o i v H Q => ∃ d e x M Qd, RelD X.K H d o ∧ RelD X.K H e i ∧ RelD X.K H x v ∧ RelM X.kw H M ∧ r d e x M Qd ∧ LiftM X.kw H Qd Q)
def gSt (r : W3) (wa wb : WE) : WG | x, env, M, Q => wa env M fun d M1 => wb env M1 fun e M2 => r d e x M2 fun M3 => Q env M3
theorem g_sub {r : W3} (ha : DE X a wa) (hb : DE X b wb) (hs : SetD X r)
    (h : ∀ v, assign (.Subscript a b pos) X.env v = (do
      let ov ← holding [v] (eval a X.env)
      let iv ← holding [v, ov] (eval b X.env)
      standAt pos
      holding [v, ov, iv] (setItem ov iv v)
      release [v, ov, iv] []) := by intro _; rfl) : DG X (.Subscript a b pos) (gSt r wa wb) :=
  pg_wk (pg_sub ha hb hs h) fun v σ H Q ⟨x, env, M, Qd, hr, hs, hm, hw, hl⟩ => ⟨env, M, _, hs, hm, hw, fun d M1 o H1 q ro k m1 => ⟨env, M1, _, hs.keep k, m1, q, fun e M2 i H2 q2 ri k2 m2 =>
    ⟨d, e, x, M2, _, ro.keep k2, ri, (hr.keep k).keep k2, m2, q2, fun M3 H3 q3 k3 m3 => hl _ _ _ _ q3 (((hs.keep k).keep k2).keep k3) ((k.trans k2).trans k3) m3⟩⟩⟩
def stIx : W3 | d, e, x, M, Q => match d, e with
  | .ref a, .int i => ∃ ds j, M a = some (.lst ds) ∧ ixN ds.length i = some j ∧ Put M a (.lst (ds.set j x)) Q
  | _, _ => False
theorem st_ix : SetD X stIx := by
  intro pins s σ H o i v ov iv u Q I r1 r2 r3 ⟨d, e, x, M, Qd, hd, he, hx, hm, hr, hl⟩
  cases d with
  | ref a =>
    cases e with
    | int n =>
      obtain ⟨ds, j, h1, h2, q⟩ := hr
      cases (show o = _ from hd)
      cases (show i = _ from he)
      obtain ⟨vs, h3, rs⟩ := hm _ _ h1
      have kw : Keep H (upd H a (.lst (vs.set j v))) := .write h3 trivial
      exact set_list pins s σ H _ _ v ov iv u Q I r1 r2 r3 ⟨a, vs, n, j, rfl, rfl, h3, by rw [← rs.len]; exact h2, hl _ _ q.at kw (RelM.write (o := .lst (ds.set j x)) hm h3 trivial ⟨_, upd_same, (rs.keep kw).set j (hx.keep kw)⟩)⟩
    | _ => exact hr.elim
  | _ => exact hr.elim
/-! methods of built-in types -/
def tyM (T : String) (d : D) (M : Mp) : Prop := match d with
  | .str _ => T = "str"
  | .clst _ => T = "list"
  | .ref a => match M a with
    | some (.lst _) => T = "list"
    | some (.dK _) => T = "dict"
    | some (.dN _ _) => T = "dict"
    | _ => False
  | _ => False
theorem dic_type {X : Cx} {pins : List (Addr × Obj)} {σ : St} {H : Hp} {s : Shared} {a b : Addr} {w : World} {xs : List (NestedKey × Addr × V)} {ep : Nat} (I : Inv X pins σ H s) (e : H b = some (DicO w a xs ep)) :
    s.TypeIs (.ref a) "dict" ∧ ∀ b, Value.ref a = .ref b → ∃ ob, s.heap.get? b = some ob ∧ ob.dict = none := by
  obtain ⟨⟨o, es, e1, e2, e3, e4⟩, _⟩ := (show ObjOk X.prog X.w H s.heap b (DicO w a xs ep) from I.hok b _ e)
  refine ⟨⟨o, e1, e2.1⟩, fun b eb => ?_⟩
  injection eb with eb
  subst eb
  exact ⟨o, e1, e2.2.1⟩
theorem tyM_v {X : Cx} {pins : List (Addr × Obj)} {σ : St} {H : Hp} {s : Shared} {M : Mp} {T : String} {d : D} {v : V} {u : Value} (I : Inv X pins σ H s) (ru : RelV v u) (m : RelM X.kw H M) (r : RelD X.K H d v) (h : tyM T d M) :
    s.TypeIs u T ∧ ∀ a, u = .ref a → ∃ ob, s.heap.get? a = some ob ∧ ob.dict = none := by
  cases d with
  | str x => cases (show v = _ from r); exact tyV_is I ru (show tyV X.K T (.str x) H from h)
  | clst ds =>
    obtain ⟨a, vs, rfl, t, rs⟩ := r
    exact tyV_is I ru (.inl ⟨h, vs, t.sq⟩)
  | ref a =>
    cases (show v = _ from r)
    unfold tyM at h
    simp only at h
    split at h
    · rename_i ds e
      obtain ⟨vs, h3, rs⟩ := m _ _ e
      exact tyV_is I ru (.inl ⟨h, vs, .of h3⟩)
    · rename_i ds e
      obtain ⟨vs, h3, rs⟩ := m _ _ e
      exact tyV_is I ru (.inr (.inr (.inl ⟨h, .inl ⟨vs, h3⟩⟩)))
    · rename_i ds e
      obtain ⟨_, _, xs, h3, _⟩ := m _ _ e
      cases (show u = _ from ru)
      subst h
      exact dic_type I h3
    · exact h.elim
  | _ => exact h.elim
abbrev WM := D → List D → Mp → DQ → Prop
def MtD (X : Cx) (id : String) (r : WM) : Prop := MtR X id (fun x xs H Q => ∃ d ds M Qd, RelD X.K H d x ∧ RelDs X.K H ds xs ∧ RelM X.kw H M ∧ r d ds M Qd ∧ Lift X.kw H Qd Q)
def wMt (T : String) (r : WM) (wa : WE) (wx : WA) : WE | env, M, Q => wa env M fun d M1 => tyM T d M1 ∧ wx env M1 fun ds M2 => r d ds M2 Q
theorem d_bm {name : Str} {apos : Pos} {T id : String} {r : WM} (pa : PlainAttrs T) (slot : Slot T name id) (hty : typeOf (.builtin id) = pure (.type "method_descriptor")) (hm : MtD X id r) (ho : DE X a wa) (ha : DA X (e :: es) wx)
    (hbase : attributeBase a name X.env (eval a X.env) = eval a X.env := by rfl)
    (hfew : ((backTo pos (starEach (e :: es) X.env)).all (fun x => !x.1) && (backToKw pos (keywordEach [] X.env)).all (fun x => x.1.isSome)
      && decide ((e :: es).length + ([] : List Keyword).length + (if ([] : List Keyword).isEmpty then 0 else 1) < 30)) = true := by rfl)
    (hline : (apos.endLine == pos.line) = true := by rfl) (hs : starEach (e :: es) X.env = (false, eval e X.env) :: starEach es X.env := by rfl) (hplain : (backTo pos (starEach es X.env)).any (·.1) = false := by rfl) :
    DE X (.Call (.Attribute a name apos) (e :: es) [] pos) (wMt T r wa wx) := by
  refine ⟨fun pins s σ H Q I ⟨env, M, Qd, hS, hM, hw, hl⟩ => ?_⟩
  refine wpAny_Call_method_late hbase hfew hline rfl (thn (ho.run pins s σ H (fun v H1 => ∃ d M1, RelD X.K H1 d v ∧ RelM X.kw H1 M1 ∧ Keep H H1 ∧ tyM T d M1 ∧ wx env M1 fun ds M2 => r d ds M2 Qd) I
    ⟨env, M, _, hS, hM, hw, fun d M1 v H1 q r1 k m1 => ⟨d, M1, r1, m1, k, q.1, q.2⟩⟩) fun v s1 ⟨x, H1, I1, rx, d, M1, rd, m1, k1, ty, q1⟩ => ?_)
  obtain ⟨h1, h2⟩ := tyM_v I1 rx m1 rd ty
  refine ⟨T, id, pa, slot, hty, h1, h2, ?_⟩
  have hA := ha.run pos pins s1 σ H1 (fun vs H2 => ∃ ds M2, RelDs X.K H2 ds vs ∧ RelM X.kw H2 M2 ∧ Keep H1 H2 ∧ r d ds M2 Qd) I1 ⟨env, M1, _, hS.keep k1, m1, q1, fun ds M2 vs H2 q r k m => ⟨ds, M2, r, m, k, q⟩⟩
  rw [hs] at hA ⊢
  refine Calls.callWith_builtin (by show (false || (backTo pos (starEach es X.env)).any (·.1)) = false; rw [hplain] <;> rfl) (Calls.evalArgs_plain ?_)
  exact thn hA fun us s2 ⟨vs, H2, I2, r2, ds, M2, rs, m2, k2, q2⟩ => hm pins s2 σ H2 x vs v us Q I2 rx r2 ⟨d, ds, M2, Qd, rd.keep k2, rs, m2, q2, (hl.at k1).at k2⟩
theorem d_bm0 {name : Str} {apos : Pos} {T id : String} {r : WM} (pa : PlainAttrs T) (slot : Slot T name id) (hty : typeOf (.builtin id) = pure (.type "method_descriptor")) (hm : MtD X id r) (ho : DE X a wa)
    (hbase : attributeBase a name X.env (eval a X.env) = eval a X.env := by rfl) (hline : (apos.endLine == pos.line) = true := by rfl) : DE X (.Call (.Attribute a name apos) [] [] pos) (wMt T r wa wNil) := by
  refine ⟨fun pins s σ H Q I ⟨env, M, Qd, hS, hM, hw, hl⟩ => ?_⟩
  refine wpAny_Call_method0_late hbase hline (thn (ho.run pins s σ H (fun v H1 => ∃ d M1, RelD X.K H1 d v ∧ RelM X.kw H1 M1 ∧ Keep H H1 ∧ tyM T d M1 ∧ r d [] M1 Qd) I
    ⟨env, M, _, hS, hM, hw, fun d M1 v H1 q r1 k m1 => ⟨d, M1, r1, m1, k, q.1, q.2⟩⟩) fun v s1 ⟨x, H1, I1, rx, d, M1, rd, m1, k1, ty, q1⟩ => ?_)
  obtain ⟨h1, h2⟩ := tyM_v I1 rx m1 rd ty
  exact ⟨T, id, pa, slot, hty, h1, h2, Calls.callWith_builtin rfl (PySem.evalArgs_none (hm pins s1 σ H1 x [] v [] Q I1 rx .nil ⟨d, [], M1, Qd, rd, .nil, m1, q1, hl.at k1⟩))⟩
/-- a method that several built-in types have, by the value's type -/
structure BmOk (X : Cx) (name : Str) (T : String) (r : WM) : Prop where
  ex : ∃ id, PlainAttrs T ∧ Slot T name id ∧ typeOf (.builtin id) = pure (.type "method_descriptor") ∧ MtD X id r
inductive BmAll (X : Cx) (name : Str) : List (String × WM) → Prop where
  | nil : BmAll X name []
  | cons {T r tbl} : BmOk X name T r → BmAll X name tbl → BmAll X name ((T, r) :: tbl)
theorem BmAll.at {X : Cx} {name : Str} : ∀ {tbl : List (String × WM)}, BmAll X name tbl → ∀ {p : String × WM}, p ∈ tbl → BmOk X name p.1 p.2
  | _, .nil, _, h => nomatch h
  | _, .cons h t, p, hp => by
    rcases List.mem_cons.mp hp with rfl | hp
    · exact h
    · exact t.at hp
def mtR (tbl : List (String × WM)) (d : D) (M : Mp) (k : WM → Prop) : Prop := ∃ p, p ∈ tbl ∧ tyM p.1 d M ∧ k p.2
def wMtA (tbl : List (String × WM)) (wa : WE) (wx : WA) : WE | env, M, Q => wa env M fun d M1 => mtR tbl d M1 fun r => wx env M1 fun ds M2 => r d ds M2 Q
def mJoin : WM | d, ds, M, Q => match d, ds with
  | .str x, [l] => ∃ ys : List Str, seqOf l M = some (ys.map .str) ∧ (ys.map (·.length)).sum + ys.length * x.length ≤ 16777216 ∧ Q (.str (Txt.join x ys)) M
  | _, _ => False
theorem m_join : MtD X "str.join" mJoin := by
  intro pins s σ H x xs v us Q I rx rs ⟨d, ds, M, Qd, hd, hds, hm, hr, hl⟩
  match d, ds, hr with
  | .str z, [l], ⟨ys, h1, h2, q⟩ =>
    obtain ⟨w, rfl, hw⟩ := rel1 hds
    obtain ⟨p, vs, rfl, hq, rs2⟩ := seq_of hm hw h1
    cases rs2.strs_of
    exact mt_join pins s σ H _ _ v us Q I rx rs ⟨z, p, ys, hd, rfl, hq, h2, hl.val hm q rfl⟩
def mAppend : WM | d, ds, M, Q => match d, ds with
  | .ref a, [y] => ∃ es, M a = some (.lst es) ∧ es.length < sizeLine ∧ Put M a (.lst (es ++ [y])) fun M2 => Q .non M2
  | _, _ => False
theorem m_append : MtD X "list.append" mAppend := by
  intro pins s σ H x xs v us Q I rx rs ⟨d, ds, M, Qd, hd, hds, hm, hr, hl⟩
  match d, ds, hr with
  | .ref a, [y], ⟨es, h1, h2, q⟩ =>
    obtain ⟨w, rfl, hw⟩ := rel1 hds
    obtain ⟨vs, h3, r3⟩ := hm _ _ h1
    have kw : Keep H (upd H a (.lst (vs ++ [w]))) := .write h3 trivial
    exact mt_append pins s σ H _ _ v us Q I rx rs ⟨a, vs, w, hd, rfl, h3, by rw [← r3.len]; exact h2, hl _ _ _ _ q.at rfl kw (RelM.write (o := .lst (es ++ [y])) hm h3 trivial ⟨_, upd_same, (r3.keep kw).app (.cons (hw.keep kw) .nil)⟩)⟩
/-! displays of dicts -/
def wDict0 : WE | _, M, Q => New M (.dK []) fun p M2 => Q (.ref p) M2
theorem d_dict0 : DE X (.Dict [] [] pos) wDict0 := pe_wk pe_dnewK fun σ H Q ⟨env, M, Qd, hs, hm, hw, hl⟩ p hp => by
  have kk : Keep H (upd H p (.dK [])) := .fresh hp
  exact hl _ _ _ _ (New.at hw (hm.free hp)) rfl kk (hm.new hp ⟨[], upd_same, .nil⟩)
def keyD : D → Option Key
  | .int i => some (.inl i)
  | .str x => some (.inr x)
  | _ => none
section
variable {κ : Type} [DecidableEq κ]
def valD (kvs : List (κ × D)) (k : κ) : Option D := (kvs.find? fun kv => decide (kv.1 = k)).map (·.2)
def putD (kvs : List (κ × D)) (k : κ) (v : D) : List (κ × D) := if (kvs.any fun kv => decide (kv.1 = k)) = true then kvs.map (fun kv => if kv.1 = k then (kv.1, v) else kv) else kvs ++ [(k, v)]
theorem RelKv.any {K : PySem.W.Frag} {H : Hp} {k : κ} : ∀ {ds : List (κ × D)} {vs : List (κ × V)}, RelKv K H ds vs → (ds.any fun kv => decide (kv.1 = k)) = vs.any fun kv => decide (kv.1 = k)
  | _, _, .nil => rfl
  | _, _, .cons h t => by rw [List.any_cons, List.any_cons, h.1, RelKv.any t]
theorem RelKv.val {K : PySem.W.Frag} {H : Hp} {k : κ} : ∀ {ds : List (κ × D)} {vs : List (κ × V)}, RelKv K H ds vs → (valD ds k = none ∧ valV vs k = none) ∨ ∃ d v, valD ds k = some d ∧ valV vs k = some v ∧ RelD K H d v
  | _, _, .nil => .inl ⟨rfl, rfl⟩
  | _, _, .cons (a := p) (b := q) h t => by
    by_cases e : p.1 = k
    · refine .inr ⟨p.2, q.2, ?_, valV_pos (h.1 ▸ e), h.2⟩
      unfold valD
      rw [List.find?_cons, decide_eq_true e]
      rfl
    · rw [valV_neg (by rw [← h.1]; exact e)]
      have e2 : ∀ r : List (κ × D), valD (p :: r) k = valD r k := fun r => by
        unfold valD
        rw [List.find?_cons, decide_eq_false e]
      rw [e2]
      exact RelKv.val t
theorem RelKv.putAll {K : PySem.W.Frag} {H : Hp} {k : κ} {d : D} {v : V} (r : RelD K H d v) : ∀ {ds : List (κ × D)} {vs : List (κ × V)}, RelKv K H ds vs → RelKv K H (ds.map fun kv => if kv.1 = k then (kv.1, d) else kv) (vs.map fun kv => if kv.1 = k then (kv.1, v) else kv)
  | _, _, .nil => .nil
  | _, _, .cons (a := p) (b := q) h t => by
    refine .cons ?_ (RelKv.putAll r t)
    dsimp only
    by_cases e : p.1 = k
    · rw [if_pos e, if_pos (h.1 ▸ e)]
      exact ⟨h.1, r⟩
    · rw [if_neg e, if_neg (by rw [← h.1]; exact e)]
      exact h
theorem RelKv.app {K : PySem.W.Frag} {H : Hp} {es : List (κ × D)} {us : List (κ × V)} (q : RelKv K H es us) : ∀ {ds : List (κ × D)} {vs : List (κ × V)}, RelKv K H ds vs → RelKv K H (ds ++ es) (vs ++ us)
  | _, _, .nil => q
  | _, _, .cons h t => .cons h (RelKv.app q t)
theorem RelKv.put {K : PySem.W.Frag} {H : Hp} {k : κ} {d : D} {v : V} {ds : List (κ × D)} {vs : List (κ × V)} (r : RelKv K H ds vs) (h : RelD K H d v) : RelKv K H (putD ds k d) (putK vs k v) := by
  unfold putD putK
  rw [r.any]
  split
  · exact r.putAll h
  · exact RelKv.app (.cons ⟨rfl, h⟩ .nil) r
end
theorem keyD_v {K : PySem.W.Frag} {H : Hp} {d : D} {v : V} {k : Key} (h : keyD d = some k) (r : RelD K H d v) : v = kV k := by
  cases d <;> first
    | (cases h; exact r)
    | cases h
abbrev WP := Ev → Mp → (List (D × D) → Mp → Prop) → Prop
def wpNil : WP | _, M, Q => Q [] M
def wpCons (wk wv : WE) (wp : WP) : WP | env, M, Q => wk env M fun k M1 => wv env M1 fun v M2 => wp env M2 fun ps M3 => Q ((k, v) :: ps) M3
def keysOfD : List (D × D) → Option (List (Key × D))
  | [] => some []
  | (k, v) :: r => match keyD k with
    | some x => (keysOfD r).map ((x, v) :: ·)
    | none => none
def mergeD (kvs : List (Key × D)) : List (Key × D) := kvs.foldl (fun acc kv => putD acc kv.1 kv.2) []
/-- {k: v, ..}: the parts leave what stands -/
def wDict (wp : WP) : WE | env, M, Q => New M (.dK []) fun p M0 => wp env M0 fun ps M1 => M1 p = some (.dK []) ∧ ∃ kvs, keysOfD ps = some kvs ∧ kvs.length ≤ 15 ∧ Put M1 p (.dK (mergeD kvs)) fun M2 => Q (.ref p) M2
def RelPs (K : KW) (H : Hp) (ps : List (D × D)) (qs : List (V × V)) : Prop := Paired (fun (p : D × D) (q : V × V) => RelD K H p.1 q.1 ∧ RelD K H p.2 q.2) ps qs
def tPs (K : KW) (wp : WP) (trs : List (TE × TE)) : Prop := ∀ σ H env M (Qd : List (D × D) → Mp → Prop) (Q : List (V × V) → Hp → Prop), RelS K H env σ → RelM K H M → wp env M Qd →
  (∀ ps M' qs H', Qd ps M' → RelPs K H' ps qs → Keep H H' → RelM K H' M' → Q qs H') → tPairs trs σ H Q
structure DPs (X : Cx) (pos : Pos) (ks : List (Option Expr)) (vs : List Expr) (wp : WP) : Prop where
  ex : ∃ trs, PPs X pos ks vs trs ∧ tPs X.kw wp trs
theorem p_nil : DPs X pos [] [] wpNil := ⟨[], pps_nil, fun σ H env M Qd Q hs hm hw k => k _ _ _ _ hw .nil .refl hm⟩
theorem p_cons {k v : Expr} {ks : List (Option Expr)} {vs : List Expr} {wk wv : WE} {wp : WP} (hk : DE X k wk) (hv : DE X v wv) (hr : DPs X pos ks vs wp) : DPs X pos (some k :: ks) (v :: vs) (wpCons wk wv wp) := by
  obtain ⟨trs, h1, h2⟩ := hr.ex
  refine ⟨_, pps_cons hk hv h1, fun σ H env M Qd Q hs hm hw kk => ⟨env, M, _, hs, hm, hw, fun x M1 u H1 q r k1 m1 => ⟨env, M1, _, hs.keep k1, m1, q, fun y M2 w H2 q2 r2 k2 m2 => ?_⟩⟩⟩
  exact h2 σ H2 env M2 _ _ ((hs.keep k1).keep k2) m2 q2 fun ps M3 qs H3 q3 r3 k3 m3 => kk _ _ _ _ q3 (.cons ⟨(r.keep k2).keep k3, r2.keep k3⟩ r3) ((k1.trans k2).trans k3) m3
theorem keysOf_v {K : KW} {H : Hp} : ∀ {ps : List (D × D)} {qs : List (V × V)} {kvs : List (Key × D)}, keysOfD ps = some kvs → RelPs K H ps qs → ∃ us : List (Key × V), qs = us.map (fun kv => (kV kv.1, kv.2)) ∧ RelKv K H kvs us
  | [], _, _, h, .nil => by cases h; exact ⟨[], rfl, .nil⟩
  | (k, v) :: r, _, _, h, .cons (b := q) hq t => by
    unfold keysOfD at h
    cases e : keyD k with
    | none => rw [e] at h; cases h
    | some x =>
      rw [e] at h
      cases e2 : keysOfD r with
      | none => rw [e2] at h; cases h
      | some xs =>
        rw [e2] at h
        cases h
        obtain ⟨us, rfl, rr⟩ := keysOf_v e2 t
        have ek := keyD_v e hq.1
        refine ⟨(x, q.2) :: us, ?_, .cons ⟨rfl, hq.2⟩ rr⟩
        rw [List.map_cons, ← ek]
theorem merge_rel {K : PySem.W.Frag} {H : Hp} : ∀ {kvs : List (Key × D)} {us : List (Key × V)} {as : List (Key × D)} {bs : List (Key × V)}, RelKv K H kvs us → RelKv K H as bs →
    RelKv K H (kvs.foldl (fun acc kv => putD acc kv.1 kv.2) as) (us.foldl (fun acc kv => putK acc kv.1 kv.2) bs)
  | _, _, _, _, .nil, r => r
  | _, _, _, _, .cons (a := p) (b := q) h t, r => by
    rw [List.foldl_cons, List.foldl_cons, h.1]
    exact merge_rel t (r.put h.2)
theorem d_dict {ks : List (Option Expr)} {vs : List Expr} {wp : WP} (h : DPs X pos ks vs wp) (hall : ks.all (·.isSome) = true := by rfl) (hl : ks.length = vs.length := by rfl) (h0 : ks ≠ [] := by exact fun z => nomatch z) (h15 : ks.length ≤ 15 := by decide) :
    DE X (.Dict ks vs pos) (wDict wp) := by
  obtain ⟨trs, h1, h2⟩ := h.ex
  refine pe_wk (pe_disp h1 hall hl h0 h15) fun σ H Q ⟨env, M, Qd, hs, hm, hw, lf⟩ p hp => ?_
  have kp : Keep H (upd H p (.dK [])) := .fresh hp
  refine h2 σ _ env _ _ _ (hs.keep kp) (RelM.new (o := .dK []) hm hp ⟨[], upd_same, .nil⟩) (New.at hw (hm.free hp)) fun ps M1 qs H1 q r k1 m1 => ?_
  obtain ⟨e1, kvs, e2, hz, q⟩ := q
  obtain ⟨us, rfl, rk⟩ := keysOf_v e2 r
  obtain ⟨ws, e3, rw⟩ := m1 _ _ e1
  cases rw
  have kw : Keep H1 (upd H1 p (.dK (mergeK [] us))) := .write e3 trivial
  exact ⟨e3, us, rfl, by rw [← paired_len rk]; exact hz, lf _ _ _ _ q.at rfl ((kp.trans k1).trans kw) (RelM.write (o := .dK (mergeD kvs)) m1 e3 trivial ⟨_, upd_same, merge_rel (rk.keep kw) .nil⟩)⟩
/-! f-strings -/
def fmtD (d : D) (M : Mp) (Q : DQ) : Prop := match d with
  | .str y => y.length ≤ sizeLine ∧ Q (.str y) M
  | .int i => i.natAbs.log2 < 1920 ∧ Q (.str (toString i)) M
  | _ => False
def wFmt (we : WE) : WE | env, M, Q => we env M fun d M1 => fmtD d M1 Q
def wJs : List WE → Str → WE
  | [], acc, _, M, Q => Q (.str acc) M
  | w :: ws, acc, env, M, Q => w env M fun d M1 => match d with
    | .str y => (acc ++ y).length ≤ sizeLine ∧ wJs ws (acc ++ y) env M1 Q
    | _ => False
end

/-! ### repr -/
mutual
/-- a tree as data to be shown -/
def repW (f : Addr → Option PyData) : D → Option PyData
  | .non => some .none
  | .bl b => some (.bool b)
  | .int i => some (.int i)
  | .str x => some (.str x)
  | .tup ds => (repWs f ds).map .tuple
  | .clst ds => (repWs f ds).map .list
  | .ref a => f a
  | _ => none
def repWs (f : Addr → Option PyData) : List D → Option (List PyData)
  | [] => some []
  | d :: ds => match repW f d with
    | some p => (repWs f ds).map (p :: ·)
    | none => none
end
def keyP : Key → PyData
  | .inl i => .int i
  | .inr x => .str x
def repL (M : Mp) : Nat → Addr → Option PyData
  | 0, _ => none
  | n + 1, a => match M a with
    | some (.lst ds) => (repWs (repL M n) ds).map .list
    | some (.dK kvs) => (repWs (repL M n) (kvs.map (·.2))).map fun ps => .dict ((kvs.map fun kv => keyP kv.1).zip ps)
    | _ => none
def repD (M : Mp) (d : D) : Option PyData := repW (repL M 8) d
mutual
def noList : PyData → Bool
  | .list _ => false
  | .tuple xs => noLists xs
  | .dict kvs => noListKv kvs
  | _ => true
def noLists : List PyData → Bool
  | [] => true
  | x :: xs => noList x && noLists xs
def noListKv : List (PyData × PyData) → Bool
  | [] => true
  | (_, v) :: r => noList v && noListKv r
end
section
variable {X : Cx} {pins : List (Addr × Obj)} {σ : St} {H : Hp} {s : Shared}
def fRepr : WC | ds, M, Q => match ds with
  | [d] => ∃ p, repD M d = some p ∧ p.showable = true ∧ (p.hasDict = false ∨ noList p = true) ∧ p.depth ≤ 60 ∧ p.shown.length ≤ sizeLine ∧ Q (.str p.shown) M
  | _ => False
end
end L2.Dl

/-! DLt: t < u of tuples of ints and texts; < in all. -/
namespace L2.Dl
open PySem PySem.Spec PyProof.Rows
variable [Tb]

def lt1 : V → V → Option Bool
  | .int i, .int j => some (decide (i < j))
  | .str x, .str y => some (decide (x.cps.toList < y.cps.toList))
  | _, _ => none
def ltF : List V → List V → Option Bool
  | [], [] => some false
  | [], _ :: _ => some true
  | _ :: _, [] => some false
  | x :: xs, y :: ys => if flatV x = true ∧ flatV y = true then (if eqV x y = true then ltF xs ys else lt1 x y) else none
theorem ltF_cons {x y : V} {xs ys : List V} {b : Bool} (h : ltF (x :: xs) (y :: ys) = some b) : (flatV x = true ∧ flatV y = true) ∧ ((eqV x y = true ∧ ltF xs ys = some b) ∨ (eqV x y = false ∧ lt1 x y = some b)) := by
  unfold ltF at h
  by_cases hf : flatV x = true ∧ flatV y = true
  · rw [if_pos hf] at h
    refine ⟨hf, ?_⟩
    by_cases he : eqV x y = true
    · rw [if_pos he] at h; exact .inl ⟨he, h⟩
    · rw [if_neg he] at h; exact .inr ⟨by simpa using he, h⟩
  · rw [if_neg hf] at h; cases h
theorem rc_lt1 {A : Around} {s : Shared} {x y : V} {u v : Value} {b : Bool} (h : lt1 x y = some b) (r1 : RelV x u) (r2 : RelV y v) (prog : Program) (w : World) (E : Value → Shared → Prop) (Q : Value → Shared → Prop) (q : Q (.bool b) s) :
    wpAny (model prog w) A (richCompare .Lt u v) Q E s := by
  cases x <;> cases y <;> first
    | cases h
    | skip
  · obtain ⟨t, rfl⟩ := r1
    obtain ⟨t', rfl⟩ := r2
    exact (lt_int q : wpAny (model prog w) A (compareOp .Lt (.int _ t) (.int _ t')) Q E s)
  · obtain ⟨t, rfl⟩ := r1
    obtain ⟨t', rfl⟩ := r2
    exact (lt_str q : wpAny (model prog w) A (compareOp .Lt (.str _ t) (.str _ t')) Q E s)
section
open PySem.SeqAt
open PySem.AutoSeq1 (wpAny_loadPart')
open PySem.MeetsSeq PySem.MeetsSeq2 PySem.MeetsSeq3
theorem meets_lt (l b : Addr) (items items2 : Array Value) (n n2 : Nat) (dd dd2 : Option Addr) (sl sl2 : Array (Option Value)) (xs ys : List V) (b0 : Bool) (hi : Vals xs items.toList) (hj : Vals ys items2.toList) (hb0 : ltF xs ys = some b0) :
    Meets (Builtin.«tuple.__lt__» ⟨[.ref l, .ref b], []⟩)
      (fun _ R s => (s.heap.get? l = some { cls := .type "tuple", dict := dd, data := .seq items n, slots := sl }) ∧ (s.heap.get? b = some { cls := .type "tuple", dict := dd2, data := .seq items2 n2, slots := sl2 }) ∧ R (.ok (.ret (.bool b0))) s) :=
  .of_wp fun prog w A R s h => by
    obtain ⟨hp, g, d, tk, os⟩ := s
    obtain ⟨hl, hb, h⟩ := h
    have sub := AutoSeq1.sub_tuple_tuple
    have z1 : items.size = xs.length := by rw [hi.length]; simp
    have z2 : items2.size = ys.length := by rw [hj.length]; simp
    wp_walk using wpAny_loadPart' hl, wpAny_loadPart' hb, wpAny_forIn_list _ (fun rest c s' => c.1 = none ∧ s' = ⟨hp, g, d, tk, os⟩ ∧ ∃ (us ws : List Value) (xs' ys' : List V), rest = us.zip ws ∧
      Vals xs' us ∧ Vals ys' ws ∧ xs'.length + items2.size = ys'.length + items.size ∧ ltF xs' ys' = some b0) _
    case turn =>
      rintro ⟨y, x⟩ rest c s' ⟨hc, rfl, us, ws, xs', ys', hz, r1, r2, hlen, hb1⟩
      cases r1 with
      | nil => rw [List.zip_nil_left] at hz; cases hz
      | cons q1 t1 =>
        cases r2 with
        | nil => rw [List.zip_nil_right] at hz; cases hz
        | cons q2 t2 =>
          rw [List.zip_cons_cons] at hz
          injection hz with hyx hrest
          injection hyx with hy hx
          subst hy hx
          simp only [List.length_cons] at hlen
          obtain ⟨⟨f1, f2⟩, hb1⟩ := ltF_cons hb1
          have he := eqAt_V (A := A.in1) (s := ⟨hp, g, d, tk, os⟩) q1 q2 f1 f2
          refine wpAny_bind (he prog w _ _ ?_)
          rcases hb1 with ⟨e1, e2⟩ | ⟨e1, e2⟩
          · rw [e1]
            wp_walk
            exact ⟨rfl, rfl, _, _, _, _, hrest, t1, t2, by omega, e2⟩
          · rw [e1]
            have hri := rc_lt1 (A := A.in1) (s := ⟨hp, g, d, tk, os⟩) e2 q1 q2 prog w
            wp_walk using hri
            exact ⟨_, rfl, by simpa using h⟩
    case fin =>
      rintro ⟨c1, c2⟩ s' ⟨hc, rfl, us, ws, xs', ys', hz, r1, r2, hlen, hb1⟩
      simp only at hc
      subst hc
      have hv : b0 = decide (items.size < items2.size) := by
        cases r1 with
        | nil =>
          cases r2 with
          | nil =>
            simp only [List.length_nil] at hlen
            have e : some false = some b0 := hb1
            cases e
            exact (decide_eq_false (by omega)).symm
          | cons q2 t2 =>
            simp only [List.length_nil, List.length_cons] at hlen
            have e : some true = some b0 := hb1
            cases e
            exact (decide_eq_true (by omega)).symm
        | cons q1 t1 =>
          cases r2 with
          | nil =>
            simp only [List.length_nil, List.length_cons] at hlen
            have e : some false = some b0 := hb1
            cases e
            exact (decide_eq_false (by omega)).symm
          | cons q2 t2 =>
            rw [List.zip_cons_cons] at hz
            cases hz
      rw [hv] at h
      wp_walk
      exact ⟨_, rfl, by simpa [Builtin.Tuple.tupleCompareSizes] using h⟩
    case h =>
      exact ⟨rfl, rfl, items.toList, items2.toList, xs, ys, rfl, hi, hj, by omega, hb0⟩
end
section
variable {prog : Program} {w : World} {A : Around} {E : Value → Shared → Prop} {s : Shared} {X : Cx}
theorem lt_tups {l b : Addr} {items items2 : Array Value} {xs ys : List V} {b0 : Bool} {Q : Value → Shared → Prop} (hl : IsTup s.heap l items) (hb : IsTup s.heap b items2) (hi : Vals xs items.toList) (hj : Vals ys items2.toList) (hb0 : ltF xs ys = some b0)
    (hu : A.units < cLine) (h : Q (.bool b0) s) : wpAny (model prog w) A (compareOp .Lt (.ref l) (.ref b)) Q E s := by
  obtain ⟨⟨c1, d1, t1, s1⟩, ho, hc, n, hd⟩ := id hl
  obtain ⟨⟨c2, d2, t2, s2⟩, ho2, hc2, n2, hd2⟩ := id hb
  simp only at hc hd hc2 hd2
  subst hc hd hc2 hd2
  refine richCompare_meets_room (op := .Lt) ⟨_, ho, rfl⟩ ⟨_, ho2, rfl⟩ PySem.F.slot_tuple_lt PySem.F.entry_tuple_lt (PySem.F.args_tuple_lt_2 _ _) (meets_lt l b items items2 n n2 d1 d2 s1 s2 xs ys b0 hi hj hb0) ?_ hu
  exact ⟨ho, ho2, show Value.bool b0 ≠ Value.notImplemented ∧ Q (.bool b0) s from ⟨(fun x => nomatch x), h⟩⟩
theorem flv_rel {K : PySem.W.Frag} {H : Hp} : ∀ {ds : List D} {vs : List V} {es : List D} {us : List V} {b : Bool}, ltF (ds.map flv) (es.map flv) = some b → RelDs K H ds vs → RelDs K H es us → ltF vs us = some b
  | [], _, [], _, _, h, r1, r2 => by cases r1; cases r2; exact h
  | [], _, _ :: _, _, _, h, r1, r2 => by
    cases r1
    obtain ⟨v, r, rfl, _, _⟩ := r2
    exact h
  | _ :: _, _, [], _, _, h, r1, r2 => by
    cases r2
    obtain ⟨v, r, rfl, _, _⟩ := r1
    exact h
  | d :: ds, _, e :: es, _, b, h, r1, r2 => by
    obtain ⟨v, r, rfl, h1, h2⟩ := r1
    obtain ⟨u, r', rfl, h3, h4⟩ := r2
    obtain ⟨⟨f1, f2⟩, hb⟩ := ltF_cons (show ltF (flv d :: ds.map flv) (flv e :: es.map flv) = some b from h)
    have e1 := flat_val f1 h1
    have e2 := flat_val f2 h3
    subst e1 e2
    unfold ltF
    rw [if_pos ⟨f1, f2⟩]
    rcases hb with ⟨e3, e4⟩ | ⟨e3, e4⟩
    · rw [if_pos e3]; exact flv_rel e4 h2 h4
    · rw [if_neg (by rw [e3]; simp)]; exact e4
def cLt : W2 | d, e, M, Q => match d, e with
  | .int i, .int j => Q (.bl (decide (i < j))) M
  | .str x, .str y => Q (.bl (decide (x.cps.toList < y.cps.toList))) M
  | .tup xs, .tup ys => ∃ b, ltF (xs.map flv) (ys.map flv) = some b ∧ Q (.bl b) M
  | _, _ => False
theorem o_lt (hu : X.A.units + 64 < cLine) : OpD X (compareOp .Lt) cLt := by
  intro pins s σ H x y v u Q I rx ry ⟨d, e, M, Qd, hd, he, hm, hr, hl⟩
  match d, e, hr with
  | .int i, .int j, hr => exact op_lt pins s σ H x y v u Q I rx ry ⟨i, j, hd, he, hl.val hm hr rfl⟩
  | .str i, .str j, hr => exact op_lt_str pins s σ H x y v u Q I rx ry ⟨i, j, hd, he, hl.val hm hr rfl⟩
  | .tup xs, .tup ys, ⟨b, hb, hr⟩ =>
    obtain ⟨p, vs, rfl, t1, r1⟩ := hd
    obtain ⟨q, us, rfl, t2, r2⟩ := he
    cases (show v = _ from rx)
    cases (show u = _ from ry)
    obtain ⟨i1, v1, p1, _⟩ := I.tuple t1.sq
    obtain ⟨i2, v2, p2, _⟩ := I.tuple t2.sq
    exact lt_tups p1 p2 (by simpa using v1) (by simpa using v2) (flv_rel hb r1 r2) (by omega) ⟨.bl b, H, I, rfl, hl.val hm hr rfl⟩
end
end L2.Dl

/-! DEnd: the end of a law row, from the law's promise over trees; short words for the generated terms. -/
namespace L2.Dl
open PySem PySem.Spec PyProof.Rows
variable [Tb]

/-- what is known of a def of the text -/
structure Fx (K : PySem.W.Frag) (mg : Str → Option Value) (x : Str) (st : Stmt) where
  f : Addr
  fd : FuncData
  dV : Value
  kV : Value
  cd : Value
  F : FunA K x x st dV kV cd f fd
  g : mg x = some (.ref f)
/-- bindings: every parameter is written -/
theorem pb_of {K : PySem.W.Frag} {x qual : Str} {st : Stmt} {f : Addr} {fd : FuncData} {ps : List Str} {kV cd : Value} (F : FunA K x qual st .none kV cd f fd)
    (h : ∀ (doc pm : Value) (an : Option Addr) (cdv ct : Value) (us : List Value), us.length = ps.length → bindArgs (PySem.W.fnOf x qual (defArgs st) (defBody st) (defScope st) .none kV doc pm an cdv ct) ⟨us, []⟩ = pure (ps.zip us)) : PB K fd ps := by
  obtain ⟨oc, od, doc, pm, an, ct, osl, rfl, lk, hcd⟩ := F.ex
  exact fun s us _ hl => .of_eq (h doc pm an cd ct us hl)
section
variable {X : Cx}
theorem dv (i : Nat) {x : Str} {pos : Pos} (hN : X.N[i]? = some x := by rfl) (hv : Vis X.env.scope x := by first | exact Or.inl rfl | exact Or.inr (Or.inl rfl) | exact Or.inr (Or.inr rfl)) (hd : (x == ("__debug__" : Str)) = false := by decide)
    (hcd : (x == ("__classdict__" : Str)) = false := by decide) : DE X (.Name x pos) (wVar i) := d_var hN hv hd hcd
theorem ss (i : Nat) {x : Str} {e : Expr} {we : WE} {pos pos' : Pos} (hN : X.N.Nodup) (he : DE X e we) (hi : X.N[i]? = some x := by rfl) (hx : Loc X.env.scope x := by first | exact Or.inl rfl | exact Or.inr rfl)
    (hs : swapsWith e (some (.Name x pos')) pos.line X.env = pure false := by rfl) (hf : X.fn x = true ∨ X.env.scope.names.lookup x = some .local := by first | exact .inl rfl | exact .inr rfl) : DS X (.Assign [.Name x pos'] e pos) (wAsg we (gN i)) := s_set hN hi hx he hs hf
theorem gn (i : Nat) {x : Str} {pos : Pos} (hN : X.N.Nodup) (hi : X.N[i]? = some x := by rfl) (hx : Loc X.env.scope x := by first | exact Or.inl rfl | exact Or.inr rfl) (hf : X.fn x = true ∨ X.env.scope.names.lookup x = some .local := by first | exact .inl rfl | exact .inr rfl) : DG X (.Name x pos) (gN i) := g_name hN hi hx hf
theorem gon (i : Nat) {vs : List Nat} {x : Str} {pos : Pos} (hN : X.N.Nodup) (hi : X.N[i]? = some x := by rfl) (hx : Loc X.env.scope x := by first | exact Or.inl rfl | exact Or.inr rfl) (hv : i ∈ vs := by decide) (hf : X.fn x = true ∨ X.env.scope.names.lookup x = some .local := by first | exact .inl rfl | exact .inr rfl) : DGo X vs (.Name x pos) (gN i) := go_name hN hi hx hv hf
end

/-- a table of code objects at the start -/
structure Tbl.Ok (K : PySem.W.Frag) (h : Heap) (t : Tbl) : Prop where
  hd : PySem.W.CodeHd h t.c t.P
  mt : h.get? t.P = some { cls := .none, data := .fields #[] }
  out : K.lookup t.P = none
/-- the law's end: from its promise over trees, at the script as a list that never changes, and tables that are empty -/
theorem walk_t {l : PySem.W.OpenLaw} {n k : Nat} {q : Program} {loose : List Str} {XP : (Str → Option Value) → Heap → Prop} {YP : World → Heap → Prop} {d : DefRec} {K : Params → PySem.W.Frag} {W : WC} {x : Str}
    (hn : l.most = some n) (hn2 : n ≤ sizeLine) (hdf : d.params.defaults = []) (hr : Room k callerA) (hY : ∀ (w : World) (h : Heap), YP w h → (K w.params).In h)
    (F : ∀ (w : World) (mg : Str → Option Value) (fa : Addr) (h : Heap), (∀ (x : Str) (c P : Addr) (d' : DefRec), (recsOf q).find? (fun e => e.name == x) = some d' → PySem.W.tabIn (K w.params) x = some (c, P) → PySem.W.CodeHd h c P ∧ h.get? P = some (PySem.W.tabObj #[])) →
      YP w h → (K w.params).In h → h.Ns mainGlobals mg → mg d.name = some (.ref fa) →
      ∃ (fd : FuncData) (ts : List Tbl), PB (K w.params) fd [x] ∧ (∀ t ∈ ts, t.Ok (K w.params) h) ∧
        ∀ base : Heap, (∀ t ∈ ts, LamX.TabB base mg t.c t.P) → @FnG ⟨ts⟩ l.prog w (K w.params) mg base k fa fd [x] W)
    (hW : ∀ ns : List Int, ns.length ≤ n → (∀ z ∈ ns, Builtin.Int.intBits z ≤ 1048576) → W [.clst (ns.map .int)] (fun _ => none) fun v _ => v = .bl true) :
    PySem.W.WalkO q loose XP YP l.row.toRowW d [] (fun f vs => PySem.call f vs) := by
  refine Att.attach_callB hn hdf fun w s₀ s₁ mg mb fa o pm cd doc a vs ns G Y ho hd hcd hmg hobj hints hlen hbits hg => ?_
  have KX := hY w _ Y
  obtain ⟨fd, ts, hb, hts, hF⟩ := F w mg fa _ (fun y c P d' h1 h2 => PySem.W.tab_of G.T KX h1 h2) Y KX G.T.g hmg
  have rv := vals_ints hints
  have lv := hints.length
  generalize K w.params = K at *
  letI TI : Tb := ⟨ts⟩
  have tabAt : ∀ {b : Addr}, b ∈ ts.map (fun t => t.P) → s₁.heap.get? b = some { cls := .none, data := .fields #[] } ∧ K.lookup b = none := fun {b} hb => by
    obtain ⟨t, ht, rfl⟩ := List.mem_map.mp hb
    exact ⟨(hts t ht).mt, (hts t ht).out⟩
  have aT : a ∉ ts.map (fun t => t.P) := fun z => by
    have e := (tabAt z).1
    rw [hobj] at e
    cases (show Data.seq vs.toArray _ = Data.fields #[] from congrArg Obj.data (Option.some.inj e))
  -- what is tracked at first: the script, where it is not one of the written part, and the tables
  obtain ⟨H, hc, hok, hT, hA⟩ : ∃ H : Hp, ClsAt K H a (ns.map V.int) ∧ HOk l.prog w H s₁.heap ∧ (∀ b ∈ ts.map (fun t => t.P), H b = some (.tbl #[])) ∧
      ∀ b u, H b = some u → (b = a ∧ K.lookup a = none ∧ u = .frz { cls := .type "list", data := .seq vs.toArray } (.lst (ns.map V.int))) ∨ (b ∈ ts.map (fun t => t.P) ∧ u = .tbl #[]) := by
    cases hk : K.lookup a with
    | some o =>
      have e := KX a o hk
      rw [hobj] at e
      cases e
      refine ⟨fun b => if b ∈ ts.map (fun t => t.P) then some (.tbl #[]) else none, .inr (.inr ⟨_, vs.toArray, _, hk, rfl, rfl, rfl, by rw [List.size_toArray, lv]; exact Nat.le_trans hlen hn2, by simpa using rv⟩), fun b u z => ?_, fun b hb => if_pos hb, fun b u z => ?_⟩ <;> dsimp only at z <;> split at z <;> cases z
      · rename_i hb
        exact (tabAt hb).1
      · rename_i hb
        exact .inr ⟨hb, rfl⟩
    | none =>
      refine ⟨fun b => if b = a then some (.frz { cls := .type "list", data := .seq vs.toArray } (.lst (ns.map V.int))) else if b ∈ ts.map (fun t => t.P) then some (.tbl #[]) else none, .inl ⟨_, if_pos rfl⟩, fun b u z => ?_, fun b hb => ?_, fun b u z => ?_⟩
      · dsimp only at z
        by_cases hb : b = a
        · subst hb
          rw [if_pos rfl] at z
          cases z
          exact ⟨hobj, by rw [List.length_map]; exact Nat.le_trans hlen hn2, vs, _, rv, hobj⟩
        · rw [if_neg hb] at z
          split at z <;> cases z
          rename_i hb
          exact (tabAt hb).1
      · show (if b = a then _ else _) = _
        rw [if_neg (fun z => aT (by rw [← z]; exact hb)), if_pos hb]
      · dsimp only at z
        by_cases hb : b = a
        · rw [if_pos hb] at z
          cases z
          exact .inl ⟨hb, rfl, rfl⟩
        · rw [if_neg hb] at z
          split at z <;> cases z
          rename_i hb
          exact .inr ⟨hb, rfl⟩
  have free : ∀ {b : Addr} {o : Obj}, s₁.heap.get? b = some o → o.cls ≠ .type "list" → o.cls ≠ .none → H b = none := fun {b o} e h1 h2 => by
    cases z : H b with
    | none => rfl
    | some u =>
      rcases hA b u z with ⟨rfl, _⟩ | ⟨hb, _⟩
      · rw [hobj] at e; cases e; exact (h1 rfl).elim
      · rw [(tabAt hb).1] at e; cases e; exact (h2 rfl).elim
  have nd : ∀ {b : Addr} {o : Obj} {es : Array DictEntry} {ep : Nat}, s₁.heap.get? b = some o → o.data = .dict es ep → H b = none := fun {b o es ep} e dd => by
    cases z : H b with
    | none => rfl
    | some u =>
      rcases hA b u z with ⟨rfl, _⟩ | ⟨hb, _⟩
      · rw [hobj] at e; cases e; cases (show Data.seq vs.toArray _ = Data.dict es ep from dd)
      · rw [(tabAt hb).1] at e; cases e; cases (show Data.fields #[] = Data.dict es ep from dd)
  have ns' : ∀ {b : Addr} {m : Str → Option Value}, s₁.heap.Ns b m → (hidT s₁.heap H).Ns b m := fun ⟨o, es, ep, e, dd, r⟩ => ⟨o, es, ep, hidT_get e (nd e dd), dd, r⟩
  have kin : K.In (hidT s₁.heap H) := fun b o e => hidT_get (KX b o e) (by
    cases z : H b with
    | none => rfl
    | some u =>
      rcases hA b u z with ⟨rfl, e3, _⟩ | ⟨hb, _⟩
      · rw [e3] at e; cases e
      · rw [(tabAt hb).2] at e; cases e)
  have TB : ∀ t ∈ ts, LamX.TabB (hidT s₁.heap H) mg t.c t.P := fun t ht => by
    refine ⟨?_, ?_, fun z => ?_⟩
    · obtain ⟨o, us, file, tf, flags, tg, inF, text, tt, e1, r1, r⟩ := (hts t ht).hd
      exact ⟨o, us, file, tf, flags, tg, inF, text, tt, hidT_get e1 (free e1 (by rw [r1]; decide) (by rw [r1]; decide)), r1, r⟩
    · obtain ⟨bm, ob, b1, b2, b3, b4, b5, b6⟩ := G.T.bmain
      have nG : bm ≠ mainGlobals := fun z => by
        obtain ⟨o, es, ep, e, hd, _⟩ := G.T.g
        rw [← z, b3] at e
        cases e
        cases b6.symm.trans hd
      have nP : bm ≠ t.P := fun z => by
        rw [z, (hts t ht).mt] at b3
        cases b3
        cases b4
      exact ⟨bm, ob, b1, b2, nG, nP, hidT_get b3 (free b3 (by rw [b4]; decide) (by rw [b4]; decide)), b4, b5, b6⟩
    · obtain ⟨o, es, ep, e, hd, _⟩ := G.T.g
      rw [z, (hts t ht).mt] at e
      cases e
      cases hd
  have e0 : Env0 l.prog w K mg (hidT s₁.heap H) callerA [] s₁ H := ⟨rfl, ⟨kin, ns' G.T.g, ⟨mb, ns' G.T.b, G.T.builtins⟩, let ⟨mc, z1, z2⟩ := G.T.nolimit; ⟨mc, ns' z1, z2⟩⟩, fun b o e => of_hidT e, Nat.le_of_eq (hidT_size _ _), trivial, fun b hb => absurd (show b ∈ ([] : List Addr) from hb) (by simp), hok, .of_eq hg⟩
  have tabs : LamX.Tabs Tb.T H := fun p hp => by
    obtain ⟨t, ht, rfl⟩ := List.mem_map.mp hp
    exact .nil (hT _ (List.mem_map.mpr ⟨t, ht, rfl⟩))
  have rW : rDs (kwo l.prog w K mg) W [.ref a] H fun v _ => v = .bl true := ⟨[.clst (ns.map .int)], fun _ => none, _, .cons ⟨a, _, rfl, hc, .ints⟩ .nil, ⟨fun _ _ z => (nomatch z), tabs⟩, hW ns hlen hbits, fun d M v H' q r _ _ => by
    have q' : d = .bl true := q
    subst q'
    exact r⟩
  refine codeAny_mono ((hF _ TB).run callerA [] s₁ H ⟨[.ref a], []⟩ [.ref a] [.ref a] _ ⟨hr, rfl⟩ e0 (hb s₁ [.ref a] KX rfl) (.cons rfl .nil) rW) fun r s' h => ?_
  cases r with
  | error e => exact False.elim h
  | ok fl =>
    cases fl with
    | ret u =>
      obtain ⟨v, H', os, bare, un, hok', r', q'⟩ := h
      cases (show v = .bl true from q')
      cases (show u = Value.bool true from r')
      have stays : ∀ b o, b ∉ ts.map (fun t => t.P) → s₁.heap.get? b = some o → s'.heap.get? b = some o := fun b o nb e => by
        cases z : H b with
        | none => exact un.keep b o e z (fun y => absurd (show b ∈ ([] : List Addr) from y) (by simp)) (by simp)
        | some u =>
          rcases hA b u z with ⟨_, _, rfl⟩ | ⟨hb, _⟩
          · obtain ⟨e1, _⟩ := hok b _ z
            obtain ⟨e2, _⟩ := hok' b _ (un.frzs b _ _ z)
            rw [e] at e1
            cases e1
            exact e2
          · exact (nb hb).elim
      have grown : ∀ b ∈ ts.map (fun t => t.P), ∃ more : Array Value, s'.heap.get? b = some { cls := .none, data := .fields more } := fun b hb => by
        obtain ⟨more, z⟩ := un.tbls b #[] (hT b hb)
        exact ⟨_, hok' b _ z⟩
      refine ⟨rfl, ⟨fun b o e => ?_, fun b o e => ?_⟩, os, bare⟩
      · by_cases hb : b ∈ ts.map (fun t => t.P)
        · obtain ⟨more, hm⟩ := grown b hb
          obtain ⟨t, ht, rfl⟩ := List.mem_map.mp hb
          rw [(hts t ht).mt] at e
          cases e
          exact .inr (.inl ⟨((hts t ht).hd.tab (hts t ht).mt).isCodeTable, rfl, #[], more, rfl, by rw [Array.empty_append]; exact hm⟩)
        · exact .inl (stays b o hb e)
      · by_cases hb : b ∈ ts.map (fun t => t.P)
        · obtain ⟨more, hm⟩ := grown b hb
          exact ⟨_, hm⟩
        · exact ⟨o, stays b o hb e⟩
    | _ => exact False.elim h
end L2.Dl

/-! DMath: what the proofs over trees share: frames, loops by an invariant, pure comprehensions, texts. -/
namespace L2.Dl
open PySem PySem.Spec PyProof.Rows
variable [Tb]

theorem Fr.refl {S : List Addr} {M : Mp} : Fr S M M := fun _ _ _ h => h
theorem Fr.trans {S : List Addr} {M M1 M2 : Mp} (a : Fr S M M1) (b : Fr S M1 M2) : Fr S M M2 := fun x o h e => b x o h (a x o h e)
theorem Fr.mono {S T : List Addr} {M M1 : Mp} (a : Fr S M M1) (h : ∀ x ∈ S, x ∈ T) : Fr T M M1 := fun x o n e => a x o (fun z => n (h x z)) e
theorem Fr.nil {T : List Addr} {M M1 : Mp} (a : Fr [] M M1) : Fr T M M1 := a.mono fun _ h => nomatch h
theorem Fr.new {S : List Addr} {M : Mp} {p : Addr} {o : MO} (h : M p = none) : Fr S M (mup M p o) := fun a x _ e => by
  by_cases ea : a = p
  · subst ea; rw [h] at e; cases e
  · rw [mup_ne ea]; exact e
theorem Fr.put {S : List Addr} {M : Mp} {p : Addr} {o : MO} (h : p ∈ S) : Fr S M (mup M p o) := fun a x n e => by
  rw [mup_ne (fun z : a = p => n (by rw [z]; exact h))]; exact e
/-- a new object is forgotten: what was told ahead of it -/
theorem Fr.drop {S : List Addr} {M M1 M' : Mp} {p : Addr} (h : M p = none) (g : Fr [] M M1) (f : Fr (p :: S) M1 M') : Fr S M M' := fun a x n e => by
  refine f a x (fun z => ?_) (g a x (by simp) e)
  rcases List.mem_cons.mp z with z | z
  · rw [z, h] at e; cases e
  · exact n z
/-! ### a block, its ends written out -/
/-! ### loops -/
section
variable {ok : Mp → Prop} {g : WG} {w : WS} {E : DEnds} {wt : WT} {we : WE} {env env0 : Ev} {p : Addr} {Q : DQ} {items : List D} {M : Mp}
theorem run_for (P : Nat → Ev → Mp → Prop) (h0 : P 0 env M)
    (step : ∀ i d r env M, items.drop i = d :: r → P i env M → (∀ env' M', P (i + 1) env' M' → runFor ok g w E r env' M') →
      ok M ∧ g d env M fun env1 M1 => w { nx := runFor ok g w E r, rt := E.rt, bk := E.nx, ct := runFor ok g w E r } env1 M1)
    (fin : ∀ env M, P items.length env M → ok M ∧ E.nx env M) : runFor ok g w E items env M := by
  have key : ∀ n i env M, i + n = items.length → P i env M → runFor ok g w E (items.drop i) env M := by
    intro n
    induction n with
    | zero =>
      intro i env M hi hp
      have hi' : i = items.length := by omega
      subst hi'
      rw [List.drop_length]
      exact fin env M hp
    | succ n ih =>
      intro i env M hi hp
      have h : i < items.length := by omega
      rw [List.drop_eq_getElem_cons h]
      exact step i _ _ env M (List.drop_eq_getElem_cons h) hp fun env' M' hp' => ih (i + 1) env' M' (by omega) hp'
  exact key items.length 0 env M (by omega) h0
theorem run_lc (P : Nat → Mp → Prop) (h0 : P 0 M)
    (step : ∀ i d r M, items.drop i = d :: r → P i M → (∀ M', P (i + 1) M' → runLc ok g wt we env0 p Q r M') →
      ok M ∧ g d env0 M fun env2 M2 => wt env2 M2 fun k M3 => if k = true then we env2 M3 fun y M4 => ∃ acc, M4 p = some (.lst acc) ∧ acc.length < sizeLine ∧ Put M4 p (.lst (acc ++ [y])) fun M5 => runLc ok g wt we env0 p Q r M5
        else runLc ok g wt we env0 p Q r M3)
    (fin : ∀ M, P items.length M → ok M ∧ Q (.ref p) M) : runLc ok g wt we env0 p Q items M := by
  have key : ∀ n i M, i + n = items.length → P i M → runLc ok g wt we env0 p Q (items.drop i) M := by
    intro n
    induction n with
    | zero =>
      intro i M hi hp
      have hi' : i = items.length := by omega
      subst hi'
      rw [List.drop_length]
      exact fin M hp
    | succ n ih =>
      intro i M hi hp
      have h : i < items.length := by omega
      rw [List.drop_eq_getElem_cons h]
      exact step i _ _ M (List.drop_eq_getElem_cons h) hp fun M' hp' => ih (i + 1) M' (by omega) hp'
  exact key items.length 0 M (by omega) h0
end
theorem rng_at {lo : Int} {n i : Nat} {d : D} {r : List D} (h : (rngD lo n).drop i = d :: r) : i < n ∧ d = .int (lo + (i : Nat)) := by
  have hl : i < (rngD lo n).length := by
    by_cases q : i < (rngD lo n).length
    · exact q
    · rw [List.drop_of_length_le (by omega)] at h; cases h
  have hl' : i < n := by simpa [rngD] using hl
  refine ⟨hl', ?_⟩
  rw [List.drop_eq_getElem_cons hl] at h
  cases h
  simp [rngD]
@[simp] theorem rng_len {lo : Int} {n : Nat} : (rngD lo n).length = n := by simp [rngD]

/-! ### what is told stays told -/
mutual
theorem repW_mono {f g : Addr → Option PyData} (h : ∀ a p, f a = some p → g a = some p) : ∀ {d : D} {p : PyData}, repW f d = some p → repW g d = some p
  | .non, _, e => e
  | .bl _, _, e => e
  | .int _, _, e => e
  | .str _, _, e => e
  | .tup ds, _, e => by
    unfold repW at e ⊢
    cases q : repWs f ds with
    | none => rw [q] at e; cases e
    | some ps => rw [q] at e; rw [repWs_mono h q]; exact e
  | .ref a, _, e => h a _ e
  | .clst ds, _, e => by
    unfold repW at e ⊢
    cases q : repWs f ds with
    | none => rw [q] at e; cases e
    | some ps => rw [q] at e; rw [repWs_mono h q]; exact e
  | .cdic _ _, _, e => by unfold repW at e; cases e
  | .ty _, _, e => by unfold repW at e; cases e
theorem repWs_mono {f g : Addr → Option PyData} (h : ∀ a p, f a = some p → g a = some p) : ∀ {ds : List D} {ps : List PyData}, repWs f ds = some ps → repWs g ds = some ps
  | [], _, e => e
  | d :: ds, _, e => by
    unfold repWs at e ⊢
    cases q : repW f d with
    | none => rw [q] at e; cases e
    | some p =>
      rw [q] at e
      rw [repW_mono h q]
      cases q2 : repWs f ds with
      | none => rw [q2] at e; cases e
      | some ps => rw [q2] at e; rw [repWs_mono h q2]; exact e
end
theorem repL_mono {M M' : Mp} (h : Fr [] M M') : ∀ (n : Nat) (a : Addr) (p : PyData), repL M n a = some p → repL M' n a = some p
  | 0, _, _, e => e
  | n + 1, a, p, e => by
    unfold repL at e ⊢
    cases q : M a with
    | none => rw [q] at e; cases e
    | some o =>
      rw [h a o (by simp) q]
      rw [q] at e
      cases o with
      | lst ds =>
        dsimp only at e ⊢
        cases q2 : repWs (repL M n) ds with
        | none => rw [q2] at e; cases e
        | some ps => rw [q2] at e; rw [repWs_mono (repL_mono h n) q2]; exact e
      | dK kvs =>
        dsimp only at e ⊢
        cases q2 : repWs (repL M n) (kvs.map (·.2)) with
        | none => rw [q2] at e; cases e
        | some ps => rw [q2] at e; rw [repWs_mono (repL_mono h n) q2]; exact e
      | _ => cases e
theorem repD_mono {M M' : Mp} (h : Fr [] M M') {d : D} {p : PyData} (e : repD M d = some p) : repD M' d = some p := repW_mono (repL_mono h 8) e
/-- may be asked of repr -/
structure Rep (M : Mp) (d : D) (p : PyData) : Prop where
  is : repD M d = some p
  ok : p.showable = true
  nd : p.hasDict = false ∨ noList p = true
  dp : p.depth ≤ 60
  sz : p.shown.length ≤ sizeLine
theorem Rep.mono {M M' : Mp} {d : D} {p : PyData} (r : Rep M d p) (h : Fr [] M M') : Rep M' d p := ⟨repD_mono h r.is, r.ok, r.nd, r.dp, r.sz⟩
theorem Rep.ask {M : Mp} {d : D} {p : PyData} {Q : DQ} (r : Rep M d p) (q : Q (.str p.shown) M) : fRepr [d] M Q := ⟨p, r.is, r.ok, r.nd, r.dp, r.sz, q⟩
theorem tyD_mono {M M' : Mp} (h : Fr [] M M') {d : D} {t : String} (e : tyD d M = some t) : tyD d M' = some t := by
  cases d with
  | ref a =>
    unfold tyD at e ⊢
    dsimp only at e ⊢
    cases q : M a with
    | none => rw [q] at e; cases e
    | some o => rw [h a o (by simp) q]; rw [q] at e; exact e
  | _ => exact e
/-! ### texts -/
end L2.Dl
namespace L2.Dl
open PySem PySem.Spec PyProof.Rows
variable [Tb]
theorem bIx_ref {M : Mp} {a : Addr} {ds : List D} {i : Int} {Q : DQ} (h : M a = some (.lst ds)) : bIx (.ref a) (.int i) M Q = ∃ x, L2.atI ds i = some x ∧ Q x M := by
  unfold bIx
  dsimp only
  refine propext ⟨fun ⟨es, x, h1, h2, q⟩ => ?_, fun ⟨x, h2, q⟩ => ⟨ds, x, ?_, h2, q⟩⟩
  · unfold seqOf lstOf at h1
    dsimp only at h1
    rw [h] at h1
    cases h1
    exact ⟨x, h2, q⟩
  · unfold seqOf lstOf
    dsimp only
    rw [h]
theorem bIx_tup {M : Mp} {ds : List D} {i : Int} {Q : DQ} : bIx (.tup ds) (.int i) M Q = ∃ x, L2.atI ds i = some x ∧ Q x M := by
  unfold bIx
  dsimp only
  refine propext ⟨fun ⟨es, x, h1, h2, q⟩ => ?_, fun ⟨x, h2, q⟩ => ⟨ds, x, rfl, h2, q⟩⟩
  cases h1
  exact ⟨x, h2, q⟩
theorem bIx_clst {M : Mp} {ds : List D} {i : Int} {Q : DQ} : bIx (.clst ds) (.int i) M Q = ∃ x, L2.atI ds i = some x ∧ Q x M := by
  unfold bIx
  dsimp only
  refine propext ⟨fun ⟨es, x, h1, h2, q⟩ => ?_, fun ⟨x, h2, q⟩ => ⟨ds, x, rfl, h2, q⟩⟩
  cases h1
  exact ⟨x, h2, q⟩
theorem atI_0 {α : Type} {x : α} {xs : List α} : L2.atI (x :: xs) 0 = some x := by
  have := L2.atI_nat (xs := x :: xs) (j := 0) (v := x) rfl
  simpa using this
theorem atI_1 {α : Type} {x y : α} {xs : List α} : L2.atI (x :: y :: xs) 1 = some y := by
  have := L2.atI_nat (xs := x :: y :: xs) (j := 1) (v := y) rfl
  simpa using this
theorem atI_get {α : Type} {xs : List α} {i : Int} (h0 : 0 ≤ i) (h1 : i < xs.length) : ∃ h : i.toNat < xs.length, L2.atI xs i = some xs[i.toNat] := by
  have h : i.toNat < xs.length := by omega
  refine ⟨h, ?_⟩
  have := L2.atI_nat (xs := xs) (j := i.toNat) (v := xs[i.toNat]) (List.getElem?_eq_getElem h)
  rwa [Int.toNat_of_nonneg h0] at this
theorem atI_mem {α : Type} {xs : List α} {i : Int} (h0 : 0 ≤ i) (h1 : i < xs.length) : ∃ x, x ∈ xs ∧ L2.atI xs i = some x := by
  obtain ⟨h, e⟩ := atI_get h0 h1
  exact ⟨_, List.getElem_mem h, e⟩
theorem mul_small {i j : Int} (h1 : 0 ≤ i) (h2 : i < 2 ^ 64) (h3 : 0 ≤ j) (h4 : j < 2 ^ 64) : CMulW i j := wide_mul (a := 64) (b := 64) (by omega) (by omega) (by decide) (by decide) (by decide)
theorem div_small {i j : Int} (h3 : 0 < j) (h4 : j < 2 ^ 64) : CDivW i j := wide_div (b := 64) h3 (by omega) (by decide) (by decide)
theorem ixN_0 {n : Nat} : ixN (n + 1) 0 = some 0 := by
  unfold ixN; rw [if_pos (by omega), if_pos (by omega)]; rfl
theorem ixN_1 {n : Nat} : ixN (n + 2) 1 = some 1 := by
  unfold ixN; rw [if_pos (by omega), if_pos (by omega)]; rfl
end L2.Dl
namespace L2.Dl
open PySem PySem.Spec PyProof.Rows
variable [Tb]
/-! ### isinstance -/
def kit (t n : String) : Bool := t == n || (t == "bool" && n == "int")
def tys : List String := ["NoneType", "bool", "int", "str", "tuple", "list", "dict"]
theorem kit_all : (tys.all fun t => tys.all fun n => n == "NoneType" || kitB t n == some (kit t n)) = true := by decide +kernel
theorem kit_eq {t n : String} (ht : t ∈ tys) (hn : n ∈ tys) (h0 : n ≠ "NoneType") : kitB t n = some (kit t n) := by
  have h := List.all_eq_true.mp (List.all_eq_true.mp kit_all t ht) n hn
  rcases (Bool.or_eq_true _ _).mp h with h | h
  · exact absurd (by simpa using h) h0
  · simpa using h
theorem tyD_mem {d : D} {M : Mp} {t : String} (h : tyD d M = some t) : t ∈ tys := by
  cases d with
  | ref a =>
    unfold tyD at h
    dsimp only at h
    split at h <;> cases h <;> decide
  | _ => cases h; try decide
theorem isi_eq {d : D} {M : Mp} {t n : String} {Q : DQ} (h : tyD d M = some t) (hn : n ∈ tys := by decide) (h0 : n ≠ "NoneType" := by decide) : fIsi [d, .ty n] M Q = Q (.bl (kit t n)) M := by
  have e := kit_eq (tyD_mem h) hn h0
  refine propext ⟨fun ⟨t', b, h1, h2, q⟩ => ?_, fun q => ⟨t, _, h, e, q⟩⟩
  rw [h] at h1
  cases h1
  rw [e] at h2
  cases h2
  exact q
/-! ### all([.. for sign in a text]) -/
def signs (x : Str) : List D := x.cps.toList.map fun c => .str ⟨#[c]⟩
end L2.Dl
namespace L2.Dl
open PySem PySem.Spec PyProof.Rows
variable [Tb]
theorem eq_int {i j : Int} {M : Mp} {Q : Bool → Prop} : eqR (.int i) (.int j) M Q = Q (decide (i = j)) := by
  unfold eqR
  rw [if_pos (show scal (flv (.int i)) (flv (.int j)) = true from rfl)]
  have : decide (flv (.int i) = flv (.int j)) = decide (i = j) := by simp [flv]
  rw [this]
theorem eq_str {i j : Str} {M : Mp} {Q : Bool → Prop} : eqR (.str i) (.str j) M Q = Q (decide (i = j)) := by
  unfold eqR
  rw [if_pos (show scal (flv (.str i)) (flv (.str j)) = true from rfl)]
  have : decide (flv (.str i) = flv (.str j)) = decide (i = j) := by simp [flv]
  rw [this]
end L2.Dl

/-! DRep: how long a shown text may be; lists of texts compared. -/
namespace L2.Dl
open PySem PySem.Spec PyProof.Rows
variable [Tb]

mutual
def cost : PyData → Nat
  | .int i => ((toString i : String) : Str).length
  | .str x => 10 * x.length + 2
  | .list xs => costs xs + 3
  | .tuple xs => costs xs + 3
  | .dict kvs => costKv kvs + 3
  | _ => 5
def costs : List PyData → Nat
  | [] => 0
  | x :: xs => cost x + 2 + costs xs
def costKv : List (PyData × PyData) → Nat
  | [] => 0
  | (k, v) :: r => cost k + cost v + 4 + costKv r
end
mutual
def asc : PyData → Bool
  | .str x => x.cps.toList.all fun c => decide (c < 16 ^ 8)
  | .list xs => ascs xs
  | .tuple xs => ascs xs
  | .dict kvs => ascKv kvs
  | _ => true
def ascs : List PyData → Bool
  | [] => true
  | x :: xs => asc x && ascs xs
def ascKv : List (PyData × PyData) → Bool
  | [] => true
  | (k, v) :: r => asc k && asc v && ascKv r
end
theorem len_app (a b : Str) : (a ++ b).length = a.length + b.length := strLen_append a b
mutual
theorem shown_cost : ∀ p : PyData, asc p = true → p.shown.length ≤ cost p
  | .none, _ => by simp only [PyData.shown, cost]; decide
  | .bool b, _ => by cases b <;> (simp only [PyData.shown, cost]; decide)
  | .int i, _ => by simp only [PyData.shown, cost]; exact Nat.le_refl _
  | .str x, h => by
    simp only [PyData.shown, cost]
    exact StrLaws.reprText_len x fun c hc => of_decide_eq_true (List.all_eq_true.mp h c hc)
  | .list xs, h => by
    simp only [PyData.shown, cost]
    have h1 := listText_len_le (PyData.shownAll xs)
    have h2 := shown_costs xs h
    have h3 := PyData.shownAll_length xs
    omega
  | .tuple xs, h => by
    simp only [PyData.shown, cost]
    have h1 := tupleText_len_le (PyData.shownAll xs)
    have h2 := shown_costs xs h
    have h3 := PyData.shownAll_length xs
    omega
  | .dict kvs, h => by
    simp only [PyData.shown, cost]
    have h1 := dictText_len_le (PyData.shownKv kvs)
    have h2 := shown_costKv kvs h
    have h3 := PyData.shownKv_length kvs
    omega
theorem shown_costs : ∀ xs : List PyData, ascs xs = true → ((PyData.shownAll xs).map (·.length)).sum + 2 * xs.length ≤ costs xs
  | [], _ => by simp [PyData.shownAll, costs]
  | x :: xs, h => by
    simp only [ascs, Bool.and_eq_true] at h
    have h1 := shown_cost x h.1
    have h2 := shown_costs xs h.2
    simp only [PyData.shownAll, costs, List.map_cons, List.sum_cons, List.length_cons]
    omega
theorem shown_costKv : ∀ xs : List (PyData × PyData), ascKv xs = true → ((PyData.shownKv xs).map (·.length)).sum + 2 * xs.length ≤ costKv xs
  | [], _ => by simp [PyData.shownKv, costKv]
  | (k, v) :: xs, h => by
    simp only [ascKv, Bool.and_eq_true] at h
    have h1 := shown_cost k h.1.1
    have h3 := shown_cost v h.1.2
    have h2 := shown_costKv xs h.2
    have h4 : ((": " : String) : Str).length = 2 := by decide +kernel
    simp only [PyData.shownKv, costKv, List.map_cons, List.sum_cons, List.length_cons, len_app, h4]
    omega
end
theorem int_len {i : Int} {k : Nat} (hk : 0 < k) (h : i.natAbs < 10 ^ k) : ((toString i : String) : Str).length ≤ k + 1 := by
  rw [PySem.ofString_length]
  exact int_text_length_le10 hk h
theorem Rep.mk' {M : Mp} {d : D} {p : PyData} (h1 : repD M d = some p) (h2 : p.showable = true) (h3 : p.hasDict = false ∨ noList p = true) (h4 : p.depth ≤ 60) (h5 : asc p = true) (h6 : cost p ≤ 100000) : Rep M d p :=
  ⟨h1, h2, h3, h4, Nat.le_trans (shown_cost p h5) (Nat.le_trans h6 (by decide))⟩
end L2.Dl

/-! DThing: drawn texts and drawn things. -/
namespace L2.Dl
open PySem PySem.Spec PyProof.Rows TL
variable [Tb]

/-! ### texts put together -/
def sg (c : Nat) : Str := ⟨#[c]⟩
theorem joinL_nil : ∀ cs : List Nat, joinL [] (cs.map fun c => [c]) = cs
  | [] => rfl
  | [c] => rfl
  | c :: d :: r => by
    have ih := joinL_nil (d :: r)
    simp only [List.map_cons, joinL, List.nil_append] at ih ⊢
    rw [ih]
    rfl
theorem join_signs (cs : List Nat) : Txt.join (("" : String) : Str) (cs.map sg) = ⟨cs.toArray⟩ := by
  have e : tl (Txt.join (("" : String) : Str) (cs.map sg)) = cs := by
    rw [join_eq, tl_join, List.map_map]
    have e0 : tl (("" : String) : Str) = [] := by decide +kernel
    have e1 : (cs.map (tl ∘ sg)) = cs.map fun c => [c] := rfl
    rw [e0, e1, joinL_nil]
  generalize Txt.join (("" : String) : Str) (cs.map sg) = y at e
  obtain ⟨a⟩ := y
  have e2 : a.toList = cs := e
  subst e2
  simp
theorem sum_signs : ∀ cs : List Nat, ((cs.map sg).map (·.length)).sum = cs.length
  | [] => rfl
  | c :: r => by
    simp only [List.map_cons, List.sum_cons, List.length_cons]
    rw [sum_signs r]
    have : (sg c).length = 1 := rfl
    omega
theorem repL_lst {M : Mp} {a : Addr} {ds : List D} {n : Nat} (e : M a = some (.lst ds)) : repL M (n + 1) a = (repWs (repL M n) ds).map PyData.list := by
  unfold repL
  rw [e]
theorem repD_ref {M : Mp} {a : Addr} : repD M (.ref a) = repL M 8 a := rfl
/-! ### drawn things -/
/-- a number, a truth, None, a short text -/
structure FO (d : D) : Prop where
  ty : ∃ t, ∀ M, tyD d M = some t
  tx : ∀ x, d = .str x → x.length ≤ 40 ∧ ∀ c ∈ x.cps.toList, c < 128
  rp : ∃ p, (∀ f, repW f d = some p) ∧ p.showable = true ∧ p.hasDict = false ∧ noList p = true ∧ p.depth = 0 ∧ asc p = true ∧ cost p ≤ 500
theorem FO.non : FO .non := ⟨⟨_, fun _ => rfl⟩, fun _ h => (nomatch h), .none, fun _ => rfl, rfl, rfl, rfl, rfl, rfl, by decide⟩
theorem FO.bl (b : Bool) : FO (.bl b) := ⟨⟨_, fun _ => rfl⟩, fun _ h => (nomatch h), .bool b, fun _ => rfl, rfl, rfl, rfl, rfl, rfl, by simp [cost]⟩
theorem FO.int {i : Int} (h : i.natAbs < 10 ^ 40) : FO (.int i) := by
  refine ⟨⟨_, fun _ => rfl⟩, fun _ h => (nomatch h), .int i, fun _ => rfl, ?_, rfl, rfl, rfl, rfl, ?_⟩
  · simp only [PyData.showable, decide_eq_true_eq]
    have h1 : i.natAbs < 2 ^ 140 := Nat.lt_trans h (by decide)
    exact Nat.lt_of_lt_of_le (PySem.Flt.log2_lt_of (by decide) h1) (by decide)
  · show (_ : Nat) ≤ 500
    exact Nat.le_trans (int_len (k := 40) (by decide) h) (by decide)
theorem FO.str {x : Str} (h1 : x.length ≤ 40) (h2 : ∀ c ∈ x.cps.toList, c < 128) : FO (.str x) := by
  refine ⟨⟨_, fun _ => rfl⟩, fun y e => by cases e; exact ⟨h1, h2⟩, .str x, fun _ => rfl, rfl, rfl, rfl, rfl, ?_, ?_⟩
  · simp only [asc, List.all_eq_true, decide_eq_true_eq]
    exact fun c hc => Nat.lt_trans (h2 c hc) (by decide)
  · show 10 * x.length + 2 ≤ 500
    omega
theorem FOs.rep {f : Addr → Option PyData} : ∀ {ds : List D}, (∀ d ∈ ds, FO d) → ∃ ps, repWs f ds = some ps ∧ PyData.showableAll ps = true ∧ PyData.hasDictAll ps = false ∧ noLists ps = true ∧ PyData.depthAll ps = 0 ∧ ascs ps = true ∧ costs ps ≤ 502 * ds.length
  | [], _ => ⟨[], rfl, rfl, rfl, rfl, rfl, rfl, Nat.zero_le _⟩
  | d :: ds, h => by
    obtain ⟨p, h1, h2, h3, h4, h5, h6, h7⟩ := (h d List.mem_cons_self).rp
    obtain ⟨ps, g1, g2, g3, g4, g5, g6, g7⟩ := FOs.rep (f := f) fun x hx => h x (List.mem_cons_of_mem _ hx)
    refine ⟨p :: ps, ?_, ?_, ?_, ?_, ?_, ?_, ?_⟩
    · unfold repWs; rw [h1 f, g1]; rfl
    · simp only [PyData.showableAll, h2, g2]; rfl
    · simp only [PyData.hasDictAll, h3, g3]; rfl
    · simp only [noLists, h4, g4]; rfl
    · simp only [PyData.depthAll, h5, g5]; rfl
    · simp only [ascs, h6, g6]; rfl
    · simp only [costs, List.length_cons]; omega
theorem FO.Rep {d : D} {M : Mp} (h : FO d) : ∃ p, Rep M d p := by
  obtain ⟨p, h1, h2, h3, h4, h5, h6, h7⟩ := h.rp
  exact ⟨p, .mk' (h1 _) h2 (.inl h3) (by omega) h6 (by omega)⟩
theorem FOs.tup {ds : List D} {M : Mp} (h : ∀ d ∈ ds, FO d) (hz : ds.length ≤ 100) : ∃ p, Dl.Rep M (.tup ds) p := by
  obtain ⟨ps, g1, g2, g3, g4, g5, g6, g7⟩ := FOs.rep (f := repL M 8) h
  refine ⟨.tuple ps, .mk' ?_ ?_ (.inl ?_) ?_ ?_ ?_⟩
  · simp only [repD, repW, g1, Option.map_some]
  · simp only [PyData.showable, g2]
  · simp only [PyData.hasDict, g3]
  · simp only [PyData.depth, g5]; decide
  · simp only [asc, g6]
  · simp only [cost]; omega
theorem FOs.lst {ds : List D} {M : Mp} {a : Addr} (e : M a = some (.lst ds)) (h : ∀ d ∈ ds, FO d) (hz : ds.length ≤ 100) : ∃ p, Dl.Rep M (.ref a) p := by
  obtain ⟨ps, g1, g2, g3, g4, g5, g6, g7⟩ := FOs.rep (f := repL M 7) h
  refine ⟨.list ps, .mk' ?_ ?_ (.inl ?_) ?_ ?_ ?_⟩
  · rw [repD_ref, repL_lst e, g1]; rfl
  · simp only [PyData.showable, g2]
  · simp only [PyData.hasDict, g3]
  · simp only [PyData.depth, g5]; decide
  · simp only [asc, g6]
  · simp only [cost]; omega
/-! ### things that may be asked -/
/-- a text that may be asked -/
def TX (x : Str) : Prop := x.length ≤ 1000 ∧ ∀ c ∈ x.cps.toList, c < 128
theorem TX.line {x : Str} (h : TX x) : x.length ≤ sizeLine := Nat.le_trans h.1 (by decide)
/-- a thing of a known type -/
def Ask (d : D) (M : Mp) : Prop := (∃ t, tyD d M = some t) ∧ ∀ x, d = .str x → TX x
theorem Ask.mono {d : D} {M M' : Mp} (f : Fr [] M M') (h : Ask d M) : Ask d M' := ⟨let ⟨t, e⟩ := h.1; ⟨t, tyD_mono f e⟩, h.2⟩
mutual
/-- .. and so are the parts of a tuple, at any depth -/
def AskA (M : Mp) : D → Prop
  | .tup ds => AskAs M ds
  | d => Ask d M
def AskAs (M : Mp) : List D → Prop
  | [] => True
  | d :: ds => AskA M d ∧ AskAs M ds
end
mutual
theorem AskA.mono {M M' : Mp} (f : Fr [] M M') : ∀ {d : D}, AskA M d → AskA M' d
  | .tup ds, h => by unfold AskA at h ⊢; exact AskAs.mono f h
  | .non, h => Ask.mono f h
  | .bl _, h => Ask.mono f h
  | .int _, h => Ask.mono f h
  | .str _, h => Ask.mono f h
  | .clst _, h => Ask.mono f h
  | .cdic _ _, h => Ask.mono f h
  | .ref _, h => Ask.mono f h
  | .ty _, h => Ask.mono f h
theorem AskAs.mono {M M' : Mp} (f : Fr [] M M') : ∀ {ds : List D}, AskAs M ds → AskAs M' ds
  | [], _ => trivial
  | d :: ds, h => by unfold AskAs at h ⊢; exact ⟨AskA.mono f h.1, AskAs.mono f h.2⟩
end
theorem AskA.ask {M : Mp} {d : D} (h : AskA M d) : Ask d M := by
  cases d with
  | tup ds => exact ⟨⟨_, rfl⟩, fun _ e => (nomatch e)⟩
  | _ => exact h
theorem AskAs.mem {M : Mp} : ∀ {ds : List D}, AskAs M ds → ∀ d ∈ ds, AskA M d
  | [], _, _, h => nomatch h
  | d :: ds, h, x, hx => by
    rcases List.mem_cons.mp hx with rfl | hx
    · exact h.1
    · exact AskAs.mem h.2 x hx
theorem AskAs.of {M : Mp} : ∀ {ds : List D}, (∀ d ∈ ds, AskA M d) → AskAs M ds
  | [], _ => trivial
  | d :: ds, h => ⟨h d List.mem_cons_self, AskAs.of fun x hx => h x (List.mem_cons_of_mem _ hx)⟩
theorem FO.ask {d : D} {M : Mp} (h : FO d) : Ask d M := ⟨let ⟨t, e⟩ := h.ty; ⟨t, e M⟩, fun x e => let ⟨h1, h2⟩ := h.tx x e; ⟨by omega, h2⟩⟩
theorem FO.askA {d : D} {M : Mp} (h : FO d) : AskA M d := by
  cases d with
  | tup ds =>
    obtain ⟨p, h1, _, _, _, h5, _⟩ := h.rp
    have := h1 fun _ => none
    simp only [repW] at this
    cases e : repWs (fun _ => none) ds with
    | none => rw [e] at this; cases this
    | some ps =>
      rw [e] at this
      cases this
      simp [PyData.depth] at h5
  | _ => exact FO.ask h
/-- it may be shown: side true: no list within, false: no dict within -/
structure Sh (s : Bool) (c k : Nat) (M : Mp) (d : D) : Prop where
  ask : AskA M d
  rp : ∃ p, repW (repL M 8) d = some p ∧ p.showable = true ∧ (if s = true then noList p = true else p.hasDict = false) ∧ p.depth ≤ k ∧ asc p = true ∧ cost p ≤ c
theorem Sh.mono {s : Bool} {c k : Nat} {M M' : Mp} {d : D} (h : Sh s c k M d) (f : Fr [] M M') : Sh s c k M' d := by
  obtain ⟨p, h1, h2⟩ := h.rp
  exact ⟨h.ask.mono f, p, repW_mono (repL_mono f 8) h1, h2⟩
theorem Sh.le {s : Bool} {c k c' k' : Nat} {M : Mp} {d : D} (h : Sh s c k M d) (hc : c ≤ c') (hk : k ≤ k') : Sh s c' k' M d := by
  obtain ⟨p, h1, h2, h3, h4, h5, h6⟩ := h.rp
  exact ⟨h.ask, p, h1, h2, h3, by omega, h5, by omega⟩
theorem Shs {s : Bool} {c k : Nat} {M : Mp} : ∀ {ds : List D}, (∀ d ∈ ds, Sh s c k M d) → ∃ ps, repWs (repL M 8) ds = some ps ∧ PyData.showableAll ps = true ∧ (if s = true then noLists ps = true else PyData.hasDictAll ps = false) ∧ PyData.depthAll ps ≤ k ∧ ascs ps = true ∧ costs ps ≤ (c + 2) * ds.length
  | [], _ => ⟨[], rfl, rfl, by cases s <;> rfl, Nat.zero_le _, rfl, Nat.zero_le _⟩
  | d :: ds, h => by
    obtain ⟨p, h1, h2, h3, h4, h5, h6⟩ := (h d List.mem_cons_self).rp
    obtain ⟨ps, g1, g2, g3, g4, g5, g6⟩ := Shs fun x hx => h x (List.mem_cons_of_mem _ hx)
    refine ⟨p :: ps, ?_, ?_, ?_, ?_, ?_, ?_⟩
    · unfold repWs; rw [h1, g1]; rfl
    · simp only [PyData.showableAll, h2, g2]; rfl
    · cases s with
      | true => simp only [if_true] at h3 g3 ⊢; simp only [noLists, h3, g3]; rfl
      | false => simp only [Bool.false_eq_true, if_false] at h3 g3 ⊢; simp only [PyData.hasDictAll, h3, g3]; rfl
    · simp only [PyData.depthAll]; omega
    · simp only [ascs, h5, g5]; rfl
    · simp only [costs, List.length_cons, Nat.mul_add, Nat.mul_one]; omega
theorem Sh.tup {s : Bool} {c k n : Nat} {M : Mp} {ds : List D} (h : ∀ d ∈ ds, Sh s c k M d) (hn : ds.length ≤ n) : Sh s ((c + 2) * n + 3) (k + 1) M (.tup ds) := by
  obtain ⟨ps, g1, g2, g3, g4, g5, g6⟩ := Shs h
  refine ⟨AskAs.of fun d hd => (h d hd).ask, .tuple ps, ?_, ?_, ?_, ?_, ?_, ?_⟩
  · simp only [repW, g1, Option.map_some]
  · simp only [PyData.showable, g2]
  · cases s with
    | true => simpa only [noList, if_true] using g3
    | false => simpa only [PyData.hasDict, Bool.false_eq_true, if_false] using g3
  · simp only [PyData.depth]; omega
  · simp only [asc, g5]
  · simp only [cost]
    have := Nat.mul_le_mul_left (c + 2) hn
    omega
theorem Sh.rep {s : Bool} {c k : Nat} {M : Mp} {d : D} (h : Sh s c k M d) (hc : c ≤ 100000 := by decide) (hk : k ≤ 60 := by decide) : ∃ p, Rep M d p := by
  obtain ⟨p, h1, h2, h3, h4, h5, h6⟩ := h.rp
  refine ⟨p, .mk' h1 h2 ?_ (by omega) h5 (by omega)⟩
  cases s
  · exact .inl h3
  · exact .inr h3
theorem ref_ask {a : Addr} {M : Mp} {o : MO} (e : M a = some o) (ho : (∃ ds, o = .lst ds) ∨ ∃ kvs, o = .dK kvs) : Ask (.ref a) M := by
  refine ⟨?_, fun _ e => (nomatch e)⟩
  unfold tyD
  dsimp only
  rw [e]
  rcases ho with ⟨_, rfl⟩ | ⟨_, rfl⟩
  · exact ⟨_, rfl⟩
  · exact ⟨_, rfl⟩
/-- a list of flat things -/
theorem Sh.lst {M : Mp} {a : Addr} {ds : List D} (e : M a = some (.lst ds)) (h : ∀ d ∈ ds, FO d) (hz : ds.length ≤ 20) : Sh false 11000 1 M (.ref a) := by
  obtain ⟨ps, g1, g2, g3, g4, g5, g6, g7⟩ := FOs.rep (f := repL M 7) h
  refine ⟨ref_ask e (.inl ⟨_, rfl⟩), .list ps, ?_, ?_, ?_, ?_, ?_, ?_⟩
  · show repL M 8 a = _
    rw [repL_lst e, g1]; rfl
  · simp only [PyData.showable, g2]
  · show PyData.hasDict _ = false
    simp only [PyData.hasDict, g3]
  · simp only [PyData.depth, g5]; decide
  · simp only [asc, g6]
  · simp only [cost]; omega
/-- a thing that may be asked and shown -/
def Thing (d : D) (M : Mp) : Prop := AskA M d ∧ ∃ p, Rep M d p
theorem Sh.thing {s : Bool} {c k : Nat} {M : Mp} {d : D} (h : Sh s c k M d) (hc : c ≤ 100000 := by decide) (hk : k ≤ 60 := by decide) : Thing d M := ⟨h.ask, h.rep hc hk⟩
theorem all_cons {P : D → Prop} {d : D} {ds : List D} (h1 : P d) (h2 : ∀ x ∈ ds, P x) : ∀ x ∈ d :: ds, P x := List.forall_mem_cons.mpr ⟨h1, h2⟩
theorem all_nil {P : D → Prop} : ∀ x ∈ ([] : List D), P x := fun _ h => nomatch h
theorem pick_int {ns : List Int} {i : Int} (h0 : 0 ≤ i) (h1 : i < ns.length) : ∃ n, n ∈ ns ∧ L2.atI (ns.map D.int) i = some (.int n) := by
  obtain ⟨h, e⟩ := atI_get (xs := ns.map D.int) h0 (by rw [List.length_map]; exact h1)
  rw [List.getElem_map] at e
  exact ⟨_, List.getElem_mem _, e⟩
end L2.Dl

/-! DSeq: a list or a tuple walked by one rule; zip of the two kinds in any mixture; first, *rest = .. -/
namespace L2.Dl
open PySem PySem.Spec PyProof.Rows
variable [Tb]

/-! ### a list or a tuple, and where it is being walked -/
def sqN (b : Bool) : String := if b then "tuple" else "list"
def itN (b : Bool) : String := if b then "tuple_iterator" else "list_iterator"
def SqIs (b : Bool) (h : Heap) (a : Addr) (xs : Array Value) : Prop := ∃ o, h.get? a = some o ∧ o.cls = .type (sqN b) ∧ ∃ n, o.data = .seq xs n
def ItIs (b : Bool) (h : Heap) (a l : Addr) (i : Nat) : Prop := ∃ o, h.get? a = some o ∧ o.cls = .type (itN b) ∧ o.data = .fields #[.ref l, .int i 0]
theorem SqIs.at {b : Bool} {h h' : Heap} {a : Addr} {xs : Array Value} (x : SqIs b h a xs) (k : ∀ o, h.get? a = some o → h'.get? a = some o) : SqIs b h' a xs := by
  obtain ⟨o, e, r⟩ := x
  exact ⟨o, k o e, r⟩
theorem ItIs.at {b : Bool} {h h' : Heap} {a l : Addr} {i : Nat} (x : ItIs b h a l i) (k : ∀ o, h.get? a = some o → h'.get? a = some o) : ItIs b h' a l i := by
  obtain ⟨o, e, r⟩ := x
  exact ⟨o, k o e, r⟩
theorem SqIs.lt {b : Bool} {h : Heap} {a : Addr} {xs : Array Value} (x : SqIs b h a xs) : a < h.objs.size := by
  obtain ⟨o, e, r⟩ := x
  exact Heap.lt_size e
theorem ItIs.lt {b : Bool} {h : Heap} {a l : Addr} {i : Nat} (x : ItIs b h a l i) : a < h.objs.size := by
  obtain ⟨o, e, r⟩ := x
  exact Heap.lt_size e
section
variable {prog : Program} {w : World} {A : Around} {E : Value → Shared → Prop} {s : Shared} {b : Bool} {l it : Addr} {i : Nat} {xs : Array Value} {x : Value}
theorem sq_iter {Q : Value → Shared → Prop} (h : SqIs b s.heap l xs)
    (q : ItIs b (s.heap.push { cls := .type (itN b), data := .fields #[.ref l, .int 0 0] }) s.heap.objs.size l 0 → Q (.ref s.heap.objs.size) { s with heap := s.heap.push { cls := .type (itN b), data := .fields #[.ref l, .int 0 0] } }) :
    wpAny (model prog w) A (pyIter (.ref l)) Q E s := by
  have k : ItIs b (s.heap.push { cls := .type (itN b), data := .fields #[.ref l, .int 0 0] }) s.heap.objs.size l 0 := ⟨_, Heap.get?_push_size _ rfl, rfl, rfl⟩
  cases b with
  | true => exact wpAny_pyIter_tuple (show s.heap.IsTuple l xs from h) (q k)
  | false => exact wpAny_pyIter_list (show s.heap.IsList l xs from h) (q k)
/-! ### zip: one turn -/
variable {b1 b2 : Bool} {z TI TO i1 i2 l1 l2 : Addr} {k1 k2 : Nat} {ys : Array Value} {y u v : Value}
/-- what lies about a zip: its own tuples, the two walks -/
structure ZAt (b1 b2 : Bool) (h : Heap) (z TI TO i1 i2 l1 l2 : Addr) (k1 k2 : Nat) : Prop where
  z : IsZip h z TI TO .none
  ti : IsPair h TI (.ref i1) (.ref i2)
  to : ∃ x y, IsPair h TO x y
  a : ItIs b1 h i1 l1 k1
  b : ItIs b2 h i2 l2 k2
end

/-! ### zip: made -/
section
variable {prog : Program} {w : World} {A : Around} {E : Value → Shared → Prop} {s : Shared}
theorem sq_iter2 {b : Bool} {l : Addr} {xs : Array Value} {Q : Value → Shared → Prop} (h : SqIs b s.heap l xs)
    (q : Q (.ref s.heap.objs.size) { s with heap := s.heap.push { cls := .type (itN b), data := .fields #[.ref l, .int 0 0] } }) : wpAny (model prog w) A (pyIter (.ref l)) Q E s := sq_iter h fun _ => q
abbrev zh1 (b1 : Bool) (h : Heap) (l1 : Addr) : Heap := h.push { cls := .type (itN b1), data := .fields #[.ref l1, .int 0 0] }
abbrev zh2 (b1 b2 : Bool) (h : Heap) (l1 l2 : Addr) : Heap := (zh1 b1 h l1).push { cls := .type (itN b2), data := .fields #[.ref l2, .int 0 0] }
abbrev zh3 (b1 b2 : Bool) (h : Heap) (l1 l2 : Addr) : Heap := (zh2 b1 b2 h l1 l2).push { cls := .type "tuple", data := .seq #[.ref h.objs.size, .ref (zh1 b1 h l1).objs.size] }
abbrev zh4 (b1 b2 : Bool) (h : Heap) (l1 l2 : Addr) : Heap := (zh3 b1 b2 h l1 l2).push { cls := .type "tuple", data := .seq #[.none, .none] }
abbrev zh5 (b1 b2 : Bool) (h : Heap) (l1 l2 : Addr) : Heap := (zh4 b1 b2 h l1 l2).push { cls := .type "zip", data := .fields #[.none, .bool false, .bool false, .ref (zh2 b1 b2 h l1 l2).objs.size, .ref (zh3 b1 b2 h l1 l2).objs.size] }
theorem meets_zip (b1 b2 : Bool) (l1 l2 : Addr) (xs ys : Array Value) :
    Meets (Builtin.«zip.__new__» ⟨[.type "zip", .ref l1, .ref l2], []⟩) (fun _ R s => SqIs b1 s.heap l1 xs ∧ SqIs b2 s.heap l2 ys ∧ R (.ok (.ret (.ref (zh4 b1 b2 s.heap l1 l2).objs.size))) { s with heap := zh5 b1 b2 s.heap l1 l2 }) :=
  .of_wp fun prog w A R s h => by
    obtain ⟨hp, g, d, tk, os⟩ := s; obtain ⟨h1, h2, h⟩ := h
    have hsub := sub_zip
    have e1 : SqIs b1 (Shared.heap ⟨hp, g, d, tk, os⟩) l1 xs := h1
    have e2 : SqIs b2 (Shared.heap ⟨zh1 b1 hp l1, g, d, tk, os⟩) l2 ys := h2.at fun o e => Heap.get?_push_of_some _ e
    wp_walk using sq_iter2 e1, sq_iter2 e2
    exact ⟨_, rfl, h⟩
theorem call_zipB {b1 b2 : Bool} {l1 l2 : Addr} {xs ys : Array Value} {Q : Value → Shared → Prop} (h1 : SqIs b1 s.heap l1 xs) (h2 : SqIs b2 s.heap l2 ys)
    (h : ∀ h', ZAt b1 b2 h' (s.heap.objs.size + 4) (s.heap.objs.size + 2) (s.heap.objs.size + 3) s.heap.objs.size (s.heap.objs.size + 1) l1 l2 0 0 → (∀ c o, s.heap.get? c = some o → h'.get? c = some o) → Q (.ref (s.heap.objs.size + 4)) { s with heap := h' }) :
    wpAny (model prog w) A (call (.type "zip") [.ref l1, .ref l2]) Q E s := by
  refine callType_new F.called_zip (by decide) (F.typeCall_zip_2 _ _) (F.newCall_zip_2 _ _) (fun obj => F.args_object_init_3 obj _ _) F.entry_zip_new (meets_zip b1 b2 l1 l2 xs ys) ⟨h1, h2, ?_⟩
  have z1 : (zh1 b1 s.heap l1).objs.size = s.heap.objs.size + 1 := Heap.size_push ..
  have z2 : (zh2 b1 b2 s.heap l1 l2).objs.size = s.heap.objs.size + 2 := by rw [Heap.size_push, z1]
  have z3 : (zh3 b1 b2 s.heap l1 l2).objs.size = s.heap.objs.size + 3 := by rw [Heap.size_push, z2]
  have z4 : (zh4 b1 b2 s.heap l1 l2).objs.size = s.heap.objs.size + 4 := by rw [Heap.size_push, z3]
  have g5 : (zh5 b1 b2 s.heap l1 l2).get? (zh4 b1 b2 s.heap l1 l2).objs.size = some _ := Heap.get?_push_size _ rfl
  have g4 : (zh5 b1 b2 s.heap l1 l2).get? (zh3 b1 b2 s.heap l1 l2).objs.size = some _ := Heap.get?_push_of_some _ (Heap.get?_push_size _ rfl)
  have g3 : (zh5 b1 b2 s.heap l1 l2).get? (zh2 b1 b2 s.heap l1 l2).objs.size = some _ := Heap.get?_push_of_some _ (Heap.get?_push_of_some _ (Heap.get?_push_size _ rfl))
  have g2 : (zh5 b1 b2 s.heap l1 l2).get? (zh1 b1 s.heap l1).objs.size = some _ := Heap.get?_push_of_some _ (Heap.get?_push_of_some _ (Heap.get?_push_of_some _ (Heap.get?_push_size _ rfl)))
  have g1 : (zh5 b1 b2 s.heap l1 l2).get? s.heap.objs.size = some _ := Heap.get?_push_of_some _ (Heap.get?_push_of_some _ (Heap.get?_push_of_some _ (Heap.get?_push_of_some _ (Heap.get?_push_size _ rfl))))
  show _ ∧ _
  rw [z2, z3, z4] at g5
  rw [z1, z2] at g3
  rw [z3] at g4
  rw [z1] at g2
  rw [z4]
  exact ⟨⟨_, g5, rfl⟩, h _ ⟨g5, g3, ⟨_, _, g4⟩, ⟨_, g1, rfl, rfl⟩, ⟨_, g2, rfl, rfl⟩⟩ fun c o x => Heap.get?_push_of_some _ (Heap.get?_push_of_some _ (Heap.get?_push_of_some _ (Heap.get?_push_of_some _ (Heap.get?_push_of_some _ x))))⟩
end

/-! ### zip: walked -/
def SqV (b : Bool) (K : PySem.W.Frag) (H : Hp) (a : Addr) (xs : List V) : Prop := if b = true then SqT K H a xs else SqL K H a xs
theorem sqv_at {X : Cx} {pins : List (Addr × Obj)} {σ : L2.St} {H : Hp} {s : Shared} {b : Bool} {a : Addr} {xs : List V} (I : Inv X pins σ H s) (h : SqV b X.K H a xs) : ∃ its : List Value, Vals xs its ∧ SqIs b s.heap a its.toArray := by
  cases b with
  | true =>
    obtain ⟨its, rv, p, _⟩ := I.tuple h
    exact ⟨its, rv, p⟩
  | false =>
    obtain ⟨its, rv, p, _⟩ := I.list h
    exact ⟨its, rv, p.isList⟩
end L2.Dl

/-! DSeq2: zip and starred targets over trees -/
namespace L2.Dl
open PySem PySem.Spec PyProof.Rows
variable [Tb]

section
variable {X : Cx} {tg e e2 : Expr} {pos : Pos}
end

/-! ### a, b, *rest = .. -/
section
variable {prog : Program} {w : World} {A : Around} {E : Value → Shared → Prop} {b : Bool} {l it : Addr} {xs : Array Value}
end
section
variable {X : Cx} {pos : Pos}
end
end L2.Dl

/-! DCon: dicts of the module with text keys, read; reverse; x is True -/
namespace L2.Dl
open PySem PySem.Spec PyProof.Rows
variable [Tb]

def kvGet (kvs : List (Str × D)) (x : Str) : Option D := (kvs.find? fun kv => decide (kv.1 = x)).map (·.2)
def wKGet (kvs : List (Str × D)) (we : WE) : WE | env, M, Q => we env M fun d M1 => match d with
  | .str x => Q ((kvGet kvs x).getD .non) M1
  | _ => False
section
variable {X : Cx} {e : Expr} {we : WE} {pos : Pos}
end
/-! ### list.reverse -/
/-! ### x is True -/
/-! ### comprehensions of truths -/
theorem all_map {f : D → Bool} : ∀ {ds : List D}, (ds.map f).all id = ds.all f
  | [] => rfl
  | d :: ds => by simp only [List.map_cons, List.all_cons, id, all_map]
/-! ### tuples of a number and a text -/
def flatD : D → Bool
  | .non => true
  | .bl _ => true
  | .int _ => true
  | .str x => x.cps.all (· < 0x110000)
  | _ => false
/-! truth of a known tree; truD itself stays closed (opened at an unknown tree it copies what comes behind) -/
/-! targets of known trees (gsCons itself stays closed: opened at an unknown list the kernel doesn't come to an end) -/
end L2.Dl

/-! DStep: one lemma for each construct's weakest end, to be laid on step by step (no simp over whole ends). -/
namespace L2.Dl
open PySem PySem.Spec PyProof.Rows
variable [Tb]
section
variable {env : Ev} {M : Mp} {Q : DQ} {QT : Bool → Mp → Prop} {QA : List D → Mp → Prop} {nx bk ct : Ev → Mp → Prop} {rt : DQ} {wa wb wc : WE} {wt wu : WT} {wx : WA} {w u : WS} {g : WG} {gs : WGs} {r r' : W2} {d x y z : D} {ds es : List D} {a b c : Option D} {A B : Prop} {i j : Int} {k : Bool}
def tstD (d : D) (M : Mp) (Q : Bool → Mp → Prop) : Prop := match d with
  | .bl k => Q k M
  | _ => False
/-! statements -/
theorem z_seq (h : w ⟨fun e m => u ⟨nx, rt, bk, ct⟩ e m, rt, bk, ct⟩ env M) : wSeq w u ⟨nx, rt, bk, ct⟩ env M := h
theorem z_ifs (h : wt env M fun k m => if k = true then w ⟨nx, rt, bk, ct⟩ env m else u ⟨nx, rt, bk, ct⟩ env m) : wIfS wt w u ⟨nx, rt, bk, ct⟩ env M := h
theorem z_ret (h : wa env M rt) : wRet wa ⟨nx, rt, bk, ct⟩ env M := h
theorem z_retN (h : rt .non M) : wRetN ⟨nx, rt, bk, ct⟩ env M := h
theorem z_next (h : nx env M) : wNext ⟨nx, rt, bk, ct⟩ env M := h
theorem z_break (h : bk env M) : wBreak ⟨nx, rt, bk, ct⟩ env M := h
theorem z_cont (h : ct env M) : wCont ⟨nx, rt, bk, ct⟩ env M := h
theorem z_drop (h : wa env M fun _ m => nx env m) : wDrop wa ⟨nx, rt, bk, ct⟩ env M := h
theorem z_asg (h : wa env M fun d m => g d env m nx) : wAsg wa g ⟨nx, rt, bk, ct⟩ env M := h
theorem z_par {i j : Nat} (h : wa env M fun d m => wb env m fun e m2 => gN i d env m2 fun env1 m3 => gN j e env1 m3 nx) : wPar i j (wCons wa (wCons wb wNil)) ⟨nx, rt, bk, ct⟩ env M := h
theorem z_for {wi : WI} (h : wi env M fun ok items m => runFor ok g w ⟨nx, rt, bk, ct⟩ items env m) : wFor wi g w ⟨nx, rt, bk, ct⟩ env M := h
/-! targets -/
variable {Qe : Ev → Mp → Prop} {e0 e1 e2 e3 e4 e5 e6 e7 e8 e9 e10 e11 e12 : Option D}
theorem z_g0 (h : Qe (some d :: env) M) : gN 0 d (e0 :: env) M Qe := h
theorem z_g1 (h : Qe (e0 :: some d :: env) M) : gN 1 d (e0 :: e1 :: env) M Qe := h
theorem z_g2 (h : Qe (e0 :: e1 :: some d :: env) M) : gN 2 d (e0 :: e1 :: e2 :: env) M Qe := h
theorem z_g3 (h : Qe (e0 :: e1 :: e2 :: some d :: env) M) : gN 3 d (e0 :: e1 :: e2 :: e3 :: env) M Qe := h
theorem z_g4 (h : Qe (e0 :: e1 :: e2 :: e3 :: some d :: env) M) : gN 4 d (e0 :: e1 :: e2 :: e3 :: e4 :: env) M Qe := h
theorem z_g5 (h : Qe (e0 :: e1 :: e2 :: e3 :: e4 :: some d :: env) M) : gN 5 d (e0 :: e1 :: e2 :: e3 :: e4 :: e5 :: env) M Qe := h
theorem z_g6 (h : Qe (e0 :: e1 :: e2 :: e3 :: e4 :: e5 :: some d :: env) M) : gN 6 d (e0 :: e1 :: e2 :: e3 :: e4 :: e5 :: e6 :: env) M Qe := h
theorem z_g7 (h : Qe (e0 :: e1 :: e2 :: e3 :: e4 :: e5 :: e6 :: some d :: env) M) : gN 7 d (e0 :: e1 :: e2 :: e3 :: e4 :: e5 :: e6 :: e7 :: env) M Qe := h
theorem z_g8 (h : Qe (e0 :: e1 :: e2 :: e3 :: e4 :: e5 :: e6 :: e7 :: some d :: env) M) : gN 8 d (e0 :: e1 :: e2 :: e3 :: e4 :: e5 :: e6 :: e7 :: e8 :: env) M Qe := h
theorem z_g9 (h : Qe (e0 :: e1 :: e2 :: e3 :: e4 :: e5 :: e6 :: e7 :: e8 :: some d :: env) M) : gN 9 d (e0 :: e1 :: e2 :: e3 :: e4 :: e5 :: e6 :: e7 :: e8 :: e9 :: env) M Qe := h
theorem z_g10 (h : Qe (e0 :: e1 :: e2 :: e3 :: e4 :: e5 :: e6 :: e7 :: e8 :: e9 :: some d :: env) M) : gN 10 d (e0 :: e1 :: e2 :: e3 :: e4 :: e5 :: e6 :: e7 :: e8 :: e9 :: e10 :: env) M Qe := h
theorem z_gt {n : Nat} (hn : ds.length = n) (h : gs ds env M Qe) : gTu n gs (.tup ds) env M Qe := ⟨hn, h⟩
theorem z_gc (h : g d env M fun env1 m => gs ds env1 m Qe) : gsCons g gs (d :: ds) env M Qe := h
theorem z_gn (h : Qe env M) : gsNil [] env M Qe := ⟨rfl, h⟩
theorem z_gst {r : W3} (h : wa env M fun d m => wb env m fun e m2 => r d e x m2 fun m3 => Qe env m3) : gSt r wa wb x env M Qe := h
/-! expressions -/
theorem z_v0 (h : Q d M) : wVar 0 (some d :: env) M Q := h
theorem z_v1 (h : Q d M) : wVar 1 (e0 :: some d :: env) M Q := h
theorem z_v2 (h : Q d M) : wVar 2 (e0 :: e1 :: some d :: env) M Q := h
theorem z_v3 (h : Q d M) : wVar 3 (e0 :: e1 :: e2 :: some d :: env) M Q := h
theorem z_v4 (h : Q d M) : wVar 4 (e0 :: e1 :: e2 :: e3 :: some d :: env) M Q := h
theorem z_v5 (h : Q d M) : wVar 5 (e0 :: e1 :: e2 :: e3 :: e4 :: some d :: env) M Q := h
theorem z_v6 (h : Q d M) : wVar 6 (e0 :: e1 :: e2 :: e3 :: e4 :: e5 :: some d :: env) M Q := h
theorem z_v7 (h : Q d M) : wVar 7 (e0 :: e1 :: e2 :: e3 :: e4 :: e5 :: e6 :: some d :: env) M Q := h
theorem z_v8 (h : Q d M) : wVar 8 (e0 :: e1 :: e2 :: e3 :: e4 :: e5 :: e6 :: e7 :: some d :: env) M Q := h
theorem z_v9 (h : Q d M) : wVar 9 (e0 :: e1 :: e2 :: e3 :: e4 :: e5 :: e6 :: e7 :: e8 :: some d :: env) M Q := h
theorem z_v10 (h : Q d M) : wVar 10 (e0 :: e1 :: e2 :: e3 :: e4 :: e5 :: e6 :: e7 :: e8 :: e9 :: some d :: env) M Q := h
theorem z_c (h : Q d M) : wC d env M Q := h
theorem z_op (h : wa env M fun x m => wb env m fun y m2 => r x y m2 Q) : wOp r wa wb env M Q := h
theorem z_un {r : D → Mp → DQ → Prop} (h : wa env M fun x m => r x m Q) : wUn r wa env M Q := h
theorem z_call {f : WC} (h : wx env M fun xs m => f xs m Q) : wCall f wx env M Q := h
theorem z_callK {W : WC} {n m : Nat} {sel : List SrcD} {wk : WA} (h : wx env M fun ds M1 => wk env M1 fun zs M2 => ds.length = n ∧ zs.length = m ∧ W (sel.map (SrcD.D ds zs)) M2 Q) : wCallK W n m sel wx wk env M Q := h
theorem z_nil (h : QA [] M) : wNil env M QA := h
theorem z_cons (h : wa env M fun d m => wx env m fun xs m2 => QA (d :: xs) m2) : wCons wa wx env M QA := h
theorem z_tup (h : wx env M fun xs m => xs.length ≤ sizeLine ∧ Q (.tup xs) m) : wTup wx env M Q := h
theorem z_lst (h : wx env M fun xs m => xs.length ≤ sizeLine ∧ New m (.lst xs) fun p m2 => Q (.ref p) m2) : wLst wx env M Q := h
theorem z_sz (hz : Nat.ble ds.length 100 = true) (h : A) : ds.length ≤ sizeLine ∧ A := ⟨Nat.le_trans (Nat.le_of_ble_eq_true hz) (by decide), h⟩
theorem z_and (h : wa env M fun x m => truD x m fun k => if k = true then wb env m Q else Q x m) : wAnd wa wb env M Q := h
theorem z_or (h : wa env M fun x m => truD x m fun k => if k = true then Q x m else wb env m Q) : wOr wa wb env M Q := h
theorem z_not (h : wa env M fun x m => truD x m fun k => Q (.bl (!k)) m) : wNot wa env M Q := h
theorem z_if (h : wt env M fun k m => if k = true then wa env m Q else wb env m Q) : wIf wt wa wb env M Q := h
theorem z_chain (h : wa env M fun x m => wb env m fun y m2 => r x y m2 fun z m3 => tstD z m3 fun k m4 => if k = true then wc env m4 fun w m5 => r' y w m5 Q else Q (.bl false) m4) : wChain r r' wa wb wc env M Q := h
theorem z_sl {wl wh : WO} (h : wa env M fun d m => wl env m fun lo m2 => wh env m2 fun hi m3 => slR d lo hi m3 Q) : wSl wa wl wh env M Q := h
theorem z_nop {QO : Option Int → Mp → Prop} (h : QO none M) : wNoPart env M QO := h
def prtD (d : D) (M : Mp) (Q : Option Int → Mp → Prop) : Prop := match d with
  | .int i => Q (some i) M
  | _ => False
theorem z_prt {QO : Option Int → Mp → Prop} (h : wa env M fun d m => prtD d m QO) : wPart wa env M QO := h
theorem z_prti {QO : Option Int → Mp → Prop} (h : QO (some i) M) : prtD (.int i) M QO := h
theorem z_mt {T : String} {f : WM} (h : wa env M fun d m => tyM T d m ∧ wx env m fun xs m2 => f d xs m2 Q) : wMt T f wa wx env M Q := h
theorem z_mstr {x : Str} (h : A) : tyM "str" (.str x) M ∧ A := ⟨rfl, h⟩
theorem z_ml {a : Addr} (e : M a = some (.lst ds)) (h : A) : tyM "list" (.ref a) M ∧ A := ⟨by unfold tyM; dsimp only; rw [e], h⟩
theorem z_lc {wi : WI} {vs : List Nat} (h : wi env M fun ok items m => New m (.lst []) fun p m2 => runLc ok g wt wa (ewipe env vs) p Q items m2) : wLc wi g wt wa vs env M Q := h
/-! tests -/
theorem z_tst (h : wa env M fun d m => tstD d m QT) : wTst wa env M QT := h
theorem z_tb (h : QT k M) : tstD (.bl k) M QT := h
theorem z_tru (h : wa env M fun d m => truD d m fun k => QT k m) : wTru wa env M QT := h
theorem z_tand (h : wt env M fun k m => if k = true then wu env m QT else QT false m) : wtAnd wt wu env M QT := h
theorem z_tor (h : wt env M fun k m => if k = true then QT true m else wu env m QT) : wtOr wt wu env M QT := h
theorem z_tnot (h : wt env M fun k m => QT (!k) m) : wtNot wt env M QT := h
theorem z_yes (h : QT true M) : wYes env M QT := h
variable {Qb : Bool → Prop}
theorem z_trb (h : Qb k) : truD (.bl k) M Qb := h
theorem z_trn (h : Qb false) : truD .non M Qb := h
theorem z_T (h : A) : if true = true then A else B := h
theorem z_F (h : B) : if false = true then A else B := h
theorem z_NF (h : A) : if (!false) = true then A else B := h
theorem z_NT (h : B) : if (!true) = true then A else B := h
theorem z_ite (h1 : k = true → A) (h2 : k = false → B) : if k = true then A else B := by
  cases k
  · exact h2 rfl
  · exact h1 rfl
theorem z_iteN (h1 : k = false → A) (h2 : k = true → B) : if (!k) = true then A else B := by
  cases k
  · exact h1 rfl
  · exact h2 rfl
theorem z_dec {p : Prop} [Decidable p] (h1 : p → A) (h2 : ¬p → B) : if decide p = true then A else B := by
  by_cases h : p
  · rw [decide_eq_true h]; exact h1 h
  · rw [decide_eq_false h]; exact h2 h
theorem z_decN {p : Prop} [Decidable p] (h1 : ¬p → A) (h2 : p → B) : if (!decide p) = true then A else B := by
  by_cases h : p
  · rw [decide_eq_true h]; exact h2 h
  · rw [decide_eq_false h]; exact h1 h
/-! operations on known values -/
variable {s t : Str}
theorem z_eqi (h : Q (.bl (decide (i = j))) M) : cEq (.int i) (.int j) M Q := (eq_int (Q := fun k => Q (.bl k) M)).mpr h
theorem z_eqs (h : Q (.bl (decide (s = t))) M) : cEq (.str s) (.str t) M Q := (eq_str (Q := fun k => Q (.bl k) M)).mpr h
theorem z_nei (h : Q (.bl (!decide (i = j))) M) : cNe (.int i) (.int j) M Q := (eq_int (Q := fun k => Q (.bl (!k)) M)).mpr h
theorem z_nes (h : Q (.bl (!decide (s = t))) M) : cNe (.str s) (.str t) M Q := (eq_str (Q := fun k => Q (.bl (!k)) M)).mpr h
theorem z_le (h : Q (.bl (decide (i ≤ j))) M) : cLe (.int i) (.int j) M Q := h
theorem z_lt (h : Q (.bl (decide (i < j))) M) : cLt (.int i) (.int j) M Q := h
theorem z_gtt (h : Q (.bl (decide (j < i))) M) : cGt (.int i) (.int j) M Q := h
theorem z_ge (h : Q (.bl (decide (j ≤ i))) M) : cGe (.int i) (.int j) M Q := h
theorem z_add (h : Q (.int (i + j)) M) : bAdd (.int i) (.int j) M Q := h
theorem z_adds (hz : s.length + t.length ≤ sizeLine) (h : Q (.str (s ++ t)) M) : bAdd (.str s) (.str t) M Q := ⟨hz, h⟩
theorem z_addc (hz : ds.length + es.length ≤ sizeLine) (h : New M (.lst (ds ++ es)) fun p m2 => Q (.ref p) m2) : bAdd (.clst ds) (.clst es) M Q := ⟨ds, es, rfl, rfl, hz, h⟩
theorem z_addlc {a : Addr} (e1 : M a = some (.lst ds)) (hz : ds.length + es.length ≤ sizeLine) (h : New M (.lst (ds ++ es)) fun p m2 => Q (.ref p) m2) : bAdd (.ref a) (.clst es) M Q := ⟨ds, es, by simp only [lstOf, e1], rfl, hz, h⟩
theorem z_sub (h : Q (.int (i - j)) M) : bSub (.int i) (.int j) M Q := ⟨trivial, h⟩
theorem z_mul (hc : CMulW i j) (h : Q (.int (i * j)) M) : bMul (.int i) (.int j) M Q := ⟨hc, h⟩
theorem z_mod (hc : 0 < j) (h : Q (.int (i % j)) M) : bMod (.int i) (.int j) M Q := ⟨hc, h⟩
theorem z_div (hc : CDivW i j) (h : Q (.int (i / j)) M) : bDiv (.int i) (.int j) M Q := ⟨hc, h⟩
theorem p15 : (10 : Int) ^ (15 : Int).toNat = 1000000000000000 := by decide
theorem p30 : (10 : Int) ^ (30 : Int).toNat = 1000000000000000000000000000000 := by decide
theorem p18 : (10 : Int) ^ (18 : Int).toNat = 1000000000000000000 := by decide
theorem z_p15 (h : Q (.int 1000000000000000) M) : bPow (.int 10) (.int 15) M Q := ⟨⟨by decide, by decide, by decide⟩, by show Q (.int ((10 : Int) ^ (15 : Int).toNat)) M; rw [p15]; exact h⟩
theorem z_p30 (h : Q (.int 1000000000000000000000000000000) M) : bPow (.int 10) (.int 30) M Q := ⟨⟨by decide, by decide, by decide⟩, by show Q (.int ((10 : Int) ^ (30 : Int).toNat)) M; rw [p30]; exact h⟩
theorem z_p18 (h : Q (.int 1000000000000000000) M) : bPow (.int 10) (.int 18) M Q := ⟨⟨by decide, by decide, by decide⟩, by show Q (.int ((10 : Int) ^ (18 : Int).toNat)) M; rw [p18]; exact h⟩
theorem z_neg (h : Q (.int (-i)) M) : bNeg (.int i) M Q := h
theorem z_ix {n : Int} (e : L2.atI ds n = some d) (h : Q d M) : bIx (.tup ds) (.int n) M Q := by rw [bIx_tup]; exact ⟨d, e, h⟩
theorem z_ix0 (h : Q d M) : bIx (.tup (d :: ds)) (.int 0) M Q := z_ix (by rw [atI_0]) h
theorem z_ix1 (h : Q x M) : bIx (.tup (d :: x :: ds)) (.int 1) M Q := z_ix (by rw [atI_1]) h
theorem atI_2 {α : Type} {x y z : α} {xs : List α} : L2.atI (x :: y :: z :: xs) 2 = some z := by
  have := L2.atI_nat (xs := x :: y :: z :: xs) (j := 2) (v := z) rfl
  simpa using this
theorem atI_3 {α : Type} {w x y z : α} {xs : List α} : L2.atI (w :: x :: y :: z :: xs) 3 = some z := by
  have := L2.atI_nat (xs := w :: x :: y :: z :: xs) (j := 3) (v := z) rfl
  simpa using this
theorem z_ix2 (h : Q y M) : bIx (.tup (d :: x :: y :: ds)) (.int 2) M Q := z_ix (by rw [atI_2]) h
theorem z_ix3 (h : Q z M) : bIx (.tup (d :: x :: y :: z :: ds)) (.int 3) M Q := z_ix (by rw [atI_3]) h
theorem z_ixl {a : Addr} {n : Int} (e1 : M a = some (.lst ds)) (e : L2.atI ds n = some d) (h : Q d M) : bIx (.ref a) (.int n) M Q := by rw [bIx_ref e1]; exact ⟨d, e, h⟩
theorem z_lent (h : Q (.int ds.length) M) : fLen [.tup ds] M Q := h
theorem z_slt {lo hi : Option Int} (h : Q (.tup (cutL ds lo hi)) M) : slR (.tup ds) lo hi M Q := h
theorem z_inb (h : Q (.int (if k = true then 1 else 0)) M) : fInt [.bl k] M Q := h
theorem z_min (h : Q (.int (if j < i then j else i)) M) : fMin2 [.int i, .int j] M Q := h
theorem z_max (h : Q (.int (if j > i then j else i)) M) : fMax2 [.int i, .int j] M Q := h
end
theorem z_dg {n np : Nat} {M : Mp} {Q : DQ} {ds : List D} {f : WS} (env : Ev) (he : ds.map some ++ List.replicate (n - ds.length) none = env) (hl : ds.length = np) (h : f ⟨fun _ m => dropQ Q .non m, dropQ Q, fun _ _ => False, fun _ _ => False⟩ env M) : wDef n np f ds M Q := by
  subst he
  exact ⟨hl, h⟩
/-- what is told is kept; what was told ahead is enough -/
theorem z_kp {M : Mp} {Q : DQ} {d : D} (h : Q d M) : dropQ Q d M := ⟨M, .refl, h⟩
theorem Fr.sub {M M' : Mp} (f : Fr [] M M') : Sub M M' := fun a o e => f a o (by simp) e
theorem z_drf {M M0 : Mp} {Q : DQ} {d : D} (h : Q d M0) (f : Fr [] M0 M) : dropQ Q d M := ⟨M0, f.sub, h⟩
end L2.Dl

/-! DPlain: things that look alike on every heap (numbers, truths, None, texts, tuples of such). -/
namespace L2.Dl
open PySem PySem.Spec PyProof.Rows TL
variable [Tb]
structure Pn (c k : Nat) (d : D) : Prop where
  ask : ∀ M, AskA M d
  rp : ∃ p, (∀ f, repW f d = some p) ∧ p.showable = true ∧ p.hasDict = false ∧ noList p = true ∧ p.depth ≤ k ∧ asc p = true ∧ cost p ≤ c
theorem FO.pn {d : D} (h : FO d) : Pn 500 0 d := by
  obtain ⟨p, h1, h2, h3, h4, h5, h6, h7⟩ := h.rp
  exact ⟨fun M => h.askA, p, h1, h2, h3, h4, by omega, h6, h7⟩
theorem Pn.le {c k c' k' : Nat} {d : D} (h : Pn c k d) (hc : c ≤ c') (hk : k ≤ k') : Pn c' k' d := by
  obtain ⟨p, h1, h2, h3, h4, h5, h6, h7⟩ := h.rp
  exact ⟨h.ask, p, h1, h2, h3, h4, by omega, h6, by omega⟩
theorem Pns {c k : Nat} : ∀ {ds : List D}, (∀ d ∈ ds, Pn c k d) → ∃ ps, (∀ f, repWs f ds = some ps) ∧ PyData.showableAll ps = true ∧ PyData.hasDictAll ps = false ∧ noLists ps = true ∧ PyData.depthAll ps ≤ k ∧ ascs ps = true ∧ costs ps ≤ (c + 2) * ds.length
  | [], _ => ⟨[], fun _ => rfl, rfl, rfl, rfl, Nat.zero_le _, rfl, Nat.zero_le _⟩
  | d :: ds, h => by
    obtain ⟨p, h1, h2, h3, h4, h5, h6, h7⟩ := (h d List.mem_cons_self).rp
    obtain ⟨ps, g1, g2, g3, g4, g5, g6, g7⟩ := Pns fun x hx => h x (List.mem_cons_of_mem _ hx)
    refine ⟨p :: ps, fun f => ?_, ?_, ?_, ?_, ?_, ?_, ?_⟩
    · unfold repWs; rw [h1 f, g1 f]; rfl
    · simp only [PyData.showableAll, h2, g2]; rfl
    · simp only [PyData.hasDictAll, h3, g3]; rfl
    · simp only [noLists, h4, g4]; rfl
    · simp only [PyData.depthAll]; omega
    · simp only [ascs, h6, g6]; rfl
    · simp only [costs, List.length_cons, Nat.mul_add, Nat.mul_one]; omega
theorem Pn.tup {c k n : Nat} {ds : List D} (h : ∀ d ∈ ds, Pn c k d) (hn : ds.length ≤ n) : Pn ((c + 2) * n + 3) (k + 1) (.tup ds) := by
  obtain ⟨ps, g1, g2, g3, g4, g5, g6, g7⟩ := Pns h
  refine ⟨fun M => AskAs.of fun d hd => (h d hd).ask M, .tuple ps, fun f => ?_, ?_, ?_, ?_, ?_, ?_, ?_⟩
  · simp only [repW, g1 f, Option.map_some]
  · simp only [PyData.showable, g2]
  · simp only [PyData.hasDict, g3]
  · simp only [noList, g4]
  · simp only [PyData.depth]; omega
  · simp only [asc, g6]
  · simp only [cost]
    have := Nat.mul_le_mul_left (c + 2) hn
    omega
theorem Pn.lst {c k n : Nat} {M : Mp} {a : Addr} {ds : List D} (e : M a = some (.lst ds)) (h : ∀ d ∈ ds, Pn c k d) (hn : ds.length ≤ n) : Sh false ((c + 2) * n + 3) (k + 1) M (.ref a) := by
  obtain ⟨ps, g1, g2, g3, g4, g5, g6, g7⟩ := Pns h
  refine ⟨ref_ask e (.inl ⟨_, rfl⟩), .list ps, ?_, ?_, ?_, ?_, ?_, ?_⟩
  · show repL M 8 a = _
    rw [repL_lst e, g1]; rfl
  · simp only [PyData.showable, g2]
  · show PyData.hasDict _ = false
    simp only [PyData.hasDict, g3]
  · simp only [PyData.depth]; omega
  · simp only [asc, g6]
  · simp only [cost]
    have := Nat.mul_le_mul_left (c + 2) hn
    omega
/-- what a flat thing can't be -/
theorem FO.notup {ds : List D} (h : FO (.tup ds)) : False := by
  obtain ⟨p, h1, _, _, _, h5, _⟩ := h.rp
  have := h1 fun _ => none
  simp only [repW] at this
  cases e : repWs (fun _ => none) ds with
  | none => rw [e] at this; cases this
  | some ps =>
    rw [e] at this
    cases this
    simp [PyData.depth] at h5
theorem FO.flat {d : D} (h : FO d) : flatD d = true := by
  cases d with
  | non => rfl
  | bl _ => rfl
  | int _ => rfl
  | str x =>
    obtain ⟨h1, h2⟩ := h.tx x rfl
    show x.cps.all (· < 0x110000) = true
    rw [Array.all_eq_true]
    intro i hi
    have : x.cps[i] ∈ x.cps.toList := by simp
    have := h2 _ this
    simp only [decide_eq_true_eq]; omega
  | tup ds => exact h.notup.elim
  | clst ds =>
    obtain ⟨p, h1, _, _, _, h5, _⟩ := h.rp
    have := h1 fun _ => none
    simp only [repW] at this
    cases e : repWs (fun _ => none) ds with
    | none => rw [e] at this; cases this
    | some ps =>
      rw [e] at this
      cases this
      simp [PyData.depth] at h5
  | cdic ks ds =>
    obtain ⟨t, ht⟩ := h.ty
    have := ht fun _ => none
    cases this
  | ref a =>
    obtain ⟨t, ht⟩ := h.ty
    have := ht fun _ => none
    cases this
  | ty n =>
    obtain ⟨t, ht⟩ := h.ty
    have := ht fun _ => none
    cases this
end L2.Dl
namespace L2.Dl
open PySem PySem.Spec PyProof.Rows TL
variable [Tb]
theorem FO.num {i : Int} (h : i.natAbs < 10 ^ 38) : FO (.str (toString i : String)) := .str (Nat.le_trans (int_len (k := 38) (by decide) h) (by decide)) fun c hc => PySem.W.KSb.asc_num i c hc
theorem FO.app {x y : Str} (hx : FO (.str x)) (hy : FO (.str y)) (hl : x.length + y.length ≤ 40) : FO (.str (x ++ y)) := by
  refine .str (by rw [strLen_append]; exact hl) fun c hc => ?_
  have e : (x ++ y).cps.toList = x.cps.toList ++ y.cps.toList := by show (x.cps ++ y.cps).toList = _; simp
  rw [e] at hc
  rcases List.mem_append.mp hc with h | h
  · exact (hx.tx x rfl).2 c h
  · exact (hy.tx y rfl).2 c h
/-- a flat thing or a tuple of at most three such -/
def Plain (d : D) : Prop := FO d ∨ ∃ ds, d = .tup ds ∧ ds.length ≤ 3 ∧ ∀ x ∈ ds, FO x
theorem Plain.pn {d : D} (h : Plain d) : Pn 1509 1 d := by
  rcases h with h | ⟨ds, rfl, hl, h⟩
  · exact h.pn.le (by decide) (by decide)
  · exact (Pn.tup (c := 500) (k := 0) (n := 3) (fun d hd => (h d hd).pn) hl).le (by decide) (by decide)
theorem Plain.t1 {a : D} (ha : FO a) : Plain (.tup [a]) := .inr ⟨_, rfl, Nat.le_of_ble_eq_true rfl, all_cons ha all_nil⟩
theorem Plain.t2 {a b : D} (ha : FO a) (hb : FO b) : Plain (.tup [a, b]) := .inr ⟨_, rfl, Nat.le_of_ble_eq_true rfl, all_cons ha (all_cons hb all_nil)⟩
section
variable {env : Ev} {M : Mp} {Q : DQ} {wa wb : WE} {wp : WP} {QP : List (D × D) → Mp → Prop}
theorem z_dict (h : New M (.dK []) fun p M0 => wp env M0 fun ps M1 => M1 p = some (.dK []) ∧ ∃ kvs, keysOfD ps = some kvs ∧ kvs.length ≤ 15 ∧ Put M1 p (.dK (mergeD kvs)) fun M2 => Q (.ref p) M2) : wDict wp env M Q := h
theorem z_wpc (h : wa env M fun k m1 => wb env m1 fun v m2 => wp env m2 fun ps m3 => QP ((k, v) :: ps) m3) : wpCons wa wb wp env M QP := h
theorem z_wpn (h : QP [] M) : wpNil env M QP := h
theorem z_str {i : Int} (hz : i.natAbs.log2 < 1920) (h : Q (.str (toString i : String)) M) : fStr [.int i] M Q := ⟨hz, h⟩
theorem log_lt2 {n : Int} (h : n.natAbs < 2 ^ 200) : n.natAbs.log2 < 1920 :=
  Nat.lt_of_lt_of_le (PySem.Flt.log2_lt_of (k := 200) (by decide) h) (by decide)
end
theorem Pn.str {x : Str} (h1 : x.length ≤ 1000) (h2 : ∀ c ∈ x.cps.toList, c < 128) : Pn 10002 0 (.str x) := by
  refine ⟨fun M => ⟨⟨_, rfl⟩, fun y e => by cases e; exact ⟨h1, h2⟩⟩, .str x, fun _ => rfl, rfl, rfl, rfl, Nat.le_refl _, ?_, ?_⟩
  · simp only [asc, List.all_eq_true, decide_eq_true_eq]
    exact fun c hc => Nat.lt_trans (h2 c hc) (by decide)
  · show 10 * x.length + 2 ≤ 10002
    omega
end L2.Dl

/-! DMul: [a, b] * k. -/
namespace L2.Dl
open PySem PySem.Spec PyProof.Rows
variable [Tb]
theorem RelDs.flat {K : PySem.W.Frag} {H : Hp} {ds : List D} {vs : List V} (h : RelDs K H ds vs) : ∀ n : Nat, RelDs K H (List.replicate n ds).flatten (List.replicate n vs).flatten
  | 0 => .nil
  | n + 1 => by
    rw [List.replicate_succ, List.replicate_succ, List.flatten_cons, List.flatten_cons]
    exact h.app (RelDs.flat h n)
end L2.Dl

/-! DFor: loops over known rows. -/
namespace L2.Dl
open PySem PySem.Spec PyProof.Rows
variable [Tb]
section
variable {env : Ev} {M : Mp} {Q : DQ} {wa wb : WE} {wx : WA} {ds es : List D} {R : (Mp → Prop) → List D → Mp → Prop} {A : Prop}
theorem z_its {p : D → Bool} (h : wa env M fun d m => p d = true ∧ iSeq d m fun ok ds => R ok ds m) : itS wa p env M R := h
def rngM (xs : List D) (k : Int → Prop) : Prop := match xs with
  | [.int j] => -(2 ^ 62) ≤ j ∧ j < 2 ^ 62 ∧ k j
  | _ => False
theorem z_rng1 (h : wx env M fun xs m => rngM xs fun j => R (fun _ => True) (rngD 0 j.toNat) m) : itRng1 wx env M R := h
theorem z_rngM {j : Int} {k : Int → Prop} (h0 : 0 ≤ j) (h1 : j ≤ 1000000) (h : k j) : rngM [.int j] k := ⟨by omega, by omega, h⟩
variable {s : Str}
theorem z_lenc (h : Q (.int ds.length) M) : fLen [.clst ds] M Q := h
theorem z_ap {a : Addr} {y : D} (e : M a = some (.lst ds)) (hl : ds.length ≤ 1000) (h : Put M a (.lst (ds ++ [y])) fun M2 => Q .non M2) : mAppend (.ref a) [y] M Q := ⟨ds, e, Nat.lt_of_le_of_lt hl (by decide), h⟩
end
section
variable {ok : Mp → Prop} {g : WG} {w : WS} {nx bk ct : Ev → Mp → Prop} {rt : DQ}
end
end L2.Dl

/-! DText: texts parted, dicts of the module asked, tuple(..), raise where nothing is raised. -/
namespace L2.Dl
open PySem PySem.Spec PyProof.Rows
variable [Tb]
/-! ### texts -/
def mStarts : WM | d, ds, M, Q => match d, ds with
  | .str a, [.str b] => Q (.bl (Txt.startswith a b)) M
  | _, _ => False
/-! ### tuple(..) -/
/-! ### dicts of the module -/
section
variable {X : Cx} {e : Expr} {we : WE} {pos : Pos}
/-- z in NAME -/
def wKIn (kvs : List (Str × D)) (neg : Bool) (we : WE) : WE | env, M, Q => we env M fun d M1 => match d with
  | .str x => Q (.bl ((kvGet kvs x).isSome != neg)) M1
  | _ => False
/-- NAME[z] -/
def wKIx (kvs : List (Str × D)) (we : WE) : WE | env, M, Q => we env M fun d M1 => match d with
  | .str x => ∃ v, kvGet kvs x = some v ∧ Q v M1
  | _ => False
end
/-! ### d[k] of a dict that may change -/
/-! ### raise, where nothing is raised -/
section
variable {M : Mp} {Q : DQ} {a b : Str} {k : Int} {env : Ev} {we : WE} {kvs : List (Str × D)}
theorem z_is_non_str (h : Q (.bl false) M) : fIsi [.non, .ty "str"] M Q := by
  rw [isi_eq (t := "NoneType") (n := "str") rfl, show kit "NoneType" "str" = false by decide]; exact h
theorem z_is_non_int (h : Q (.bl false) M) : fIsi [.non, .ty "int"] M Q := by
  rw [isi_eq (t := "NoneType") (n := "int") rfl, show kit "NoneType" "int" = false by decide]; exact h
theorem z_is_non_bool (h : Q (.bl false) M) : fIsi [.non, .ty "bool"] M Q := by
  rw [isi_eq (t := "NoneType") (n := "bool") rfl, show kit "NoneType" "bool" = false by decide]; exact h
theorem z_is_non_tuple (h : Q (.bl false) M) : fIsi [.non, .ty "tuple"] M Q := by
  rw [isi_eq (t := "NoneType") (n := "tuple") rfl, show kit "NoneType" "tuple" = false by decide]; exact h
theorem z_is_non_list (h : Q (.bl false) M) : fIsi [.non, .ty "list"] M Q := by
  rw [isi_eq (t := "NoneType") (n := "list") rfl, show kit "NoneType" "list" = false by decide]; exact h
theorem z_is_non_dict (h : Q (.bl false) M) : fIsi [.non, .ty "dict"] M Q := by
  rw [isi_eq (t := "NoneType") (n := "dict") rfl, show kit "NoneType" "dict" = false by decide]; exact h
theorem z_is_bl_str {b0 : Bool} (h : Q (.bl false) M) : fIsi [.bl b0, .ty "str"] M Q := by
  rw [isi_eq (t := "bool") (n := "str") rfl, show kit "bool" "str" = false by decide]; exact h
theorem z_is_bl_int {b0 : Bool} (h : Q (.bl true) M) : fIsi [.bl b0, .ty "int"] M Q := by
  rw [isi_eq (t := "bool") (n := "int") rfl, show kit "bool" "int" = true by decide]; exact h
theorem z_is_bl_bool {b0 : Bool} (h : Q (.bl true) M) : fIsi [.bl b0, .ty "bool"] M Q := by
  rw [isi_eq (t := "bool") (n := "bool") rfl, show kit "bool" "bool" = true by decide]; exact h
theorem z_is_bl_tuple {b0 : Bool} (h : Q (.bl false) M) : fIsi [.bl b0, .ty "tuple"] M Q := by
  rw [isi_eq (t := "bool") (n := "tuple") rfl, show kit "bool" "tuple" = false by decide]; exact h
theorem z_is_bl_list {b0 : Bool} (h : Q (.bl false) M) : fIsi [.bl b0, .ty "list"] M Q := by
  rw [isi_eq (t := "bool") (n := "list") rfl, show kit "bool" "list" = false by decide]; exact h
theorem z_is_bl_dict {b0 : Bool} (h : Q (.bl false) M) : fIsi [.bl b0, .ty "dict"] M Q := by
  rw [isi_eq (t := "bool") (n := "dict") rfl, show kit "bool" "dict" = false by decide]; exact h
theorem z_is_int_str {i0 : Int} (h : Q (.bl false) M) : fIsi [.int i0, .ty "str"] M Q := by
  rw [isi_eq (t := "int") (n := "str") rfl, show kit "int" "str" = false by decide]; exact h
theorem z_is_int_int {i0 : Int} (h : Q (.bl true) M) : fIsi [.int i0, .ty "int"] M Q := by
  rw [isi_eq (t := "int") (n := "int") rfl, show kit "int" "int" = true by decide]; exact h
theorem z_is_int_bool {i0 : Int} (h : Q (.bl false) M) : fIsi [.int i0, .ty "bool"] M Q := by
  rw [isi_eq (t := "int") (n := "bool") rfl, show kit "int" "bool" = false by decide]; exact h
theorem z_is_int_tuple {i0 : Int} (h : Q (.bl false) M) : fIsi [.int i0, .ty "tuple"] M Q := by
  rw [isi_eq (t := "int") (n := "tuple") rfl, show kit "int" "tuple" = false by decide]; exact h
theorem z_is_int_list {i0 : Int} (h : Q (.bl false) M) : fIsi [.int i0, .ty "list"] M Q := by
  rw [isi_eq (t := "int") (n := "list") rfl, show kit "int" "list" = false by decide]; exact h
theorem z_is_int_dict {i0 : Int} (h : Q (.bl false) M) : fIsi [.int i0, .ty "dict"] M Q := by
  rw [isi_eq (t := "int") (n := "dict") rfl, show kit "int" "dict" = false by decide]; exact h
theorem z_is_str_str (h : Q (.bl true) M) : fIsi [.str a, .ty "str"] M Q := by
  rw [isi_eq (t := "str") (n := "str") rfl, show kit "str" "str" = true by decide]; exact h
theorem z_is_str_int (h : Q (.bl false) M) : fIsi [.str a, .ty "int"] M Q := by
  rw [isi_eq (t := "str") (n := "int") rfl, show kit "str" "int" = false by decide]; exact h
theorem z_is_str_bool (h : Q (.bl false) M) : fIsi [.str a, .ty "bool"] M Q := by
  rw [isi_eq (t := "str") (n := "bool") rfl, show kit "str" "bool" = false by decide]; exact h
theorem z_is_str_tuple (h : Q (.bl false) M) : fIsi [.str a, .ty "tuple"] M Q := by
  rw [isi_eq (t := "str") (n := "tuple") rfl, show kit "str" "tuple" = false by decide]; exact h
theorem z_is_str_list (h : Q (.bl false) M) : fIsi [.str a, .ty "list"] M Q := by
  rw [isi_eq (t := "str") (n := "list") rfl, show kit "str" "list" = false by decide]; exact h
theorem z_is_str_dict (h : Q (.bl false) M) : fIsi [.str a, .ty "dict"] M Q := by
  rw [isi_eq (t := "str") (n := "dict") rfl, show kit "str" "dict" = false by decide]; exact h
theorem z_is_tup_str {ds0 : List D} (h : Q (.bl false) M) : fIsi [.tup ds0, .ty "str"] M Q := by
  rw [isi_eq (t := "tuple") (n := "str") rfl, show kit "tuple" "str" = false by decide]; exact h
theorem z_is_tup_int {ds0 : List D} (h : Q (.bl false) M) : fIsi [.tup ds0, .ty "int"] M Q := by
  rw [isi_eq (t := "tuple") (n := "int") rfl, show kit "tuple" "int" = false by decide]; exact h
theorem z_is_tup_bool {ds0 : List D} (h : Q (.bl false) M) : fIsi [.tup ds0, .ty "bool"] M Q := by
  rw [isi_eq (t := "tuple") (n := "bool") rfl, show kit "tuple" "bool" = false by decide]; exact h
theorem z_is_tup_tuple {ds0 : List D} (h : Q (.bl true) M) : fIsi [.tup ds0, .ty "tuple"] M Q := by
  rw [isi_eq (t := "tuple") (n := "tuple") rfl, show kit "tuple" "tuple" = true by decide]; exact h
theorem z_is_tup_list {ds0 : List D} (h : Q (.bl false) M) : fIsi [.tup ds0, .ty "list"] M Q := by
  rw [isi_eq (t := "tuple") (n := "list") rfl, show kit "tuple" "list" = false by decide]; exact h
theorem z_is_tup_dict {ds0 : List D} (h : Q (.bl false) M) : fIsi [.tup ds0, .ty "dict"] M Q := by
  rw [isi_eq (t := "tuple") (n := "dict") rfl, show kit "tuple" "dict" = false by decide]; exact h
theorem z_starts (h : Q (.bl (Txt.startswith a b)) M) : mStarts (.str a) [.str b] M Q := h
def kinD (kvs : List (Str × D)) (neg : Bool) (d : D) (M : Mp) (Q : DQ) : Prop := match d with
  | .str x => Q (.bl ((kvGet kvs x).isSome != neg)) M
  | _ => False
theorem z_kin {neg : Bool} (h : we env M fun d m => kinD kvs neg d m Q) : wKIn kvs neg we env M Q := h
theorem z_kins {neg : Bool} (h : Q (.bl ((kvGet kvs a).isSome != neg)) M) : kinD kvs neg (.str a) M Q := h
def kixD (kvs : List (Str × D)) (d : D) (M : Mp) (Q : DQ) : Prop := match d with
  | .str x => ∃ v, kvGet kvs x = some v ∧ Q v M
  | _ => False
theorem z_kix (h : we env M fun d m => kixD kvs d m Q) : wKIx kvs we env M Q := h
def kgetD (kvs : List (Str × D)) (d : D) (M : Mp) (Q : DQ) : Prop := match d with
  | .str x => Q ((kvGet kvs x).getD .non) M
  | _ => False
theorem z_kget (h : we env M fun d m => kgetD kvs d m Q) : wKGet kvs we env M Q := h
theorem z_kgets (h : Q ((kvGet kvs a).getD .non) M) : kgetD kvs (.str a) M Q := h
theorem z_isn (h : Q (.bl true) M) : cIsN .non .non M Q := h
theorem z_isni {i : Int} (h : Q (.bl false) M) : cIsN (.int i) .non M Q := h
theorem z_isns (h : Q (.bl false) M) : cIsN (.str a) .non M Q := h
theorem z_isnt {ds : List D} (h : Q (.bl false) M) : cIsN (.tup ds) .non M Q := h
theorem z_isnb {b : Bool} (h : Q (.bl false) M) : cIsN (.bl b) .non M Q := h
theorem z_fmt (h : we env M fun d m => fmtD d m Q) : wFmt we env M Q := h
def jsD (ws : List WE) (acc : Str) (env : Ev) (d : D) (M : Mp) (Q : DQ) : Prop := match d with
  | .str y => (acc ++ y).length ≤ sizeLine ∧ wJs ws (acc ++ y) env M Q
  | _ => False
theorem z_js {ws : List WE} {acc : Str} (h : we env M fun d m => jsD ws acc env d m Q) : wJs (we :: ws) acc env M Q := h
theorem z_jsn {acc : Str} (h : Q (.str acc) M) : wJs [] acc env M Q := h
theorem z_strs (h : Q (.str a) M) : fStr [.str a] M Q := h
theorem z_int {n : Int} (e : PySem.intText? a = some n) (hz : a.length ≤ 640) (h : Q (.int n) M) : fInt [.str a] M Q := ⟨n, e, hz, h⟩
theorem z_sll {p : Addr} {ds : List D} {lo hi : Option Int} (e : M p = some (.lst ds)) (h : New M (.lst (cutL ds lo hi)) fun p M2 => Q (.ref p) M2) : slR (.ref p) lo hi M Q := ⟨ds, by unfold lstOf; dsimp only; rw [e], h⟩
end
/-! ### split with a bound, as lists -/
namespace TXL
open PySem.Builtin PySem.Builtin.Str PySem.StrLaws TL
/-! a list without the sign, the sign, the rest -/
end TXL
end L2.Dl

/-! DInj: unlike plain things are shown unlike. -/
namespace L2.Dl
open PySem PySem.Spec PyProof.Rows TL
variable [Tb]
namespace Inj
open PySem.Builtin.Str
mutual
def plainP : PyData → Bool
  | .none => true
  | .bool _ => true
  | .int _ => true
  | .str x => x.cps.toList.all fun c => decide (32 ≤ c) && decide (c < 127)
  | .tuple xs => plainPs xs
  | _ => false
def plainPs : List PyData → Bool
  | [] => true
  | x :: xs => plainP x && plainPs xs
end
def e1 (q c : Nat) : List Nat := if c = q ∨ c = 92 then [92, c] else [c]
/-! numbers -/
/-! what stands behind -/
def Dm (r : List Nat) : Prop := ∀ c, r.head? = some c → c = 44 ∨ c = 41
/-! the first sign -/
def PI (p : PyData) : Prop := ∀ {q : PyData} {r s : List Nat}, plainP p = true → plainP q = true → Dm r → Dm s → tl p.shown ++ r = tl q.shown ++ s → p = q ∧ r = s
end Inj
namespace Inj
end Inj
end L2.Dl

/-! DExc: exceptions of the program's own classes (no fields), raised, let out, caught. -/
namespace L2.Dl
open PySem PySem.Spec PyProof.Rows
variable [Tb]
/-- what is wished of an exception: its class's name, the slots, the map -/
abbrev XQ := Str → Ev → Mp → Prop
def LiftX (K : KW) (mg : Str → Option Value) (H : Hp) (Ex : XQ) (W : WX) : Prop := ∀ x env M σ H' C, Ex x env M → RelS K H' env σ → Keep H H' → RelM K H' M → mg x = some (.ref C) → W (.ref C) none σ H'
theorem LiftX.at {K : KW} {mg : Str → Option Value} {H H1 : Hp} {Ex : XQ} {W : WX} (l : LiftX K mg H Ex W) (k : Keep H H1) : LiftX K mg H1 Ex W := fun x env M σ H' C q r k' m g => l x env M σ H' C q r (k.trans k') m g
abbrev WSX := XQ → WS
abbrev WEX := XQ → Dl.WE
def tX (K : KW) (mg : Str → Option Value) (W : WX) (w : WSX) : TS := fun E σ H => ∃ env M Ed Ex, RelS K H env σ ∧ RelM K H M ∧ w Ex Ed env M ∧ LiftD K H Ed E ∧ LiftX K mg H Ex W
def DX (X : Cx) (W : WX) (st : Stmt) (w : WSX) : Prop := PS X st (tX X.kw X.mg W w)
section
variable {X : Cx} {W : WX} {st : Stmt} {rest sa sb : List Stmt} {e c : Expr} {w u : WSX} {we : WEX} {wt : WT} {pos : Pos}
end
/-! ### raise -/
/-! ### defs that may raise -/
abbrev WCX := (Str → Mp → Prop) → WC
section
variable {X : Cx} {k : Nat} {f : Addr} {fd : FuncData} {ps : List Str} {W' : WCX} {W : WX} {x : Str} {p pos : Pos} {e : Expr} {es : List Expr} {wx : WA}
end
/-! ### try: body, except y as n: suite -/
/-- what is known of x as a y -/
structure XI (K : PySem.W.Frag) (mg : Str → Option Value) (x : Str) (c : Value) (b : Bool) : Prop where
  e : ∀ C, mg x = some (.ref C) → PySem.W.exmOne K (.ref C) c = some b
/-! ### isinstance of the exception that is held -/
section
variable {X : Cx} {a C : Addr} {oe : Obj} {pn : List (Addr × Obj)} {x y z n : Str} {i : Nat} {es : List Expr} {ys : List Str} {tbl : List (Str × Bool)} {p p1 p2 pos : Pos}
end
/-! ### what the last theorem gives of classes -/
inductive XIs (K : PySem.W.Frag) (mg : Str → Option Value) (c : Value) : List (Str × Bool) → Prop where
  | nil : XIs K mg c []
  | cons {x b r} (h : XI K mg x c b) (t : XIs K mg c r) : XIs K mg c ((x, b) :: r)
theorem XIs.look {K : PySem.W.Frag} {mg : Str → Option Value} {c : Value} : ∀ {tbl : List (Str × Bool)}, XIs K mg c tbl → ∀ x b, tbl.lookup x = some b → XI K mg x c b
  | _, .nil, _, _, h => by cases h
  | _, .cons (x := y) (b := d) h t, x, b, e => by
    unfold List.lookup at e
    split at e
    · rename_i q
      cases e
      cases eq_of_beq q
      exact h
    · exact t.look x b e
inductive KIs (K : PySem.W.Frag) (mg : Str → Option Value) (us : List Value) : List (Str × Bool) → Prop where
  | nil : KIs K mg us []
  | cons {x b r} (h : ∀ C, mg x = some (.ref C) → ExcC K C ∧ PySem.W.kitAny K (.ref C) us = some b) (t : KIs K mg us r) : KIs K mg us ((x, b) :: r)
theorem KIs.look {K : KW} {mg : Str → Option Value} {us : List Value} : ∀ {tbl : List (Str × Bool)}, KIs K mg us tbl → ∀ x b, tbl.lookup x = some b → ∀ C, mg x = some (.ref C) → ExcC K C ∧ PySem.W.kitAny K (.ref C) us = some b
  | _, .nil, _, _, h => by cases h
  | _, .cons (x := y) (b := d) h t, x, b, e => by
    unfold List.lookup at e
    split at e
    · rename_i q
      cases e
      cases eq_of_beq q
      exact h
    · exact t.look x b e
/-! ### s.upper() -/
/-! ### steps -/
section
variable {M : Mp} {Q : DQ} {E : Dl.DEnds} {env : Ev} {Ex : XQ} {x : Str}
end
end L2.Dl

/-! DLst: more of lists, texts and dicts: split(sep), pop(i), insert(i, y), index(x), update(d). -/
namespace L2
open PySem PySem.Spec PyProof.Rows
end L2
namespace L2.Dl
open PySem PySem.Spec PyProof.Rows
variable [Tb]
section
variable {X : Cx}
def inDk (d e : D) (M : Mp) (Q : Bool → Prop) : Prop := match keyD d, e with
  | some k, .ref a => ∃ kvs, M a = some (.dK kvs) ∧ Q (valD kvs k).isSome
  | _, _ => False
def cInDk : W2 | d, e, M, Q => inDk d e M fun b => Q (.bl b) M
def cNinDk : W2 | d, e, M, Q => inDk d e M fun b => Q (.bl (!b)) M
theorem inDk_g {K : KW} {H : Hp} {M : Mp} {d e : D} {x y : V} {Q : Bool → Prop} (hm : RelM K H M) (hd : RelD K H d x) (he : RelD K H e y) (h : inDk d e M Q) : ∃ a o, y = .ref a ∧ DGet H a x o ∧ Q o.isSome := by
  unfold inDk at h
  cases ek : keyD d with
  | none => rw [ek] at h; exact h.elim
  | some k =>
    rw [ek] at h
    cases e with
    | ref a =>
      obtain ⟨kvs, e1, q⟩ := h
      cases (show y = _ from he)
      cases keyD_v ek hd
      obtain ⟨us, h1, rk⟩ := hm _ _ e1
      refine ⟨a, _, rfl, DGet.k h1, ?_⟩
      have : (valV us k).isSome = (valD kvs k).isSome := by
        rcases rk.val (k := k) with ⟨z1, z2⟩ | ⟨d', v', z1, z2, _⟩
        · rw [z1, z2]; rfl
        · rw [z1, z2]; rfl
      rw [this]; exact q
    | _ => exact h.elim
theorem o_inDk (hu : X.A.units + 1 < cLine) : OpD X (compareOp .In) cInDk := by
  intro pins s σ H x y v u Q I rx ry ⟨d, e, M, Qd, hd, he, hm, hr, hl⟩
  obtain ⟨a, o, rfl, g, q⟩ := inDk_g (Q := fun b => Qd (.bl b) M) hm hd he hr
  cases (show u = _ from ry)
  exact d_in hu I g rx fun s' I' => ⟨.bl o.isSome, H, I', rfl, hl.val hm q rfl⟩
theorem o_ninDk (hu : X.A.units + 1 < cLine) : OpD X (compareOp .NotIn) cNinDk := by
  intro pins s σ H x y v u Q I rx ry ⟨d, e, M, Qd, hd, he, hm, hr, hl⟩
  obtain ⟨a, o, rfl, g, q⟩ := inDk_g (Q := fun b => Qd (.bl (!b)) M) hm hd he hr
  cases (show u = _ from ry)
  exact d_notIn hu I g rx fun s' I' => ⟨.bl (!o.isSome), H, I', rfl, hl.val hm q rfl⟩
end
section
variable {M : Mp} {Q : DQ}
theorem z_nn (h : Q (.bl false) M) : cNotN .non .non M Q := by first | exact h | exact ⟨rfl, h⟩
theorem z_nni {i : Int} (h : Q (.bl true) M) : cNotN (.int i) .non M Q := by first | exact h | exact ⟨rfl, h⟩
theorem z_nns {a : Str} (h : Q (.bl true) M) : cNotN (.str a) .non M Q := by first | exact h | exact ⟨rfl, h⟩
theorem z_nnt {ds : List D} (h : Q (.bl true) M) : cNotN (.tup ds) .non M Q := by first | exact h | exact ⟨rfl, h⟩
theorem z_nnb {b : Bool} (h : Q (.bl true) M) : cNotN (.bl b) .non M Q := by first | exact h | exact ⟨rfl, h⟩
end
end L2.Dl

/-! DMore: divmod, pop(), extend, walks of enumerate. -/
namespace L2
open PySem PySem.Spec PyProof.Rows
theorem call_divmodW {X : Cx} : CallR X (.builtin "divmod") (fun xs H Q => ∃ i j, xs = [.int i, .int j] ∧ CDivW i j ∧ ∀ p, H p = none → Q (.ref p) (upd H p (.tup [.int (i / j), .int (i % j)]))) := by
  intro pins s σ H xs us Q I r h
  obtain ⟨i, j, rfl, ⟨h1, h2⟩, q⟩ := h
  obtain ⟨u, w', rfl, ⟨t, rfl⟩, ⟨t', rfl⟩⟩ := vals2 r
  refine divmod_int (by omega) ?_ (.inl (PyProof.noPylong_of_log2 h2))
  rw [Int.fdiv_eq_ediv_of_nonneg i (by omega), Int.fmod_eq_emod_of_nonneg i (by omega)]
  have hn : H s.heap.objs.size = none := I.hok.fresh (Nat.le_refl _)
  refine ⟨.ref s.heap.objs.size, _, ?_, rfl, q _ hn⟩
  refine I.laid (fun b o e => Heap.get?_push_of_some _ e) (Nat.le_refl _) ⟨by simp only [List.length_cons, List.length_nil]; rw [sizeLine_eq]; decide, [.int (i / j) s.toks, .int (i % j) (s.toks + 1)], .cons ⟨_, rfl⟩ (.cons ⟨_, rfl⟩ .nil), ?_⟩
  exact ⟨_, Heap.get?_push_size s.heap rfl, rfl, 0, rfl⟩
end L2
namespace L2.Dl
open PySem PySem.Spec PyProof.Rows
variable [Tb]
section
variable {X : Cx}
def fDivmod : WC | ds, M, Q => match ds with
  | [.int i, .int j] => CDivW i j ∧ Q (.tup [.int (i / j), .int (i % j)]) M
  | _ => False
theorem c_divmod : CallD X (.builtin "divmod") fDivmod := by
  intro pins s σ H xs us Q I r ⟨ds, M, Qd, rd, hm, hr, hl⟩
  match ds, hr with
  | [.int i, .int j], ⟨h1, q⟩ =>
    obtain ⟨v, u, rfl, hv, hu⟩ := rel2 rd
    exact call_divmodW pins s σ H _ us Q I r ⟨i, j, by rw [show v = V.int i from hv, show u = V.int j from hu], h1, fun p hp => by
      have kk : Keep H (upd H p (.tup [V.int (i / j), V.int (i % j)])) := .fresh hp
      exact hl _ M _ _ q ⟨p, _, rfl, .inl upd_same, ⟨_, _, rfl, rfl, _, _, rfl, rfl, rfl⟩⟩ kk (hm.skip hp)⟩
def mPop : WM | d, ds, M, Q => match d, ds with
  | .ref a, [] => ∃ es y, M a = some (.lst (es ++ [y])) ∧ Put M a (.lst es) fun M2 => Q y M2
  | _, _ => False
theorem m_pop : MtD X "list.pop" mPop := by
  intro pins s σ H x xs v us Q I rx rs ⟨d, ds, M, Qd, hd, hds, hm, hr, hl⟩
  match d, ds, hr with
  | .ref a, [], ⟨es, y, h1, q⟩ =>
    cases hds
    obtain ⟨vs, e1, r1⟩ := hm _ _ h1
    obtain ⟨u, hu, ru⟩ := r1.get (i := es.length) (d := y) (by simp)
    have hl1 : vs.length = es.length + 1 := by rw [← r1.len]; simp
    have kw : Keep H (upd H a (.lst vs.dropLast)) := .write e1 trivial
    exact mt_pop pins s σ H _ _ v us Q I rx rs ⟨a, vs, u, hd, rfl, e1, by rw [hl1]; exact hu,
      hl _ _ _ _ q.at (ru.keep kw) kw (RelM.write (o := .lst es) hm e1 trivial ⟨_, upd_same, by
        have := (r1.keep kw).take es.length
        rw [List.take_left] at this
        have e : vs.dropLast = vs.take es.length := by rw [List.dropLast_eq_take, hl1]; rfl
        rw [e]
        rw [e] at this
        exact this⟩)⟩
end
/-! ### for i, x in enumerate(xs) -/
def enumD (xs : List D) : List D := xs.zipIdx.map fun p => .tup [.int (p.2 : Nat), p.1]
theorem enum_at {xs : List D} {i : Nat} {d : D} (h : (enumD xs)[i]? = some d) : ∃ x, xs[i]? = some x ∧ d = .tup [.int (i : Nat), x] := by
  unfold enumD at h
  rw [List.getElem?_map, List.getElem?_zipIdx] at h
  cases e : xs[i]? with
  | none => rw [e] at h; cases h
  | some x => rw [e] at h; cases h; exact ⟨x, rfl, by simp⟩
theorem enum_len {xs : List D} : (enumD xs).length = xs.length := by unfold enumD; rw [List.length_map, List.length_zipIdx]
def itEnum (wx : WA) : WI | env, M, R => wx env M fun ds M1 => match ds with
  | [d] => ∃ xs, lstOf d M1 = some xs ∧ R (fun M' => lstOf d M' = some xs) (enumD xs) M1
  | _ => False
theorem ite_ok {K : KW} {H0 : Hp} {a : Addr} {d : D} {xs : List D} (rd : RelD K H0 d (.ref a)) : ItD K H0 (Ite K a) (fun M' => lstOf d M' = some xs) (enumD xs) where
  go := fun i H M k m o hi => by
    obtain ⟨a', vs, e1, q1, rs⟩ := lst_of m (rd.keep k) o
    cases e1
    rw [enum_len] at hi
    have l1 := rs.len
    exact ⟨vs, vs[i]'(by omega), q1, List.getElem?_eq_getElem (by omega)⟩
  yld := fun i H M x H' t k m o hy hd => by
    obtain ⟨T, v, rfl, hT, rfl, f1⟩ := hy
    obtain ⟨a', vs, e1, q1, rs⟩ := lst_of m (rd.keep k) o
    cases e1
    have kk : Keep H (upd H T (.tup [.int (i : Nat), v])) := .fresh hT
    obtain ⟨x, hx, rfl⟩ := enum_at hd
    obtain ⟨v', g1, r1⟩ := rs.get hx
    have h1 := f1 _ q1
    rw [g1] at h1
    cases h1
    exact ⟨⟨T, _, rfl, .inl upd_same, (RelDs.cons (show RelD K H (.int (i : Nat)) (.int (i : Nat)) from rfl) (.cons r1 .nil)).keep kk⟩, kk, m.skip hT⟩
  stop := fun i H M k m o hi => by
    obtain ⟨a', vs, e1, q1, rs⟩ := lst_of m (rd.keep k) o
    cases e1
    rw [enum_len] at hi
    have l1 := rs.len
    exact ⟨vs, q1, by omega⟩
section
variable {X : Cx}
theorem i_enum {e : Expr} {wx : WA} {p tpos pos : Pos} {elts : List Expr} {kk : Nat} (hg : Gl X "enumerate") (hm : X.mg "enumerate" = none) (ha : DA X [e] wx) (hs : starEach [e] X.env = [(false, eval e X.env)] := by rfl) :
    DI X (.Tuple elts kk tpos) (.Call (.Name "enumerate" p) [e] [] pos) (itEnum wx) := pi_wk (pi_enum hg hm ha hs) fun σ H R ⟨env, M, Rd, hs, hm, hw, hl⟩ => by
  refine ⟨env, M, _, hs, hm, hw, fun ds M1 vs H1 q rs k m1 => ?_⟩
  match ds, q with
  | [d], ⟨xs, h1, q⟩ =>
    obtain ⟨v, rfl, r1⟩ := rel1 rs
    obtain ⟨a, vs, rfl, q1, rs1⟩ := lst_of m1 r1 h1
    exact ⟨a, vs, rfl, q1, hl _ _ _ _ _ q k m1 (ite_ok r1)⟩
end
end L2.Dl

/-! DRev: xs[::-1]. -/
namespace L2
open PySem PySem.Spec PyProof.Rows
theorem fm_congr {α β : Type} {f g : α → Option β} : ∀ {l : List α}, (∀ k ∈ l, f k = g k) → l.filterMap f = l.filterMap g
  | [], _ => rfl
  | x :: l, h => by rw [List.filterMap_cons, List.filterMap_cons, h x List.mem_cons_self, fm_congr fun k hk => h k (List.mem_cons_of_mem _ hk)]
theorem pick_rev (its : List Value) : slicePick its.toArray none none (some (-1)) = its.reverse.toArray := by
  unfold slicePick
  have hb : sliceBounds none none (some (-1)) its.toArray.size = ((its.length : Int) - 1, -1, -1) := by
    unfold sliceBounds
    simp
  rw [hb]
  congr 1
  unfold sliceRange
  have hc : ¬ ((-1 : Int) > 0) := by omega
  simp only [hc, if_false]
  have cnt : (if (its.length : Int) - 1 > -1 then ((its.length : Int) - 1 - -1 - -1 - 1) / - -1 else 0).toNat = its.length := by
    split
    · rw [show (- -1 : Int) = 1 by omega, Int.ediv_one]; omega
    · omega
  rw [cnt, List.filterMap_map]
  have base : ∀ l : List Value, (List.range l.length).filterMap (fun k => l[k]?) = l := fun l => by
    induction l with
    | nil => rfl
    | cons x l ih =>
      rw [List.length_cons, List.range_succ_eq_map, List.filterMap_cons, List.filterMap_map]
      simp only [List.getElem?_cons_zero]
      congr 1
  have := base its.reverse
  rw [List.length_reverse] at this
  refine Eq.trans ?_ this
  refine fm_congr fun k hk => ?_
  have hk := List.mem_range.mp hk
  rw [List.getElem?_reverse hk]
  show its.toArray[((its.length : Int) - 1 + -1 * (k : Int)).toNat]? = its[its.length - 1 - k]?
  rw [show ((its.length : Int) - 1 + -1 * (k : Int)).toNat = its.length - 1 - k by omega]
  simp
section
variable {X : Cx} {e st : Expr} {te ts : TE} {p2 pos : Pos}
theorem pe_rev (he : PE X e te) (hst : PE X st ts) : PE X (.Subscript e (.Slice none none (some st) p2) pos) (fun σ H Q => te σ H fun x H1 => ts σ H1 fun y H2 => y = .int (-1) ∧ ∃ a xs, x = .ref a ∧ SqL X.K H2 a xs ∧ ∀ p, H2 p = none → Q (.ref p) (upd H2 p (.lst xs.reverse))) := by
  refine ⟨fun pins s σ H Q I h => ?_⟩
  refine Subscript_ (thn (he.run pins s σ H _ I h) fun v s1 ⟨x, H1, I1, r1, q1⟩ => ?_)
  refine wpAny_Slice ?_
  rw [evalPart_none]
  refine wpAny_pure (wpAny_pure ?_)
  rw [evalPart_some]
  refine thn (hst.run pins s1 σ H1 _ I1 q1) fun vs s3 ⟨y, H3, I3, ry, ey, a, xs, ex, hx, q⟩ => ?_
  subst ey ex
  cases (show v = Value.ref a from r1)
  obtain ⟨t, rfl⟩ := ry
  obtain ⟨its, r, ht, hz⟩ := I3.list hx
  have I4 : Inv X pins σ H3 { s3 with heap := s3.heap.push { cls := .type "slice", data := .fields #[.none, .none, .int (-1) t] } } := I3.kept (t' := s3.toks) fun b ob q => Heap.get?_push_of_some _ q
  obtain ⟨its, r, ht, hz⟩ := I4.list hx
  have hlen := r.length
  show wpAny (model X.prog X.w) X.A (subscriptTail e (.Slice none none (some st) p2) (.ref a) (.ref s3.heap.objs.size)) (EP X pins σ Q) X.xe { s3 with heap := s3.heap.push { cls := .type "slice", data := .fields #[.none, .none, .int (-1) t] } }
  refine tail_any (ops := [.ref a, .ref s3.heap.objs.size]) ht.isList.typeIs slot_list_getitem.lookup ?_ (by with_unfolding_all rfl)
  refine wpAny_getItem_list_slice ht.isList (Heap.IsSliceOf.new ..) .none .none (.int (-1) t) (by decide) ?_ (by rw [List.size_toArray] <;> omega)
  rw [pick_rev]
  refine ⟨.ref _, _, I4.laid (t' := s3.toks) (o := .lst xs.reverse) (fun b ob q => Heap.get?_push_of_some _ q) (Nat.le_refl _) ?_, rfl, q _ (I4.hok.fresh (Nat.le_refl _))⟩
  exact ⟨by rw [List.length_reverse]; exact hz, _, 0, r.reverse, Heap.get?_push_size _ rfl⟩
end
end L2
namespace L2.Dl
open PySem PySem.Spec PyProof.Rows
variable [Tb]
section
variable {X : Cx} {e st : Expr} {we ws : WE} {p2 pos : Pos}
def wRev (we ws : WE) : WE | env, M, Q => we env M fun d M1 => ws env M1 fun y M2 => y = .int (-1) ∧ ∃ ds, lstOf d M2 = some ds ∧ New M2 (.lst ds.reverse) fun p M3 => Q (.ref p) M3
theorem d_rev (he : DE X e we) (hst : DE X st ws) : DE X (.Subscript e (.Slice none none (some st) p2) pos) (wRev we ws) := pe_wk (pe_rev he hst) fun σ H Q ⟨env, M, Qd, hs, hm, hw, hl⟩ =>
  ⟨env, M, _, hs, hm, hw, fun d M1 v H1 q r1 k1 m1 => ⟨env, M1, _, hs.keep k1, m1, q, fun y M2 u H2 q2 r2 k2 m2 => by
    obtain ⟨rfl, ds, h1, q3⟩ := q2
    obtain ⟨a, vs, rfl, q4, rs⟩ := lst_of m2 (r1.keep k2) h1
    exact ⟨r2, a, vs, rfl, q4, (hl.at (k1.trans k2)).newL rs.rev m2 q3⟩⟩⟩
def mLower : WM | d, ds, M, Q => match d, ds with
  | .str a, [] => a.length ≤ 5592405 ∧ Q (.str (Txt.lower a)) M
  | _, _ => False
theorem m_lower : MtD X "str.lower" mLower := by
  intro pins s σ H x xs v us Q I rx rs ⟨d, ds, M, Qd, hd, hds, hm, hr, hl⟩
  match d, ds, hr with
  | .str a, [], ⟨h1, q⟩ =>
    cases hds
    exact mt_lower pins s σ H _ _ v us Q I rx rs ⟨a, hd, rfl, h1, hl.val hm q rfl⟩
/-- list(d), d a dict: its keys -/
def keyV : Key → D
  | .inl i => .int i
  | .inr x => .str x
end
end L2.Dl

/-! DFrz: a new list that nobody changes is a tree (as tuples are); walks of anything that may be walked. -/
namespace L2.Dl
open PySem PySem.Spec PyProof.Rows
variable [Tb]

/-- known from now on: the object at a, which is a list -/
theorem frz_inv {X : Cx} {pins : List (Addr × Obj)} {σ : St} {H : Hp} {s : Shared} {a : Addr} {vs : List V} (I : Inv X pins σ H s) (e : H a = some (.lst vs)) : ∃ o, Inv X pins σ (upd H a (.frz o (.lst vs))) s := by
  have q : ObjOk X.prog X.w H s.heap a (.lst vs) := I.hok a _ e
  obtain ⟨hz, its, n, hv, ho⟩ := q
  refine ⟨{ cls := .type "list", data := .seq its.toArray n }, I.un (t' := s.toks) (h' := s.heap) (H' := upd H a (.frz { cls := .type "list", data := .seq its.toArray n } (.lst vs))) ⟨fun b o q _ _ _ => q, fun b o q _ _ _ => ⟨o.slots, q⟩, fun b o q n _ => ?_, fun b o q _ => ⟨o, q⟩, fun b xs q => ?_, fun b o u q => ?_, fun b ps q => ⟨#[], ?_⟩⟩ fun b u q => ?_⟩
  · rw [upd_ne (fun z => by subst z; rw [e] at n; cases n)]; exact n
  · rw [upd_ne (ne_of q e (by intro z; cases z))]; exact q
  · rw [upd_ne (ne_of q e (by intro z; cases z))]; exact q
  · rw [upd_ne (ne_of q e (by intro z; cases z)), q]; simp
  · by_cases hb : b = a
    · subst hb
      rw [upd_same] at q
      cases q
      exact ⟨ho, hz, its, n, hv, ho⟩
    · rw [upd_ne hb] at q
      refine (I.hok b u q).stay (fun _ _ _ r => r) (fun c r => ?_) fun c xs r => ?_
      · rw [upd_ne (ne_of r e (by intro z; cases z))]; exact r
      · rw [upd_ne (ne_of r e (by intro z; cases z))]; exact r
def frzR (d : D) (M : Mp) (Q : DQ) : Prop := match d with
  | .ref a => (∃ ds M0, M a = some (.lst ds) ∧ M0 a = none ∧ Sub M0 M ∧ Q (.clst ds) M0) ∨ Q (.ref a) M
  | d => Q d M
def wFrz (we : WE) : WE | env, M, Q => we env M fun d M1 => frzR d M1 Q
section
variable {X : Cx} {e : Expr} {we : WE}
theorem d_frz (h : DE X e we) : DE X e (wFrz we) := by
  refine ⟨fun pins s σ H Q I ⟨env, M, Qd, hS, hM, hw, hl⟩ => ?_⟩
  refine thn (h.run pins s σ H (fun v H1 => ∃ d M1, RelD X.K H1 d v ∧ RelM X.kw H1 M1 ∧ Keep H H1 ∧ frzR d M1 Qd) I ⟨env, M, _, hS, hM, hw, fun d M1 v H1 q r k m => ⟨d, M1, r, m, k, q⟩⟩) fun v s1 ⟨x, H1, I1, rx, d, M1, rd, m1, k1, q⟩ => ?_
  cases d with
  | ref a =>
    rcases q with ⟨ds, M0, ea, h0, hs, q⟩ | q
    · obtain ⟨vs, ev, rs⟩ := m1 _ _ ea
      obtain ⟨o, I2⟩ := frz_inv I1 ev
      have kw : Keep H1 (upd H1 a (.frz o (.lst vs))) := .write ev trivial
      exact ⟨x, _, I2, rx, hl _ _ _ _ q ⟨a, vs, rd, .inl ⟨o, upd_same⟩, rs.keep kw⟩ (k1.trans kw) (m1.freeze ev trivial h0 hs)⟩
    · exact ⟨x, H1, I1, rx, hl _ _ _ _ q rd k1 m1⟩
  | _ => exact ⟨x, H1, I1, rx, hl _ _ _ _ q rd k1 m1⟩
end
/-! ### steps -/
section
variable {env : Ev} {M : Mp} {Q : DQ} {we wa wb : WE} {wx : WA} {ds es : List D} {d e : D}
theorem Sub.of {M0 M : Mp} (f : Fr [] M0 M) : Sub M0 M := fun a o e => f a o (by simp) e
theorem frz_new {M0 M : Mp} {p : Addr} (hp : M0 p = none) (e : M p = some (.lst ds)) (f : Fr [] M0 M) (h : Q (.clst ds) M0) : frzR (.ref p) M Q := .inl ⟨ds, M0, e, hp, .of f, h⟩
theorem newF {M : Mp} (h : Q (.clst ds) M) : New M (.lst ds) fun p m => frzR (.ref p) m Q := fun p m hp e f => frz_new hp e f h
theorem z_frz (h : we env M fun d m => frzR d m Q) : wFrz we env M Q := h
theorem z_fw {a : Addr} (h : Q (.ref a) M) : frzR (.ref a) M Q := .inr h
theorem z_fn (h : Q .non M) : frzR .non M Q := h
theorem z_fb {b : Bool} (h : Q (.bl b) M) : frzR (.bl b) M Q := h
theorem z_fi {i : Int} (h : Q (.int i) M) : frzR (.int i) M Q := h
theorem z_fs {x : Str} (h : Q (.str x) M) : frzR (.str x) M Q := h
theorem z_ft (h : Q (.tup ds) M) : frzR (.tup ds) M Q := h
theorem z_fc (h : Q (.clst ds) M) : frzR (.clst ds) M Q := h
end
end L2.Dl

/-! DNest: dicts whose keys are tuples, nested. -/
namespace L2.Dl
open PySem PySem.Spec PyProof.Rows
variable [Tb]

/-! ### keys -/
mutual
theorem nested_of {K : PySem.W.Frag} {P : Program} {w : World} {H : Hp} {h : Heap} (hk : K.In h) (ok : HOk P w H h) : ∀ (d : D) (k : NestedKey) (v : V) (u : Value), RelD K H d v → nkD d = some k → RelV v u → NestedIs h k u
  | .non, k, v, u, r, e, q => by cases (show v = _ from r); cases e; cases (show u = _ from q); exact .none
  | .bl b, k, v, u, r, e, q => by cases (show v = _ from r); cases e; cases (show u = _ from q); exact .bool rfl
  | .int i, k, v, u, r, e, q => by cases (show v = _ from r); cases e; obtain ⟨t, rfl⟩ := (show ∃ t, u = Value.int i t from q); exact .int _ _
  | .str x, k, v, u, r, e, q => by cases (show v = _ from r); cases e; obtain ⟨t, rfl⟩ := (show ∃ t, u = Value.str x t from q); exact .text _ _
  | .tup ds, k, v, u, r, e, q => by
    unfold nkD at e
    obtain ⟨ks, e1, rfl⟩ := Option.map_eq_some_iff.mp e
    unfold RelD at r
    obtain ⟨a, vs, rfl, t, rs⟩ := r
    cases (show u = _ from q)
    rcases t with t | (z | ⟨_, z⟩) | ⟨o, its, n, h1, h2, h3, h4, h5⟩
    · obtain ⟨hz, its, hv, o, h1, h2, n, h3⟩ := (show ObjOk P w H h a (.tup vs) from ok a _ t)
      exact .tup h1 h2 h3 (by simpa using nested_all hk ok ds ks vs its rs e1 hv)
    · cases z
    · cases z
    · exact .tup (hk _ _ h1) h2 h3 (nested_all hk ok ds ks vs its.toList rs e1 h5)
  | .clst _, _, _, _, _, e, _ => by cases e
  | .cdic _ _, _, _, _, _, e, _ => by cases e
  | .ref _, _, _, _, _, e, _ => by cases e
  | .ty _, _, _, _, _, e, _ => by cases e
theorem nested_all {K : PySem.W.Frag} {P : Program} {w : World} {H : Hp} {h : Heap} (hk : K.In h) (ok : HOk P w H h) : ∀ (ds : List D) (ks : List NestedKey) (vs : List V) (us : List Value), RelDs K H ds vs → nkDs ds = some ks → Vals vs us → NestedAll h ks us
  | [], ks, vs, us, r, e, q => by
    cases (show vs = _ from r)
    cases e
    cases q
    exact .nil
  | d :: ds, ks, vs, us, r, e, q => by
    unfold RelDs at r
    obtain ⟨v, r', rfl, h1, h2⟩ := r
    unfold nkDs at e
    cases q with
    | cons q1 q2 =>
      cases e1 : nkD d with
      | none => rw [e1] at e; cases e
      | some k =>
        cases e2 : nkDs ds with
        | none => rw [e1, e2] at e; cases e
        | some ks' =>
          rw [e1, e2] at e
          cases e
          exact .cons (nested_of hk ok d k v _ h1 e1 q1) (nested_all hk ok ds ks' r' _ h2 e2 q2)
end
def eqK (a b : D) : Bool := decide (nkD a = nkD b)
def valN (kvs : List (D × D)) (k : D) : Option D := (kvs.find? fun kv => eqK kv.1 k).map (·.2)
def putN (kvs : List (D × D)) (k v : D) : List (D × D) := if (kvs.any fun kv => eqK kv.1 k) = true then kvs.map (fun kv => if eqK kv.1 k = true then (kv.1, v) else kv) else kvs ++ [(k, v)]
/-- a key that may stand in such a dict -/
def KeyOk (k : D) : Prop := (∃ ds, k = .tup ds) ∧ ∃ n, nkD k = some n ∧ n.depth ≤ 8

/-! ### the entries -/
def XY (xs : List (NestedKey × Addr × V)) (ys : List (NestedKey × Addr × Value)) : Prop := Paired (fun x y => x.1 = y.1 ∧ x.2.1 = y.2.1 ∧ RelV x.2.2 y.2.2) xs ys
theorem XY.keys : ∀ {xs : List (NestedKey × Addr × V)} {ys : List (NestedKey × Addr × Value)}, XY xs ys → xs.map (·.1) = ys.map (·.1)
  | _, _, .nil => rfl
  | _, _, .cons h t => by rw [List.map_cons, List.map_cons, h.1, XY.keys t]
theorem XY.len {xs : List (NestedKey × Addr × V)} {ys : List (NestedKey × Addr × Value)} (h : XY xs ys) : xs.length = ys.length := by
  have := congrArg List.length h.keys
  simpa using this
theorem xy_of {w : World} {prog : Program} : ∀ {xs : List (NestedKey × Addr × V)} {es : List DictEntry}, Paired (fun (x : NestedKey × Addr × V) (e : DictEntry) => RelV x.2.2 e.val ∧ e.key = .ref x.2.1 ∧ e.hash = x.1.hash w) xs es →
    ∃ ys, XY xs ys ∧ es = ys.map (entryOfKey (nestedKind prog w))
  | _, _, .nil => ⟨[], .nil, rfl⟩
  | _, _, .cons (a := x) (b := e) h t => by
    obtain ⟨ys, r, q⟩ := xy_of (prog := prog) t
    refine ⟨(x.1, x.2.1, e.val) :: ys, .cons ⟨rfl, rfl, h.1⟩ r, ?_⟩
    rw [List.map_cons, ← q]
    obtain ⟨h1, k1, v1⟩ := e
    obtain ⟨a, b, c⟩ := h
    cases b
    cases c
    rfl
theorem of_xy {w : World} {prog : Program} : ∀ {xs : List (NestedKey × Addr × V)} {ys : List (NestedKey × Addr × Value)}, XY xs ys →
    Paired (fun (x : NestedKey × Addr × V) (e : DictEntry) => RelV x.2.2 e.val ∧ e.key = .ref x.2.1 ∧ e.hash = x.1.hash w) xs (ys.map (entryOfKey (nestedKind prog w)))
  | _, _, .nil => .nil
  | _, _, .cons h t => .cons ⟨h.2.2, by show Value.ref _ = Value.ref _; rw [h.2.1], by show NestedKey.hash w _ = NestedKey.hash w _; rw [h.1]⟩ (of_xy t)
theorem dicO_ok {P : Program} {w : World} {H' : Hp} {h : Heap} {a : Addr} {xs : List (NestedKey × Addr × V)} {ys : List (NestedKey × Addr × Value)} {o : Obj} {es : Array DictEntry} {ep : Nat} (r : XY xs ys) (e1 : h.get? a = some o) (e2 : o.ExactDict) (e3 : o.data = .dict es ep)
    (e4 : es.toList = ys.map (entryOfKey (nestedKind P w))) : ObjOk P w H' h a (DicO w a xs ep) :=
  ⟨⟨o, es, e1, e2, e3, by rw [e4]; exact of_xy r⟩, ⟨o, e1⟩, fun h1 h2 ⟨o, es, k1, k2, k3, k4⟩ st => ⟨o, es, st _ k1, k2, k3, k4⟩⟩
/-- what stands in the heap of such a dict -/
structure DnAt (X : Cx) (H : Hp) (h : Heap) (a : Addr) (ep : Nat) (kds : List (D × D)) (xs : List (NestedKey × Addr × V)) (ys : List (NestedKey × Addr × Value)) : Prop where
  sz : kds.length ≤ sizeLine
  nm : (a == sysModules) = false
  ho : H a = some (DicO X.w a xs ep)
  nd : (xs.map (·.1)).Nodup
  rn : RelN X.K H kds xs
  xy : XY xs ys
  dd : h.DictOfH (nestedKind X.prog X.w) a ys
  raw : ∃ o es, h.get? a = some o ∧ o.ExactDict ∧ o.data = .dict es ep ∧ es.toList = ys.map (entryOfKey (nestedKind X.prog X.w))
theorem relN_key {X : Cx} {H : Hp} {h : Heap} (hk : X.K.In h) (ok : HOk X.prog X.w H h) : ∀ {kds : List (D × D)} {xs : List (NestedKey × Addr × V)} {ys : List (NestedKey × Addr × Value)}, RelN X.K H kds xs → XY xs ys → ∀ y ∈ ys, (nestedKind X.prog X.w).is h y.1 y.2.1
  | _, _, _, .nil, .nil, y, hy => nomatch hy
  | _, _, _, .cons h t, .cons g r, y, hy => by
    rcases List.mem_cons.mp hy with rfl | hy
    · obtain ⟨h1, h2, h3, _⟩ := h
      obtain ⟨g1, g2, _⟩ := g
      rw [← g1, ← g2]
      exact ⟨nested_of hk ok _ _ _ (.ref _) h3 h1 rfl, h2⟩
    · exact relN_key hk ok t r y hy
theorem dn_at {X : Cx} {pins : List (Addr × Obj)} {σ : St} {H : Hp} {s : Shared} {M : Mp} {a : Addr} {ep : Nat} {kds : List (D × D)} (I : Inv X pins σ H s) (m : RelM X.kw H M) (e : M a = some (.dN ep kds)) : ∃ xs ys, DnAt X H s.heap a ep kds xs ys := by
  obtain ⟨z, nm, xs, ho, nd, rn⟩ := m _ _ e
  obtain ⟨⟨o, es, e1, e2, e3, e4⟩, _⟩ := (show ObjOk X.prog X.w H s.heap a (DicO X.w a xs ep) from I.hok a _ ho)
  obtain ⟨ys, xy, e5⟩ := xy_of (prog := X.prog) e4
  have ks := xy.keys
  exact ⟨xs, ys, z, nm, ho, nd, rn, xy, ⟨o, es, ep, e1, e2, e3, e5, relN_key I.kIn I.hok rn xy, by rw [← ks]; exact nd⟩, o, es, e1, e2, e3, e5⟩
theorem RelN.len {K : PySem.W.Frag} {H : Hp} : ∀ {kds : List (D × D)} {xs : List (NestedKey × Addr × V)}, RelN K H kds xs → kds.length = xs.length
  | _, _, .nil => rfl
  | _, _, .cons _ t => by rw [List.length_cons, List.length_cons, RelN.len t]
theorem atKey_cons {x : NestedKey × Addr × Value} {xs : List (NestedKey × Addr × Value)} {k : NestedKey} : atKey (x :: xs) k = if x.1 = k then some x.2 else atKey xs k := by
  unfold atKey
  rw [List.find?_cons]
  by_cases h : x.1 = k
  · simp [h]
  · simp [h]
theorem valN_cons {x : D × D} {xs : List (D × D)} {k : D} : valN (x :: xs) k = if eqK x.1 k = true then some x.2 else valN xs k := by
  unfold valN
  rw [List.find?_cons]
  cases h : eqK x.1 k <;> simp
theorem val_at {K : PySem.W.Frag} {H : Hp} {k : D} {n : NestedKey} (hn : nkD k = some n) : ∀ {kds : List (D × D)} {xs : List (NestedKey × Addr × V)} {ys : List (NestedKey × Addr × Value)}, RelN K H kds xs → XY xs ys →
    (valN kds k = none ∧ atKey ys n = none) ∨ ∃ d v u b, valN kds k = some d ∧ atKey ys n = some (b, u) ∧ RelD K H d v ∧ RelV v u
  | _, _, _, .nil, .nil => .inl ⟨rfl, rfl⟩
  | _, _, _, .cons (a := p) (b := x) h t, .cons (b := y) g r => by
    obtain ⟨h1, h2, h3, h4⟩ := h
    obtain ⟨g1, g2, g3⟩ := g
    rw [valN_cons, atKey_cons]
    have e : eqK p.1 k = decide (y.1 = n) := by
      unfold eqK
      rw [h1, hn, ← g1]
      simp
    by_cases q : y.1 = n
    · rw [e, decide_eq_true q, if_pos rfl, if_pos q]
      exact .inr ⟨_, _, _, y.2.1, rfl, rfl, h4, g3⟩
    · rw [e, decide_eq_false q, if_neg (by simp), if_neg q]
      exact val_at hn t r
theorem any_at {K : PySem.W.Frag} {H : Hp} {k : D} {n : NestedKey} (hn : nkD k = some n) {kds : List (D × D)} {xs : List (NestedKey × Addr × V)} {ys : List (NestedKey × Addr × Value)} (r : RelN K H kds xs) (q : XY xs ys) : (atKey ys n).isSome = (valN kds k).isSome := by
  rcases val_at hn r q with ⟨h1, h2⟩ | ⟨d, v, u, b, h1, h2, _⟩ <;> rw [h1, h2] <;> rfl
def putX (k : NestedKey) (v : V) (x : NestedKey × Addr × V) : NestedKey × Addr × V := if x.1 = k then (x.1, x.2.1, v) else x
theorem xy_put {k : NestedKey} {v : V} {u : Value} (hv : RelV v u) : ∀ {xs : List (NestedKey × Addr × V)} {ys : List (NestedKey × Addr × Value)}, XY xs ys → XY (xs.map (putX k v)) (ys.map (putAt k u))
  | _, _, .nil => .nil
  | _, _, .cons (a := x) (b := y) h t => by
    refine .cons ?_ (xy_put hv t)
    unfold putX putAt
    by_cases q : x.1 = k
    · rw [if_pos q, if_pos (by rw [← h.1]; exact q)]
      exact ⟨h.1, h.2.1, hv⟩
    · rw [if_neg q, if_neg (by rw [← h.1]; exact q)]
      exact h
theorem xy_app {x : NestedKey × Addr × V} {y : NestedKey × Addr × Value} (h : x.1 = y.1 ∧ x.2.1 = y.2.1 ∧ RelV x.2.2 y.2.2) : ∀ {xs : List (NestedKey × Addr × V)} {ys : List (NestedKey × Addr × Value)}, XY xs ys → XY (xs ++ [x]) (ys ++ [y])
  | _, _, .nil => .cons h .nil
  | _, _, .cons g t => .cons g (xy_app h t)
theorem relN_put {K : PySem.W.Frag} {H : Hp} {k d : D} {n : NestedKey} {v : V} (hn : nkD k = some n) (hv : RelD K H d v) : ∀ {kds : List (D × D)} {xs : List (NestedKey × Addr × V)}, RelN K H kds xs → RelN K H (kds.map fun kv => if eqK kv.1 k = true then (kv.1, d) else kv) (xs.map (putX n v))
  | _, _, .nil => .nil
  | _, _, .cons (a := p) (b := x) h t => by
    refine .cons ?_ (relN_put hn hv t)
    obtain ⟨h1, h2, h3, h4⟩ := h
    have e : eqK p.1 k = decide (x.1 = n) := by
      unfold eqK
      rw [h1, hn]
      simp
    unfold putX
    by_cases q : x.1 = n
    · simp only [e, q, decide_true, if_true]
      exact ⟨by rw [← q]; exact h1, by rw [← q]; exact h2, h3, hv⟩
    · simp only [e, q, decide_false, if_false]
      exact ⟨h1, h2, h3, h4⟩
theorem relN_app {K : PySem.W.Frag} {H : Hp} {p : D × D} {x : NestedKey × Addr × V} (h : nkD p.1 = some x.1 ∧ x.1.depth ≤ 8 ∧ RelD K H p.1 (.ref x.2.1) ∧ RelD K H p.2 x.2.2) : ∀ {kds : List (D × D)} {xs : List (NestedKey × Addr × V)}, RelN K H kds xs → RelN K H (kds ++ [p]) (xs ++ [x])
  | _, _, .nil => .cons h .nil
  | _, _, .cons g t => .cons g (relN_app h t)
theorem any_valN {kds : List (D × D)} {k : D} : (kds.any fun kv => eqK kv.1 k) = (valN kds k).isSome := by
  induction kds with
  | nil => rfl
  | cons p r ih =>
    rw [valN_cons, List.any_cons, ih]
    cases eqK p.1 k <;> simp
/-! ### what is done with them -/
theorem nroom {P : Program} {w : World} {A : Around} (h : A.units + 64 < cLine) : (nestedKind P w).room A.in1 := by
  show A.units + 1 + 8 < cLine
  omega
section
variable {X : Cx} {pins : List (Addr × Obj)} {σ : St} {H : Hp} {s : Shared} {M : Mp} {Qd : DQ} {Q : VK} {a : Addr} {ep : Nat} {kds : List (D × D)} {xs : List (NestedKey × Addr × V)} {ys : List (NestedKey × Addr × Value)}
/-- a key at hand -/
theorem key_at (I : Inv X pins σ H s) {k : D} {v : V} {u : Value} (hk : KeyOk k) (r : RelD X.K H k v) (ru : RelV v u) : ∃ b n, u = .ref b ∧ v = .ref b ∧ nkD k = some n ∧ (nestedKind X.prog X.w).is s.heap n b := by
  obtain ⟨⟨ds, rfl⟩, n, e, hd⟩ := hk
  have h := nested_of I.kIn I.hok _ _ _ _ r e ru
  unfold RelD at r
  obtain ⟨b, vs, rfl, _⟩ := r
  cases (show u = _ from ru)
  exact ⟨b, n, rfl, rfl, e, h, hd⟩
def inN (d e : D) (M : Mp) (Q : Bool → Prop) : Prop := match e with
  | .ref a => ∃ ep kds, M a = some (.dN ep kds) ∧ KeyOk d ∧ Q (valN kds d).isSome
  | _ => False
def cInN : W2 | d, e, M, Q => inN d e M fun b => Q (.bl b) M
def cNinN : W2 | d, e, M, Q => inN d e M fun b => Q (.bl (!b)) M
theorem o_inN (hu : X.A.units + 64 < cLine) : OpD X (compareOp .In) cInN := by
  intro pins s σ H x y v u Q I rx ry ⟨d, e, M, Qd, hd, he, hm, hr, hl⟩
  cases e with
  | ref a =>
    obtain ⟨ep, kds, e1, hk, q⟩ := hr
    cases (show y = _ from he)
    cases (show u = _ from ry)
    obtain ⟨xs, ys, N⟩ := dn_at I hm e1
    obtain ⟨b, n, rfl, rfl, e2, hi⟩ := key_at I hk hd rx
    refine wpAny_in_heap (nroom hu) hi N.nm N.dd ?_
    rw [any_at e2 N.rn N.xy]
    exact ⟨.bl _, H, I.tok _, rfl, hl.val hm q rfl⟩
  | _ => exact hr.elim
theorem o_ninN (hu : X.A.units + 64 < cLine) : OpD X (compareOp .NotIn) cNinN := by
  intro pins s σ H x y v u Q I rx ry ⟨d, e, M, Qd, hd, he, hm, hr, hl⟩
  cases e with
  | ref a =>
    obtain ⟨ep, kds, e1, hk, q⟩ := hr
    cases (show y = _ from he)
    cases (show u = _ from ry)
    obtain ⟨xs, ys, N⟩ := dn_at I hm e1
    obtain ⟨b, n, rfl, rfl, e2, hi⟩ := key_at I hk hd rx
    refine wpAny_notIn_heap (nroom hu) hi N.nm N.dd ?_
    rw [any_at e2 N.rn N.xy]
    exact ⟨.bl _, H, I.tok _, rfl, hl.val hm q rfl⟩
  | _ => exact hr.elim
/-- d[k], there -/
def bGetN : W2 | d, e, M, Q => match d with
  | .ref a => ∃ ep kds v, M a = some (.dN ep kds) ∧ KeyOk e ∧ valN kds e = some v ∧ Q v M
  | _ => False
theorem ix_getN (hu : X.A.units + 64 < cLine) : IxR X (rD X.kw bGetN) := by
  intro value slice pins s σ H x y v u Q I rx ry ⟨d, e, M, Qd, hd, he, hm, hr, hl⟩ hsub
  cases d with
  | ref a =>
    obtain ⟨ep, kds, z, e1, hk, e0, q⟩ := hr
    cases (show x = _ from hd)
    cases (show v = _ from rx)
    obtain ⟨xs, ys, N⟩ := dn_at I hm e1
    obtain ⟨b, n, rfl, rfl, e2, hi⟩ := key_at I hk he ry
    rcases val_at e2 N.rn N.xy with ⟨h1, h2⟩ | ⟨d', v', u', b', h1, h2, h3, h4⟩
    · rw [e0] at h1; cases h1
    · rw [e0] at h1
      cases h1
      exact subscriptTail_builtinR (x := u') N.dd.typeIs PySem.F.slot_dict_getitem.lookup (wpAny_getItem_heap (Q := fun r s' => r = u' ∧ EP X pins σ Q r s') (nroom hu) hi N.dd h2 ⟨rfl, v', H, I.tok _, h4, hl.val hm q h3⟩) hsub
  | _ => exact hr.elim
/-- the heap behind a store -/
theorem dn_stored (I : Inv X pins σ H s) (hm : RelM X.kw H M) (e1 : M a = some (.dN ep kds)) (N : DnAt X H s.heap a ep kds xs ys) {k d : D} {v w' : V} {u : Value} {b : Addr} {n : NestedKey} (hk : KeyOk k) (hkd : RelD X.K H k (.ref b)) (hn : nkD k = some n) (hd : RelD X.K H d w') (ru : RelV w' u)
    (hz : kds.length < sizeLine) {h' : Heap} {t' : Nat} (dd : h'.DictOfH (nestedKind X.prog X.w) a (storedH ys n b u)) (sb : Heap.SameBut a s.heap h') :
    ∃ ep' xs', Inv X pins σ (upd H a (DicO X.w a xs' ep')) { s with heap := h', toks := t' } ∧ Keep H (upd H a (DicO X.w a xs' ep')) ∧ RelM X.kw (upd H a (DicO X.w a xs' ep')) (mup M a (.dN ep' (putN kds k d))) := by
  obtain ⟨o, es, ep', h1, h2, h3, h4, h5, h6⟩ := dd
  have nd' : ∀ {xs' : List (NestedKey × Addr × V)}, XY xs' (storedH ys n b u) → (xs'.map (·.1)).Nodup := fun r => by rw [r.keys]; exact h6
  obtain ⟨xs', xy', rn', hl⟩ : ∃ xs', XY xs' (storedH ys n b u) ∧ RelN X.K H (putN kds k d) xs' ∧ (putN kds k d).length ≤ sizeLine := by
    unfold putN
    rw [any_valN]
    rcases val_at hn N.rn N.xy with ⟨g1, g2⟩ | ⟨d', v', u', b', g1, g2, g3, g4⟩
    · rw [storedH_new g2, g1]
      exact ⟨_, xy_app (x := (n, b, w')) ⟨rfl, rfl, ru⟩ N.xy, relN_app (p := (k, d)) (x := (n, b, w')) ⟨hn, (by obtain ⟨_, n', e, q⟩ := hk; rw [hn] at e; cases e; exact q), hkd, hd⟩ N.rn, by rw [Option.isSome_none, if_neg (by simp), List.length_append]; exact hz⟩
    · rw [storedH_old g2, g1]
      exact ⟨_, xy_put ru N.xy, relN_put hn hd N.rn, by rw [Option.isSome_some, if_pos rfl, List.length_map]; exact Nat.le_of_lt hz⟩
  have so : Soft (DicO X.w a xs ep) := Soft.dic
  have kw : Keep H (upd H a (DicO X.w a xs' ep')) := .write N.ho so
  refine ⟨ep', xs', d_write (a := a) I (by rw [N.ho]; exact trivial) sb ⟨o, h1⟩ (dicO_ok xy' h1 h2 h3 h4), kw, RelM.write (o := .dN ep' (putN kds k d)) hm N.ho so ⟨hl, N.nm, xs', upd_same, nd' xy', rn'.keep kw⟩⟩
/-- d[k] = x -/
def stN : W3 | d, e, x, M, Q => match d with
  | .ref a => ∃ ep kds, M a = some (.dN ep kds) ∧ KeyOk e ∧ kds.length < sizeLine ∧ ∀ ep', Put M a (.dN ep' (putN kds e x)) Q
  | _ => False
theorem st_N (hu : X.A.units + 64 < cLine) : SetD X stN := by
  intro pins s σ H o i v ov iv u Q I r1 r2 r3 ⟨d, e, x, M, Qd, hd, he, hx, hm, hr, hl⟩
  cases d with
  | ref a =>
    obtain ⟨ep, kds, e1, hk, hz, q⟩ := hr
    cases (show o = _ from hd)
    cases (show ov = _ from r1)
    obtain ⟨xs, ys, N⟩ := dn_at I hm e1
    obtain ⟨b, n, rfl, rfl, e2, hi⟩ := key_at I hk he r2
    have hs : ys.length ≤ sizeLine := by rw [← N.xy.len, ← N.rn.len]; exact N.sz
    refine wpAny_setItem_heap (hsz := hs) (nroom hu) hi N.dd fun h' dd sb => ?_
    obtain ⟨ep', xs', I', kk, mm⟩ := dn_stored (t' := s.toks + (nestedKind X.prog X.w).draws n) I hm e1 N hk he e2 hx r3 hz dd sb (v := v)
    exact ⟨_, I', hl _ _ ((q ep').at) kk mm⟩
  | _ => exact hr.elim
/-- len(d) -/
def fLenN : WC | ds, M, Q => match ds with
  | [.ref a] => ∃ ep kds, M a = some (.dN ep kds) ∧ Q (.int kds.length) M
  | _ => False
theorem c_lenN : CallD X (.builtin "len") fLenN := by
  intro pins s σ H xs' us Q I r ⟨ds, M, Qd, rd, hm, hr, hl⟩
  match ds, hr with
  | [.ref a], hr =>
    obtain ⟨ep, kds, e1, q⟩ := hr
    obtain ⟨v, r0, rfl, hv, e3⟩ := rd
    cases e3
    cases (show v = _ from hv)
    obtain ⟨u, rfl, ru⟩ := vals1 r
    cases (show u = _ from ru)
    obtain ⟨xs, ys, N⟩ := dn_at I hm e1
    have hn : ys.length = kds.length := by rw [← N.xy.len, ← N.rn.len]
    refine call_len_dictH N.nm N.dd (by rw [hn]; have := N.sz; have := line63; omega) ?_
    rw [hn]
    exact ⟨.int kds.length, H, I.tok _, ⟨_, rfl⟩, hl.val hm q rfl⟩
end
/-! ### the empty dict, by what it will hold -/
def wDict0A : WE | _, M, Q => New M (.dK []) (fun p M2 => Q (.ref p) M2) ∨ New M (.dN 0 []) (fun p M2 => Q (.ref p) M2)
theorem d_dict0A {X : Cx} {pos : Pos} : DE X (.Dict [] [] pos) wDict0A := by
  refine ⟨fun pins s σ H Q I ⟨env, M, Qd, hS, hm, hw, hl⟩ => ?_⟩
  rcases hw with q | q
  · exact d_dict0.run pins s σ H Q I ⟨env, M, Qd, hS, hm, q, hl⟩
  · have hn := I.hok.fresh (Nat.le_refl _)
    have ob : ObjOk X.prog X.w (upd H s.heap.objs.size (DicO X.w s.heap.objs.size [] 0)) (s.heap.push { cls := .type "dict", data := .dict #[] }) s.heap.objs.size (DicO X.w s.heap.objs.size [] 0) :=
      dicO_ok (xs := []) (ys := []) .nil (Heap.get?_push_size _ rfl) ⟨rfl, rfl, rfl⟩ rfl rfl
    have nm : (s.heap.objs.size == sysModules) = false := by
      have := I.big
      exact beq_false_of_ne (Nat.ne_of_gt this)
    have kk : Keep H (upd H s.heap.objs.size (DicO X.w s.heap.objs.size [] 0)) := .fresh hn
    refine wpAny_Dict_empty ⟨.ref s.heap.objs.size, _, I.laid (a := s.heap.objs.size) (t' := s.toks) (fun _ _ q => Heap.get?_push_of_some _ q) (Nat.le_refl _) ob, rfl, hl _ _ _ _ (q.at (hm.free hn)) rfl kk (hm.new hn ⟨Nat.zero_le _, nm, [], upd_same, List.nodup_nil, .nil⟩)⟩
end L2.Dl

/-! DAny: walks of dicts with nested keys; operations whatever the values are. -/
namespace L2.Dl
open PySem PySem.Spec PyProof.Rows
variable [Tb]

/-! ### a dict walked: its keys -/
def ItN (w : World) (d : Addr) (ep n : Nat) : It :=
  ⟨fun i H => ∃ xs, H d = some (DicO w d xs ep) ∧ xs.length = n ∧ i < n, fun i H x H' => H' = H ∧ ∀ xs, H d = some (DicO w d xs ep) → ∃ p, xs[i]? = some p ∧ x = .ref p.2.1, fun i H => ∃ xs, H d = some (DicO w d xs ep) ∧ xs.length = n ∧ n ≤ i⟩
theorem dicO_raw {X : Cx} {pins : List (Addr × Obj)} {σ : St} {H : Hp} {s : Shared} {d : Addr} {ep : Nat} (I : Inv X pins σ H s) {xs : List (NestedKey × Addr × V)} (e : H d = some (DicO X.w d xs ep)) :
    ∃ o es, s.heap.get? d = some o ∧ o.ExactDict ∧ o.data = .dict es ep ∧ es.size = xs.length ∧ ∀ xs', H d = some (DicO X.w d xs' ep) → Paired (fun (x : NestedKey × Addr × V) (e : DictEntry) => RelV x.2.2 e.val ∧ e.key = .ref x.2.1 ∧ e.hash = x.1.hash X.w) xs' es.toList := by
  obtain ⟨⟨o, es, e1, e2, e3, e4⟩, _⟩ := (show ObjOk X.prog X.w H s.heap d (DicO X.w d xs ep) from I.hok d _ e)
  refine ⟨o, es, e1, e2, e3, by rw [paired_len e4, Array.length_toList], fun xs' e' => ?_⟩
  obtain ⟨⟨o', es', k1, k2, k3, k4⟩, _⟩ := (show ObjOk X.prog X.w H s.heap d (DicO X.w d xs' ep) from I.hok d _ e')
  rw [e1] at k1
  cases k1
  rw [e3] at k3
  cases k3
  exact k4
theorem paired_at {α β : Type} {F : α → β → Prop} : ∀ {l : List α} {m : List β} {i : Nat} {y : β}, Paired F l m → m[i]? = some y → ∃ x, l[i]? = some x ∧ F x y
  | _, _, _, _, .nil, h => by simp at h
  | _, _, 0, _, .cons r t, h => by
    simp only [List.getElem?_cons_zero, Option.some.injEq] at h
    subst h
    exact ⟨_, rfl, r⟩
  | _, _, i + 1, _, .cons r t, h => by
    simp only [List.getElem?_cons_succ] at h ⊢
    exact paired_at t h
theorem turn_N {P : Program} {w : World} {K : PySem.W.Frag} {tg : Expr} {d : Addr} {ep n : Nat} (it : Addr) : Turn P w K tg (ItN w d ep n) [it] it (fun i h => h.IsKeyIter it d i n ep) where
  mem := by simp
  obj := fun i h st b hb => by
    cases List.mem_singleton.mp hb
    obtain ⟨oi, e, c, dd⟩ := st
    exact ⟨oi, e, fun v z => by rw [dd] at z; cases z⟩
  keep := fun i h h' st k => st.at fun oi e => k it (by simp) oi e
  item := by
    intro X hP hw hK hc i pins s σ H E I hf st ⟨xs, e, hn, hi⟩
    subst hP hw hK
    obtain ⟨f0, f1, f2, f3, f4, f5⟩ := hf it (by simp)
    obtain ⟨o, es, e1, e2, e3, e4, e5⟩ := dicO_raw I e
    have hlt : i < es.size := by omega
    refine next_key_item st e1 e3 (by omega) (Array.getElem?_eq_getElem hlt) fun h' st' sb => ?_
    have I1 : Inv X pins σ H { s with heap := h' } := I.turned (t' := s.toks) (fun b ob hb e => (sb.2 b hb).trans e) f0 f1 f3 f4 f5
    obtain ⟨oi, q, c, dd⟩ := id st'
    have hget : ∀ xs', H d = some (DicO X.w d xs' ep) → ∃ p, xs'[i]? = some p ∧ es[i].key = .ref p.2.1 := fun xs' e' => by
      obtain ⟨p, h1, h2⟩ := paired_at (e5 xs' e') (i := i) (y := es[i]) (by rw [Array.getElem?_toList, Array.getElem?_eq_getElem hlt])
      exact ⟨p, h1, h2.2.1⟩
    obtain ⟨p, hp, hk⟩ := hget xs e
    exact ⟨es[i].key, rfl, go_of (s := { s with heap := h' }) q c dd (by decide) ⟨.ref p.2.1, H, I1, hk, ⟨rfl, fun xs' e' => by
      obtain ⟨p', h1, h2⟩ := hget xs' e'
      have h3 := Value.ref.inj (hk.symm.trans h2)
      exact ⟨p', h1, by rw [h3]⟩⟩, st', fun b hb => (hf b hb).1⟩⟩
  done := by
    intro X hP hw hK hc i pins s σ H E I hf st ⟨xs, e, hn, hi⟩
    subst hP hw hK
    obtain ⟨f0, f1, f2, f3, f4, f5⟩ := hf it (by simp)
    obtain ⟨o, es, e1, e2, e3, e4, e5⟩ := dicO_raw I e
    exact next_key_end (I.ok.hd hc) st e1 e3 (by omega) hi fun h' eb => ⟨rfl, I.turned (t' := s.toks) (fun b ob hb e => eb b ob hb e) f0 f1 f3 f4 f5⟩
  self := fun A i s Q E st h => by
    refine wpAny_pyIter_slot st.typeIs F.slot_dict_keyiterator_iter (wpAny_call_entry F.slot_dict_keyiterator_iter st.typeIs F.entry_dict_keyiterator_iter ?_ (F.args_dict_keyiterator_iter_1 _))
    show wpAny _ _ (ret (.ref it)) _ _ s
    exact wpAny_pure ⟨_, rfl, "dict_keyiterator", _, st.typeIs, F.slot_dict_keyiterator_next.lookup, h⟩
theorem itN_ok {K : KW} {H0 : Hp} {a : Addr} {ep : Nat} {kds : List (D × D)} : ItD K H0 (ItN K.w a ep kds.length) (fun M' => M' a = some (.dN ep kds)) (kds.map (·.1)) where
  go := fun i H M k m o hi => by
    obtain ⟨_, _, xs, ho, _, rn⟩ := m _ _ o
    exact ⟨xs, ho, rn.len.symm, by simpa using hi⟩
  yld := fun i H M x H' d k m o hy hd => by
    obtain ⟨rfl, hy⟩ := hy
    obtain ⟨_, _, xs, ho, _, rn⟩ := m _ _ o
    obtain ⟨p, hp, rfl⟩ := hy xs ho
    obtain ⟨q, hq, r⟩ := paired_at rn hp
    rw [List.getElem?_map, hq] at hd
    cases hd
    exact ⟨r.2.2.1, .refl, m⟩
  stop := fun i H M k m o hi => by
    obtain ⟨_, _, xs, ho, _, rn⟩ := m _ _ o
    exact ⟨xs, ho, rn.len.symm, by simpa using hi⟩
/-! ### whatever is walked -/
def anyD (d : D) (M : Mp) (R : (Mp → Prop) → List D → Prop) : Prop := match d with
  | .tup ds => R (fun _ => True) ds
  | .clst ds => R (fun _ => True) ds
  | .str x => R (fun _ => True) (x.cps.toList.map fun c => .str ⟨#[c]⟩)
  | .ref a => (∃ ds, M a = some (.lst ds) ∧ R (fun M' => M' a = some (.lst ds)) ds) ∨ ∃ ep kds, M a = some (.dN ep kds) ∧ R (fun M' => M' a = some (.dN ep kds)) (kds.map (·.1))
  | _ => False
def itA (we : WE) : WI | env, M, R => we env M fun d M1 => anyD d M1 fun ok ds => R ok ds M1
section
variable {X : Cx} {tg e : Expr} {we : WE}
/-- what comes of a value that may be walked -/
theorem walk_run {pins : List (Addr × Obj)} {σ : St} {H : Hp} {s : Shared} {M : Mp} {d : D} {v : V} {u : Value} {R : It → Hp → Prop} {Rd : (Mp → Prop) → List D → Prop} (I : Inv X pins σ H s) (m : RelM X.kw H M) (r : RelD X.K H d v) (ru : RelV v u) (h : anyD d M Rd)
    (hl : ∀ ok items J, Rd ok items → ItD X.kw H J ok items → R J H) : wpAny (model X.prog X.w) X.A (pyIter u) (PIE X pins σ tg R) X.xe s := by
  have lst : ∀ {a : Addr} {vs : List V}, SqL X.K H a vs → R (Itl X.K a) H → wpAny (model X.prog X.w) X.A (pyIter (.ref a)) (PIE X pins σ tg R) X.xe s := fun {a vs} hq q => by
    obtain ⟨its, rv, p, hz⟩ := I.list hq
    exact wpAny_pyIter_list p.isList (pi_one (tk := s.toks) I _ (turn_list a _) ⟨_, Heap.get?_push_size _ rfl, rfl, rfl⟩ q)
  cases d with
  | clst ds =>
    obtain ⟨a, vs, rfl, t, rs⟩ := r
    cases (show u = _ from ru)
    exact lst t.sq (hl _ _ _ h (itl_ok fun H2 M2 k2 m2 _ => ⟨vs, (t.keep k2).sq, rs.keep k2⟩))
  | tup ds =>
    obtain ⟨a, vs, rfl, t, rs⟩ := r
    cases (show u = _ from ru)
    obtain ⟨its, rv, p, hz⟩ := I.tuple t.sq
    exact wpAny_pyIter_tuple (show s.heap.IsTuple a its.toArray from p) (pi_one (tk := s.toks) I _ (turn_tuple a _) ⟨_, Heap.get?_push_size _ rfl, rfl, rfl⟩ (hl _ _ _ h (itt_ok fun H2 M2 k2 m2 _ => ⟨vs, (t.keep k2).sq, rs.keep k2⟩)))
  | str x =>
    cases (show v = _ from r)
    obtain ⟨t, rfl⟩ := (show ∃ t, u = Value.str x t from ru)
    have hz : (x.cps.toList.map fun c => D.str ⟨#[c]⟩).length = x.cps.size := by rw [List.length_map, Array.length_toList]
    have q : R (Its x) H := hl _ _ _ h ⟨fun i H2 M2 k2 m2 o hi => by rw [hz] at hi; exact hi, fun i H2 M2 x' H3 d k2 m2 o hy hd => (by
      obtain ⟨rfl, c, ec, rfl⟩ := hy
      rw [List.getElem?_map, Array.getElem?_toList, ec] at hd
      cases hd
      exact ⟨rfl, .refl, m2⟩), fun i H2 M2 k2 m2 o hi => by rw [hz] at hi; exact hi⟩
    cases ha : x.cps.all (· < 128)
    · exact wpAny_pyIter_wide ha (pi_one (tk := s.toks) I _ (turn_str _ x t "str_iterator" (.inr rfl)) ⟨_, Heap.get?_push_size _ rfl, rfl, rfl⟩ q)
    · exact wpAny_pyIter_ascii ha (pi_one (tk := s.toks) I _ (turn_str _ x t "str_ascii_iterator" (.inl rfl)) ⟨_, Heap.get?_push_size _ rfl, rfl, rfl⟩ q)
  | ref a =>
    cases (show v = _ from r)
    cases (show u = _ from ru)
    rcases h with ⟨ds, e, q⟩ | ⟨ep, kds, e, q⟩
    · obtain ⟨vs, e1, rs⟩ := m _ _ e
      exact lst (.of e1) (hl _ _ _ q (itl_ok fun H2 M2 k2 m2 o => by
        obtain ⟨us, e2, r2⟩ := m2 _ _ o
        exact ⟨us, .of e2, r2⟩))
    · obtain ⟨xs, ys, N⟩ := dn_at I m e
      obtain ⟨o, es, k1, k2, k3, k4, _⟩ := dicO_raw I N.ho
      refine iter_keys N.nm k1 k2 k3 (pi_one (tk := s.toks) I _ (turn_N (w := X.w) (ep := ep) (n := kds.length) _) ⟨_, Heap.get?_push_size _ rfl, rfl, ?_⟩ (hl _ _ _ q itN_ok))
      rw [k4, ← N.rn.len] <;> rfl
  | _ => exact h.elim
theorem i_any (he : DE X e we) : DI X tg e (itA we) := by
  refine ⟨fun pins s σ H R I ⟨env, M, Rd, hs, hm, hw, hl⟩ => ?_⟩
  refine thn (he.run pins s σ H (fun v H1 => ∃ d M1, RelD X.K H1 d v ∧ RelM X.kw H1 M1 ∧ Keep H H1 ∧ anyD d M1 fun ok ds => Rd ok ds M1) I ⟨env, M, _, hs, hm, hw, fun d M1 v H1 q r k m => ⟨d, M1, r, m, k, q⟩⟩) fun u s1 ⟨x, H1, I1, rx, d, M1, rd, m1, k1, q⟩ => ?_
  exact walk_run I1 m1 rd rx q fun ok items J hR hJ => hl ok items M1 H1 J hR k1 m1 hJ
end
/-! ### one rule or another -/
section
variable {X : Cx}
def W2.or (r r' : W2) : W2 := fun d e M Q => r d e M Q ∨ r' d e M Q
theorem OpD.or {f : Value → Value → Sem Value} {r r' : W2} (h : OpD X f r) (h' : OpD X f r') : OpD X f (r.or r') := fun pins s σ H x y v u Q I rx ry ⟨d, e, M, Qd, hd, he, hm, hr, hl⟩ =>
  hr.elim (fun q => h pins s σ H x y v u Q I rx ry ⟨d, e, M, Qd, hd, he, hm, q, hl⟩) fun q => h' pins s σ H x y v u Q I rx ry ⟨d, e, M, Qd, hd, he, hm, q, hl⟩
def WM.or (r r' : WM) : WM := fun d ds M Q => r d ds M Q ∨ r' d ds M Q
theorem MtD.or {id : String} {r r' : WM} (h : MtD X id r) (h' : MtD X id r') : MtD X id (WM.or r r') := fun pins s σ H x xs v us Q I rx rv ⟨d, ds, M, Qd, hd, hds, hm, hr, hl⟩ =>
  hr.elim (fun q => h pins s σ H x xs v us Q I rx rv ⟨d, ds, M, Qd, hd, hds, hm, q, hl⟩) fun q => h' pins s σ H x xs v us Q I rx rv ⟨d, ds, M, Qd, hd, hds, hm, q, hl⟩
def WC.or (r r' : WC) : WC := fun ds M Q => r ds M Q ∨ r' ds M Q
theorem CallD.or {f : Value} {r r' : WC} (h : CallD X f r) (h' : CallD X f r') : CallD X f (WC.or r r') := fun pins s σ H xs us Q I rv ⟨ds, M, Qd, hds, hm, hr, hl⟩ =>
  hr.elim (fun q => h pins s σ H xs us Q I rv ⟨ds, M, Qd, hds, hm, q, hl⟩) fun q => h' pins s σ H xs us Q I rv ⟨ds, M, Qd, hds, hm, q, hl⟩
def W3.or (r r' : W3) : W3 := fun d e x M Q => r d e x M Q ∨ r' d e x M Q
theorem SetD.or {r r' : W3} (h : SetD X r) (h' : SetD X r') : SetD X (W3.or r r') := fun pins s σ H o i v ov iv u Q I r1 r2 r3 ⟨d, e, x, M, Qd, hd, he, hx, hm, hr, hl⟩ =>
  hr.elim (fun q => h pins s σ H o i v ov iv u Q I r1 r2 r3 ⟨d, e, x, M, Qd, hd, he, hx, hm, q, hl⟩) fun q => h' pins s σ H o i v ov iv u Q I r1 r2 r3 ⟨d, e, x, M, Qd, hd, he, hx, hm, q, hl⟩
/-- dicts with ints and texts as keys: d[k] = x, d.get(k), d.get(k, x), d[k] -/
def stK : W3 | d, e, x, M, Q => match d, keyD e with
  | .ref a, some k => ∃ kvs, M a = some (.dK kvs) ∧ kvs.length < sizeLine ∧ Put M a (.dK (putD kvs k x)) Q
  | _, _ => False
theorem relKv_len {K : PySem.W.Frag} {H : Hp} {κ : Type} : ∀ {ds : List (κ × D)} {vs : List (κ × V)}, RelKv K H ds vs → ds.length = vs.length
  | _, _, .nil => rfl
  | _, _, .cons _ t => congrArg (· + 1) (relKv_len t)
theorem st_K (hu : X.A.units + 64 < cLine) : SetD X stK := by
  intro pins s σ H o i v ov iv u Q I r1 r2 r3 ⟨d, e, x, M, Qd, hd, he, hx, hm, hr, hl⟩
  cases d with
  | ref a =>
    cases ek : keyD e with
    | none => unfold stK at hr; dsimp only at hr; rw [ek] at hr; exact hr.elim
    | some k =>
      unfold stK at hr
      dsimp only at hr
      rw [ek] at hr
      obtain ⟨kvs, e1, hz, q⟩ := hr
      cases (show o = _ from hd)
      cases keyD_v ek he
      cases (show ov = _ from r1)
      obtain ⟨vs, e2, rs⟩ := hm _ _ e1
      have kw : Keep H (upd H a (.dK (putK vs k v))) := .write e2 trivial
      exact d_setItem (by omega) I (DPut.k e2 (by rw [← relKv_len rs]; exact hz)) r2 r3 fun s' I' => ⟨_, I', hl _ _ q.at kw (RelM.write (o := .dK (putD kvs k x)) hm e2 trivial ⟨_, upd_same, (rs.keep kw).put (hx.keep kw)⟩)⟩
  | _ => exact hr.elim
def bGetK : W2 | d, e, M, Q => match d, keyD e with
  | .ref a, some k => ∃ kvs v, M a = some (.dK kvs) ∧ valD kvs k = some v ∧ Q v M
  | _, _ => False
theorem ix_getK (hu : X.A.units + 64 < cLine) : IxR X (rD X.kw bGetK) := by
  intro value slice pins s σ H x y v u Q I rx ry ⟨d, e, M, Qd, hd, he, hm, hr, hl⟩ hsub
  cases d with
  | ref a =>
    cases ek : keyD e with
    | none => unfold bGetK at hr; dsimp only at hr; rw [ek] at hr; exact hr.elim
    | some k =>
      unfold bGetK at hr
      dsimp only at hr
      rw [ek] at hr
      obtain ⟨kvs, z, e1, e0, q⟩ := hr
      cases (show x = _ from hd)
      cases keyD_v ek he
      cases (show v = _ from rx)
      obtain ⟨vs, e2, rs⟩ := hm _ _ e1
      rcases rs.val (k := k) with ⟨g1, g2⟩ | ⟨d', v', g1, g2, g3⟩
      · rw [e0] at g1; cases g1
      · rw [e0] at g1
        cases g1
        obtain ⟨zz, hd', us, rel, dd⟩ := dk_rd I.hok (.inl e2)
        obtain ⟨w', hw, rw'⟩ := RelO.some_of (v := v') (o := valueAt us k) (by rw [← g2]; exact rel.val k)
        exact subscriptTail_builtinR (x := w') dd.typeIs PySem.F.slot_dict_getitem.lookup (wpAny_getItem_of (Q := fun r s' => r = w' ∧ EP X pins σ Q r s') (kV_is ry) dd.mapOf hw ⟨rfl, v', H, I.tok _, rw', hl.val hm q g3⟩) hsub
  | _ => exact hr.elim
def IxD (X : Cx) (r : W2) : Prop := IxR X (rD X.kw r)
theorem IxD.or {r r' : W2} (h : IxD X r) (h' : IxD X r') : IxD X (r.or r') := fun value slice pins s σ H x y v u Q I rx ry ⟨d, e, M, Qd, hd, he, hm, hr, hl⟩ hsub =>
  hr.elim (fun q => h value slice pins s σ H x y v u Q I rx ry ⟨d, e, M, Qd, hd, he, hm, q, hl⟩ hsub) fun q => h' value slice pins s σ H x y v u Q I rx ry ⟨d, e, M, Qd, hd, he, hm, q, hl⟩ hsub
def bIxU : W2 := bIx.or (bGetK.or bGetN)
theorem d_ixU {a b : Expr} {wa wb : WE} {pos : Pos} (hu : X.A.units + 64 < cLine) (ha : DE X a wa) (hb : DE X b wb) (hs : PlainIx b) : DE X (.Subscript a b pos) (wOp bIxU wa wb) :=
  pe_wk (pe_ix (IxD.or ix_plain (IxD.or (ix_getK hu) (ix_getN hu))) ha hb hs) fun _ _ _ h => tOp_of h
def cInU : W2 := cIn.or (cInDk.or cInN)
def cNinU : W2 := cNotIn.or (cNinDk.or cNinN)
theorem o_inU (hu : X.A.units + 64 < cLine) : OpD X (compareOp .In) cInU := OpD.or o_in (OpD.or (o_inDk (by omega)) (o_inN hu))
theorem o_ninU (hu : X.A.units + 64 < cLine) : OpD X (compareOp .NotIn) cNinU := OpD.or o_notin (OpD.or (o_ninDk (by omega)) (o_ninN hu))
def stU : W3 := stIx.or (W3.or stK stN)
theorem st_U (hu : X.A.units + 64 < cLine) : SetD X stU := SetD.or st_ix (SetD.or (st_K hu) (st_N hu))
def fLenU : WC := WC.or fLen fLenN
theorem c_lenU : CallD X (.builtin "len") fLenU := CallD.or c_len c_lenN
end
end L2.Dl

/-! DCls: own classes: attributes, methods, instances made; calls with keywords and defaults. -/
namespace L2.Dl
open PySem PySem.Spec PyProof.Rows
variable [Tb]

/-- a class of the text: where it stands; plain; names that no class of it has -/
structure ClF (K : PySem.W.Frag) (mg : Str → Option Value) (n : Str) (as : List Str) where
  C : Addr
  g : mg n = some (.ref C)
  cl : Cls K C
  na : ∀ f ∈ as, NoAttr K C f
inductive FldAll (K : PySem.W.Frag) (mg : Str → Option Value) (f : Str) : List Str → Prop where
  | nil : FldAll K mg f []
  | cons {n : Str} {ns as : List Str} (c : ClF K mg n as) (h : f ∈ as) (t : FldAll K mg f ns) : FldAll K mg f (n :: ns)
theorem FldAll.at {K : PySem.W.Frag} {mg : Str → Option Value} {f : Str} : ∀ {ns : List Str}, FldAll K mg f ns → ∀ {n : Str} {C : Addr}, n ∈ ns → mg n = some (.ref C) → Cls K C ∧ NoAttr K C f
  | _, .cons c h t, n, C, hn, hC => by
    rcases List.mem_cons.mp hn with rfl | hn
    · cases c.g.symm.trans hC
      exact ⟨c.cl, c.na f h⟩
    · exact t.at hn hC
section
variable {X : Cx} {e o value : Expr} {we wo wv : WE} {pos pos' : Pos} {f : Str} {ns : List Str}
def fldR (ns : List Str) (f : Str) (d : D) (M : Mp) (Q : DQ) : Prop := match d with
  | .ref a => ∃ n fs v, M a = some (.ins n fs) ∧ n ∈ ns ∧ fs.lookup f = some v ∧ Q v M
  | _ => False
def wFld (ns : List Str) (f : Str) (we : WE) : WE | env, M, Q => we env M fun d M1 => fldR ns f d M1 Q
def putFD (f : Str) (v : D) : List (Str × D) → List (Str × D)
  | [] => [(f, v)]
  | (g, x) :: r => if g = f then (g, v) :: r else (g, x) :: putFD f v r
def setR (ns : List Str) (f : Str) (d o : D) (M : Mp) (Q : Mp → Prop) : Prop := match o with
  | .ref a => ∃ n fs, M a = some (.ins n fs) ∧ n ∈ ns ∧ fs.length < 1000 ∧ Put M a (.ins n (putFD f d fs)) Q
  | _ => False
def wSetF (ns : List Str) (f : Str) (wo wv : WE) : WS | E, env, M => wv env M fun d M1 => wo env M1 fun o M2 => setR ns f d o M2 (E.nx env)
end
/-! ### calls: positional values and keywords' values -/
abbrev WB := List D → List D → Mp → DQ → Prop
def bindW (W : WC) (n m : Nat) (sel : List SrcD) : WB := fun ds zs M Q => ds.length = n ∧ zs.length = m ∧ W (sel.map (SrcD.D ds zs)) M Q
/-- a method that several classes have -/
structure MthOk (X : Cx) (m : Str) (ks : List Str) (n : Str) (B : WB) : Prop where
  ex : ∃ (C f : Addr) (fd : FuncData) (ps : List Str) (k np : Nat) (W : WC) (sel : List Src), X.mg n = some (.ref C) ∧ Cls X.K C ∧ Meth X.K C m f ∧ FnG X.prog X.w X.K X.mg X.base k f fd ps W ∧ Rm k X.A ∧ KB X.K fd ps np ks sel ∧ B = bindW W np ks.length (sel.map Src.d)
inductive MthAll (X : Cx) (m : Str) (ks : List Str) : List (Str × WB) → Prop where
  | nil : MthAll X m ks []
  | cons {n B tbl} : MthOk X m ks n B → MthAll X m ks tbl → MthAll X m ks ((n, B) :: tbl)
theorem MthAll.at {X : Cx} {m : Str} {ks : List Str} : ∀ {tbl : List (Str × WB)}, MthAll X m ks tbl → ∀ {p : Str × WB}, p ∈ tbl → MthOk X m ks p.1 p.2
  | _, .nil, _, h => nomatch h
  | _, .cons h t, p, hp => by
    rcases List.mem_cons.mp hp with rfl | hp
    · exact h
    · exact t.at hp
def mthR (m : Str) (tbl : List (Str × WB)) (d : D) (M : Mp) (k : Addr → WB → Prop) : Prop := match d with
  | .ref a => ∃ n fs B, M a = some (.ins n fs) ∧ (n, B) ∈ tbl ∧ fs.lookup m = none ∧ k a B
  | _ => False
def wMeth (m : Str) (tbl : List (Str × WB)) (wo : WE) (wx wk : WA) : WE | env, M, Q => wo env M fun d M1 => mthR m tbl d M1 fun a B => wx env M1 fun ds M2 => wk env M2 fun zs M3 => B (.ref a :: ds) zs M3 Q
section
variable {X : Cx} {e o : Expr} {es : List Expr} {wo : WE} {wx wk : WA} {pos apos p : Pos} {m x : Str} {ks : List Str} {tbl : List (Str × WB)} {kws : List Keyword}
/-! ### instances made -/
def wMake (n : Str) (B : WB) (wx wk : WA) : WE | env, M, Q => wx env M fun ds M1 => wk env M1 fun zs M2 => New M2 (.ins n []) fun p M3 => B (.ref p :: ds) zs M3 fun d M4 => d = .non ∧ Q (.ref p) M4
end
end L2.Dl

/-! DSortL: sorted(xs, key=lambda one: one[0]), the items tuples whose first part is a stamp. -/
namespace L2.Dl
open PySem PySem.Spec PyProof.Rows
variable [Tb]

/-- such an item in the heap -/
def StAt (h : Heap) (v : Value) (d : D) : Prop := ∃ (a b : Addr) (its : Array Value) (c : Int) (n : Str) (t u : Tok) (r : List D), v = .ref a ∧ IsTup h a its ∧ its[0]? = some (.ref b) ∧ IsTup h b #[.int c t, .str n u] ∧ d = .tup (.tup [.int c, .str n] :: r)
theorem StAt.keeps {h h' : Heap} {v : Value} {d : D} (x : StAt h v d) (k : ∀ b o, h.get? b = some o → h'.get? b = some o) : StAt h' v d := by
  obtain ⟨a, b, its, c, n, t, u, r, h1, h2, h3, h4, h5⟩ := x
  exact ⟨a, b, its, c, n, t, u, r, h1, h2.keeps k, h3, h4.keeps k, h5⟩
section
variable {prog : Program} {w : World} {A : Around} {s : Shared}
end
/-! ### the rule -/
section
variable {X : Cx}
end
end L2.Dl

/-! DDc: dict comprehensions: keys ints, texts or nested tuples; over nothing, with any number of fors. -/
namespace L2.Dl
open PySem PySem.Spec PyProof.Rows
variable [Tb]

section
variable {X : Cx} {pins : List (Addr × Obj)} {s : Shared} {σ : St} {H : Hp} {Q : VK} {kx vx tg iter : Expr} {ifs : List Expr} {more : List Comprehension} {scope : Scope} {own : List (Str × Nat)} {pos pos' : Pos} {wi : TI}
end
section
variable {X : Cx} {kx vx tg iter : Expr} {ifs : List Expr} {scope : Scope} {own : List (Str × Nat)} {pos : Pos} {wi : TI} {g : TG} {tt : TT} {tk tv : TE}
end
/-! ### over trees -/
section
variable {X : Cx} {kx vx tg iter : Expr} {ifs : List Expr} {scope : Scope} {own : List (Str × Nat)} {pos : Pos} {wi : WI} {wg : WG} {wt : WT} {wk wv : WE}
/-! ### over nothing, with further fors -/
end
end L2.Dl

/-! DTop: reversed, clear, name += int, lists known from a statement on, dicts compared that are alike. -/
namespace L2.Dl
open PySem PySem.Spec PyProof.Rows
variable [Tb]

/-! ### x = [..], known from here on -/
def frzS (i : Nat) (nx : Ev → Mp → Prop) (env : Ev) (M : Mp) : Prop := match env[i]? with
  | some (some (.ref a)) => (∃ ds M0, M a = some (.lst ds) ∧ M0 a = none ∧ Sub M0 M ∧ nx (env.set i (some (.clst ds))) M0) ∨ nx env M
  | _ => nx env M
def wFrzS (i : Nat) (w : WS) : WS | E, env, M => w { E with nx := frzS i E.nx } env M
theorem RelS.swap {K : PySem.W.Frag} {H : Hp} {env : Ev} {σ : St} {i : Nat} {d : D} {v : V} (r : RelS K H env σ) (hv : σ[i]? = some (some v)) (h : RelD K H d v) : RelS K H (env.set i (some d)) σ := by
  have := r.set (i := i) h
  have e : σ.set i (some v) = σ := by
    apply List.ext_getElem?
    intro j
    by_cases hj : i = j
    · subst hj
      have hi : i < σ.length := by
        obtain ⟨h1, _⟩ := List.getElem?_eq_some_iff.mp hv
        exact h1
      rw [List.getElem?_set_self hi, hv]
    · rw [List.getElem?_set_ne hj]
  rw [e] at this
  exact this
section
variable {X : Cx} {st : Stmt} {w : WS}
theorem s_frz (i : Nat) (h : DS X st w) : DS X st (wFrzS i w) := by
  refine ⟨fun pins s σ H E I ⟨env, M, Ed, hS, hM, hw, hl⟩ => ?_⟩
  refine thn (h.run pins s σ H { E with nx := fun σ' H' => ∃ env' M', frzS i Ed.nx env' M' ∧ RelS X.K H' env' σ' ∧ Keep H H' ∧ RelM X.kw H' M' } I
    ⟨env, M, _, hS, hM, hw, ⟨fun env' M' σ' H' q r k m => ⟨env', M', q, r, k, m⟩, hl.rt, hl.bk, hl.ct⟩⟩) fun f s1 q => ?_
  cases f with
  | next =>
    obtain ⟨σ', H', I1, env', M', q, r, k, m⟩ := q
    unfold frzS at q
    split at q
    · rename_i a ea
      rcases q with ⟨ds, M0, e1, h0, hs, q⟩ | q
      · obtain ⟨vs, ev, rs⟩ := m _ _ e1
        obtain ⟨o, I2⟩ := frz_inv I1 ev
        have kw : Keep H' (upd H' a (.frz o (.lst vs))) := .write ev trivial
        obtain ⟨v, hv, rv⟩ := r.2 _ _ ea
        cases (show v = _ from rv)
        exact ⟨σ', _, I2, hl.nx _ _ _ _ q ((r.keep kw).swap hv ⟨a, vs, rfl, .inl ⟨o, upd_same⟩, rs.keep kw⟩) (k.trans kw) (m.freeze ev trivial h0 hs)⟩
      · exact ⟨σ', H', I1, hl.nx _ _ _ _ q r k m⟩
    · exact ⟨σ', H', I1, hl.nx _ _ _ _ q r k m⟩
  | brk => exact q
  | cont => exact q
  | ret u => exact q
end
/-! ### reversed(list) -/
/-! ### xs.clear() -/
/-! ### x += n -/
/-! ### two dicts that are alike -/
end L2.Dl

/-! DUse: steps for the unions, frozen lists, objects. -/
namespace L2.Dl
open PySem PySem.Spec PyProof.Rows
variable [Tb]
/-! ### stamps -/
abbrev Stp := Int × Str
def sD (s : Stp) : D := .tup [.int s.1, .str s.2]
/-! ### sorted(list of whole numbers, fewer than 64) -/
/-! ### in () -/
def cIn0 : W2 | _, e, M, Q => match e with
  | .tup [] => Q (.bl false) M
  | _ => False
def cNin0 : W2 | _, e, M, Q => match e with
  | .tup [] => Q (.bl true) M
  | _ => False
section
variable {X : Cx}
theorem o_in0 : OpD X (compareOp .In) cIn0 := by
  intro pins s σ H x y v u Q I rx ry ⟨d, e, M, Qd, hd, he, hm, hr, hl⟩
  match e, hr with
  | .tup [], hr =>
    obtain ⟨a, vs, rfl, t, rs⟩ := he
    cases rs
    cases (show u = _ from ry)
    obtain ⟨its, rv, p, hz⟩ := I.tuple t.sq
    cases rv
    exact SeqAt.in_tupleAt (fun _ => false) p (fun w hw => by simp at hw) ⟨.bl false, H, I, by show _ = _; simp, hl.val hm hr rfl⟩
theorem o_nin0 : OpD X (compareOp .NotIn) cNin0 := by
  intro pins s σ H x y v u Q I rx ry ⟨d, e, M, Qd, hd, he, hm, hr, hl⟩
  match e, hr with
  | .tup [], hr =>
    obtain ⟨a, vs, rfl, t, rs⟩ := he
    cases rs
    cases (show u = _ from ry)
    obtain ⟨its, rv, p, hz⟩ := I.tuple t.sq
    cases rv
    exact SeqAt.notIn_tupleAt (fun _ => false) p (fun w hw => by simp at hw) ⟨.bl true, H, I, by show _ = _; simp, hl.val hm hr rfl⟩
/-! in a list of data -/
def cInL : W2 | d, e, M, Q => ∃ p qs, dat M d = some p ∧ dat M e = some (.list qs) ∧ SeqAt.shaped p = true ∧ SeqAt.shaped (.list qs) = true ∧ Q (.bl (qs.any fun z => PyData.eqv z p)) M
def cNinL : W2 | d, e, M, Q => ∃ p qs, dat M d = some p ∧ dat M e = some (.list qs) ∧ SeqAt.shaped p = true ∧ SeqAt.shaped (.list qs) = true ∧ Q (.bl (!qs.any fun z => PyData.eqv z p)) M
theorem o_inL (hu : X.A.units + 65 < cLine) : OpD X (compareOp .In) cInL := by
  intro pins s σ H x y v u Q I rx ry ⟨d, e, M, Qd, hd, he, hm, ⟨p, qs, e1, e2, s1, s2, hr⟩, hl⟩
  exact op_inD hu pins s σ H x y v u Q I rx ry ⟨p, qs, dat_dp hm hd e1, dat_dp hm he e2, s1, s2, hl.val hm hr rfl⟩
theorem o_ninL (hu : X.A.units + 65 < cLine) : OpD X (compareOp .NotIn) cNinL := by
  intro pins s σ H x y v u Q I rx ry ⟨d, e, M, Qd, hd, he, hm, ⟨p, qs, e1, e2, s1, s2, hr⟩, hl⟩
  exact op_notInD hu pins s σ H x y v u Q I rx ry ⟨p, qs, dat_dp hm hd e1, dat_dp hm he e2, s1, s2, hl.val hm hr rfl⟩
def cInV : W2 := cInU.or (cIn0.or cInL)
def cNinV : W2 := cNinU.or (cNin0.or cNinL)
theorem units65 {k : Nat} {A : Around} (r : Room k A) : A.units + 65 < cLine := by have := r.un; omega
theorem o_inV (hu : X.A.units + 65 < cLine) : OpD X (compareOp .In) cInV := OpD.or (o_inU (by omega)) (OpD.or o_in0 (o_inL hu))
theorem o_ninV (hu : X.A.units + 65 < cLine) : OpD X (compareOp .NotIn) cNinV := OpD.or (o_ninU (by omega)) (OpD.or o_nin0 (o_ninL hu))
end
section
variable {env : Ev} {M M0 : Mp} {Q : DQ} {QA : List D → Mp → Prop} {nx bk ct : Ev → Mp → Prop} {rt : DQ} {wa wb wc we : WE} {wx wk : WA} {w : WS} {g : WG} {d e x y z : D} {ds es : List D} {A : Prop} {i j : Int} {a b p : Addr} {k : Bool} {s t : Str}
theorem z_g11 {Qe : Ev → Mp → Prop} {e0 e1 e2 e3 e4 e5 e6 e7 e8 e9 e10 e11 : Option D} (h : Qe (e0 :: e1 :: e2 :: e3 :: e4 :: e5 :: e6 :: e7 :: e8 :: e9 :: e10 :: some d :: env) M) : gN 11 d (e0 :: e1 :: e2 :: e3 :: e4 :: e5 :: e6 :: e7 :: e8 :: e9 :: e10 :: e11 :: env) M Qe := h
theorem z_v11 {e0 e1 e2 e3 e4 e5 e6 e7 e8 e9 e10 : Option D} (h : Q d M) : wVar 11 (e0 :: e1 :: e2 :: e3 :: e4 :: e5 :: e6 :: e7 :: e8 :: e9 :: e10 :: some d :: env) M Q := h
theorem z_g12 {Qe : Ev → Mp → Prop} {e0 e1 e2 e3 e4 e5 e6 e7 e8 e9 e10 e11 e12 : Option D} (h : Qe (e0 :: e1 :: e2 :: e3 :: e4 :: e5 :: e6 :: e7 :: e8 :: e9 :: e10 :: e11 :: some d :: env) M) : gN 12 d (e0 :: e1 :: e2 :: e3 :: e4 :: e5 :: e6 :: e7 :: e8 :: e9 :: e10 :: e11 :: e12 :: env) M Qe := h
theorem z_v12 {e0 e1 e2 e3 e4 e5 e6 e7 e8 e9 e10 e11 : Option D} (h : Q d M) : wVar 12 (e0 :: e1 :: e2 :: e3 :: e4 :: e5 :: e6 :: e7 :: e8 :: e9 :: e10 :: e11 :: some d :: env) M Q := h
theorem z_g13 {Qe : Ev → Mp → Prop} {e0 e1 e2 e3 e4 e5 e6 e7 e8 e9 e10 e11 e12 e13 : Option D} (h : Qe (e0 :: e1 :: e2 :: e3 :: e4 :: e5 :: e6 :: e7 :: e8 :: e9 :: e10 :: e11 :: e12 :: some d :: env) M) : gN 13 d (e0 :: e1 :: e2 :: e3 :: e4 :: e5 :: e6 :: e7 :: e8 :: e9 :: e10 :: e11 :: e12 :: e13 :: env) M Qe := h
theorem z_v13 {e0 e1 e2 e3 e4 e5 e6 e7 e8 e9 e10 e11 e12 : Option D} (h : Q d M) : wVar 13 (e0 :: e1 :: e2 :: e3 :: e4 :: e5 :: e6 :: e7 :: e8 :: e9 :: e10 :: e11 :: e12 :: some d :: env) M Q := h
theorem z_g14 {Qe : Ev → Mp → Prop} {e0 e1 e2 e3 e4 e5 e6 e7 e8 e9 e10 e11 e12 e13 e14 : Option D} (h : Qe (e0 :: e1 :: e2 :: e3 :: e4 :: e5 :: e6 :: e7 :: e8 :: e9 :: e10 :: e11 :: e12 :: e13 :: some d :: env) M) : gN 14 d (e0 :: e1 :: e2 :: e3 :: e4 :: e5 :: e6 :: e7 :: e8 :: e9 :: e10 :: e11 :: e12 :: e13 :: e14 :: env) M Qe := h
theorem z_v14 {e0 e1 e2 e3 e4 e5 e6 e7 e8 e9 e10 e11 e12 e13 : Option D} (h : Q d M) : wVar 14 (e0 :: e1 :: e2 :: e3 :: e4 :: e5 :: e6 :: e7 :: e8 :: e9 :: e10 :: e11 :: e12 :: e13 :: some d :: env) M Q := h
theorem z_g15 {Qe : Ev → Mp → Prop} {e0 e1 e2 e3 e4 e5 e6 e7 e8 e9 e10 e11 e12 e13 e14 e15 : Option D} (h : Qe (e0 :: e1 :: e2 :: e3 :: e4 :: e5 :: e6 :: e7 :: e8 :: e9 :: e10 :: e11 :: e12 :: e13 :: e14 :: some d :: env) M) : gN 15 d (e0 :: e1 :: e2 :: e3 :: e4 :: e5 :: e6 :: e7 :: e8 :: e9 :: e10 :: e11 :: e12 :: e13 :: e14 :: e15 :: env) M Qe := h
theorem z_v15 {e0 e1 e2 e3 e4 e5 e6 e7 e8 e9 e10 e11 e12 e13 e14 : Option D} (h : Q d M) : wVar 15 (e0 :: e1 :: e2 :: e3 :: e4 :: e5 :: e6 :: e7 :: e8 :: e9 :: e10 :: e11 :: e12 :: e13 :: e14 :: some d :: env) M Q := h
theorem z_eqsT (h : Q (.bl true) M) : cEq (.str s) (.str s) M Q := z_eqs (by rw [decide_eq_true rfl]; exact h)
theorem z_eqsF (n : ¬s = t) (h : Q (.bl false) M) : cEq (.str s) (.str t) M Q := z_eqs (by rw [decide_eq_false n]; exact h)
theorem z_nesT (h : Q (.bl false) M) : cNe (.str s) (.str s) M Q := z_nes (by rw [decide_eq_true rfl]; exact h)
theorem z_nesF (n : ¬s = t) (h : Q (.bl true) M) : cNe (.str s) (.str t) M Q := z_nes (by rw [decide_eq_false n]; exact h)
theorem z_sd0 {s : Stp} (h : Q (.int s.1) M) : bIxU (sD s) (.int 0) M Q := .inl (z_ix0 h)
theorem z_sd1 {s : Stp} (h : Q (.str s.2) M) : bIxU (sD s) (.int 1) M Q := .inl (z_ix1 h)
theorem z_isd {s : Stp} (h : Q (.bl true) M) : fIsi [sD s, .ty "tuple"] M Q := z_is_tup_tuple h
theorem z_fsd {s : Stp} (h : Q (sD s) M) : frzR (sD s) M Q := h
theorem z_gsd {gs : WGs} {s : Stp} {Qe : Ev → Mp → Prop} (h : gs [.int s.1, .str s.2] env M Qe) : gTu 2 gs (sD s) env M Qe := ⟨rfl, h⟩
theorem z_abs (h : Q (.int (if i < 0 then -i else i)) M) : fAbs [.int i] M Q := h
/-! ### x[i] -/
theorem z_uix (h : bIx x y M Q) : bIxU x y M Q := .inl h
theorem z_uixc {n : Int} (e : L2.atI ds n = some d) (h : Q d M) : bIxU (.clst ds) (.int n) M Q := .inl (by rw [bIx_clst]; exact ⟨d, e, h⟩)
theorem z_uixl {n : Int} (e1 : M a = some (.lst ds)) (e : L2.atI ds n = some d) (h : Q d M) : bIxU (.ref a) (.int n) M Q := .inl (z_ixl e1 e h)
theorem z_ut0 (h : Q d M) : bIxU (.tup (d :: ds)) (.int 0) M Q := .inl (z_ix0 h)
theorem z_ut1 (h : Q x M) : bIxU (.tup (d :: x :: ds)) (.int 1) M Q := .inl (z_ix1 h)
theorem z_ut2 (h : Q y M) : bIxU (.tup (d :: x :: y :: ds)) (.int 2) M Q := .inl (z_ix2 h)
theorem z_ut3 (h : Q z M) : bIxU (.tup (d :: x :: y :: z :: ds)) (.int 3) M Q := .inl (z_ix3 h)
theorem z_uc0 (h : Q d M) : bIxU (.clst (d :: ds)) (.int 0) M Q := z_uixc (by rw [atI_0]) h
/-! ### in -/
theorem z_uint (h1 : flatV (flv x) = true) (h2 : flats ds = true) (h : Q (.bl (inV (flv x) (ds.map flv))) M) : cInV x (.tup ds) M Q := .inl <| .inl ⟨h1, h2, h⟩
theorem z_uninl (e1 : M a = some (.lst ds)) (h1 : flatV (flv x) = true) (h2 : flats ds = true) (h : Q (.bl (!inV (flv x) (ds.map flv))) M) : cNinV x (.ref a) M Q := .inl <| .inl (by
  unfold cNotIn inR
  dsimp only
  rw [e1]
  exact ⟨h1, h2, h⟩)
theorem z_uin0 (h : Q (.bl false) M) : cInV x (.tup []) M Q := .inr (.inl h)
theorem z_unin0 (h : Q (.bl true) M) : cNinV x (.tup []) M Q := .inr (.inl h)
/-! ### o[i] = x -/
theorem z_ustl {n : Nat} {R : Mp → Prop} (e1 : M a = some (.lst ds)) (hn : ixN ds.length i = some n) (h : Put M a (.lst (ds.set n x)) R) : stU (.ref a) (.int i) x M R := .inl ⟨ds, n, e1, hn, h⟩
theorem z_ustK {kvs : List (Key × D)} {key : Key} {R : Mp → Prop} (e1 : M a = some (.dK kvs)) (hk : keyD y = some key) (hz : kvs.length < sizeLine) (h : Put M a (.dK (putD kvs key x)) R) : stU (.ref a) y x M R := .inr (.inl (by unfold stK; dsimp only; rw [hk]; exact ⟨kvs, e1, hz, h⟩))
/-! ### d.get -/
theorem z_mta {tbl : List (String × WM)} (h : wa env M fun d m => mtR tbl d m fun r => wx env m fun ds m2 => r d ds m2 Q) : wMtA tbl wa wx env M Q := h
/-! ### len -/
theorem z_ult (h : Q (.int ds.length) M) : fLenU [.tup ds] M Q := .inl h
theorem z_ulc (h : Q (.int ds.length) M) : fLenU [.clst ds] M Q := .inl h
theorem z_uls (hz : s.length ≤ sizeLine) (h : Q (.int s.length) M) : fLenU [.str s] M Q := .inl ⟨hz, h⟩
theorem z_ull (e1 : M a = some (.lst ds)) (h : Q (.int ds.length) M) : fLenU [.ref a] M Q := .inl (by unfold fLen; dsimp only; rw [e1]; exact h)
/-! ### walks -/
variable {R : (Mp → Prop) → List D → Mp → Prop} {q : (Mp → Prop) → List D → Prop}
theorem z_ita (h : we env M fun d m => anyD d m fun ok ds => R ok ds m) : itA we env M R := h
theorem z_ant (h : q (fun _ => True) ds) : anyD (.tup ds) M q := h
theorem z_anc (h : q (fun _ => True) ds) : anyD (.clst ds) M q := h
theorem z_ite0 (h : wx env M fun ds m => match ds with
  | [d] => ∃ xs, lstOf d m = some xs ∧ R (fun M' => lstOf d M' = some xs) (enumD xs) m
  | _ => False) : itEnum wx env M R := h
theorem z_enc (h : R (fun M' => lstOf (.clst ds) M' = some ds) (enumD ds) M) : ∃ xs, lstOf (.clst ds) M = some xs ∧ R (fun M' => lstOf (.clst ds) M' = some xs) (enumD xs) M := ⟨ds, rfl, h⟩
/-! ### lists -/
theorem z_slc {lo hi : Option Int} (h : New M (.lst (cutL ds lo hi)) fun p m => Q (.ref p) m) : slR (.clst ds) lo hi M Q := ⟨ds, rfl, h⟩
theorem z_sls' {lo hi : Option Int} (hz : s.length ≤ sizeLine) (h : Q (.str (cutS s lo hi)) M) : slR (.str s) lo hi M Q := ⟨hz, h⟩
/-! ### x = [..], known from here on -/
theorem frzS_of {i : Nat} (hi : i < env.length) (h : frzR d M fun d m => gN i d env m nx) : gN i d env M (frzS i nx) := by
  show frzS i nx (env.set i (some d)) M
  unfold frzS
  rw [List.getElem?_set_self hi]
  cases d with
  | ref a =>
    rcases h with ⟨ds, M0, e1, h0, hs, q⟩ | q
    · refine .inl ⟨ds, M0, e1, h0, hs, ?_⟩
      rw [List.set_set]
      exact q
    · exact .inr q
  | _ => exact h
theorem z_frzs {i : Nat} {w : WS} (h : w ⟨frzS i nx, rt, bk, ct⟩ env M) : wFrzS i w ⟨nx, rt, bk, ct⟩ env M := h
/-! ### objects -/
theorem z_fld {ns : List Str} {f : Str} (h : we env M fun d m => fldR ns f d m Q) : wFld ns f we env M Q := h
theorem z_setf {ns : List Str} {f : Str} {wo wv : WE} (h : wv env M fun d m => wo env m fun o m2 => setR ns f d o m2 (nx env)) : wSetF ns f wo wv ⟨nx, rt, bk, ct⟩ env M := h
theorem z_meth {m : Str} {tbl : List (Str × WB)} {wo : WE} (h : wo env M fun d m1 => mthR m tbl d m1 fun a B => wx env m1 fun ds m2 => wk env m2 fun zs m3 => B (.ref a :: ds) zs m3 Q) : wMeth m tbl wo wx wk env M Q := h
theorem z_bind {W : WC} {n m : Nat} {sel : List SrcD} {zs : List D} (h1 : ds.length = n) (h2 : zs.length = m) (h : W (sel.map (SrcD.D ds zs)) M Q) : bindW W n m sel ds zs M Q := ⟨h1, h2, h⟩
theorem z_make {n : Str} {B : WB} (h : wx env M fun ds m1 => wk env m1 fun zs m2 => New m2 (.ins n []) fun p m3 => B (.ref p :: ds) zs m3 fun d m4 => d = .non ∧ Q (.ref p) m4) : wMake n B wx wk env M Q := h
end
/-! ### maps -/
def Mp.del (M : Mp) (t : Addr) : Mp := fun a => if a = t then none else M a
theorem del_self {M : Mp} {t : Addr} : M.del t t = none := if_pos rfl
theorem del_ne {M : Mp} {t a : Addr} (h : a ≠ t) : M.del t a = M a := if_neg h
theorem del_sub {M : Mp} {t : Addr} : Sub (M.del t) M := fun a o e => by
  by_cases h : a = t
  · subst h; rw [del_self] at e; cases e
  · rw [del_ne h] at e; exact e
theorem del_fr {M M' : Mp} {S : List Addr} {t : Addr} (ht : M t = none) (f : Fr S M M') : Fr S M (M'.del t) := fun a o n e => by
  rw [del_ne (fun z => by subst z; rw [ht] at e; cases e)]
  exact f a o n e
theorem frz_del {M : Mp} {t : Addr} {ds : List D} {Q : DQ} (e : M t = some (.lst ds)) (h : Q (.clst ds) (M.del t)) : frzR (.ref t) M Q := .inl ⟨ds, _, e, del_self, del_sub, h⟩
/-! ### comprehensions, frozen -/
section
variable {ok : Mp → Prop} {g : WG} {wt : WT} {we : WE} {env0 : Ev} {Q : DQ} {items : List D} {M : Mp}
/-- items are told one after the other by what may change S; P tells of the list so far and of the map without it -/
theorem lcG_inv (S : List Addr) (P : Nat → List D → Mp → Prop) (hS : ∀ a ∈ S, M a ≠ none) (hz : items.length ≤ 1000) (hok : ∀ M1, Fr S M M1 → ok M1)
    (hst : ∀ t, M t = none → ∀ k ds M1 M2, Fr [t] M1 M2 → P k ds M1 → P k ds M2) (hd : ∀ t, M t = none → ∀ k ds M1, Fr S M M1 → P k ds M1 → P k ds (M1.del t)) (h0 : P 0 [] M)
    (step : ∀ k ds d M1 (R : Bool → D → Mp → Prop), items[k]? = some d → Fr S M M1 → P k ds M1 →
      (∀ x M2, Fr S M1 M2 → P (k + 1) (ds ++ [x]) M2 → R true x M2) → (∀ x M2, Fr S M1 M2 → P (k + 1) ds M2 → R false x M2) →
      g d env0 M1 fun env2 M2 => wt env2 M2 fun b M3 => if b = true then we env2 M3 (R true) else R false .non M3)
    (q : ∀ t m ds, M t = none → m t = some (.lst ds) → ds.length ≤ items.length → P items.length ds (m.del t) → Fr S M (m.del t) → Q (.ref t) m) : New M (.lst []) fun p m => runLc ok g wt we env0 p Q items m := by
  intro t M1 ht et ft
  have tS : t ∉ S := fun z => hS t z ht
  refine run_lc (fun k M2 => ∃ ds, ds.length ≤ k ∧ M2 t = some (.lst ds) ∧ P k ds M2 ∧ Fr S M (M2.del t) ∧ Fr (t :: S) M M2) ⟨[], Nat.le_refl _, et, hst t ht _ _ _ _ ft.nil h0, del_fr ht ft.nil, ft.nil⟩ (fun k d r M2 hdr hP next => ?_) fun M2 hP => ?_
  · obtain ⟨ds, hl, e2, p2, f2, f2'⟩ := hP
    have hk : k < items.length := by
      by_cases z : k < items.length
      · exact z
      · rw [List.drop_of_length_le (by omega)] at hdr; cases hdr
    have hget : items[k]? = some d := by
      have := congrArg (fun z => z[0]?) hdr
      simpa using this
    have f2S : Fr S M M2 := fun a o n e => by
      refine f2' a o (fun z => ?_) e
      rcases List.mem_cons.mp z with z | z
      · subst z; rw [ht] at e; cases e
      · exact n z
    refine ⟨hok _ f2S, ?_⟩
    have key := step k ds d M2 (fun b y M4 => if b = true then ∃ acc, M4 t = some (.lst acc) ∧ acc.length < sizeLine ∧ Put M4 t (.lst (acc ++ [y])) fun M5 => runLc ok g wt we env0 t Q r M5 else runLc ok g wt we env0 t Q r M4)
      hget f2S p2 (fun x M3 f3 p3 => ?_) fun x M3 f3 p3 => ?_
    · exact key
    · rw [if_pos rfl]
      refine ⟨ds, f3 _ _ tS e2, Nat.lt_of_lt_of_le (Nat.lt_of_le_of_lt hl (Nat.lt_of_lt_of_le hk hz)) (by decide), fun M5 e5 f5 => next _ ⟨ds ++ [x], by rw [List.length_append]; exact Nat.succ_le_succ hl, e5, hst t ht _ _ _ _ f5 p3, del_fr ht ?_, ?_⟩⟩
      · intro a o n e
        have ha : a ≠ t := fun z => by subst z; rw [ht] at e; cases e
        exact f5 _ _ (by simpa using ha) (f3 _ _ n (f2S _ _ n e))
      · intro a o n e
        have ha : a ≠ t := fun z => n (by rw [z]; exact List.mem_cons_self)
        have hn : a ∉ S := fun z => n (List.mem_cons_of_mem _ z)
        exact f5 _ _ (by simpa using ha) (f3 _ _ hn (f2S _ _ hn e))
    · rw [if_neg Bool.false_ne_true]
      have f4 : Fr S M M3 := fun a o n e => f3 _ _ n (f2S _ _ n e)
      exact next _ ⟨ds, Nat.le_succ_of_le hl, f3 _ _ tS e2, p3, del_fr ht f4, f4.mono fun x hx => List.mem_cons_of_mem _ hx⟩
  · obtain ⟨ds, hl, e2, p2, f2, f2'⟩ := hP
    have f2S : Fr S M M2 := fun a o n e => by
      refine f2' a o (fun z => ?_) e
      rcases List.mem_cons.mp z with z | z
      · subst z; rw [ht] at e; cases e
      · exact n z
    exact ⟨hok _ f2S, q t M2 ds ht e2 hl (hd t ht _ _ _ f2S p2) f2⟩
/-- items and test plain: nothing changes -/
theorem lcG_sift (c : D → Bool) (f : D → D) (hz : items.length ≤ 1000) (hok : ∀ M1, Fr [] M M1 → ok M1)
    (ht : ∀ d M1 (R : Bool → D → Mp → Prop), d ∈ items → Fr [] M M1 → (c d = true → R true (f d) M1) → (c d = false → R false .non M1) →
      g d env0 M1 fun env2 M2 => wt env2 M2 fun b M3 => if b = true then we env2 M3 (R true) else R false .non M3)
    (q : ∀ t m, M t = none → m t = some (.lst ((items.filter c).map f)) → Fr [] M m → Q (.ref t) m) : New M (.lst []) fun p m => runLc ok g wt we env0 p Q items m := by
  intro t M1 hn et ft
  have key : ∀ (items : List D) (acc : List D) (M2 : Mp), (∀ d ∈ items, d ∈ items) → acc.length + items.length ≤ 1000 → M2 t = some (.lst acc) → Fr [] M (M2) → (∀ d M1 (R : Bool → D → Mp → Prop), d ∈ items → Fr [] M M1 → (c d = true → R true (f d) M1) → (c d = false → R false .non M1) →
      g d env0 M1 fun env2 M2 => wt env2 M2 fun b M3 => if b = true then we env2 M3 (R true) else R false .non M3) → (∀ m, m t = some (.lst (acc ++ (items.filter c).map f)) → Fr [] M m → Q (.ref t) m) → runLc ok g wt we env0 t Q items M2 := by
    intro items
    induction items with
    | nil =>
      intro acc M2 _ hl e2 f2 _ hq
      exact ⟨hok _ f2, hq _ (by simpa using e2) f2⟩
    | cons d r ih =>
      intro acc M2 _ hl e2 f2 hstep hq
      simp only [List.length_cons] at hl
      refine ⟨hok _ f2, ?_⟩
      refine hstep d M2 (fun b y M4 => if b = true then ∃ acc, M4 t = some (.lst acc) ∧ acc.length < sizeLine ∧ Put M4 t (.lst (acc ++ [y])) fun M5 => runLc ok g wt we env0 t Q r M5 else runLc ok g wt we env0 t Q r M4) List.mem_cons_self f2 (fun hc => ?_) fun hc => ?_
      · rw [if_pos rfl]
        refine ⟨acc, e2, Nat.lt_of_lt_of_le (by omega : acc.length < 1000) (by decide), fun M5 e5 f5 => ih _ _ (fun _ h => h) (by rw [List.length_append]; simp only [List.length_cons, List.length_nil]; omega) e5 (Fr.drop hn f2 f5) (fun d M1 R hd => hstep d M1 R (List.mem_cons_of_mem _ hd)) ?_⟩
        rw [List.filter_cons_of_pos hc] at hq
        rw [List.append_assoc]
        exact hq
      · rw [if_neg Bool.false_ne_true]
        refine ih _ _ (fun _ h => h) (by omega) e2 f2 (fun d M1 R hd => hstep d M1 R (List.mem_cons_of_mem _ hd)) ?_
        rw [List.filter_cons_of_neg (by rw [hc]; exact Bool.false_ne_true)] at hq
        exact hq
  exact key items [] M1 (fun _ h => h) (by simpa using hz) et ft ht (fun m e f => q t m hn (by simpa using e) f)
/-- the same, frozen -/
theorem lcF_inv (S : List Addr) (P : Nat → List D → Mp → Prop) (hS : ∀ a ∈ S, M a ≠ none) (hz : items.length ≤ 1000) (hok : ∀ M1, Fr S M M1 → ok M1)
    (hst : ∀ t, M t = none → ∀ k ds M1 M2, Fr [t] M1 M2 → P k ds M1 → P k ds M2) (hd : ∀ t, M t = none → ∀ k ds M1, Fr S M M1 → P k ds M1 → P k ds (M1.del t)) (h0 : P 0 [] M)
    (step : ∀ k ds d M1 (R : Bool → D → Mp → Prop), items[k]? = some d → Fr S M M1 → P k ds M1 →
      (∀ x M2, Fr S M1 M2 → P (k + 1) (ds ++ [x]) M2 → R true x M2) → (∀ x M2, Fr S M1 M2 → P (k + 1) ds M2 → R false x M2) →
      g d env0 M1 fun env2 M2 => wt env2 M2 fun b M3 => if b = true then we env2 M3 (R true) else R false .non M3)
    (q : ∀ ds M', ds.length ≤ items.length → P items.length ds M' → Fr S M M' → Q (.clst ds) M') : New M (.lst []) fun p m => runLc ok g wt we env0 p (fun d m => frzR d m Q) items m :=
  lcG_inv S P hS hz hok hst hd h0 step fun t m ds _ e hl p f => frz_del e (q ds _ hl p f)
theorem lcF_sift (c : D → Bool) (f : D → D) (hz : items.length ≤ 1000) (hok : ∀ M1, Fr [] M M1 → ok M1)
    (ht : ∀ d M1 (R : Bool → D → Mp → Prop), d ∈ items → Fr [] M M1 → (c d = true → R true (f d) M1) → (c d = false → R false .non M1) →
      g d env0 M1 fun env2 M2 => wt env2 M2 fun b M3 => if b = true then we env2 M3 (R true) else R false .non M3)
    (q : Q (.clst ((items.filter c).map f)) M) : New M (.lst []) fun p m => runLc ok g wt we env0 p (fun d m => frzR d m Q) items m :=
  lcG_sift c f hz hok ht fun t m ht e f => frz_new ht e f q
/-- items drawn from what may change -/
theorem lcF_draw (S : List Addr) (I : Mp → Prop) (C : D → Prop) (hS : ∀ a ∈ S, M a ≠ none) (hz : items.length ≤ 1000) (hok : ∀ M1, Fr S M M1 → ok M1)
    (hst : ∀ t, M t = none → ∀ M1 M2, Fr [t] M1 M2 → I M1 → I M2) (hd : ∀ t, M t = none → ∀ M1, I M1 → I (M1.del t)) (h0 : I M)
    (step : ∀ d M1 (R : DQ), d ∈ items → Fr S M M1 → I M1 → (∀ x M2, C x → Fr S M1 M2 → I M2 → R x M2) → g d env0 M1 fun env2 M2 => we env2 M2 R)
    (q : ∀ ds M', ds.length = items.length → (∀ x ∈ ds, C x) → I M' → Fr S M M' → Q (.clst ds) M') : New M (.lst []) fun p m => runLc ok g wYes we env0 p (fun d m => frzR d m Q) items m :=
  lcF_inv S (fun k ds M1 => ds.length = k ∧ (∀ x ∈ ds, C x) ∧ I M1) hS hz hok (fun t ht k ds M1 M2 f h => ⟨h.1, h.2.1, hst t ht M1 M2 f h.2.2⟩) (fun t ht k ds M1 _ h => ⟨h.1, h.2.1, hd t ht M1 h.2.2⟩) ⟨rfl, fun _ h => (nomatch h), h0⟩
    (fun k ds d M1 R hk f1 h q1 _ => step d M1 _ (List.mem_of_getElem? hk) f1 h.2.2 fun x M2 hx f2 i2 => q1 x M2 f2 ⟨by rw [List.length_append, h.1]; rfl, fun y hy => by
      rcases List.mem_append.mp hy with hy | hy
      · exact h.2.1 y hy
      · rw [List.mem_singleton.mp hy]; exact hx, i2⟩)
    fun ds M' _ h f => q ds M' h.1 h.2.1 h.2.2 f
theorem lcF_map (f : D → D) (hz : items.length ≤ 1000) (hok : ∀ M1, Fr [] M M1 → ok M1)
    (hw : ∀ d M1 (R : DQ), d ∈ items → Fr [] M M1 → R (f d) M1 → g d env0 M1 fun env2 M2 => we env2 M2 R)
    (q : Q (.clst (items.map f)) M) : New M (.lst []) fun p m => runLc ok g wYes we env0 p (fun d m => frzR d m Q) items m := by
  refine lcF_sift (fun _ => true) f hz hok (fun d M1 R hd f1 h1 _ => ?_) ?_
  · exact hw d M1 _ hd f1 (h1 rfl)
  · have : (items.filter fun _ => true) = items := by simp
    rw [this]; exact q
end
/-! ### {k: x, ..}, keys tuples that are not alike -/
end L2.Dl

/-! DSortT: sorted(xs), the items tuples whose first part is a stamp, no two stamps alike. -/
namespace L2.Dl
open PySem PySem.Spec PyProof.Rows PySem.W PySem.Calls
variable [Tb]
section
variable {h : Heap} {us : List Value} {ds : List D}
end
end L2.Dl
/-! ### a, b, c = a list or a tuple -/
namespace L2.Dl
open PySem PySem.Spec PyProof.Rows
variable [Tb]
section
variable {prog : Program} {w : World} {A : Around} {E : Value → Shared → Prop} {b : Bool} {l : Addr} {xs : Array Value}
end
section
variable {X : Cx} {pos : Pos}
end
end L2.Dl

/-! DMap: d.get(text), d a dict of tuples; list(d); dicts compared; d.clear(); stamps compared. -/
namespace L2.Dl
open PySem PySem.Spec PyProof.Rows PySem.W
variable [Tb]
/-! ### a text looked up where all keys are tuples -/
section
variable {prog : Program} {w : World} {A : Around} {E : Value → Shared → Prop} {s : Shared}
end
section
variable {X : Cx}
/-! ### d.clear() -/
/-! ### dicts compared, whatever the order of their keys -/
/-! ### stamps compared -/
/-! ### list(d), d a dict of tuples -/
end
end L2.Dl

/-! DSortD: sorted(xs), xs a list of stamps, or a dict of these. -/
namespace L2.Dl
open PySem PySem.Spec PyProof.Rows PySem.W PySem.Calls
variable [Tb]
section
variable {X : Cx}
/-! ### sorted(d) -/
end
end L2.Dl

/-! DDic: a, b, c = x, y, z -/
namespace L2.Dl
open PySem PySem.Spec PyProof.Rows
section
variable [Tb] {X : Cx} {a b c : Expr} {wx : WA} {pos : Pos}
def wPar3 (i j l : Nat) (wx : WA) : WS | E, env, M => wx env M fun ds M1 => match ds with
  | [d, e, f] => E.nx (((env.set i (some d)).set j (some e)).set l (some f)) M1
  | _ => False
theorem z_par3 {env : Ev} {M : Mp} {nx bk ct : Ev → Mp → Prop} {rt : DQ} {i j l : Nat} {wa wb wc : WE} (h : wa env M fun d m => wb env m fun e m2 => wc env m2 fun f m3 => gN i d env m3 fun env1 m4 => gN j e env1 m4 fun env2 m5 => gN l f env2 m5 nx) : wPar3 i j l (wCons wa (wCons wb (wCons wc wNil))) ⟨nx, rt, bk, ct⟩ env M := h
/-! ### max of two stamps -/
end
end L2.Dl

/-! DIt: sorted(d.items()), keys and values pairs of a number and a text. -/
namespace L2.Dl
open PySem PySem.Spec PyProof.Rows L2.DX
section
variable [Tb] {X : Cx}
/-- tuples already laid are tracked -/
theorem takeT2 {pins : List (Addr × Obj)} {σ : St} {H0 : Hp} {s : Shared} {h' : Heap} {tk : Nat} {P : Hp → Prop} (I0 : Inv X pins σ H0 s) : ∀ (L : List (Addr × List V)) (H1 : Hp), (∀ x ∈ L, ∀ H, P H → H x.1 = none → P (upd H x.1 (.tup x.2))) → P H1 → Inv X pins σ H1 { s with heap := h', toks := tk } → (L.map (·.1)).Nodup →
    (∀ x ∈ L, s.heap.objs.size ≤ x.1 ∧ H1 x.1 = none ∧ ∀ H2, ObjOk X.prog X.w H2 h' x.1 (.tup x.2)) →
    ∃ H2, P H2 ∧ Inv X pins σ H2 { s with heap := h', toks := tk } ∧ (∀ b o, H1 b = some o → H2 b = some o) ∧ ∀ x ∈ L, H2 x.1 = some (.tup x.2)
  | [], H1, _, hp, I1, _, _ => ⟨H1, hp, I1, fun _ _ e => e, fun _ h => nomatch h⟩
  | x :: L, H1, hP, hp, I1, hn, h => by
    obtain ⟨hb, hnone, ok⟩ := h x List.mem_cons_self
    have I2 : Inv X pins σ (upd H1 x.1 (.tup x.2)) { s with heap := h', toks := tk } := I1.take (h' := h') (t' := tk) (fun b ob _ e => e) (I0.fpOk hb hnone) (ok _)
    rw [List.map_cons, List.nodup_cons] at hn
    obtain ⟨H2, p2, I3, g, q⟩ := takeT2 I0 L (upd H1 x.1 (.tup x.2)) (fun y hy => hP y (List.mem_cons_of_mem _ hy)) (hP x List.mem_cons_self _ hp hnone) I2 hn.2 fun y hy => by
      obtain ⟨c1, c2, c3⟩ := h y (List.mem_cons_of_mem _ hy)
      refine ⟨c1, ?_, c3⟩
      rw [upd_ne (fun z => hn.1 (by rw [← z]; exact List.mem_map.mpr ⟨y, hy, rfl⟩))]
      exact c2
    refine ⟨H2, p2, I3, fun b o e => g b o (by rw [upd_ne (ne_of_none e hnone)]; exact e), fun y hy => ?_⟩
    rcases List.mem_cons.mp hy with rfl | hy
    · exact g _ _ upd_same
    · exact q y hy
end
end L2.Dl

/-! DRg: list(range(n)). -/
namespace L2.Dl
open PySem PySem.Spec PyProof.Rows
section
variable [Tb] {X : Cx}
/-! ### max of a list of numbers -/
end
end L2.Dl

/-! DIx: xs.index(y), y any data that stands in the list. -/
namespace L2.Dl
open PySem PySem.Spec PyProof.Rows
section
variable [Tb] {X : Cx}
/-! stamps compared -/
end
end L2.Dl

/-! DSj: sorted(whole numbers), as many as one likes. -/
namespace L2.Dl
open PySem PySem.Spec PyProof.Rows PySem.W
variable [Tb]
section
variable {X : Cx}
end
end L2.Dl

/-! DDp: dict([(k, v), ..]), keys tuples that are not alike. -/
namespace L2.Dl
open PySem PySem.Spec PyProof.Rows
variable [Tb]
section
variable {prog : Program} {w : World} {A : Around} {E : Value → Shared → Prop}
end
/-! the rule -/
section
variable {X : Cx}
end
end L2.Dl

/-! DItT: sorted(d.items()), the keys stamps, the values whatever they are. -/
namespace L2.Dl
open PySem PySem.Spec PyProof.Rows L2.DX
variable [Tb]
section
variable {X : Cx}
end
end L2.Dl

/-! DNo: None, or a text, looked for in a dict whose keys are tuples: it isn't there. -/
namespace L2.Dl
open PySem PySem.Spec PyProof.Rows
section
variable {prog : Program} {w : World} {A : Around} {E : Value → Shared → Prop} {s : Shared}
end
section
variable [Tb] {X : Cx}
end
end L2.Dl

/-! DGt: text > text. -/
namespace L2.Dl
open PySem PySem.Spec PyProof.Rows
section
variable [Tb] {X : Cx}
end
end L2.Dl

/-! DTd: d.get(text, x), d a dict of tuples. -/
namespace L2.Dl
open PySem PySem.Spec PyProof.Rows PySem.W
variable [Tb]
section
variable {prog : Program} {w : World} {A : Around} {E : Value → Shared → Prop} {s : Shared}
end
section
variable {X : Cx}
/-! ### an emptied dict is an empty one -/
end
/-! ### what kind of goal -/
section
variable {env : Ev} {M : Mp} {Q : DQ}
theorem z_isWS {w : WS} {E : DEnds} (h : w E env M) : w E env M := h
theorem z_isWE {w : WE} (h : w env M Q) : w env M Q := h
theorem z_isWA {w : WA} {R : List D → Mp → Prop} (h : w env M R) : w env M R := h
theorem z_isWT {w : WT} {R : Bool → Mp → Prop} (h : w env M R) : w env M R := h
theorem z_isgN {i : Nat} {d : D} {R : Ev → Mp → Prop} (h : gN i d env M R) : gN i d env M R := h
theorem z_isV {i : Nat} (h : wVar i env M Q) : wVar i env M Q := h
theorem z_isW2 {o : W2} {x y : D} (h : o x y M Q) : o x y M Q := h
theorem z_isWC {o : WC} {ds : List D} (h : o ds M Q) : o ds M Q := h
theorem z_isI {ds : List D} (h : fIsi ds M Q) : fIsi ds M Q := h
theorem z_isF {d : D} (h : frzR d M Q) : frzR d M Q := h
end
end L2.Dl

/-! DEx: xs.extend(ys), ys any list that nobody changes. -/
namespace L2.Dl
open PySem PySem.Spec PyProof.Rows
section

theorem list_extend_gen (l : Addr) (items : Array Value) (n : Nat) (b : Addr) (items2 : Array Value) (n2 : Nat) (o : Obj) (h1 : o.cls = .type "list") (h2 : o.data = .seq items2 n2) (hc0 : ¬(!items.isEmpty && Builtin.List.listTooLong (items.size + items2.size)) = true) (hc1 : items.size ≤ sizeLine) (hs2 : items.size + items2.size ≤ sizeLine + 1) :
    Meets (Builtin.«list.extend» ⟨[.ref l, .ref b], []⟩) (fun _ R s => s.heap.get? l = some { cls := .type "list", dict := none, data := .seq items n, slots := #[] } ∧ s.heap.get? b = some o ∧ R (.ok (.ret Value.none)) { s with heap := s.heap.update l (Obj.mapSeq fun x => x ++ items2), toks := s.toks }) :=
  .of_wp fun prog w A R s h => by
    obtain ⟨cls, dict, data, slots⟩ := o
    dsimp only at h1 h2
    subst h1 h2
    obtain ⟨hp, g, d, tk, os⟩ := s; obtain ⟨hl, hb, h⟩ := h; have f1 := AutoSeq1.idx_int; have f2 := AutoSeq1.sub_tuple_tuple; have f3 := AutoSeq1.sub_list_list; have f4 := AutoSeq1.sub_tuple_list; have f5 := AutoSeq1.sub_list_tuple;
    have hz' : (items ++ items2).size ≤ sizeLine + 1 := by rw [Array.size_append]; exact hs2
    wp_walk using (wpAny_updateSeq hl rfl (hz := hc1) (_hz' := hz')), AutoSeq1.wpAny_loadPart' hl, AutoSeq1.wpAny_loadPart' hb; exact ⟨_, rfl, h⟩
end
section
variable [Tb] {X : Cx}
def rExtendS (K : PySem.W.Frag) : V → List V → Hp → VK → Prop := fun x vs H Q => ∃ l b xs zs, x = .ref l ∧ vs = [.ref b] ∧ H l = some (.lst xs) ∧ SqL K H b zs ∧ xs.length + zs.length ≤ sizeLine ∧ Q .non (upd H l (.lst (xs ++ zs)))
theorem mt_extendS : MtM X "list.extend" (rExtendS X.K) := by
  intro pins s σ H x vs v us Q I rx rv h
  obtain ⟨l, b, xs, zs, rfl, rfl, hH, hB, hz, q⟩ := h
  cases rx
  obtain ⟨u, rfl, ru⟩ := rv.one
  cases ru
  obtain ⟨z, its, n, r, hl, e⟩ := I.lstM hH
  obtain ⟨its2, r2, ⟨o, n2, e2, g1, _, g2⟩, z2⟩ := I.list hB
  have hl2 := r2.length
  have hsz : its.toArray.size + its2.toArray.size ≤ sizeLine := by rw [List.size_toArray, List.size_toArray]; omega
  have hlong : ¬ (!its.toArray.isEmpty && Builtin.List.listTooLong (its.toArray.size + its2.toArray.size)) = true := by
    rw [notLongL hsz, Bool.and_false]
    exact Bool.false_ne_true
  refine call_meets F.slot_list_extend ⟨_, e, rfl⟩ F.entry_list_extend (F.args_list_extend_2 _ _)
    (list_extend_gen l its.toArray n b its2.toArray n2 o g1 g2 hlong (by rw [List.size_toArray]; omega) (by omega)) ⟨e, e2, ?_⟩
  refine ⟨.non, _, I.lset (its' := its ++ its2) hH e (by simp) (r.append r2) ?_, rfl, q⟩
  rw [List.length_append]
  omega
def mExtendC : WM | d, ds, M, Q => match d, ds with
  | .ref a, [y] => ∃ es zs, M a = some (.lst es) ∧ lstOf y M = some zs ∧ es.length + zs.length ≤ sizeLine ∧ Put M a (.lst (es ++ zs)) fun M2 => Q .non M2
  | _, _ => False
theorem m_extendC : MtD X "list.extend" mExtendC := by
  intro pins s σ H x xs v us Q I rx rs ⟨d, ds, M, Qd, hd, hds, hm, hr, hl⟩
  match d, ds, hr with
  | .ref a, [y], ⟨es, zs, h1, h2, hz, q⟩ =>
    obtain ⟨w, rfl, hw⟩ := rel1 hds
    obtain ⟨vs, e1, r1⟩ := hm _ _ h1
    obtain ⟨b, ws, rfl, e2, r2⟩ := lst_of hm hw h2
    have kw : Keep H (upd H a (.lst (vs ++ ws))) := .write e1 trivial
    exact mt_extendS pins s σ H _ _ v us Q I rx rs ⟨a, b, vs, ws, hd, rfl, e1, e2, by rw [← r1.len, ← r2.len]; exact hz,
      hl _ _ _ _ q.at rfl kw (RelM.write (o := .lst (es ++ zs)) hm e1 trivial ⟨_, upd_same, (r1.keep kw).app (r2.keep kw)⟩)⟩
end
end L2.Dl
/-! ### a dict of texts that nobody changes any more is a tree -/
namespace L2.Dl
open PySem PySem.Spec PyProof.Rows
section
variable [Tb]
theorem kv_split {K : PySem.W.Frag} {H : Hp} : ∀ {kds : List (Key × D)} {kvs : List (Key × V)}, RelKv K H kds kvs → kds.map (·.1) = kvs.map (·.1) ∧ RelDs K H (kds.map (·.2)) (kvs.map (·.2))
  | [], _, r => by cases r; exact ⟨rfl, rfl⟩
  | p :: kds, _, r => by
    cases r with
    | cons h t =>
      obtain ⟨e, q⟩ := kv_split t
      exact ⟨by rw [List.map_cons, List.map_cons, e, h.1], .cons h.2 q⟩
theorem kv_join {K : PySem.W.Frag} {H : Hp} : ∀ {ks : List Key} {ds : List D} {vs : List V}, ks.length = ds.length → RelDs K H ds vs → RelKv K H (ks.zip ds) (ks.zip vs)
  | [], [], _, _, r => by cases r; exact .nil
  | k :: ks, d :: ds, _, h, r => by
    obtain ⟨v, vs, rfl, h1, h2⟩ := r
    exact .cons ⟨rfl, h1⟩ (kv_join (by simpa using h) h2)
  | [], d :: ds, _, h, _ => by simp at h
  | k :: ks, [], _, h, _ => by simp at h
theorem kv_zip {α : Type} : ∀ {l : List (Key × α)}, (l.map (·.1)).zip (l.map (·.2)) = l
  | [] => rfl
  | p :: l => by
    rw [List.map_cons, List.map_cons, List.zip_cons_cons, kv_zip]
def frzDR (d : D) (M : Mp) (Q : DQ) : Prop := match d with
  | .ref a => (∃ kvs M0, M a = some (.dK kvs) ∧ M0 a = none ∧ Sub M0 M ∧ Q (.cdic (kvs.map (·.1)) (kvs.map (·.2))) M0) ∨ Q (.ref a) M
  | d => Q d M
def wFrzD (we : WE) : WE | env, M, Q => we env M fun d M1 => frzDR d M1 Q
def bGetC : W2 | d, e, M, Q => match d, keyD e with
  | .cdic ks ds, some k => ∃ v, valD (ks.zip ds) k = some v ∧ Q v M
  | _, _ => False
section
variable {X : Cx} {e tg a b : Expr} {we wa wb : WE} {pos : Pos}
theorem d_frzD (h : DE X e we) : DE X e (wFrzD we) := by
  refine ⟨fun pins s σ H Q I ⟨env, M, Qd, hS, hM, hw, hl⟩ => ?_⟩
  refine thn (h.run pins s σ H (fun v H1 => ∃ d M1, RelD X.K H1 d v ∧ RelM X.kw H1 M1 ∧ Keep H H1 ∧ frzDR d M1 Qd) I ⟨env, M, _, hS, hM, hw, fun d M1 v H1 q r k m => ⟨d, M1, r, m, k, q⟩⟩) fun v s1 ⟨x, H1, I1, rx, d, M1, rd, m1, k1, q⟩ => ?_
  cases d with
  | ref a =>
    rcases q with ⟨kvs, M0, ea, h0, hs, q⟩ | q
    · obtain ⟨vs, ev, rs⟩ := m1 _ _ ea
      obtain ⟨o, I2⟩ := I1.lock ev trivial
      have kw : Keep H1 (upd H1 a (.frz o (.dK vs))) := .write ev trivial
      obtain ⟨ek, rv⟩ := kv_split rs
      exact ⟨x, _, I2, rx, hl _ _ _ _ q ⟨a, vs.map (·.2), o, rd, by rw [List.length_map, List.length_map], by rw [ek, kv_zip]; exact upd_same, rv.keep kw⟩ (k1.trans kw) (m1.freeze ev trivial h0 hs)⟩
    · exact ⟨x, H1, I1, rx, hl _ _ _ _ q rd k1 m1⟩
  | _ => exact ⟨x, H1, I1, rx, hl _ _ _ _ q rd k1 m1⟩
theorem ix_getC (hu : X.A.units + 64 < cLine) : IxR X (rD X.kw bGetC) := by
  intro value slice pins s σ H x y v u Q I rx ry ⟨d, e, M, Qd, hd, he, hm, hr, hl⟩ hsub
  cases d with
  | cdic ks ds =>
    cases ek : keyD e with
    | none => unfold bGetC at hr; dsimp only at hr; rw [ek] at hr; exact hr.elim
    | some k =>
      unfold bGetC at hr
      dsimp only at hr
      rw [ek] at hr
      obtain ⟨z, e0, q⟩ := hr
      obtain ⟨a, vs, o, rfl, hn, hf, rds⟩ := hd
      have rs := kv_join hn rds
      cases keyD_v ek he
      cases (show v = _ from rx)
      rcases rs.val (k := k) with ⟨g1, g2⟩ | ⟨d', v', g1, g2, g3⟩
      · rw [e0] at g1; cases g1
      · rw [e0] at g1
        cases g1
        obtain ⟨zz, hd', us, rel, dd⟩ := dk_rd I.hok (.inr ⟨o, hf⟩)
        obtain ⟨w', hw, rw'⟩ := RelO.some_of (v := v') (o := valueAt us k) (by rw [← g2]; exact rel.val k)
        exact subscriptTail_builtinR (x := w') dd.typeIs PySem.F.slot_dict_getitem.lookup (wpAny_getItem_of (Q := fun r s' => r = w' ∧ EP X pins σ Q r s') (kV_is ry) dd.mapOf hw ⟨rfl, v', H, I.tok _, rw', hl.val hm q g3⟩) hsub
  | _ => exact hr.elim
def bIxC : W2 := bIxU.or bGetC
theorem d_ixC (hu : X.A.units + 64 < cLine) (ha : DE X a wa) (hb : DE X b wb) (hs : PlainIx b) : DE X (.Subscript a b pos) (wOp bIxC wa wb) :=
  pe_wk (pe_ix (IxD.or (IxD.or ix_plain (IxD.or (ix_getK hu) (ix_getN hu))) (ix_getC hu)) ha hb hs) fun _ _ _ h => tOp_of h
end
section
variable {env : Ev} {M : Mp} {Q : DQ} {we : WE}
theorem z_frzD (h : we env M fun d m => frzDR d m Q) : wFrzD we env M Q := h
theorem frzD_new {M0 M : Mp} {p : Addr} {kvs : List (Key × D)} (hp : M0 p = none) (e : M p = some (.dK kvs)) (f : Fr [] M0 M) (h : Q (.cdic (kvs.map (·.1)) (kvs.map (·.2))) M0) : frzDR (.ref p) M Q := .inl ⟨kvs, M0, e, hp, .of f, h⟩
end
end
end L2.Dl

/-! DMx: max(d.values()), the values pairs of a number and a text. -/
namespace L2.Dl
open PySem PySem.Spec PyProof.Rows L2.DX
/-! the greatest by a strict order -/
section
variable [Tb] {X : Cx}
end
end L2.Dl

/-! DOwn: len, str, == and != of an instance by its class's own methods; isinstance with an own class. -/
namespace PySem
open Builtin Builtin.Str
end PySem
namespace L2.Dl
open PySem PySem.Spec PyProof.Rows
section
variable {prog : Program} {w : World} {A : Around} {E : Value → Shared → Prop} {s : Shared} {K : PySem.W.Frag} {x C f : Addr} {ox : Obj} {od : Option Obj}
end
variable [Tb]
theorem Rm.in1 {k : Nat} {A : Around} (r : Rm (k + 1) A) : Rm k A.in1 := ⟨r.1.in1, r.2⟩
section
variable {X : Cx} {n : Str} {B : WB} {A' : Around} {pins : List (Addr × Obj)} {σ : St} {H : Hp} {s : Shared} {Q : VK} {us : List Value} {vs : List V}
end
section
variable {prog : Program} {w : World} {A : Around} {E : Value → Shared → Prop} {s : Shared} {K : PySem.W.Frag} {x C f : Addr} {ox : Obj} {od : Option Obj} {b tb : Value}
open Builtin in
end
section
variable {X : Cx} {n : Str} {B : WB}
end
end L2.Dl

/-! DVal: values of texts, numbers, frozen lists and frozen dicts: isinstance, sorted, list, an empty list or not. -/
namespace L2.Dl
open PySem PySem.Spec PyProof.Rows
variable [Tb]
/-! ### isinstance of frozen dicts too; of several types -/
def tyV (d : D) (M : Mp) : Option String := match d with
  | .cdic _ _ => some "dict"
  | d => tyD d M
theorem tyx_ofV {K : KW} {H : Hp} {M : Mp} {d : D} {v : V} {t : String} (m : RelM K H M) (r : RelD K H d v) (h : tyV d M = some t) : TyX K H v (.type t) := by
  cases d with
  | cdic ks ds =>
    cases h
    obtain ⟨a, vs, o, rfl, _, hf, _⟩ := r
    exact .fDict hf
  | _ => exact tyx_of m r h
def fIsiV : WC | ds, M, Q => match ds with
  | [d, .ty n] => ∃ t b, tyV d M = some t ∧ kitB t n = some b ∧ Q (.bl b) M
  | _ => False
def kitsB (t : String) : List D → Option Bool
  | [] => some false
  | .ty n :: r => match kitB t n with
    | some true => some true
    | some false => kitsB t r
    | none => none
  | _ => none
def fIsiT : WC | ds, M, Q => match ds with
  | [d, .tup ns] => ∃ t b, tyV d M = some t ∧ kitsB t ns = some b ∧ Q (.bl b) M
  | _ => False
section
variable {X : Cx}
theorem c_isiV : CallD X (.builtin "isinstance") fIsiV := by
  intro pins s σ H xs us Q I r ⟨ds, M, Qd, rd, hm, hr, hl⟩
  match ds, hr with
  | [d, .ty n], ⟨t, b, h1, h2, q⟩ =>
    obtain ⟨v, u, rfl, hv, hu⟩ := rel2 rd
    cases (show u = _ from hu)
    exact call_isi pins s σ H _ us Q I r ⟨v, .ty n, .type t, .type n, b, rfl, .ty n, tyx_ofV hm hv h1, kit_ty h2, hl.val hm q rfl⟩
theorem kits_any {K : KW} {H : Hp} {t : String} : ∀ {ns : List D} {vs : List V} {us : List Value} {b : Bool}, kitsB t ns = some b → RelDs K H ns vs → Vals vs us → PySem.W.kitAny K (.type t) us = some b
  | [], _, _, b, h, r, rv => by
    cases r
    cases rv
    exact h
  | d :: ns, vs, us, b, h, r, rv => by
    obtain ⟨v, w, rfl, r1, r2⟩ := r
    cases rv with
    | @cons _ _ _ _ h1 h2 =>
      cases d with
      | ty n =>
        cases (show v = _ from r1)
        cases (show _ = _ from h1)
        unfold kitsB at h
        cases e : kitB t n with
        | none => rw [e] at h; cases h
        | some k =>
          rw [e] at h
          have e1 : PySem.W.kitOne K (.type t) (.type n) = some k := kit_ty e
          unfold PySem.W.kitAny
          rw [e1]
          cases k with
          | true => exact h
          | false => exact kits_any h r2 h2
      | _ => cases h
theorem c_isiT : CallD X (.builtin "isinstance") fIsiT := by
  intro pins s σ H xs us Q I r ⟨ds, M, Qd, rd, hm, hr, hl⟩
  match ds, hr with
  | [d, .tup ns], ⟨t, b, h1, h2, q⟩ =>
    obtain ⟨v, u, rfl, hv, hu⟩ := rel2 rd
    obtain ⟨a, vs, rfl, tq, rs⟩ := hu
    obtain ⟨u1, u2, rfl, r1, r2⟩ := vals2 r
    cases (show u2 = Value.ref a from r2)
    obtain ⟨its, rv, p1, _⟩ := I.tuple tq.sq
    obtain ⟨P, Z, p, hx⟩ := kit_of I r1 (tyx_ofV hm hv h1)
    have hk := kits_any h2 rs rv
    obtain ⟨o, ho, hc, n, hd⟩ := p1
    obtain ⟨oc, od, dt, sl⟩ := o
    simp only at hc hd
    subst hc hd
    exact PySem.W.kia_tup Z I.kIn p ho hk hx fun tk => ⟨.bl b, H, I.tok tk, rfl, hl.val hm q rfl⟩
/-! ### sorted(d), list(d) of a frozen dict -/
def fSortC : WC | ds, M, Q => match ds with
  | [.cdic ks vs] => ∃ ns : List Str, ks = ns.map Sum.inr ∧ ns.length < 64 ∧ ∀ ys : List Str, ys.Perm ns → sortedS ys = true → New M (.lst (ys.map .str)) fun p M2 => Q (.ref p) M2
  | _ => False
theorem c_sortC (hc : X.calm = true) : CallD X (.builtin "sorted") fSortC := by
  intro pins s σ H xs us Q I r ⟨ds, M, Qd, rd, hm, hr, hl⟩
  match ds, hr with
  | [.cdic ks vs], ⟨ns, hk, h64, q⟩ =>
    obtain ⟨v, rfl, hv⟩ := rel1 rd
    obtain ⟨a, ws, o, rfl, hn, hf, rs⟩ := hv
    have hz : ks.length = ws.length := hn.trans rs.len
    refine call_sortedD hc pins s σ H _ us Q I r ⟨a, ks.zip ws, ns, rfl, .inr ⟨o, hf⟩, ?_, h64, fun ys p hp hs hn => ?_⟩
    · rw [List.map_fst_zip (by omega)]; exact hk
    · exact hl.newL (RelDs.strs (is := ys)) hm (q ys hp hs) p hn
def fListC : WC | ds, M, Q => match ds with
  | [.cdic ks vs] => New M (.lst (ks.map keyV)) fun p M2 => Q (.ref p) M2
  | _ => False
theorem keys_kV {K : KW} {H : Hp} : ∀ {ks : List Key}, RelDs K H (ks.map keyV) (ks.map kV)
  | [] => .nil
  | .inl i :: ks => .cons rfl keys_kV
  | .inr x :: ks => .cons rfl keys_kV
theorem c_listC (hc : X.calm = true) : CallD X (.type "list") fListC := by
  intro pins s σ H xs us Q I r ⟨ds, M, Qd, rd, hm, hr, hl⟩
  match ds, hr with
  | [.cdic ks vs], q =>
    obtain ⟨v, rfl, hv⟩ := rel1 rd
    obtain ⟨a, ws, o, rfl, hn, hf, rs⟩ := hv
    have hz : ks.length = ws.length := hn.trans rs.len
    refine call_listD hc pins s σ H _ us Q I r ⟨a, ks.zip ws, rfl, .inr ⟨o, hf⟩, fun p hn => ?_⟩
    have e : (ks.zip ws).map (fun kv => kV kv.1) = ks.map kV := by
      have := congrArg (List.map kV) (List.map_fst_zip (l₁ := ks) (l₂ := ws) (by omega))
      rw [List.map_map] at this
      exact this
    rw [e]
    exact hl.newL keys_kV hm q p hn
/-! ### xs != [] -/
def cNeE : W2 | d, e, M, Q => e = .clst [] ∧ ∃ ds, lstOf d M = some ds ∧ Q (.bl (!ds.isEmpty)) M
theorem o_neE (hu : X.A.units + 64 < cLine) : OpD X (compareOp .NotEq) cNeE := by
  intro pins s σ H x y v u Q I rx ry ⟨d, e, M, Qd, hd, he, hm, hr, hl⟩
  obtain ⟨rfl, ds, h1, q⟩ := hr
  obtain ⟨a, vs, rfl, hq, rs⟩ := lst_of hm hd h1
  obtain ⟨b, ws, rfl, hq2, rs2⟩ := lst_of (ds := []) hm he rfl
  cases rs2
  cases (show v = _ from rx)
  cases (show u = _ from ry)
  obtain ⟨its, rv, p1, _⟩ := I.list hq
  obtain ⟨its2, rv2, p2, _⟩ := I.list hq2
  cases rv2
  have hlen : ds.length = its.length := by rw [rs.len, rv.length]
  show wpAny (model X.prog X.w) X.A (richCompare .NotEq (.ref a) (.ref b)) (EP X pins σ Q) X.xe s
  cases ds with
  | nil =>
    have e0 : its = [] := List.eq_nil_of_length_eq_zero hlen.symm
    subst e0
    have := SeqAt.RcNeAt.lists (A := X.A) (e := fun _ => true) p1.isList p2.isList rfl (by omega) (fun j h1 h2 => absurd h1 (by simp))
    exact this X.prog X.w X.xe _ ⟨.bl false, H, I, rfl, hl.val hm q rfl⟩
  | cons z zs =>
    have := SeqAt.RcNeAt.lists_lengths (A := X.A) p1.isList p2.isList (by
      have : its.toArray.size = its.length := by simp
      simp only [List.length_cons] at hlen
      simp; intro h; rw [h] at hlen; simp at hlen) (by omega)
    exact this X.prog X.w X.xe _ ⟨.bl true, H, I, rfl, hl.val hm q rfl⟩
end
end L2.Dl

/-! DSr: sorted(xs, reverse=True), the items tuples whose first part is a stamp, no two stamps alike. -/
namespace L2.Dl
open PySem PySem.Spec PyProof.Rows PySem.W PySem.Calls
section
variable [Tb] {X : Cx}
end
end L2.Dl

/-! DSet: sets of texts: {elt for ..}, sorted of such. -/
namespace L2.Dl
open PySem PySem.Spec PyProof.Rows PySem.Calls
section
variable {P : Program} {w : World} {A : Around} {E : Value → Shared → Prop} {s : Shared} {a : Addr} {xs : List Str}
end
/-! ### as a tracked thing -/
section
variable [Tb] {X : Cx} {pins : List (Addr × Obj)} {s : Shared} {σ : St} {H : Hp} {Q : VK} {elt tg iter : Expr} {ifs : List Expr} {scope : Scope} {own : List (Str × Nat)} {pos pos' : Pos} {wi : TI} {g : TG} {tt : TT} {te : TE}
end
/-! ### over trees -/
section
variable [Tb] {X : Cx} {elt tg iter : Expr} {ifs : List Expr} {scope : Scope} {own : List (Str × Nat)} {pos : Pos} {wi : WI} {wg : WG} {wt : WT} {we : WE}
end
end L2.Dl

/-! DSetS: sorted of a set of texts. -/
namespace L2.Dl
open PySem PySem.Spec PyProof.Rows PySem.Calls
section
variable [Tb] {X : Cx}
end
end L2.Dl

/-! DSi: sorted(xs), the items tuples of a number and a stamp. -/
namespace L2.Dl
open PySem PySem.Spec PyProof.Rows PySem.W PySem.Calls
variable [Tb]
section
variable {X : Cx}
/-! ### any many texts -/
end
end L2.Dl

/-! DPs: dict([(k, v), ..]), keys texts. -/
namespace L2.Dl
open PySem PySem.Spec PyProof.Rows
variable [Tb]
section
variable {X : Cx}
def pairS (q : Str × D) : D := .tup [.str q.1, q.2]
def kvS (kvs : List (Str × D)) : List (Key × D) := kvs.map fun q => (.inr q.1, q.2)
def fDictS : WC | ds, M, Q => match ds with
  | [d] => ∃ kvs : List (Str × D), lstOf d M = some (kvs.map pairS) ∧ New M (.dK (mergeD (kvS kvs))) fun p M2 => Q (.ref p) M2
  | _ => False
theorem pairs_at {K : PySem.W.Frag} {H : Hp} : ∀ {kvs : List (Str × D)} {vs : List V}, RelDs K H (kvs.map pairS) vs → ∃ (ps : List Addr) (us : List (Key × V)), vs = ps.map V.ref ∧ Paired (fun p kv => SqT K H p [kV kv.1, kv.2]) ps us ∧ RelKv K H (kvS kvs) us
  | [], vs, r => by
    cases (show vs = [] from r)
    exact ⟨[], [], rfl, .nil, .nil⟩
  | q :: kvs, vs, r => by
    obtain ⟨v1, r1, rfl, k1, k2⟩ := r
    obtain ⟨ps, us, e1, e2, e3⟩ := pairs_at k2
    obtain ⟨b, ws, rfl, tt, rs⟩ := k1
    obtain ⟨w1, q1, rfl, d1, w2, q2, rfl, d2, e4⟩ := rs
    cases e4
    cases (show w1 = _ from d1)
    subst e1
    exact ⟨b :: ps, (.inr q.1, w2) :: us, rfl, .cons tt.sq e2, .cons ⟨rfl, d2⟩ e3⟩
theorem c_dictS (hc : X.calm = true) : CallD X (.type "dict") fDictS := by
  intro pins s σ H xs us Q I r ⟨ds0, M, Qd, rd, hm, hr, hl⟩
  match ds0, hr with
  | [d], ⟨kvs, h1, q⟩ =>
    obtain ⟨v, rfl, hv⟩ := rel1 rd
    obtain ⟨a, vs, rfl, hq, rs⟩ := lst_of hm hv h1
    obtain ⟨ps, ws, rfl, e2, e3⟩ := pairs_at rs
    refine call_dictP hc pins s σ H _ us Q I r ⟨a, ps, ws, rfl, hq, e2, fun p hp => ?_⟩
    have kp : Keep H (upd H p (.dK (mergeK [] ws))) := .fresh hp
    exact hl _ _ _ _ (q.at (hm.free hp)) rfl kp (RelM.new (o := .dK (mergeD (kvS kvs))) hm hp ⟨_, upd_same, merge_rel (e3.keep kp) .nil⟩)
/-! ### sorted(d), any many text keys -/
end
end L2.Dl

/-! DLv: list(d.values()). -/
namespace L2
open PySem PySem.Spec PyProof.Rows
section
variable {X : Cx} {o : Expr} {p pos apos mpos : Pos} {td : TE}
end
end L2
namespace L2.Dl
open PySem PySem.Spec PyProof.Rows
variable [Tb]
section
variable {X : Cx} {o : Expr} {p pos apos mpos : Pos} {we : WE}
end
end L2.Dl

/-! DSl: set(xs), xs a list of texts. -/
namespace L2.Dl
open PySem PySem.Spec PyProof.Rows PySem.Calls
section
variable {P : Program} {w : World} {A : Around} {E : Value → Shared → Prop} {s : Shared}
theorem SetS.keep {h h' : Heap} {a : Addr} {xs : List Str} (R : SetS w h a xs) (k : ∀ o, h.get? a = some o → h'.get? a = some o) : SetS w h' a xs := by
  obtain ⟨o, es, ep, tb, e, r⟩ := R
  exact ⟨o, es, ep, tb, k o e, r⟩
end
variable [Tb]
section
variable {X : Cx}
end
end L2.Dl

/-! DInT: x in (a, b, ..), the items data. -/
namespace L2.Dl
open PySem PySem.Spec PyProof.Rows
variable [Tb]
section
variable {X : Cx}
end
end L2.Dl

/-! DZip: list(zip(xs, ys)) of two lists. -/
namespace L2.Dl
open PySem PySem.Spec PyProof.Rows PySem.W
theorem zip_no_len : typeLookup (.type "zip") "__len__" = pure none := am_miss_of_fast (by decide +kernel)
theorem zip_no_hint : typeLookup (.type "zip") "__length_hint__" = pure none := am_miss_of_fast (by decide +kernel)
structure ZSt (h : Heap) (z TI TO i1 i2 l1 l2 : Addr) (xs ys : Array Value) (S : Addr) (i : Nat) : Prop where
  ti : IsPair h TI (.ref i1) (.ref i2)
  a : h.IsListIter i1 l1 i
  b : h.IsListIter i2 l2 i
  x : h.IsList l1 xs
  y : h.IsList l2 ys
  z : (IsZip h z TI TO .none ∧ ∃ a b, IsPair h TO a b) ∨ ∃ T f oT, IsZipHeld h z TI TO T f ∧ h.get? T = some oT ∧ T ≠ z ∧ T ≠ i1 ∧ T ≠ i2 ∧ T ≠ S
structure Laid2 (h : Heap) (B : Nat) (as : List Addr) (xs ys : Array Value) : Prop where
  rise : as.Pairwise (· < ·)
  lo : ∀ a ∈ as, B ≤ a
  at_ : ∀ (j : Nat) (a : Addr), as[j]? = some a → ∃ x y, xs[j]? = some x ∧ ys[j]? = some y ∧ IsPair h a x y
abbrev lstO (acc : Array Value) (c : Nat) : Obj := { cls := .type "list", dict := none, data := .seq acc c, slots := #[] }
theorem ZSt.keep {h h' : Heap} {z TI TO i1 i2 l1 l2 S : Addr} {xs ys : Array Value} {i : Nat} (st : ZSt h z TI TO i1 i2 l1 l2 xs ys S i) (nS : S ≠ z ∧ S ≠ TI ∧ S ≠ TO ∧ S ≠ i1 ∧ S ≠ i2 ∧ S ≠ l1 ∧ S ≠ l2) (k : ∀ b o, b ≠ S → h.get? b = some o → h'.get? b = some o) : ZSt h' z TI TO i1 i2 l1 l2 xs ys S i := by
  obtain ⟨n1, n2, n3, n4, n5, n6, n7⟩ := nS
  obtain ⟨t, a, b, x, y, zz⟩ := st
  refine ⟨k _ _ n2.symm t, a.at fun o e => k _ o n4.symm e, b.at fun o e => k _ o n5.symm e, x.at fun o e => k _ o n6.symm e, y.at fun o e => k _ o n7.symm e, ?_⟩
  rcases zz with ⟨hz, u, v, hTO⟩ | ⟨T, f, oT, hz, hT, r1, r2, r3, r4⟩
  · exact .inl ⟨k _ _ n1.symm hz, u, v, k _ _ n3.symm hTO⟩
  · exact .inr ⟨T, f, oT, k _ _ n1.symm hz, k _ _ r4 hT, r1, r2, r3, r4⟩
theorem Laid2.keep {h h' : Heap} {B : Nat} {as : List Addr} {xs ys : Array Value} (L : Laid2 h B as xs ys) (k : ∀ b o, B ≤ b → h.get? b = some o → h'.get? b = some o) : Laid2 h' B as xs ys :=
  ⟨L.rise, L.lo, fun j a e => by
    obtain ⟨x, y, h1, h2, h3⟩ := L.at_ j a e
    exact ⟨x, y, h1, h2, k _ _ (L.lo a (List.mem_of_getElem? e)) h3⟩⟩
theorem Laid2.push {h h' : Heap} {B : Nat} {as : List Addr} {xs ys : Array Value} {a : Addr} {x y : Value} (L : Laid2 h B as xs ys) (hB : B ≤ a) (ha : h.objs.size ≤ a) (k : ∀ b o, B ≤ b → h.get? b = some o → h'.get? b = some o) (hx : xs[as.length]? = some x) (hy : ys[as.length]? = some y) (hp : IsPair h' a x y) : Laid2 h' B (as ++ [a]) xs ys := by
  refine ⟨List.pairwise_append.mpr ⟨L.rise, List.pairwise_singleton _ _, fun b hb c hc => ?_⟩, fun b hb => ?_, fun j b e => ?_⟩
  · obtain rfl := List.mem_singleton.mp hc
    obtain ⟨j, hj⟩ := List.getElem?_of_mem hb
    obtain ⟨_, _, _, _, p⟩ := L.at_ j b hj
    exact Nat.lt_of_lt_of_le (Heap.lt_size p) ha
  · rcases List.mem_append.mp hb with hb | hb
    · exact L.lo b hb
    · rw [List.mem_singleton.mp hb]; exact hB
  · by_cases hj : j < as.length
    · rw [List.getElem?_append_left hj] at e
      obtain ⟨u, v, h1, h2, h3⟩ := L.at_ j b e
      exact ⟨u, v, h1, h2, k _ _ (L.lo b (List.mem_of_getElem? e)) h3⟩
    · have ej : j = as.length := by
        have := (List.getElem?_eq_some_iff.mp e).1
        rw [List.length_append, List.length_singleton] at this
        omega
      subst ej
      rw [List.getElem?_append_right (Nat.le_refl _), Nat.sub_self] at e
      cases e
      exact ⟨x, y, hx, hy, hp⟩
section
variable {prog : Program} {w : World} {A : Around}
theorem ext_zip {R : Result → Shared → Prop} {z TI TO i1 i2 l1 l2 S : Addr} {xs ys : Array Value} {B : Nat} (hh : A.handled = none) (D : ZipApart z TI TO i1 i2 l1 l2) (nS : S ≠ z ∧ S ≠ TI ∧ S ≠ TO ∧ S ≠ i1 ∧ S ≠ i2 ∧ S ≠ l1 ∧ S ≠ l2)
    (hB : S < B ∧ z < B ∧ TO < B ∧ i1 < B ∧ i2 < B) (res : Value) (hn : min xs.size ys.size ≤ sizeLine) :
    ∀ (k i : Nat) (s : Shared) (acc : Array Value) (as : List Addr) (c : Nat), min xs.size ys.size - i = k → i ≤ min xs.size ys.size → ZSt s.heap z TI TO i1 i2 l1 l2 xs ys S i → s.heap.get? S = some (lstO acc c) → acc = (as.map Value.ref).toArray → Laid2 s.heap B as xs ys → as.length = i → B ≤ s.heap.objs.size →
      (∀ h' as' c', (∀ b o, b ∉ [S, z, TO, i1, i2] → s.heap.get? b = some o → h'.get? b = some o) → h'.get? S = some (lstO (as'.map Value.ref).toArray c') → Laid2 h' B as' xs ys → as'.length = min xs.size ys.size → R (.ok (.ret res)) { s with heap := h' }) →
      codeAny (model prog w) A (.builtin "list.extend.loop" ⟨[.ref S, .ref z, res], []⟩) R s := by
  obtain ⟨b1, b2, b3, b4, b5⟩ := hB
  have ne : ∀ {b c : Addr}, B ≤ b → c < B → b ≠ c := fun h1 h2 e => absurd (Nat.lt_of_lt_of_le h2 h1) (by rw [e]; exact Nat.lt_irrefl _)
  intro k
  induction k with
  | zero =>
    intro i s acc as c hk hi st hS ha L hl hb hR
    have hin : i = min xs.size ys.size := by omega
    subst hin
    have hend : xs[min xs.size ys.size]? = none ∨ ys[min xs.size ys.size]? = none := by
      rcases Nat.le_total xs.size ys.size with h | h
      · exact .inl (Array.getElem?_eq_none (by rw [Nat.min_eq_left h]; exact Nat.le_refl _))
      · exact .inr (Array.getElem?_eq_none (by rw [Nat.min_eq_right h]; exact Nat.le_refl _))
    refine codeAny_builtin F.entry_extend_loop ?_
    rw [Around.under_plainId F.plain_extend_loop _]
    show wpAny _ A.in1 (pyNext (.ref z) >>= _) _ _ s
    have fin : ∀ h', (∀ c o, c ≠ z → c ≠ TO → c ≠ i1 → c ≠ i2 → s.heap.get? c = some o → h'.get? c = some o) → R (.ok (.ret res)) { s with heap := h' } := fun h' hk => by
      subst ha
      refine hR h' as c (fun b o hm e => ?_) (hk _ _ nS.1 nS.2.2.1 nS.2.2.2.1 nS.2.2.2.2.1 hS) (L.keep fun b o hle e => hk _ _ (ne hle b2) (ne hle b3) (ne hle b4) (ne hle b5) e) hl
      simp only [List.mem_cons, List.not_mem_nil, or_false, not_or] at hm
      exact hk b o hm.2.1 hm.2.2.1 hm.2.2.2.1 hm.2.2.2.2 e
    obtain ⟨hTI, h1, h2, hl1, hl2, hz⟩ := st
    rcases hz with ⟨hz, a, b, hTO⟩ | ⟨T, f, oT, hz, hT, r1, r2, r3, r4⟩
    · exact wpAny_bind (wpAny_pyNext_zip_end hh D hz hTI hTO h1 h2 hl1 hl2 hend fun h' hk => wpAny_pure (fin h' hk))
    · exact wpAny_bind (wpAny_pyNext_zip_end_held hh D hz hT hTI h1 h2 hl1 hl2 hend fun h' hk => wpAny_pure (fin h' fun c o c1 _ c3 c4 => hk c o c1 c3 c4))
  | succ k ih =>
    intro i s acc as c hk hi st hS ha L hl hb hR
    have hlt : i < min xs.size ys.size := by omega
    refine codeAny_builtin F.entry_extend_loop ?_
    rw [Around.under_plainId F.plain_extend_loop _]
    show wpAny _ A.in1 (pyNext (.ref z) >>= _) _ _ s
    obtain ⟨hTI, h1, h2, hl1, hl2, hz⟩ := st
    have ex := Array.getElem?_eq_getElem (Nat.lt_of_lt_of_le hlt (Nat.min_le_left ..))
    have ey := Array.getElem?_eq_getElem (Nat.lt_of_lt_of_le hlt (Nat.min_le_right ..))
    have lt : ∀ {c o}, s.heap.get? c = some o → s.heap.objs.size ≠ c := fun e => Nat.ne_of_gt (Heap.lt_size e)
    have m1 : s.heap.objs.size ≠ i1 := let ⟨_, e, _⟩ := h1; lt e
    have m2 : s.heap.objs.size ≠ i2 := let ⟨_, e, _⟩ := h2; lt e
    have mz : s.heap.objs.size ≠ z := ne hb b2
    have mS : s.heap.objs.size ≠ S := ne hb b1
    have turn : ∀ h' : Heap, ZSt h' z TI TO i1 i2 l1 l2 xs ys S (i + 1) → IsPair h' s.heap.objs.size xs[i] ys[i] → h'.objs.size = s.heap.objs.size + 1 → (∀ c o, c ≠ z → c ≠ TO → c ≠ i1 → c ≠ i2 → s.heap.get? c = some o → h'.get? c = some o) →
        wpAny (model prog w) A.in1 (updateSeq S (·.push (.ref s.heap.objs.size)) >>= fun _ => again (.builtin "list.extend.loop" ⟨[.ref S, .ref z, res], []⟩)) (fun fin s' => match fin with | .done f => R (.ok f) s' | .again c' => c'.quiet = true ∧ codeAny (model prog w) A c' R s') (fun e s' => R (.error e) s') { s with heap := h' } := by
      intro h' st' hp hsz hkk
      have hS' := hkk _ _ nS.1 nS.2.2.1 nS.2.2.2.1 nS.2.2.2.2.1 hS
      have sm : acc.size = i := by rw [ha, List.size_toArray, List.length_map, hl]
      refine wpAny_bind (wpAny_updateSeq hS' rfl (wpAny_pure ⟨plainId_quiet F.plain_extend_loop _, ih (i + 1) _ (acc.push (.ref s.heap.objs.size)) (as ++ [s.heap.objs.size]) _ (by omega) hlt (st'.keep nS fun b o hb e => (Heap.get?_update_other _ _ (Ne.symm hb)).trans e) (Heap.get?_update_self _ hS' rfl) (by rw [ha]; simp) (Laid2.push L hb (Nat.le_refl _) (fun b o hle e => (Heap.get?_update_other _ _ (ne hle b1).symm).trans (hkk b o (ne hle b2) (ne hle b3) (ne hle b4) (ne hle b5) e)) (by rw [hl]; exact ex) (by rw [hl]; exact ey) ((Heap.get?_update_other _ _ (Ne.symm mS)).trans hp)) (by rw [List.length_append, hl]; rfl) ?_ fun h'' as' c' hm hS'' L' hl' => ?_⟩) (by rw [sm]; omega) (by show (acc.push (Value.ref s.heap.objs.size)).size ≤ sizeLine + 1; rw [Array.size_push, sm]; omega))
      · rw [show ({ s with heap := h' } : Shared).heap = h' from rfl, Heap.size_update]; omega
      · refine hR h'' as' c' (fun b o hmem e => hm b o hmem ?_) hS'' L' hl'
        simp only [List.mem_cons, List.not_mem_nil, or_false, not_or] at hmem
        exact (Heap.get?_update_other _ _ (Ne.symm hmem.1)).trans (hkk b o hmem.2.1 hmem.2.2.1 hmem.2.2.2.1 hmem.2.2.2.2 e)
    rcases hz with ⟨hz, a, b, hTO⟩ | ⟨T, f, oT, hz, hT, r1, r2, r3, r4⟩
    · refine wpAny_bind (wpAny_pyNext_zip_item D hz hTI hTO h1 h2 hl1 hl2 ex ey fun h' a1 a2 a3 a4 a5 a6 hk => ?_)
      exact turn h' ⟨hk _ _ D.TIz D.TITO D.TIi1 D.TIi2 hTI, a3, a4, hl1.at fun o e => hk _ o D.l1z D.l1TO D.l1i1 D.l1i2 e, hl2.at fun o e => hk _ o D.l2z D.l2TO D.l2i1 D.l2i2 e,
        .inr ⟨s.heap.objs.size, false, _, a1, a5, mz, m1, m2, mS⟩⟩ a5 a6 hk
    · refine wpAny_bind (wpAny_pyNext_zip_item_held D hz hT hTI h1 h2 hl1 hl2 ex ey fun h' a1 a3 a4 a5 a6 hk => ?_)
      exact turn h' ⟨hk _ _ D.TIz D.TIi1 D.TIi2 hTI, a3, a4, hl1.at fun o e => hk _ o D.l1z D.l1i1 D.l1i2 e, hl2.at fun o e => hk _ o D.l2z D.l2i1 D.l2i2 e,
        .inr ⟨T, true, oT, a1, hk _ _ r1 r2 r3 hT, r1, r2, r3, r4⟩⟩ a5 a6 fun c o c1 _ c3 c4 => hk c o c1 c3 c4
theorem zip_hint {E : Value → Shared → Prop} {s : Shared} {z TI TO : Addr} {f : Value} {Q : Bool → Shared → Prop} (hz : IsZip s.heap z TI TO f) (h : Q true s) : wpAny (model prog w) A (Builtin.List.listLengthHint (.ref z)) Q E s := by
  unfold Builtin.List.listLengthHint
  refine wpAny_bind (wpAny_specialOf (T := "zip") ⟨_, hz, rfl⟩ zip_no_len ?_)
  show wpAny _ A (specialOf (Value.ref z) (Str.ofString "__length_hint__") >>= _) _ _ _
  refine wpAny_bind (wpAny_specialOf (T := "zip") ⟨_, hz, rfl⟩ zip_no_hint ?_)
  exact wpAny_pure h
set_option maxHeartbeats 2000000 in
theorem call_list_zip {E : Value → Shared → Prop} {s : Shared} {Q : Value → Shared → Prop} {z TI TO i1 i2 l1 l2 : Addr} {xs ys : Array Value} (hh : A.handled = none) (D : ZipApart z TI TO i1 i2 l1 l2)
    (hz : IsZip s.heap z TI TO .none) (hTI : IsPair s.heap TI (.ref i1) (.ref i2)) (hTO : ∃ a b, IsPair s.heap TO a b) (h1 : s.heap.IsListIter i1 l1 0) (h2 : s.heap.IsListIter i2 l2 0) (hl1 : s.heap.IsList l1 xs) (hl2 : s.heap.IsList l2 ys) (hn : min xs.size ys.size ≤ sizeLine)
    (hQ : ∀ h' as c', (∀ b o, b ∉ [z, TO, i1, i2] → s.heap.get? b = some o → h'.get? b = some o) → h'.get? s.heap.objs.size = some (lstO (as.map Value.ref).toArray c') → Laid2 h' (s.heap.objs.size + 1) as xs ys → as.length = min xs.size ys.size → Q (.ref s.heap.objs.size) { s with heap := h' }) :
    wpAny (model prog w) A (call (.type "list") [.ref z]) Q E s := by
  refine callType_codes (Q₁ := fun obj s₁ => obj = .ref s.heap.objs.size ∧ s₁ = { s with heap := s.heap.push { cls := .type "list", data := .seq #[] } }) F.called_list (F.typeCall_list_1 _) F.entry_list_init
    (code_list_new _ ⟨rfl, rfl⟩) fun obj s₁ h₁ => ?_
  obtain ⟨rfl, rfl⟩ := h₁
  have hS : (s.heap.push { cls := .type "list", data := .seq #[] }).get? s.heap.objs.size = some { cls := .type "list", data := .seq #[] } := Heap.get?_push_size _ rfl
  refine ⟨⟨_, hS, rfl⟩, F.args_list_init_2 _ _, ?_⟩
  generalize hSe : s.heap.objs.size = S at hS hQ ⊢
  have lt : ∀ {c o}, s.heap.get? c = some o → S ≠ c := fun e => Nat.ne_of_gt (by rw [← hSe]; exact Heap.lt_size e)
  obtain ⟨u, v, hTO⟩ := hTO
  have nS : S ≠ z ∧ S ≠ TI ∧ S ≠ TO ∧ S ≠ i1 ∧ S ≠ i2 ∧ S ≠ l1 ∧ S ≠ l2 := ⟨lt hz, lt hTI, lt hTO, let ⟨_, e, _⟩ := h1; lt e, let ⟨_, e, _⟩ := h2; lt e, let ⟨_, e, _⟩ := hl1; lt e, let ⟨_, e, _⟩ := hl2; lt e⟩
  have st0 : ZSt s.heap z TI TO i1 i2 l1 l2 xs ys S 0 := ⟨hTI, h1, h2, hl1, hl2, .inl ⟨hz, u, v, hTO⟩⟩
  have kp : ∀ b o, s.heap.get? b = some o → (s.heap.push { cls := .type "list", data := .seq #[] }).get? b = some o := fun b o e => Heap.get?_push_of_some _ e
  have sp : (s.heap.push { cls := .type "list", data := .seq #[] }).objs.size = S + 1 := by rw [Heap.size_push, hSe]
  generalize hg : s.heap.push { cls := .type "list", data := .seq #[] } = g at hS kp sp ⊢
  show wpAny _ _ (do let old ← Builtin.List.listItems (.ref S); Builtin.List.listUpdate (.ref S) (fun _ => #[]); letGo old.toList.reverse; Builtin.List.listExtendWith (.ref S) (.ref z) .none) _ _ _
  refine wpAny_bind ?_
  unfold Builtin.List.listItems
  refine wpAny_bind (wpAny_seqItems hS rfl (wpAny_pure ?_))
  show wpAny _ _ (updateSeq S (fun _ => #[]) >>= fun _ => letGo (#[] : Array Value).toList.reverse >>= fun _ => Builtin.List.listExtendWith (.ref S) (.ref z) .none) _ _ _
  refine wpAny_bind (wpAny_updateSeq hS rfl ?_)
  have hS₂ := Heap.get?_update_self (Obj.mapSeq (fun _ => (#[] : Array Value))) hS rfl
  have k2 : ∀ b o, b ≠ S → g.get? b = some o → (g.update S (Obj.mapSeq (fun _ => (#[] : Array Value)))).get? b = some o := fun b o hb e => (Heap.get?_update_other _ _ (Ne.symm hb)).trans e
  have s2 : (g.update S (Obj.mapSeq (fun _ => (#[] : Array Value)))).objs.size = S + 1 := by rw [Heap.size_update, sp]
  refine wpAny_bind (wpAny_letGo ?_)
  show wpAny _ _ (Builtin.List.listExtendWith (.ref S) (.ref z) .none) _ _ { s with heap := g.update S (Obj.mapSeq (fun _ => (#[] : Array Value))) }
  generalize g.update S (Obj.mapSeq (fun _ => (#[] : Array Value))) = g2 at hS₂ k2 s2 ⊢
  have k3 : ∀ b o, b ≠ S → s.heap.get? b = some o → g2.get? b = some o := fun b o hb e => k2 b o hb (kp b o e)
  have st2 : ZSt g2 z TI TO i1 i2 l1 l2 xs ys S 0 := st0.keep nS k3
  have hz2 : IsZip g2 z TI TO .none := k3 _ _ nS.1.symm hz
  unfold Builtin.List.listExtendWith
  refine wpAny_bind (wpAny_typeOf (T := "zip") ⟨_, hz2, rfl⟩ ?_)
  have e1 : Builtin.List.listSameRef (.ref S) (.ref z) = false := by simp [Builtin.List.listSameRef, nS.1]
  have e2 : (Value.type "zip" == Value.type "list") = false := by decide
  have e3 : (Value.type "zip" == Value.type "tuple") = false := by decide
  simp only [e1, e2, e3, Bool.or_false, Bool.false_eq_true, if_false]
  refine wpAny_bind (wpAny_pyIter_zip hz2 ?_)
  refine wpAny_bind (wpAny_holding (zip_hint hz2 ?_))
  show wpAny _ _ (rule "list.extend.makes-room" >>= fun _ => Builtin.List.listTouch (.ref S) >>= fun _ => again (.builtin "list.extend.loop" ⟨[.ref S, .ref z, .none], []⟩)) _ _ _
  refine wpAny_bind (wpAny_rule ?_)
  refine wpAny_bind ?_
  show wpAny _ _ (updateSeq S (·.push .none) >>= fun _ => updateSeq S (·.pop)) _ _ _
  refine wpAny_bind (wpAny_updateSeq hS₂ rfl ?_)
  have hS₃ := Heap.get?_update_self (Obj.mapSeq (·.push Value.none)) hS₂ rfl
  refine wpAny_updateSeq hS₃ rfl ?_
  have hS₄ := Heap.get?_update_self (Obj.mapSeq (·.pop)) hS₃ rfl
  have s4 : ((g2.update S (Obj.mapSeq (·.push Value.none))).update S (Obj.mapSeq (·.pop))).objs.size = S + 1 := by rw [Heap.size_update, Heap.size_update, s2]
  have k4 : ∀ b o, b ≠ S → g2.get? b = some o → ((g2.update S (Obj.mapSeq (·.push Value.none))).update S (Obj.mapSeq (·.pop))).get? b = some o := fun b o hb e => (Heap.get?_update_other _ _ (Ne.symm hb)).trans ((Heap.get?_update_other _ _ (Ne.symm hb)).trans e)
  have lt2 : ∀ {c o}, s.heap.get? c = some o → c < S + 1 := fun e => by
    have := Heap.lt_size e
    rw [hSe] at this
    exact Nat.lt_succ_of_lt this
  refine wpAny_pure ⟨plainId_quiet F.plain_extend_loop _, ext_zip (A := A.in1) (B := S + 1) hh D nS ⟨Nat.lt_succ_self _, lt2 hz, lt2 hTO, let ⟨_, e, _⟩ := h1; lt2 e, let ⟨_, e, _⟩ := h2; lt2 e⟩ .none hn (min xs.size ys.size) 0 _ #[] [] _ rfl (Nat.zero_le _) (st2.keep nS k4) hS₄ rfl ⟨.nil, (fun _ h => nomatch h), fun j a e => by cases e⟩ rfl (Nat.le_of_eq s4.symm) fun h' as' c' hk hS' hL hl => ?_⟩
  refine ⟨rfl, hQ h' as' c' (fun b o hm e => hk b o ?_ (k4 b o ?_ (k3 b o ?_ e))) hS' hL hl⟩
  · simp only [List.mem_cons, List.not_mem_nil, or_false, not_or] at hm ⊢
    exact ⟨(lt e).symm, hm⟩
  · exact (lt e).symm
  · exact (lt e).symm
end
/-! ### the expression -/
section
variable [Tb] {X : Cx}
def zipT (xs ys : List D) : List D := List.zipWith (fun x y => .tup [x, y]) xs ys
def wListZ (wx : WA) : WE | env, M, Q => wx env M fun ds M1 => match ds with
  | [d, e] => ∃ xs ys, lstOf d M1 = some xs ∧ lstOf e M1 = some ys ∧ New M1 (.lst (zipT xs ys)) fun p M2 => Q (.ref p) M2
  | _ => False
/-- zip(a, b) as a call's only argument -/
def PZp (X : Cx) (e : Expr) (t : St → Hp → (Addr → Addr → Hp → Prop) → Prop) : Prop :=
  ∀ (pins : List (Addr × Obj)) (s : Shared) (σ : St) (H : Hp) (Q : Addr → Addr → Hp → Prop), Inv X pins σ H s → t σ H Q →
    wpAny (model X.prog X.w) X.A (eval e X.env) (fun x s' => ∃ z TI TO i1 i2 a b H', x = .ref z ∧ ZipApart z TI TO i1 i2 a b ∧ ZAt false false s'.heap z TI TO i1 i2 a b 0 0 ∧ (∀ c ∈ [z, TI, TO, i1, i2], FpOk X pins H' c) ∧ Inv X pins σ H' s' ∧ Q a b H') X.xe s
def tZp (K : PySem.W.Frag) (ta : TA) : St → Hp → (Addr → Addr → Hp → Prop) → Prop := fun σ H Q => ta σ H fun vs H1 => ∃ a b xs ys, vs = [.ref a, .ref b] ∧ SqL K H1 a xs ∧ SqL K H1 b ys ∧ Q a b H1
theorem pzp {e e2 : Expr} {ta : TA} {p pos : Pos} (hg : Gl X "zip") (hm : X.mg "zip" = none) (ha : PA X [e, e2] ta)
    (hs : starEach [e, e2] X.env = (false, eval e X.env) :: starEach [e2] X.env := by rfl) (hpl : (backTo pos (starEach [e2] X.env)).any (·.1) = false := by rfl) :
    PZp X (.Call (.Name "zip" p) [e, e2] [] pos) (tZp X.K ta) := by
  intro pins s σ H Q I h
  refine Call_ (ld_blt I hg hm PyProof.Rows.boot_zip (PyProof.Rows.callWith_type1 (thn (ha.run pos pins s σ H _ I h) fun us s1 ⟨vs, H1, I1, r1, q1⟩ => ?_) hs hpl))
  obtain ⟨a, b, xs, ys, rfl, qx, qy, q⟩ := q1
  cases r1 with
  | cons r rr =>
    cases rr with
    | cons r' rr =>
      cases rr
      cases r
      cases r'
      obtain ⟨its, rv, p1⟩ := sqv_at (b := false) I1 qx
      obtain ⟨its2, rv2, p2⟩ := sqv_at (b := false) I1 qy
      refine call_zipB p1 p2 fun h' hz hk => ?_
      have I2 : Inv X pins σ H1 { s1 with heap := h' } := I1.kept (t' := s1.toks) hk
      refine ⟨s1.heap.objs.size + 4, _, _, _, _, a, b, H1, rfl, PySem.W.ktu_apart s1.heap.objs.size a b p1.lt p2.lt, hz, fun c hcm => ?_, I2, q⟩
      have hle : s1.heap.objs.size ≤ c := by
        simp only [List.mem_cons, List.not_mem_nil, or_false] at hcm
        rcases hcm with rfl | rfl | rfl | rfl | rfl <;> first | exact Nat.le_add_right _ _ | exact Nat.le_refl _
      exact I1.fpOk hle (I1.hok.fresh hle)
theorem zipT_len (xs ys : List D) : (zipT xs ys).length = min xs.length ys.length := List.length_zipWith
theorem zipT_at {xs ys : List D} {j : Nat} {x y : D} (h1 : xs[j]? = some x) (h2 : ys[j]? = some y) : (zipT xs ys)[j]? = some (.tup [x, y]) := by
  unfold zipT
  rw [List.getElem?_zipWith, h1, h2]
theorem relDs_at {K : PySem.W.Frag} {H : Hp} : ∀ {ds : List D} {vs : List V}, RelDs K H ds vs → ∀ (j : Nat) (d : D), ds[j]? = some d → ∃ v, vs[j]? = some v ∧ RelD K H d v
  | [], _, _, j, d, e => by cases e
  | d :: ds, vs, r, 0, d', e => by
    obtain ⟨v, r1, rfl, k1, k2⟩ := r
    cases e
    exact ⟨v, rfl, k1⟩
  | d :: ds, vs, r, j + 1, d', e => by
    obtain ⟨v, r1, rfl, k1, k2⟩ := r
    exact relDs_at k2 j d' e
theorem relDs_len2 {K : PySem.W.Frag} {H : Hp} : ∀ {ds : List D} {vs : List V}, RelDs K H ds vs → ds.length = vs.length
  | [], vs, r => by cases (show vs = [] from r); rfl
  | d :: ds, vs, r => by
    obtain ⟨v, r1, rfl, k1, k2⟩ := r
    rw [List.length_cons, List.length_cons, relDs_len2 k2]
theorem relDs_of_at {K : PySem.W.Frag} {H : Hp} : ∀ {ds : List D} {vs : List V}, ds.length = vs.length → (∀ (j : Nat) (d : D) (v : V), ds[j]? = some d → vs[j]? = some v → RelD K H d v) → RelDs K H ds vs
  | [], [], _, _ => rfl
  | [], _ :: _, h, _ => by simp at h
  | _ :: _, [], h, _ => by simp at h
  | d :: ds, v :: vs, h, f => ⟨v, vs, rfl, f 0 d v rfl rfl, relDs_of_at (by simpa using h) fun j d' v' h1 h2 => f (j + 1) d' v' (by simpa using h1) (by simpa using h2)⟩
theorem d_listZip {e e2 : Expr} {wx : WA} {p p2 pos pos2 : Pos} (hc : X.calm = true) (hg : Gl X "list") (hm : X.mg "list" = none) (hg2 : Gl X "zip") (hm2 : X.mg "zip" = none) (ha : DA X [e, e2] wx)
    (hs : starEach [e, e2] X.env = (false, eval e X.env) :: starEach [e2] X.env := by rfl) (hpl : (backTo pos2 (starEach [e2] X.env)).any (·.1) = false := by rfl)
    (na : starEach [.Call (.Name "zip" p2) [e, e2] [] pos2] X.env = (false, eval (.Call (.Name "zip" p2) [e, e2] [] pos2) X.env) :: starEach [] X.env := by rfl) :
    DE X (.Call (.Name "list" p) [.Call (.Name "zip" p2) [e, e2] [] pos2] [] pos) (wListZ wx) := by
  refine ⟨fun pins s σ H Q I ⟨env, M, Qd, hS, hM, hw, hl⟩ => ?_⟩
  have hz := pzp (p := p2) (pos := pos2) hg2 hm2 ha hs hpl pins s σ H (fun a b H1 => ∃ M1 dx dy xs ys, RelM X.kw H1 M1 ∧ SqL X.K H1 a xs ∧ SqL X.K H1 b ys ∧ RelDs X.K H1 dx xs ∧ RelDs X.K H1 dy ys ∧ (New M1 (.lst (zipT dx dy)) fun p M2 => Qd (.ref p) M2) ∧ Lift X.kw H1 Qd Q) I ⟨env, M, _, hS, hM, hw, fun ds M1 vs H1 q rs k m1 => by
    match ds, q with
    | [d, e], ⟨xs, ys, h1, h2, q⟩ =>
      obtain ⟨v, u, rfl, r1, r2⟩ := rel2 rs
      obtain ⟨a, vs, rfl, q1, rs1⟩ := lst_of m1 r1 h1
      obtain ⟨b, us, rfl, q2, rs2⟩ := lst_of m1 r2 h2
      exact ⟨a, b, vs, us, rfl, q1, q2, M1, xs, ys, vs, us, m1, q1, q2, rs1, rs2, q, hl.at k⟩⟩
  refine Call_ (ld_blt I hg hm boot_list (PyProof.Rows.callWith_type1 (args_cons (thn hz fun x s1 ⟨z, TI, TO, i1, i2, a, b, H1, ex, D, az, hf, I1, M1, dx, dy, xs, ys, m1, qa, qb, rx, ry, q, hl1⟩ => args_nil ?_) na) na))
  subst ex
  obtain ⟨ia, va, pa⟩ := sqv_at (b := false) I1 qa
  obtain ⟨ib, vb, pb⟩ := sqv_at (b := false) I1 qb
  have la : ia.length = xs.length := va.length.symm
  have lb : ib.length = ys.length := vb.length.symm
  have hT : (zipT dx dy).length = min ia.length ib.length := by rw [zipT_len, relDs_len2 rx, relDs_len2 ry, la, lb]
  have sz : min ia.toArray.size ib.toArray.size = min ia.length ib.length := by rw [List.size_toArray, List.size_toArray]
  have lz : min ia.length ib.length ≤ sizeLine := Nat.le_trans (Nat.min_le_left ..) (by
    obtain ⟨its, rv, _, hl⟩ := I1.list qa
    rw [la]; exact hl)
  refine call_list_zip (I1.ok.hd hc) D az.z az.ti az.to az.a az.b pa pb (by rw [sz]; exact lz) fun h' as c' hk hS' L hlen => ?_
  rw [sz] at hlen
  generalize hSe : s1.heap.objs.size = S at hS' L ⊢
  have I2 : Inv X pins σ H1 { s1 with heap := h' } := I1.turnedL (t' := s1.toks) (ch := [z, TO, i1, i2]) hk fun c hcm => hf c (by
    simp only [List.mem_cons, List.not_mem_nil, or_false] at hcm ⊢
    rcases hcm with r | r | r | r <;> simp [r])
  have hn0 : H1 S = none := I1.hok.fresh (Nat.le_of_eq hSe)
  have pr : ∀ (j : Nat) (c : Addr), as[j]? = some c → ∃ x y u v dxj dyj, xs[j]? = some x ∧ ys[j]? = some y ∧ dx[j]? = some dxj ∧ dy[j]? = some dyj ∧ RelD X.K H1 dxj x ∧ RelD X.K H1 dyj y ∧ RelV x u ∧ RelV y v ∧ h'.get? c = some { cls := .type "tuple", data := .seq #[u, v] } := by
    intro j c e
    have hj := (List.getElem?_eq_some_iff.mp e).1
    obtain ⟨u, v, h1, h2, h3⟩ := L.at_ j c e
    have jx : j < dx.length := by rw [relDs_len2 rx, ← la]; omega
    have jy : j < dy.length := by rw [relDs_len2 ry, ← lb]; omega
    obtain ⟨x, x1, x2⟩ := relDs_at rx j _ (List.getElem?_eq_getElem jx)
    obtain ⟨y, y1, y2⟩ := relDs_at ry j _ (List.getElem?_eq_getElem jy)
    obtain ⟨u', p1, p2⟩ := va.get x1
    obtain ⟨v', p3, p4⟩ := vb.get y1
    rw [List.getElem?_toArray, p1] at h1
    rw [List.getElem?_toArray, p3] at h2
    cases h1
    cases h2
    exact ⟨x, y, _, _, _, _, x1, y1, List.getElem?_eq_getElem jx, List.getElem?_eq_getElem jy, x2, y2, p2, p4, h3⟩
  have nd : as.Nodup := List.Pairwise.imp (fun h => Nat.ne_of_lt h) L.rise
  let prs : List (List V) := List.zipWith (fun x y => [x, y]) xs ys
  have lp : prs.length = as.length := by
    show (List.zipWith _ _ _).length = _
    rw [List.length_zipWith, hlen, la, lb]
  have memL : ∀ x ∈ as.zip prs, ∃ j : Nat, as[j]? = some x.1 ∧ ∃ a b, xs[j]? = some a ∧ ys[j]? = some b ∧ x.2 = [a, b] := by
    intro x hx
    obtain ⟨j, hj⟩ := List.mem_iff_getElem?.mp hx
    obtain ⟨j1, j2⟩ := List.getElem?_zip_eq_some.mp hj
    obtain ⟨a, b, _, _, _, _, h1, h2, _⟩ := pr j x.1 j1
    have : prs[j]? = some [a, b] := by
      show (List.zipWith _ _ _)[j]? = _
      rw [List.getElem?_zipWith, h1, h2]
    rw [this] at j2
    exact ⟨j, j1, a, b, h1, h2, (Option.some.inj j2).symm⟩
  have up : ∀ x ∈ as, S < x := fun x hx => L.lo x hx
  obtain ⟨H2, ⟨kp, hm2, hn2⟩, I3, gr, qt⟩ := takeT2 (h' := h') (tk := s1.toks) (P := fun H' => Keep H1 H' ∧ RelM X.kw H' M1 ∧ H' S = none) I1 (as.zip prs) H1 (fun x hx H' h3 hn3 => by
      obtain ⟨j, j1, _⟩ := memL x hx
      exact ⟨h3.1.trans (.fresh hn3), h3.2.1.skip hn3, by rw [upd_ne (Nat.ne_of_lt (up x.1 (List.mem_of_getElem? j1)))]; exact h3.2.2⟩) ⟨.refl, m1, hn0⟩ I2 (by
      rw [List.map_fst_zip (by omega)]
      exact nd) fun x hx => by
    obtain ⟨j, j1, a, b, h1, h2, e⟩ := memL x hx
    obtain ⟨a', b', u, v, _, _, h3, h4, _, _, _, _, r1, r2, g⟩ := pr j x.1 j1
    rw [h1] at h3
    rw [h2] at h4
    cases h3
    cases h4
    have hb := Nat.le_of_lt (up x.1 (List.mem_of_getElem? j1))
    rw [← hSe] at hb
    refine ⟨hb, I1.hok.fresh hb, fun H3 => ?_⟩
    rw [e]
    exact ⟨by rw [sizeLine_eq]; show 2 ≤ 16777216; omega, [u, v], .cons r1 (.cons r2 .nil), ⟨_, g, rfl, 0, rfl⟩⟩
  have hr2 : RelDs X.K H2 (zipT dx dy) (as.map V.ref) := relDs_of_at (by rw [hT, List.length_map, hlen]) fun j d v h1 h2 => by
    rw [List.getElem?_map] at h2
    obtain ⟨c, c1, rfl⟩ := Option.map_eq_some_iff.mp h2
    obtain ⟨a, b, u, w, da, db, h3, h4, h5, h6, h7, h8, _⟩ := pr j c c1
    rw [zipT_at h5 h6] at h1
    cases h1
    have hp : prs[j]? = some [a, b] := by
      show (List.zipWith _ _ _)[j]? = _
      rw [List.getElem?_zipWith, h3, h4]
    have hm3 : (c, [a, b]) ∈ as.zip prs := List.mem_of_getElem? (i := j) (List.getElem?_zip_eq_some.mpr ⟨c1, hp⟩)
    exact ⟨c, _, rfl, .inl (qt _ hm3), ⟨_, _, rfl, h7.keep kp, ⟨_, _, rfl, h8.keep kp, rfl⟩⟩⟩
  have hlz : (as.map V.ref).length ≤ sizeLine := by rw [List.length_map, hlen]; exact lz
  exact ⟨.ref S, upd H2 S (.lst (as.map V.ref)), I3.take (h' := h') (t' := s1.toks) (fun b ob _ e => e) (I1.fpOk (Nat.le_of_eq hSe) hn2) ⟨hlz, _, c', vals_refs as, hS'⟩, rfl, (hl1.at kp).newL hr2 hm2 q _ hn2⟩
end
end L2.Dl

/-! DFin: the facts of the written part, put together. -/
namespace L2.Dl
open PySem PySem.Spec PyProof.Rows
section
variable {K : PySem.W.Frag}
theorem funA_mk {x qual : Str} {st : Stmt} {f : Addr} {oc : Value} {od an : Option Addr} {osl : Array (Option Value)} {dV kV doc pm cdv ct : Value} (l : K.lookup f = some ⟨oc, od, .func (PySem.W.fnOf x qual (defArgs st) (defBody st) (defScope st) dV kV doc pm an cdv ct), osl⟩)
    (c : PySem.W.codeIn K cdv qual = true) (k : PySem.W.keepIn K (.ref f) = true) : FunA K x qual st dV kV cdv f (PySem.W.fnOf x qual (defArgs st) (defBody st) (defScope st) dV kV doc pm an cdv ct) := ⟨⟨oc, od, doc, pm, an, ct, osl, rfl, l, c⟩, k⟩
end
end L2.Dl

namespace L2.Dl.G
open PySem PySem.Spec PyProof.Rows
variable [Tb]

/-- _law_pot -/
def W_L_pot : WC := wDef 3 2 (wSeq (wAsg (wC (.int 0)) (gN 2))
  (wSeq (wIfS (wTst (wOp cLt (wVar 1) (wCall fLenU (wCons (wVar 0) wNil)))) (wAsg (wOp bIxU (wVar 0) (wVar 1)) (gN 2)) wNext)
  (wRet (wFrz (wLst (wCons (wCall fMax2 (wCons (wC (.int 0)) (wCons (wOp bSub (wCall fAbs (wCons (wVar 2) wNil)) (wOp bPow (wC (.int 10)) (wC (.int 18)))) wNil))) (wCons (wOp bAdd (wOp bAdd (wOp bMod (wCall fAbs (wCons (wVar 2) wNil)) (wC (.int 2147483579))) (wOp bMul (wC (.int 907)) (wVar 1))) (wC (.int 5))) wNil)))))))
/-- _law_digit -/
def W_L_digit : WC := wDef 3 2 (wSeq (wIfS (wTst (wOp cGt (wOp bIxU (wVar 0) (wC (.int 0))) (wC (.int 0)))) (wSeq (wAsg (wCall fDivmod (wCons (wOp bIxU (wVar 0) (wC (.int 0))) (wCons (wVar 1) wNil))) (gTu 2 (gsCons (gSt stU (wVar 0) (wC (.int 0))) (gsCons (gN 2) gsNil))))
  (wRet (wFrz (wVar 2)))) wNext)
  (wSeq (wAsg (wOp bMod (wOp bAdd (wOp bMul (wOp bIxU (wVar 0) (wC (.int 1))) (wC (.int 48017))) (wC (.int 12289))) (wC (.int 2147483629))) (gSt stU (wVar 0) (wC (.int 1))))
  (wRet (wOp bMod (wOp bDiv (wOp bMod (wOp bMul (wOp bIxU (wVar 0) (wC (.int 1))) (wOp bIxU (wVar 0) (wC (.int 1)))) (wC (.int 2147483587))) (wC (.int 13))) (wVar 1)))))
abbrev W_L_deep_1 : WS := (wRet (wFrz (wVar 2)))
abbrev W_L_deep_2 : WS := (wAsg (wOp bIxU (wFrz (wLst (wCons (wFrz (wLst (wCons (wVar 2) wNil))) (wCons (wFrzD (wDict (wpCons (wC (.str "a")) (wVar 2) (wpCons (wC (.str "b")) (wVar 3) wpNil)))) (wCons (wFrz (wLst (wCons (wC .non) (wCons (wVar 2) wNil)))) wNil))))) (wCall W_L_digit (wCons (wVar 0) (wCons (wC (.int 3)) wNil)))) (gN 2))
/-- _law_deep -/
def W_L_deep : WC := wDef 4 2 (wSeq (wAsg (wVar 1) (gN 2))
  (wSeq (wFor (itRng1 (wCons (wOp bIxU (wFrz (wLst (wCons (wC (.int 0)) (wCons (wC (.int 0)) (wCons (wCall W_L_digit (wCons (wVar 0) (wCons (wC (.int 101)) wNil))) wNil))))) (wCall W_L_digit (wCons (wVar 0) (wCons (wC (.int 3)) wNil)))) wNil)) (gN 3) W_L_deep_2)
  W_L_deep_1))
abbrev W_L_quoted_1 : WS := (wRet (wOp bAdd (wVar 1) (wC (.str "\""))))
abbrev W_L_quoted_2 : WS := (wSeq (wIfS (wTst (wOp cInV (wVar 2) (wTup (wCons (wC (.str "\"")) (wCons (wC (.str "\\")) wNil))))) (wAsg (wOp bAdd (wVar 1) (wC (.str "\\"))) (gN 1)) wNext)
  (wAsg (wOp bAdd (wVar 1) (wVar 2)) (gN 1)))
/-- _law_quoted -/
def W_L_quoted : WC := wDef 3 1 (wSeq (wAsg (wC (.str "\"")) (gN 1))
  (wSeq (wFor (itA (wVar 0)) (gN 2) W_L_quoted_2)
  W_L_quoted_1))
/-- _law_plain_text -/
def W_L_plain_text : WC := wDef 1 1 (wSeq (wIfS (wTst (wOp cIsN (wVar 0) (wC .non))) (wRet (wC (.str "null"))) wNext)
  (wSeq (wIfS (wTru (wCall fIsiV (wCons (wVar 0) (wCons (wC (.ty "bool")) wNil)))) (wRet (wOp bIxU (wFrz (wLst (wCons (wC (.str "false")) (wCons (wC (.str "true")) wNil)))) (wCall fInt (wCons (wVar 0) wNil)))) wNext)
  (wSeq (wIfS (wTru (wCall fIsiV (wCons (wVar 0) (wCons (wC (.ty "int")) wNil)))) (wRet (wCall fStr (wCons (wVar 0) wNil))) wNext)
  (wRet (wCall W_L_quoted (wCons (wVar 0) wNil))))))
abbrev W_L_opened_1 : WS := (wRet (wFrz (wOp bAdd (wFrz (wOp bAdd (wFrz (wLst (wCons (wTup (wCons (wC (.str "")) (wCons (wC (.str "[")) wNil))) wNil))) (wFrz (wSl (wVar 1) (wPart (wC (.int 1))) wNoPart)))) (wFrz (wLst (wCons (wTup (wCons (wC (.str "")) (wCons (wC (.str "]")) wNil))) wNil))))))
abbrev W_L_opened_2 : WS := (wAsg (wFrz (wOp bAdd (wVar 1) (wFrz (wLst (wCons (wTup (wCons (wC (.str "")) (wCons (wC (.str ",")) wNil))) (wCons (wTup (wCons (wC (.str "value")) (wCons (wVar 2) wNil))) wNil)))))) (gN 1))
abbrev W_L_opened_3 : WS := (wSeq (wFor (itA (wVar 0)) (gN 2) W_L_opened_2)
  W_L_opened_1)
abbrev W_L_opened_4 : WS := (wRet (wFrz (wOp bAdd (wFrz (wOp bAdd (wFrz (wLst (wCons (wTup (wCons (wC (.str "")) (wCons (wC (.str "{")) wNil))) wNil))) (wFrz (wSl (wVar 1) (wPart (wC (.int 1))) wNoPart)))) (wFrz (wLst (wCons (wTup (wCons (wC (.str "")) (wCons (wC (.str "}")) wNil))) wNil))))))
abbrev W_L_opened_5 : WS := (wAsg (wFrz (wOp bAdd (wVar 1) (wFrz (wLst (wCons (wTup (wCons (wC (.str "")) (wCons (wC (.str ",")) wNil))) (wCons (wTup (wCons (wC (.str "")) (wCons (wOp bAdd (wCall W_L_quoted (wCons (wVar 3) wNil)) (wC (.str ":"))) wNil))) (wCons (wTup (wCons (wC (.str "value")) (wCons (wOp bIxC (wVar 0) (wVar 3)) wNil))) wNil))))))) (gN 1))
/-- _law_opened -/
def W_L_opened : WC := wDef 4 1 (wSeq (wAsg (wFrz (wLst wNil)) (gN 1))
  (wSeq (wIfS (wTru (wCall fIsiV (wCons (wVar 0) (wCons (wC (.ty "dict")) wNil)))) (wSeq (wFor (itA (wFrz (wCall fSortC (wCons (wVar 0) wNil)))) (gN 3) W_L_opened_5)
  W_L_opened_4) wNext)
  W_L_opened_3))
abbrev W_L_text_1 : WS := (wRet (wMt "str" mJoin (wC (.str "")) (wCons (wVar 2) wNil)))
abbrev W_L_text_2 : WS := (wSeq (wAsg (wMt "list" mPop (wVar 1) wNil) (gTu 2 (gsCons (gN 3) (gsCons (gN 4) gsNil))))
  (wIfS (wTst (wOp cEq (wVar 3) (wC (.str "")))) (wDrop (wMt "list" mAppend (wVar 2) (wCons (wVar 4) wNil))) (wIfS (wTru (wCall fIsiT (wCons (wVar 4) (wCons (wTup (wCons (wC (.ty "dict")) (wCons (wC (.ty "list")) wNil))) wNil)))) (wDrop (wMt "list" mExtendC (wVar 1) (wCons (wFrz (wRev (wCall W_L_opened (wCons (wVar 4) wNil)) (wUn bNeg (wC (.int 1))))) wNil))) (wDrop (wMt "list" mAppend (wVar 2) (wCons (wCall W_L_plain_text (wCons (wVar 4) wNil)) wNil))))))
/-- _law_text -/
def W_L_text : WC := wDef 5 1 (wSeq (wAsg (wLst (wCons (wTup (wCons (wC (.str "value")) (wCons (wVar 0) wNil))) wNil)) (gN 1))
  (wSeq (wAsg (wLst wNil) (gN 2))
  (wSeq (wWhile (wTst (wOp cNeE (wVar 1) (wFrz (wLst wNil)))) W_L_text_2)
  W_L_text_1)))
abbrev W_quoted_1 : WS := (wRet (wOp bAdd (wOp bAdd (wC (.str "\"")) (wMt "str" mJoin (wC (.str "")) (wCons (wVar 1) wNil))) (wC (.str "\""))))
/-- quoted -/
def W_quoted : WC := wDef 3 1 (wSeq (wFrzS 1 (wAsg (wLc (itA (wVar 0)) (gN 2) wYes (wIf (wtAnd (wTst (wOp cNe (wVar 2) (wC (.str "\\")))) (wTst (wOp cNe (wVar 2) (wC (.str "\""))))) (wVar 2) (wOp bAdd (wC (.str "\\")) (wVar 2))) [2]) (gN 1)))
  W_quoted_1)
/-- plain_text -/
def W_plain_text : WC := wDef 1 1 (wSeq (wIfS (wTst (wOp cIsN (wVar 0) (wC .non))) (wRet (wC (.str "null"))) wNext)
  (wSeq (wIfS (wTru (wCall fIsiV (wCons (wVar 0) (wCons (wC (.ty "bool")) wNil)))) (wRet (wIf (wTru (wVar 0)) (wC (.str "true")) (wC (.str "false")))) wNext)
  (wSeq (wIfS (wTru (wCall fIsiV (wCons (wVar 0) (wCons (wC (.ty "int")) wNil)))) (wRet (wCall fStr (wCons (wVar 0) wNil))) wNext)
  (wRet (wCall W_quoted (wCons (wVar 0) wNil))))))
abbrev W_pieces_of_1 : WS := (wRet (wFrz (wLst (wCons (wTup (wCons (wC (.bl true)) (wCons (wCall W_plain_text (wCons (wVar 0) wNil)) wNil))) wNil))))
abbrev W_pieces_of_2 : WS := (wRet (wFrz (wOp bAdd (wVar 1) (wFrz (wLst (wCons (wTup (wCons (wC (.bl true)) (wCons (wC (.str "]")) wNil))) wNil))))))
abbrev W_pieces_of_3 : WS := (wDrop (wMt "list" mExtendC (wVar 1) (wCons (wFrz (wLst (wCons (wTup (wCons (wC (.bl true)) (wCons (wIf (wTst (wOp cGt (wVar 2) (wC (.int 0)))) (wC (.str ",")) (wC (.str ""))) wNil))) (wCons (wTup (wCons (wC (.bl false)) (wCons (wVar 4) wNil))) wNil)))) wNil)))
abbrev W_pieces_of_4 : WS := (wSeq (wIfS (wTru (wCall fIsiV (wCons (wVar 0) (wCons (wC (.ty "list")) wNil)))) (wSeq (wAsg (wLst (wCons (wTup (wCons (wC (.bl true)) (wCons (wC (.str "[")) wNil))) wNil)) (gN 1))
  (wSeq (wFor (itEnum (wCons (wVar 0) wNil)) (gTu 2 (gsCons (gN 2) (gsCons (gN 4) gsNil))) W_pieces_of_3)
  W_pieces_of_2)) wNext)
  W_pieces_of_1)
abbrev W_pieces_of_5 : WS := (wRet (wFrz (wOp bAdd (wVar 1) (wFrz (wLst (wCons (wTup (wCons (wC (.bl true)) (wCons (wC (.str "}")) wNil))) wNil))))))
abbrev W_pieces_of_6 : WS := (wDrop (wMt "list" mExtendC (wVar 1) (wCons (wFrz (wLst (wCons (wTup (wCons (wC (.bl true)) (wCons (wIf (wTst (wOp cGt (wVar 2) (wC (.int 0)))) (wC (.str ",")) (wC (.str ""))) wNil))) (wCons (wTup (wCons (wC (.bl true)) (wCons (wOp bAdd (wCall W_quoted (wCons (wVar 3) wNil)) (wC (.str ":"))) wNil))) (wCons (wTup (wCons (wC (.bl false)) (wCons (wOp bIxC (wVar 0) (wVar 3)) wNil))) wNil))))) wNil)))
/-- pieces_of -/
def W_pieces_of : WC := wDef 5 1 (wSeq (wIfS (wTru (wCall fIsiV (wCons (wVar 0) (wCons (wC (.ty "dict")) wNil)))) (wSeq (wAsg (wLst (wCons (wTup (wCons (wC (.bl true)) (wCons (wC (.str "{")) wNil))) wNil)) (gN 1))
  (wSeq (wFor (itEnum (wCons (wFrz (wCall fSortC (wCons (wVar 0) wNil))) wNil)) (gTu 2 (gsCons (gN 2) (gsCons (gN 3) gsNil))) W_pieces_of_6)
  W_pieces_of_5)) wNext)
  W_pieces_of_4)
abbrev W_value_text_1 : WS := (wRet (wMt "str" mJoin (wC (.str "")) (wCons (wVar 1) wNil)))
abbrev W_value_text_2 : WS := (wSeq (wAsg (wMt "list" mPop (wVar 2) wNil) (gTu 2 (gsCons (gN 3) (gsCons (gN 4) gsNil))))
  (wIfS (wTru (wVar 3)) (wDrop (wMt "list" mAppend (wVar 1) (wCons (wVar 4) wNil))) (wDrop (wMt "list" mExtendC (wVar 2) (wCons (wFrz (wRev (wCall W_pieces_of (wCons (wVar 4) wNil)) (wUn bNeg (wC (.int 1))))) wNil)))))
/-- value_text -/
def W_value_text : WC := wDef 5 1 (wSeq (wAsg (wLst wNil) (gN 1))
  (wSeq (wAsg (wLst (wCons (wTup (wCons (wC (.bl false)) (wCons (wVar 0) wNil))) wNil)) (gN 2))
  (wSeq (wWhile (wTst (wOp cNeE (wVar 2) (wFrz (wLst wNil)))) W_value_text_2)
  W_value_text_1)))
/-- _law_pick -/
def W_L_pick : WC := wDef 2 2 (wRet (wOp bIxU (wVar 1) (wCall W_L_digit (wCons (wVar 0) (wCons (wCall fLenU (wCons (wVar 1) wNil)) wNil)))))
/-- _law_signs -/
def W_L_signs : WC := wDef 1 0 (wSeq (wAsg (wC (.str "ABCDEFGHIJKLMNOPQRSTUVWXYZ")) (gN 0))
  (wRet (wOp bAdd (wOp bAdd (wOp bAdd (wOp bAdd (wC (.str " !\"#$&'()*+,-./0123456789:;<=>?@")) (wVar 0)) (wC (.str "[\\]^_`"))) (wMt "str" mLower (wVar 0) wNil)) (wC (.str "{|}~")))))
abbrev W_L_plain_1 : WS := (wRet (wOp bIxU (wFrz (wLst (wCons (wC .non) (wCons (wC (.bl true)) (wCons (wC (.bl false)) (wCons (wVar 1) (wCons (wOp bSub (wC (.int 0)) (wVar 1)) (wCons (wC (.int 1)) (wCons (wC (.int 0)) wNil))))))))) (wOp bIxU (wFrz (wLst (wCons (wC (.int 0)) (wCons (wC (.int 1)) (wCons (wC (.int 2)) (wCons (wC (.int 3)) (wCons (wC (.int 4)) (wCons (wC (.int 5)) (wCons (wC (.int 6)) wNil))))))))) (wCall W_L_digit (wCons (wVar 0) (wCons (wC (.int 7)) wNil))))))
abbrev W_L_plain_2 : WS := (wSeq (wIfS (wTst (wOp cEq (wVar 2) (wC (.int 3)))) (wRet (wMt "str" mJoin (wC (.str "")) (wCons (wFrz (wLc (itRng1 (wCons (wCall W_L_digit (wCons (wVar 0) (wCons (wC (.int 9)) wNil))) wNil)) (gN 3) wYes (wCall W_L_pick (wCons (wVar 0) (wCons (wC (.str "\"\\a")) wNil))) [3])) wNil))) wNext)
  W_L_plain_1)
abbrev W_L_plain_3 : WS := (wSeq (wIfS (wTst (wOp cLt (wVar 2) (wC (.int 3)))) (wRet (wMt "str" mJoin (wC (.str "")) (wCons (wFrz (wLc (itRng1 (wCons (wCall W_L_digit (wCons (wVar 0) (wCons (wOp bIxU (wFrz (wLst (wCons (wC (.int 2)) (wCons (wC (.int 5)) (wCons (wC (.int 41)) wNil))))) (wVar 2)) wNil))) wNil)) (gN 3) wYes (wCall W_L_pick (wCons (wVar 0) (wCons (wCall W_L_signs wNil) wNil))) [3])) wNil))) wNext)
  W_L_plain_2)
abbrev W_L_plain_4 : WS := (wSeq (wAsg (wCall W_L_digit (wCons (wVar 0) (wCons (wC (.int 8)) wNil))) (gN 2))
  W_L_plain_3)
/-- _law_plain -/
def W_L_plain : WC := wDef 4 1 (wSeq (wAsg (wCall W_L_digit (wCons (wVar 0) (wCons (wOp bIxU (wFrz (wLst (wCons (wC (.int 10)) (wCons (wC (.int 1000)) (wCons (wOp bPow (wC (.int 10)) (wC (.int 30))) wNil))))) (wCall W_L_digit (wCons (wVar 0) (wCons (wC (.int 3)) wNil)))) wNil))) (gN 1))
  W_L_plain_4)
abbrev W_L_words_1 : WS := (wRet (wFrz (wVar 4)))
abbrev W_L_words_2 : WS := (wDrop (wMt "list" mAppend (wVar 4) (wCons (wOp bIxU (wFrz (wLc (itA (wVar 8)) (gN 9) (wTst (wOp cNinV (wVar 9) (wVar 4))) (wVar 9) [9])) (wC (.int 0))) wNil)))
abbrev W_L_words_3 : WS := (wSeq (wAsg (wFrz (wOp bAdd (wFrz (wLst (wCons (wVar 6) wNil))) (wFrz (wLc (itRng1 (wCons (wVar 1) wNil)) (gN 7) wYes (wOp bAdd (wFrz (wSl (wVar 6) wNoPart (wPart (wOp bSub (wVar 3) (wC (.int 1)))))) (wOp bIxU (wVar 2) (wVar 7))) [7])))) (gN 8))
  W_L_words_2)
abbrev W_L_words_4 : WS := (wAsg (wOp bAdd (wVar 6) (wCall W_L_pick (wCons (wVar 0) (wCons (wVar 2) wNil)))) (gN 6))
abbrev W_L_words_5 : WS := (wSeq (wFor (itRng1 (wCons (wCall W_L_digit (wCons (wVar 0) (wCons (wOp bIxU (wFrz (wLst (wCons (wC (.int 1)) (wCons (wC (.int 2)) (wCons (wVar 3) wNil))))) (wCall W_L_digit (wCons (wVar 0) (wCons (wC (.int 3)) wNil)))) wNil))) wNil)) (gN 7) W_L_words_4)
  W_L_words_3)
abbrev W_L_words_6 : WS := (wSeq (wAsg (wOp bIxU (wVar 2) (wCall W_L_digit (wCons (wVar 0) (wCons (wC (.int 26)) wNil)))) (gN 6))
  W_L_words_5)
/-- _law_words -/
def W_L_words : WC := wDef 10 4 (wSeq (wAsg (wLst wNil) (gN 4))
  (wSeq (wFor (itRng1 (wCons (wVar 1) wNil)) (gN 5) W_L_words_6)
  W_L_words_1))
abbrev W_L_value_1 : WS := (wRet (wOp bIxU (wFrz (wLst (wCons (wOp bIxU (wVar 1) (wUn bNeg (wC (.int 1)))) (wCons (wFrz (wVar 1)) wNil)))) (wCall W_L_digit (wCons (wVar 0) (wCons (wC (.int 2)) wNil)))))
abbrev W_L_value_2 : WS := (wDrop (wMt "list" mAppend (wVar 1) (wCons (wOp bIxU (wFrz (wLst (wCons (wVar 5) (wCons (wFrzD (wCall fDictS (wCons (wFrz (wListZ (wCons (wVar 6) (wCons (wVar 5) wNil)))) wNil))) wNil)))) (wOp bSub (wVar 3) (wC (.int 2)))) wNil)))
abbrev W_L_value_3 : WS := (wSeq (wAsg (wFrz (wSl (wVar 1) (wPart (wOp bSub (wCall fLenU (wCons (wVar 1) wNil)) (wVar 4))) wNoPart)) (gN 5))
  (wSeq (wAsg (wSl (wVar 1) wNoPart (wPart (wOp bSub (wCall fLenU (wCons (wVar 1) wNil)) (wVar 4)))) (gN 1))
  (wSeq (wAsg (wCall W_L_words (wCons (wVar 0) (wCons (wVar 4) (wCons (wC (.str "abcdefghijklmnopqrstuvwxyz0123456789_")) (wCons (wC (.int 12)) wNil))))) (gN 6))
  W_L_value_2)))
abbrev W_L_value_4 : WS := (wIfS (wTst (wOp cLt (wVar 3) (wC (.int 2)))) (wDrop (wMt "list" mAppend (wVar 1) (wCons (wCall W_L_plain (wCons (wVar 0) wNil)) wNil))) (wSeq (wAsg (wCall W_L_digit (wCons (wVar 0) (wCons (wOp bAdd (wCall fMin2 (wCons (wC (.int 6)) (wCons (wCall fLenU (wCons (wVar 1) wNil)) wNil))) (wC (.int 1))) wNil))) (gN 4))
  W_L_value_3))
abbrev W_L_value_5 : WS := (wSeq (wAsg (wCall W_L_digit (wCons (wVar 0) (wCons (wC (.int 4)) wNil))) (gN 3))
  W_L_value_4)
abbrev W_L_value_6 : WS := (wSeq (wFor (itRng1 (wCons (wCall W_L_digit (wCons (wVar 0) (wCons (wC (.int 20)) wNil))) wNil)) (gN 2) W_L_value_5)
  W_L_value_1)
/-- _law_value -/
def W_L_value : WC := wDef 7 1 (wSeq (wAsg (wLst (wCons (wCall W_L_plain (wCons (wVar 0) wNil)) wNil)) (gN 1))
  W_L_value_6)
abbrev W_L_turned_1 : WS := (wRet (wFrzD (wVar 1)))
abbrev W_L_turned_2 : WS := (wAsg (wOp bIxC (wVar 0) (wVar 2)) (gSt stU (wVar 1) (wVar 2)))
/-- _law_turned -/
def W_L_turned : WC := wDef 3 1 (wSeq (wIfS (wtNot (wTru (wCall fIsiV (wCons (wVar 0) (wCons (wC (.ty "dict")) wNil))))) (wRet (wFrz (wVar 0))) wNext)
  (wSeq (wAsg wDict0A (gN 1))
  (wSeq (wFor (itA (wFrz (wRev (wFrz (wCall fListC (wCons (wVar 0) wNil))) (wUn bNeg (wC (.int 1)))))) (gN 2) W_L_turned_2)
  W_L_turned_1)))
abbrev W_law_1 : WS := (wRet (wAnd (wOp cEq (wCall W_value_text (wCons (wFrzD wDict0A) wNil)) (wC (.str "{}"))) (wAnd (wOp cEq (wCall W_value_text (wCons (wFrz (wLst wNil)) wNil)) (wC (.str "[]"))) (wOp cEq (wCall W_value_text (wCons (wC (.str "")) wNil)) (wC (.str "\"\""))))))
abbrev W_law_2 : WS := (wIfS (wTst (wOp cNe (wCall W_value_text (wCons (wCall W_L_turned (wCons (wVar 3) wNil)) wNil)) (wVar 4))) (wRet (wC (.bl false))) wNext)
abbrev W_law_3 : WS := (wSeq (wIfS (wtOr (wtNot (wTru (wCall fIsiV (wCons (wVar 5) (wCons (wC (.ty "str")) wNil))))) (wtOr (wTst (wOp cNe (wVar 5) (wVar 4))) (wTst (wOp cNe (wCall W_L_text (wCons (wVar 3) wNil)) (wVar 4))))) (wRet (wC (.bl false))) wNext)
  W_law_2)
abbrev W_law_4 : WS := (wSeq (wAsg (wCall W_value_text (wCons (wVar 3) wNil)) (gN 5))
  W_law_3)
abbrev W_law_5 : WS := (wSeq (wAsg (wCall W_L_text (wCons (wVar 3) wNil)) (gN 4))
  W_law_4)
abbrev W_law_6 : WS := (wSeq (wAsg (wCall W_L_deep (wCons (wVar 2) (wCons (wCall W_L_value (wCons (wVar 2) wNil)) wNil))) (gN 3))
  W_law_5)
abbrev W_law_7 : WS := (wSeq (wAsg (wCall W_L_pot (wCons (wVar 0) (wCons (wVar 1) wNil))) (gN 2))
  W_law_6)
/-- law -/
def W_law : WC := wDef 6 1 (wSeq (wFor (itRng1 (wCons (wCall fMax2 (wCons (wC (.int 1)) (wCons (wCall fMin2 (wCons (wC (.int 8)) (wCons (wCall fLenU (wCons (wVar 0) wNil)) wNil))) wNil))) wNil)) (gN 1) W_law_7)
  W_law_1)
end L2.Dl.G

namespace L2.Dl.G
open PySem PySem.Spec PyProof.Rows
variable [Tb]
def topS (i : Nat) : Stmt := PySem.Challenge.pw_heardalike_k66_value_texts.main.body.getD i (.Pass ⟨0, 0, 0, 0⟩)
abbrev s_L_pot : Stmt := topS 6
abbrev s_L_digit : Stmt := topS 7
abbrev s_L_deep : Stmt := topS 14
abbrev s_L_quoted : Stmt := topS 15
abbrev s_L_plain_text : Stmt := topS 16
abbrev s_L_opened : Stmt := topS 17
abbrev s_L_text : Stmt := topS 18
abbrev s_quoted : Stmt := topS 1
abbrev s_plain_text : Stmt := topS 2
abbrev s_pieces_of : Stmt := topS 3
abbrev s_value_text : Stmt := topS 4
abbrev s_L_pick : Stmt := topS 8
abbrev s_L_signs : Stmt := topS 11
abbrev s_L_plain : Stmt := topS 12
abbrev s_L_words : Stmt := topS 9
abbrev s_L_value : Stmt := topS 13
abbrev s_L_turned : Stmt := topS 19
abbrev s_law : Stmt := topS 20
structure T [Tb] (w : World) (K : PySem.W.Frag) (mg : Str → Option Value) where
  L_pot : Fx K mg "_law_pot" s_L_pot
  L_digit : Fx K mg "_law_digit" s_L_digit
  L_deep : Fx K mg "_law_deep" s_L_deep
  L_quoted : Fx K mg "_law_quoted" s_L_quoted
  L_plain_text : Fx K mg "_law_plain_text" s_L_plain_text
  L_opened : Fx K mg "_law_opened" s_L_opened
  L_text : Fx K mg "_law_text" s_L_text
  quoted : Fx K mg "quoted" s_quoted
  plain_text : Fx K mg "plain_text" s_plain_text
  pieces_of : Fx K mg "pieces_of" s_pieces_of
  value_text : Fx K mg "value_text" s_value_text
  L_pick : Fx K mg "_law_pick" s_L_pick
  L_signs : Fx K mg "_law_signs" s_L_signs
  L_plain : Fx K mg "_law_plain" s_L_plain
  L_words : Fx K mg "_law_words" s_L_words
  L_value : Fx K mg "_law_value" s_L_value
  L_turned : Fx K mg "_law_turned" s_L_turned
  law : Fx K mg "law" s_law
  b_L_deep : PB K L_deep.fd ["_law_pot_here", "_law_value_here"]
  b_L_digit : PB K L_digit.fd ["_law_pot_here", "_law_many"]
  b_L_opened : PB K L_opened.fd ["_law_value_here"]
  b_L_pick : PB K L_pick.fd ["_law_pot_here", "_law_row"]
  b_L_plain : PB K L_plain.fd ["_law_pot_here"]
  b_L_plain_text : PB K L_plain_text.fd ["_law_value_here"]
  b_L_pot : PB K L_pot.fd ["_law_script", "_law_k"]
  b_L_quoted : PB K L_quoted.fd ["_law_text_here"]
  b_L_signs : PB K L_signs.fd []
  b_L_text : PB K L_text.fd ["_law_value_here"]
  b_L_turned : PB K L_turned.fd ["_law_value_here"]
  b_L_value : PB K L_value.fd ["_law_pot_here"]
  b_L_words : PB K L_words.fd ["_law_pot_here", "_law_many", "_law_signs_here", "_law_most"]
  b_pieces_of : PB K pieces_of.fd ["value"]
  b_plain_text : PB K plain_text.fd ["value"]
  b_quoted : PB K quoted.fd ["text"]
  b_value_text : PB K value_text.fd ["value"]
  b_law : PB K law.fd ["_law_script"]
  n_abs : mg "abs" = none
  n_bool : mg "bool" = none
  n_dict : mg "dict" = none
  n_divmod : mg "divmod" = none
  n_enumerate : mg "enumerate" = none
  n_int : mg "int" = none
  n_isinstance : mg "isinstance" = none
  n_len : mg "len" = none
  n_list : mg "list" = none
  n_max : mg "max" = none
  n_min : mg "min" = none
  n_range : mg "range" = none
  n_sorted : mg "sorted" = none
  n_str : mg "str" = none
  n_zip : mg "zip" = none

section
variable {P : Program} {w : World} {K : PySem.W.Frag} {mg : Str → Option Value} {base : Heap}
theorem sc_L_pot : FnScope ["_law_script", "_law_k", "_law_cell"] ["_law_script", "_law_k"] (defScope s_L_pot) := ⟨rfl, rfl, rfl, by decide +kernel, rfl, by decide +kernel, by decide +kernel⟩
theorem ok_L_pot (t : T w K mg) (hB : ∀ t ∈ Tb.C, LamX.TabB base mg t.c t.P) : FnG P w K mg base 2 t.L_pot.f t.L_pot.fd ["_law_script", "_law_k"] W_L_pot := fn_g t.L_pot.F sc_L_pot fun A outer s H hr =>
  (s_cons (ss 2 sc_L_pot.nd d_int)
    (s_cons (s_if (t_cmp (o_lt hr.1.units) (dv 1) (d_callB c_lenU (by rfl) t.n_len (by decide +kernel) (a_cons (dv 0) a_nil)) (nomark _)) (s_one (ss 2 sc_L_pot.nd (d_ixU hr.1.units (dv 0) (dv 1) (fun _ _ => rfl)))) s_nil)
    (s_one (s_ret (d_frz (d_lst (a_cons (d_callB (c_max2 rfl) (by rfl) t.n_max (by decide +kernel) (a_cons d_int (a_cons (d_op o_sub (d_callB c_abs (by rfl) t.n_abs (by decide +kernel) (a_cons (dv 2) a_nil)) (d_op o_pow d_int d_int)) a_nil))) (a_cons (d_op o_add (d_op o_add (d_op o_mod (d_callB c_abs (by rfl) t.n_abs (by decide +kernel) (a_cons (dv 2) a_nil)) d_int) (d_op o_mul d_int (dv 1))) d_int) a_nil))))))))
theorem sc_L_digit : FnScope ["_law_pot_here", "_law_many", "_law_digit_here"] ["_law_pot_here", "_law_many"] (defScope s_L_digit) := ⟨rfl, rfl, rfl, by decide +kernel, rfl, by decide +kernel, by decide +kernel⟩
theorem ok_L_digit (t : T w K mg) (hB : ∀ t ∈ Tb.C, LamX.TabB base mg t.c t.P) : FnG P w K mg base 2 t.L_digit.f t.L_digit.fd ["_law_pot_here", "_law_many"] W_L_digit := fn_g t.L_digit.F sc_L_digit fun A outer s H hr =>
  (s_cons (s_if (t_cmp o_gt (d_ixU hr.1.units (dv 0) d_int (fun _ _ => rfl)) d_int (nomark _)) (s_cons (s_asg (d_callB c_divmod (by rfl) t.n_divmod (by decide +kernel) (a_cons (d_ixU hr.1.units (dv 0) d_int (fun _ _ => rfl)) (a_cons (dv 1) a_nil))) (g_tup rfl (gs_cons (g_sub (dv 0) d_int (st_U hr.1.units)) (gs_cons (gn 2 sc_L_digit.nd) gs_nil))))
    (s_one (s_ret (d_frz (dv 2))))) s_nil)
    (s_cons (s_asg (d_op o_mod (d_op o_add (d_op o_mul (d_ixU hr.1.units (dv 0) d_int (fun _ _ => rfl)) d_int) d_int) d_int) (g_sub (dv 0) d_int (st_U hr.1.units)))
    (s_one (s_ret (d_op o_mod (d_op o_div (d_op o_mod (d_op o_mul (d_ixU hr.1.units (dv 0) d_int (fun _ _ => rfl)) (d_ixU hr.1.units (dv 0) d_int (fun _ _ => rfl))) d_int) d_int) (dv 1))))))
theorem sc_L_deep : FnScope ["_law_pot_here", "_law_value_here", "_law_found", "_law_turn"] ["_law_pot_here", "_law_value_here"] (defScope s_L_deep) := ⟨rfl, rfl, rfl, by decide +kernel, rfl, by decide +kernel, by decide +kernel⟩
theorem ok_L_deep (t : T w K mg) (hB : ∀ t ∈ Tb.C, LamX.TabB base mg t.c t.P) : FnG P w K mg base 3 t.L_deep.f t.L_deep.fd ["_law_pot_here", "_law_value_here"] W_L_deep := fn_g t.L_deep.F sc_L_deep fun A outer s H hr =>
  (s_cons (ss 2 sc_L_deep.nd (dv 1))
    (s_cons (s_for PassesOwn.never rfl (i_rng1 (by rfl) t.n_range (a_cons (d_ixU hr.1.units (d_frz (d_lst (a_cons d_int (a_cons d_int (a_cons (d_call (ok_L_digit t hB) (hr.mono (j := 2) (by decide)) (by rfl) t.L_digit.g t.L_digit.F.kp t.b_L_digit (a_cons (dv 0) (a_cons d_int a_nil))) a_nil))))) (d_call (ok_L_digit t hB) (hr.mono (j := 2) (by decide)) (by rfl) t.L_digit.g t.L_digit.F.kp t.b_L_digit (a_cons (dv 0) (a_cons d_int a_nil))) (fun _ _ => rfl)) a_nil)) (gn 3 sc_L_deep.nd) (s_one (ss 2 sc_L_deep.nd (d_ixU hr.1.units (d_frz (d_lst (a_cons (d_frz (d_lst (a_cons (dv 2) a_nil))) (a_cons (d_frzD (d_dict (p_cons d_str (dv 2) (p_cons d_str (dv 3) p_nil)))) (a_cons (d_frz (d_lst (a_cons d_non (a_cons (dv 2) a_nil)))) a_nil))))) (d_call (ok_L_digit t hB) (hr.mono (j := 2) (by decide)) (by rfl) t.L_digit.g t.L_digit.F.kp t.b_L_digit (a_cons (dv 0) (a_cons d_int a_nil))) (fun _ _ => rfl)))))
    (s_one (s_ret (d_frz (dv 2))))))
theorem sc_L_quoted : FnScope ["_law_text_here", "_law_found", "_law_sign"] ["_law_text_here"] (defScope s_L_quoted) := ⟨rfl, rfl, rfl, by decide +kernel, rfl, by decide +kernel, by decide +kernel⟩
theorem ok_L_quoted (t : T w K mg) (hB : ∀ t ∈ Tb.C, LamX.TabB base mg t.c t.P) : FnG P w K mg base 2 t.L_quoted.f t.L_quoted.fd ["_law_text_here"] W_L_quoted := fn_g t.L_quoted.F sc_L_quoted fun A outer s H hr =>
  (s_cons (ss 1 sc_L_quoted.nd d_str)
    (s_cons (s_for PassesOwn.never rfl (i_any (dv 0)) (gn 2 sc_L_quoted.nd) (s_cons (s_if (t_cmp (o_inV (units65 hr.1)) (dv 2) (d_tup (a_cons d_str (a_cons d_str a_nil))) (by with_unfolding_all rfl)) (s_one (ss 1 sc_L_quoted.nd (d_op o_add (dv 1) d_str))) s_nil)
    (s_one (ss 1 sc_L_quoted.nd (d_op o_add (dv 1) (dv 2))))))
    (s_one (s_ret (d_op o_add (dv 1) d_str)))))
theorem sc_L_plain_text : FnScope ["_law_value_here"] ["_law_value_here"] (defScope s_L_plain_text) := ⟨rfl, rfl, rfl, by decide +kernel, rfl, by decide +kernel, by decide +kernel⟩
theorem ok_L_plain_text (t : T w K mg) (hB : ∀ t ∈ Tb.C, LamX.TabB base mg t.c t.P) : FnG P w K mg base 3 t.L_plain_text.f t.L_plain_text.fd ["_law_value_here"] W_L_plain_text := fn_g t.L_plain_text.F sc_L_plain_text fun A outer s H hr =>
  (s_cons (s_if (t_cmp o_isn (dv 0) d_non (nomark _)) (s_one (s_ret d_str)) s_nil)
    (s_cons (s_if (t_tru (d_callB c_isiV (by rfl) t.n_isinstance (by decide +kernel) (a_cons (dv 0) (a_cons (d_bty (by rfl) t.n_bool (by decide +kernel)) a_nil)))) (s_one (s_ret (d_ixU hr.1.units (d_frz (d_lst (a_cons d_str (a_cons d_str a_nil)))) (d_callTy c_int (by rfl) t.n_int (by decide +kernel) (a_cons (dv 0) a_nil)) (fun _ _ => rfl)))) s_nil)
    (s_cons (s_if (t_tru (d_callB c_isiV (by rfl) t.n_isinstance (by decide +kernel) (a_cons (dv 0) (a_cons (d_bty (by rfl) t.n_int (by decide +kernel)) a_nil)))) (s_one (s_ret (d_callTy c_str (by rfl) t.n_str (by decide +kernel) (a_cons (dv 0) a_nil)))) s_nil)
    (s_one (s_ret (d_call (ok_L_quoted t hB) (hr.mono (j := 2) (by decide)) (by rfl) t.L_quoted.g t.L_quoted.F.kp t.b_L_quoted (a_cons (dv 0) a_nil)))))))
theorem sc_L_opened : FnScope ["_law_value_here", "_law_found", "_law_one", "_law_field"] ["_law_value_here"] (defScope s_L_opened) := ⟨rfl, rfl, rfl, by decide +kernel, rfl, by decide +kernel, by decide +kernel⟩
theorem ok_L_opened (t : T w K mg) (hB : ∀ t ∈ Tb.C, LamX.TabB base mg t.c t.P) : FnG P w K mg base 3 t.L_opened.f t.L_opened.fd ["_law_value_here"] W_L_opened := fn_g t.L_opened.F sc_L_opened fun A outer s H hr =>
  (s_cons (ss 1 sc_L_opened.nd (d_frz (d_lst a_nil)))
    (s_cons (s_if (t_tru (d_callB c_isiV (by rfl) t.n_isinstance (by decide +kernel) (a_cons (dv 0) (a_cons (d_bty (by rfl) t.n_dict (by decide +kernel)) a_nil)))) (s_cons (s_for PassesOwn.never rfl (i_any (d_frz (d_callB (c_sortC rfl) (by rfl) t.n_sorted (by decide +kernel) (a_cons (dv 0) a_nil)))) (gn 3 sc_L_opened.nd) (s_one (ss 1 sc_L_opened.nd (d_frz (d_op o_add (dv 1) (d_frz (d_lst (a_cons (d_tup (a_cons d_str (a_cons d_str a_nil))) (a_cons (d_tup (a_cons d_str (a_cons (d_op o_add (d_call (ok_L_quoted t hB) (hr.mono (j := 2) (by decide)) (by rfl) t.L_quoted.g t.L_quoted.F.kp t.b_L_quoted (a_cons (dv 3) a_nil)) d_str) a_nil))) (a_cons (d_tup (a_cons d_str (a_cons (d_ixC hr.1.units (dv 0) (dv 3) (fun _ _ => rfl)) a_nil))) a_nil))))))))))
    (s_one (s_ret (d_frz (d_op o_add (d_frz (d_op o_add (d_frz (d_lst (a_cons (d_tup (a_cons d_str (a_cons d_str a_nil))) a_nil))) (d_frz (d_slice (dv 1) (o_some d_int) o_none)))) (d_frz (d_lst (a_cons (d_tup (a_cons d_str (a_cons d_str a_nil))) a_nil)))))))) s_nil)
    (s_cons (s_for PassesOwn.never rfl (i_any (dv 0)) (gn 2 sc_L_opened.nd) (s_one (ss 1 sc_L_opened.nd (d_frz (d_op o_add (dv 1) (d_frz (d_lst (a_cons (d_tup (a_cons d_str (a_cons d_str a_nil))) (a_cons (d_tup (a_cons d_str (a_cons (dv 2) a_nil))) a_nil)))))))))
    (s_one (s_ret (d_frz (d_op o_add (d_frz (d_op o_add (d_frz (d_lst (a_cons (d_tup (a_cons d_str (a_cons d_str a_nil))) a_nil))) (d_frz (d_slice (dv 1) (o_some d_int) o_none)))) (d_frz (d_lst (a_cons (d_tup (a_cons d_str (a_cons d_str a_nil))) a_nil))))))))))
theorem sc_L_text : FnScope ["_law_value_here", "_law_pile", "_law_found", "_law_way", "_law_one"] ["_law_value_here"] (defScope s_L_text) := ⟨rfl, rfl, rfl, by decide +kernel, rfl, by decide +kernel, by decide +kernel⟩
theorem ok_L_text (t : T w K mg) (hB : ∀ t ∈ Tb.C, LamX.TabB base mg t.c t.P) : FnG P w K mg base 4 t.L_text.f t.L_text.fd ["_law_value_here"] W_L_text := fn_g t.L_text.F sc_L_text fun A outer s H hr =>
  (s_cons (ss 1 sc_L_text.nd (d_lst (a_cons (d_tup (a_cons d_str (a_cons (dv 0) a_nil))) a_nil)))
    (s_cons (ss 2 sc_L_text.nd (d_lst a_nil))
    (s_cons (s_while PassesOwn.never (t_cmp (o_neE hr.1.units) (dv 1) (d_frz (d_lst a_nil)) (nomark _)) (s_cons (s_asg (d_bm0 PySem.F.plainAttrs_list PySem.F.slot_list_pop PySem.F.type_list_pop m_pop (dv 1)) (g_tup rfl (gs_cons (gn 3 sc_L_text.nd) (gs_cons (gn 4 sc_L_text.nd) gs_nil))))
    (s_one (s_if (t_cmp (o_eq hr.1.units) (dv 3) d_str (nomark _)) (s_one (s_expr (d_bm PySem.F.plainAttrs_list PySem.F.slot_list_append PySem.F.type_list_append m_append (dv 2) (a_cons (dv 4) a_nil)))) (s_one (s_if (t_tru (d_callB c_isiT (by rfl) t.n_isinstance (by decide +kernel) (a_cons (dv 4) (a_cons (d_tup (a_cons (d_bty (by rfl) t.n_dict (by decide +kernel)) (a_cons (d_bty (by rfl) t.n_list (by decide +kernel)) a_nil))) a_nil)))) (s_one (s_expr (d_bm PySem.F.plainAttrs_list PySem.F.slot_list_extend PySem.F.type_list_extend m_extendC (dv 1) (a_cons (d_frz (d_rev (d_call (ok_L_opened t hB) (hr.mono (j := 3) (by decide)) (by rfl) t.L_opened.g t.L_opened.F.kp t.b_L_opened (a_cons (dv 4) a_nil)) (d_un o_neg d_int))) a_nil)))) (s_one (s_expr (d_bm PySem.F.plainAttrs_list PySem.F.slot_list_append PySem.F.type_list_append m_append (dv 2) (a_cons (d_call (ok_L_plain_text t hB) (hr.mono (j := 3) (by decide)) (by rfl) t.L_plain_text.g t.L_plain_text.F.kp t.b_L_plain_text (a_cons (dv 4) a_nil)) a_nil))))))))))
    (s_one (s_ret (d_bm PySem.F.plainAttrs_str PySem.F.slot_str_join PySem.F.type_str_join m_join d_str (a_cons (dv 2) a_nil)))))))
abbrev N_quoted : List Str := ["text", "row", "sign"]
theorem sc_quoted : FnScope ["text", "row", "sign"] ["text"] (defScope s_quoted) := ⟨rfl, rfl, rfl, by decide +kernel, rfl, by decide +kernel, by decide +kernel⟩
theorem ok_quoted (t : T w K mg) (hB : ∀ t ∈ Tb.C, LamX.TabB base mg t.c t.P) : FnG P w K mg base 2 t.quoted.f t.quoted.fd ["text"] W_quoted := fn_g t.quoted.F sc_quoted fun A outer s H hr =>
  (s_cons (s_frz 1 (s_setLc (own := [("sign", 2)]) (i := 1) rfl sc_quoted.nd rfl rfl (sw_true rfl rfl rfl (by decide +kernel)) (i_any (dv 0)) (blkOk_by (own := [("sign", 2)]) (N := N_quoted) (sc := defScope s_quoted) (by decide +kernel)) (fun _ _ _ _ _ => (gon 2 sc_quoted.nd)) (fun _ _ _ _ _ => ts_nil) (fun _ _ _ _ _ => (d_if (t_w (w_and (t_cmp (o_ne hr.1.units) (dv 2) d_str (nomark _)) (w_and1 (t_cmp (o_ne hr.1.units) (dv 2) d_str (nomark _))))) (dv 2) (d_op o_add d_str (dv 2))))))
    (s_one (s_ret (d_op o_add (d_op o_add d_str (d_bm PySem.F.plainAttrs_str PySem.F.slot_str_join PySem.F.type_str_join m_join d_str (a_cons (dv 1) a_nil))) d_str))))
theorem sc_plain_text : FnScope ["value"] ["value"] (defScope s_plain_text) := ⟨rfl, rfl, rfl, by decide +kernel, rfl, by decide +kernel, by decide +kernel⟩
theorem ok_plain_text (t : T w K mg) (hB : ∀ t ∈ Tb.C, LamX.TabB base mg t.c t.P) : FnG P w K mg base 3 t.plain_text.f t.plain_text.fd ["value"] W_plain_text := fn_g t.plain_text.F sc_plain_text fun A outer s H hr =>
  (s_cons (s_if (t_cmp o_isn (dv 0) d_non (nomark _)) (s_one (s_ret d_str)) s_nil)
    (s_cons (s_if (t_tru (d_callB c_isiV (by rfl) t.n_isinstance (by decide +kernel) (a_cons (dv 0) (a_cons (d_bty (by rfl) t.n_bool (by decide +kernel)) a_nil)))) (s_one (s_ret (d_if (t_tru (dv 0)) d_str d_str))) s_nil)
    (s_cons (s_if (t_tru (d_callB c_isiV (by rfl) t.n_isinstance (by decide +kernel) (a_cons (dv 0) (a_cons (d_bty (by rfl) t.n_int (by decide +kernel)) a_nil)))) (s_one (s_ret (d_callTy c_str (by rfl) t.n_str (by decide +kernel) (a_cons (dv 0) a_nil)))) s_nil)
    (s_one (s_ret (d_call (ok_quoted t hB) (hr.mono (j := 2) (by decide)) (by rfl) t.quoted.g t.quoted.F.kp t.b_quoted (a_cons (dv 0) a_nil)))))))
theorem sc_pieces_of : FnScope ["value", "found", "at", "field", "one"] ["value"] (defScope s_pieces_of) := ⟨rfl, rfl, rfl, by decide +kernel, rfl, by decide +kernel, by decide +kernel⟩
theorem ok_pieces_of (t : T w K mg) (hB : ∀ t ∈ Tb.C, LamX.TabB base mg t.c t.P) : FnG P w K mg base 4 t.pieces_of.f t.pieces_of.fd ["value"] W_pieces_of := fn_g t.pieces_of.F sc_pieces_of fun A outer s H hr =>
  (s_cons (s_if (t_tru (d_callB c_isiV (by rfl) t.n_isinstance (by decide +kernel) (a_cons (dv 0) (a_cons (d_bty (by rfl) t.n_dict (by decide +kernel)) a_nil)))) (s_cons (ss 1 sc_pieces_of.nd (d_lst (a_cons (d_tup (a_cons d_bl (a_cons d_str a_nil))) a_nil)))
    (s_cons (s_for PassesOwn.never rfl (i_enum (by rfl) t.n_enumerate (a_cons (d_frz (d_callB (c_sortC rfl) (by rfl) t.n_sorted (by decide +kernel) (a_cons (dv 0) a_nil))) a_nil)) (g_tup rfl (gs_cons (gn 2 sc_pieces_of.nd) (gs_cons (gn 3 sc_pieces_of.nd) gs_nil))) (s_one (s_expr (d_bm PySem.F.plainAttrs_list PySem.F.slot_list_extend PySem.F.type_list_extend m_extendC (dv 1) (a_cons (d_frz (d_lst (a_cons (d_tup (a_cons d_bl (a_cons (d_if (t_cmp o_gt (dv 2) d_int (nomark _)) d_str d_str) a_nil))) (a_cons (d_tup (a_cons d_bl (a_cons (d_op o_add (d_call (ok_quoted t hB) (hr.mono (j := 2) (by decide)) (by rfl) t.quoted.g t.quoted.F.kp t.b_quoted (a_cons (dv 3) a_nil)) d_str) a_nil))) (a_cons (d_tup (a_cons d_bl (a_cons (d_ixC hr.1.units (dv 0) (dv 3) (fun _ _ => rfl)) a_nil))) a_nil))))) a_nil)))))
    (s_one (s_ret (d_frz (d_op o_add (dv 1) (d_frz (d_lst (a_cons (d_tup (a_cons d_bl (a_cons d_str a_nil))) a_nil))))))))) s_nil)
    (s_cons (s_if (t_tru (d_callB c_isiV (by rfl) t.n_isinstance (by decide +kernel) (a_cons (dv 0) (a_cons (d_bty (by rfl) t.n_list (by decide +kernel)) a_nil)))) (s_cons (ss 1 sc_pieces_of.nd (d_lst (a_cons (d_tup (a_cons d_bl (a_cons d_str a_nil))) a_nil)))
    (s_cons (s_for PassesOwn.never rfl (i_enum (by rfl) t.n_enumerate (a_cons (dv 0) a_nil)) (g_tup rfl (gs_cons (gn 2 sc_pieces_of.nd) (gs_cons (gn 4 sc_pieces_of.nd) gs_nil))) (s_one (s_expr (d_bm PySem.F.plainAttrs_list PySem.F.slot_list_extend PySem.F.type_list_extend m_extendC (dv 1) (a_cons (d_frz (d_lst (a_cons (d_tup (a_cons d_bl (a_cons (d_if (t_cmp o_gt (dv 2) d_int (nomark _)) d_str d_str) a_nil))) (a_cons (d_tup (a_cons d_bl (a_cons (dv 4) a_nil))) a_nil)))) a_nil)))))
    (s_one (s_ret (d_frz (d_op o_add (dv 1) (d_frz (d_lst (a_cons (d_tup (a_cons d_bl (a_cons d_str a_nil))) a_nil))))))))) s_nil)
    (s_one (s_ret (d_frz (d_lst (a_cons (d_tup (a_cons d_bl (a_cons (d_call (ok_plain_text t hB) (hr.mono (j := 3) (by decide)) (by rfl) t.plain_text.g t.plain_text.F.kp t.b_plain_text (a_cons (dv 0) a_nil)) a_nil))) a_nil)))))))
theorem sc_value_text : FnScope ["value", "found", "pile", "is_written", "one"] ["value"] (defScope s_value_text) := ⟨rfl, rfl, rfl, by decide +kernel, rfl, by decide +kernel, by decide +kernel⟩
theorem ok_value_text (t : T w K mg) (hB : ∀ t ∈ Tb.C, LamX.TabB base mg t.c t.P) : FnG P w K mg base 5 t.value_text.f t.value_text.fd ["value"] W_value_text := fn_g t.value_text.F sc_value_text fun A outer s H hr =>
  (s_cons (ss 1 sc_value_text.nd (d_lst a_nil))
    (s_cons (ss 2 sc_value_text.nd (d_lst (a_cons (d_tup (a_cons d_bl (a_cons (dv 0) a_nil))) a_nil)))
    (s_cons (s_while PassesOwn.never (t_cmp (o_neE hr.1.units) (dv 2) (d_frz (d_lst a_nil)) (nomark _)) (s_cons (s_asg (d_bm0 PySem.F.plainAttrs_list PySem.F.slot_list_pop PySem.F.type_list_pop m_pop (dv 2)) (g_tup rfl (gs_cons (gn 3 sc_value_text.nd) (gs_cons (gn 4 sc_value_text.nd) gs_nil))))
    (s_one (s_if (t_tru (dv 3)) (s_one (s_expr (d_bm PySem.F.plainAttrs_list PySem.F.slot_list_append PySem.F.type_list_append m_append (dv 1) (a_cons (dv 4) a_nil)))) (s_one (s_expr (d_bm PySem.F.plainAttrs_list PySem.F.slot_list_extend PySem.F.type_list_extend m_extendC (dv 2) (a_cons (d_frz (d_rev (d_call (ok_pieces_of t hB) (hr.mono (j := 4) (by decide)) (by rfl) t.pieces_of.g t.pieces_of.F.kp t.b_pieces_of (a_cons (dv 4) a_nil)) (d_un o_neg d_int))) a_nil))))))))
    (s_one (s_ret (d_bm PySem.F.plainAttrs_str PySem.F.slot_str_join PySem.F.type_str_join m_join d_str (a_cons (dv 1) a_nil)))))))
theorem sc_L_pick : FnScope ["_law_pot_here", "_law_row"] ["_law_pot_here", "_law_row"] (defScope s_L_pick) := ⟨rfl, rfl, rfl, by decide +kernel, rfl, by decide +kernel, by decide +kernel⟩
theorem ok_L_pick (t : T w K mg) (hB : ∀ t ∈ Tb.C, LamX.TabB base mg t.c t.P) : FnG P w K mg base 3 t.L_pick.f t.L_pick.fd ["_law_pot_here", "_law_row"] W_L_pick := fn_g t.L_pick.F sc_L_pick fun A outer s H hr =>
  (s_one (s_ret (d_ixU hr.1.units (dv 1) (d_call (ok_L_digit t hB) (hr.mono (j := 2) (by decide)) (by rfl) t.L_digit.g t.L_digit.F.kp t.b_L_digit (a_cons (dv 0) (a_cons (d_callB c_lenU (by rfl) t.n_len (by decide +kernel) (a_cons (dv 1) a_nil)) a_nil))) (fun _ _ => rfl))))
theorem sc_L_signs : FnScope ["_law_capitals"] [] (defScope s_L_signs) := ⟨rfl, rfl, rfl, by decide +kernel, rfl, by decide +kernel, by decide +kernel⟩
theorem ok_L_signs (t : T w K mg) (hB : ∀ t ∈ Tb.C, LamX.TabB base mg t.c t.P) : FnG P w K mg base 2 t.L_signs.f t.L_signs.fd [] W_L_signs := fn_g t.L_signs.F sc_L_signs fun A outer s H hr =>
  (s_cons (ss 0 sc_L_signs.nd d_str)
    (s_one (s_ret (d_op o_add (d_op o_add (d_op o_add (d_op o_add d_str (dv 0)) d_str) (d_bm0 PySem.F.plainAttrs_str PySem.F.slot_str_lower PySem.F.type_str_lower m_lower (dv 0))) d_str))))
abbrev N_L_plain : List Str := ["_law_pot_here", "_law_number", "_law_way", "_law_k"]
theorem sc_L_plain : FnScope ["_law_pot_here", "_law_number", "_law_way", "_law_k"] ["_law_pot_here"] (defScope s_L_plain) := ⟨rfl, rfl, rfl, by decide +kernel, rfl, by decide +kernel, by decide +kernel⟩
theorem ok_L_plain (t : T w K mg) (hB : ∀ t ∈ Tb.C, LamX.TabB base mg t.c t.P) : FnG P w K mg base 4 t.L_plain.f t.L_plain.fd ["_law_pot_here"] W_L_plain := fn_g t.L_plain.F sc_L_plain fun A outer s H hr =>
  (s_cons (ss 1 sc_L_plain.nd (d_call (ok_L_digit t hB) (hr.mono (j := 2) (by decide)) (by rfl) t.L_digit.g t.L_digit.F.kp t.b_L_digit (a_cons (dv 0) (a_cons (d_ixU hr.1.units (d_frz (d_lst (a_cons d_int (a_cons d_int (a_cons (d_op o_pow d_int d_int) a_nil))))) (d_call (ok_L_digit t hB) (hr.mono (j := 2) (by decide)) (by rfl) t.L_digit.g t.L_digit.F.kp t.b_L_digit (a_cons (dv 0) (a_cons d_int a_nil))) (fun _ _ => rfl)) a_nil))))
    (s_cons (ss 2 sc_L_plain.nd (d_call (ok_L_digit t hB) (hr.mono (j := 2) (by decide)) (by rfl) t.L_digit.g t.L_digit.F.kp t.b_L_digit (a_cons (dv 0) (a_cons d_int a_nil))))
    (s_cons (s_if (t_cmp (o_lt hr.1.units) (dv 2) d_int (nomark _)) (s_one (s_ret (d_bm PySem.F.plainAttrs_str PySem.F.slot_str_join PySem.F.type_str_join m_join d_str (a_cons (d_frz (d_lc (own := [("_law_k", 3)]) rfl sc_L_plain.nd (i_rng1 (by rfl) t.n_range (a_cons (d_call (ok_L_digit t hB) (hr.mono (j := 2) (by decide)) (by rfl) t.L_digit.g t.L_digit.F.kp t.b_L_digit (a_cons (dv 0) (a_cons (d_ixU hr.1.units (d_frz (d_lst (a_cons d_int (a_cons d_int (a_cons d_int a_nil))))) (dv 2) (fun _ _ => rfl)) a_nil))) a_nil)) (blkOk_by (own := [("_law_k", 3)]) (N := N_L_plain) (sc := defScope s_L_plain) (by decide +kernel)) (fun _ _ _ _ _ => (gon 3 sc_L_plain.nd)) (fun _ _ _ _ _ => ts_nil) (fun _ _ _ _ _ => (d_call (ok_L_pick t hB) (hr.mono (j := 3) (by decide)) (by rfl) t.L_pick.g t.L_pick.F.kp t.b_L_pick (a_cons (dv 0) (a_cons (d_call0 (ok_L_signs t hB) (hr.mono (j := 2) (by decide)) (by rfl) t.L_signs.g t.L_signs.F.kp t.b_L_signs) a_nil)))))) a_nil)))) s_nil)
    (s_cons (s_if (t_cmp (o_eq hr.1.units) (dv 2) d_int (nomark _)) (s_one (s_ret (d_bm PySem.F.plainAttrs_str PySem.F.slot_str_join PySem.F.type_str_join m_join d_str (a_cons (d_frz (d_lc (own := [("_law_k", 3)]) rfl sc_L_plain.nd (i_rng1 (by rfl) t.n_range (a_cons (d_call (ok_L_digit t hB) (hr.mono (j := 2) (by decide)) (by rfl) t.L_digit.g t.L_digit.F.kp t.b_L_digit (a_cons (dv 0) (a_cons d_int a_nil))) a_nil)) (blkOk_by (own := [("_law_k", 3)]) (N := N_L_plain) (sc := defScope s_L_plain) (by decide +kernel)) (fun _ _ _ _ _ => (gon 3 sc_L_plain.nd)) (fun _ _ _ _ _ => ts_nil) (fun _ _ _ _ _ => (d_call (ok_L_pick t hB) (hr.mono (j := 3) (by decide)) (by rfl) t.L_pick.g t.L_pick.F.kp t.b_L_pick (a_cons (dv 0) (a_cons d_str a_nil)))))) a_nil)))) s_nil)
    (s_one (s_ret (d_ixU hr.1.units (d_frz (d_lst (a_cons d_non (a_cons d_bl (a_cons d_bl (a_cons (dv 1) (a_cons (d_op o_sub d_int (dv 1)) (a_cons d_int (a_cons d_int a_nil))))))))) (d_ixU hr.1.units (d_frz (d_lst (a_cons d_int (a_cons d_int (a_cons d_int (a_cons d_int (a_cons d_int (a_cons d_int (a_cons d_int a_nil))))))))) (d_call (ok_L_digit t hB) (hr.mono (j := 2) (by decide)) (by rfl) t.L_digit.g t.L_digit.F.kp t.b_L_digit (a_cons (dv 0) (a_cons d_int a_nil))) (fun _ _ => rfl)) (fun _ _ => rfl))))))))
abbrev N_L_words : List Str := ["_law_pot_here", "_law_many", "_law_signs_here", "_law_most", "_law_found", "_law_k", "_law_word", "_law_turn", "_law_some", "_law_one"]
theorem sc_L_words : FnScope ["_law_pot_here", "_law_many", "_law_signs_here", "_law_most", "_law_found", "_law_k", "_law_word", "_law_turn", "_law_some", "_law_one"] ["_law_pot_here", "_law_many", "_law_signs_here", "_law_most"] (defScope s_L_words) := ⟨rfl, rfl, rfl, by decide +kernel, rfl, by decide +kernel, by decide +kernel⟩
theorem ok_L_words (t : T w K mg) (hB : ∀ t ∈ Tb.C, LamX.TabB base mg t.c t.P) : FnG P w K mg base 4 t.L_words.f t.L_words.fd ["_law_pot_here", "_law_many", "_law_signs_here", "_law_most"] W_L_words := fn_g t.L_words.F sc_L_words fun A outer s H hr =>
  (s_cons (ss 4 sc_L_words.nd (d_lst a_nil))
    (s_cons (s_for PassesOwn.never rfl (i_rng1 (by rfl) t.n_range (a_cons (dv 1) a_nil)) (gn 5 sc_L_words.nd) (s_cons (ss 6 sc_L_words.nd (d_ixU hr.1.units (dv 2) (d_call (ok_L_digit t hB) (hr.mono (j := 2) (by decide)) (by rfl) t.L_digit.g t.L_digit.F.kp t.b_L_digit (a_cons (dv 0) (a_cons d_int a_nil))) (fun _ _ => rfl)))
    (s_cons (s_for PassesOwn.never rfl (i_rng1 (by rfl) t.n_range (a_cons (d_call (ok_L_digit t hB) (hr.mono (j := 2) (by decide)) (by rfl) t.L_digit.g t.L_digit.F.kp t.b_L_digit (a_cons (dv 0) (a_cons (d_ixU hr.1.units (d_frz (d_lst (a_cons d_int (a_cons d_int (a_cons (dv 3) a_nil))))) (d_call (ok_L_digit t hB) (hr.mono (j := 2) (by decide)) (by rfl) t.L_digit.g t.L_digit.F.kp t.b_L_digit (a_cons (dv 0) (a_cons d_int a_nil))) (fun _ _ => rfl)) a_nil))) a_nil)) (gn 7 sc_L_words.nd) (s_one (ss 6 sc_L_words.nd (d_op o_add (dv 6) (d_call (ok_L_pick t hB) (hr.mono (j := 3) (by decide)) (by rfl) t.L_pick.g t.L_pick.F.kp t.b_L_pick (a_cons (dv 0) (a_cons (dv 2) a_nil)))))))
    (s_cons (ss 8 sc_L_words.nd (d_frz (d_op o_add (d_frz (d_lst (a_cons (dv 6) a_nil))) (d_frz (d_lc (own := [("_law_turn", 7)]) rfl sc_L_words.nd (i_rng1 (by rfl) t.n_range (a_cons (dv 1) a_nil)) (blkOk_by (own := [("_law_turn", 7)]) (N := N_L_words) (sc := defScope s_L_words) (by decide +kernel)) (fun _ _ _ _ _ => (gon 7 sc_L_words.nd)) (fun _ _ _ _ _ => ts_nil) (fun _ _ _ _ _ => (d_op o_add (d_frz (d_slice (dv 6) o_none (o_some (d_op o_sub (dv 3) d_int)))) (d_ixU hr.1.units (dv 2) (dv 7) (fun _ _ => rfl)))))))))
    (s_one (s_expr (d_bm PySem.F.plainAttrs_list PySem.F.slot_list_append PySem.F.type_list_append m_append (dv 4) (a_cons (d_ixU hr.1.units (d_frz (d_lc (own := [("_law_one", 9)]) rfl sc_L_words.nd (i_any (dv 8)) (blkOk_by (own := [("_law_one", 9)]) (N := N_L_words) (sc := defScope s_L_words) (by decide +kernel)) (fun _ _ _ _ _ => (gon 9 sc_L_words.nd)) (fun _ _ _ _ _ => (ts_one (t_cmp (o_ninV (units65 hr.1)) (dv 9) (dv 4) (by with_unfolding_all rfl)))) (fun _ _ _ _ _ => (dv 9)))) d_int (fun _ _ => rfl)) a_nil))))))))
    (s_one (s_ret (d_frz (dv 4))))))
theorem sc_L_value : FnScope ["_law_pot_here", "_law_some", "_law_turn", "_law_way", "_law_many", "_law_inner", "_law_fields"] ["_law_pot_here"] (defScope s_L_value) := ⟨rfl, rfl, rfl, by decide +kernel, rfl, by decide +kernel, by decide +kernel⟩
theorem ok_L_value (t : T w K mg) (hB : ∀ t ∈ Tb.C, LamX.TabB base mg t.c t.P) : FnG P w K mg base 5 t.L_value.f t.L_value.fd ["_law_pot_here"] W_L_value := fn_g t.L_value.F sc_L_value fun A outer s H hr =>
  (s_cons (ss 1 sc_L_value.nd (d_lst (a_cons (d_call (ok_L_plain t hB) (hr.mono (j := 4) (by decide)) (by rfl) t.L_plain.g t.L_plain.F.kp t.b_L_plain (a_cons (dv 0) a_nil)) a_nil)))
    (s_cons (s_for PassesOwn.never rfl (i_rng1 (by rfl) t.n_range (a_cons (d_call (ok_L_digit t hB) (hr.mono (j := 2) (by decide)) (by rfl) t.L_digit.g t.L_digit.F.kp t.b_L_digit (a_cons (dv 0) (a_cons d_int a_nil))) a_nil)) (gn 2 sc_L_value.nd) (s_cons (ss 3 sc_L_value.nd (d_call (ok_L_digit t hB) (hr.mono (j := 2) (by decide)) (by rfl) t.L_digit.g t.L_digit.F.kp t.b_L_digit (a_cons (dv 0) (a_cons d_int a_nil))))
    (s_one (s_if (t_cmp (o_lt hr.1.units) (dv 3) d_int (nomark _)) (s_one (s_expr (d_bm PySem.F.plainAttrs_list PySem.F.slot_list_append PySem.F.type_list_append m_append (dv 1) (a_cons (d_call (ok_L_plain t hB) (hr.mono (j := 4) (by decide)) (by rfl) t.L_plain.g t.L_plain.F.kp t.b_L_plain (a_cons (dv 0) a_nil)) a_nil)))) (s_cons (ss 4 sc_L_value.nd (d_call (ok_L_digit t hB) (hr.mono (j := 2) (by decide)) (by rfl) t.L_digit.g t.L_digit.F.kp t.b_L_digit (a_cons (dv 0) (a_cons (d_op o_add (d_callB (c_min2 rfl) (by rfl) t.n_min (by decide +kernel) (a_cons d_int (a_cons (d_callB c_lenU (by rfl) t.n_len (by decide +kernel) (a_cons (dv 1) a_nil)) a_nil))) d_int) a_nil))))
    (s_cons (ss 5 sc_L_value.nd (d_frz (d_slice (dv 1) (o_some (d_op o_sub (d_callB c_lenU (by rfl) t.n_len (by decide +kernel) (a_cons (dv 1) a_nil)) (dv 4))) o_none)))
    (s_cons (ss 1 sc_L_value.nd (d_slice (dv 1) o_none (o_some (d_op o_sub (d_callB c_lenU (by rfl) t.n_len (by decide +kernel) (a_cons (dv 1) a_nil)) (dv 4)))))
    (s_cons (ss 6 sc_L_value.nd (d_call (ok_L_words t hB) (hr.mono (j := 4) (by decide)) (by rfl) t.L_words.g t.L_words.F.kp t.b_L_words (a_cons (dv 0) (a_cons (dv 4) (a_cons d_str (a_cons d_int a_nil))))))
    (s_one (s_expr (d_bm PySem.F.plainAttrs_list PySem.F.slot_list_append PySem.F.type_list_append m_append (dv 1) (a_cons (d_ixU hr.1.units (d_frz (d_lst (a_cons (dv 5) (a_cons (d_frzD (d_callTy (c_dictS rfl) (by rfl) t.n_dict (by decide +kernel) (a_cons (d_frz (d_listZip rfl (by rfl) t.n_list (by rfl) t.n_zip (a_cons (dv 6) (a_cons (dv 5) a_nil)))) a_nil))) a_nil)))) (d_op o_sub (dv 3) d_int) (fun _ _ => rfl)) a_nil))))))))))))
    (s_one (s_ret (d_ixU hr.1.units (d_frz (d_lst (a_cons (d_ixU hr.1.units (dv 1) (d_un o_neg d_int) (fun _ _ => rfl)) (a_cons (d_frz (dv 1)) a_nil)))) (d_call (ok_L_digit t hB) (hr.mono (j := 2) (by decide)) (by rfl) t.L_digit.g t.L_digit.F.kp t.b_L_digit (a_cons (dv 0) (a_cons d_int a_nil))) (fun _ _ => rfl))))))
theorem sc_L_turned : FnScope ["_law_value_here", "_law_found", "_law_field"] ["_law_value_here"] (defScope s_L_turned) := ⟨rfl, rfl, rfl, by decide +kernel, rfl, by decide +kernel, by decide +kernel⟩
theorem ok_L_turned (t : T w K mg) (hB : ∀ t ∈ Tb.C, LamX.TabB base mg t.c t.P) : FnG P w K mg base 2 t.L_turned.f t.L_turned.fd ["_law_value_here"] W_L_turned := fn_g t.L_turned.F sc_L_turned fun A outer s H hr =>
  (s_cons (s_if (t_not (t_tru (d_callB c_isiV (by rfl) t.n_isinstance (by decide +kernel) (a_cons (dv 0) (a_cons (d_bty (by rfl) t.n_dict (by decide +kernel)) a_nil))))) (s_one (s_ret (d_frz (dv 0)))) s_nil)
    (s_cons (ss 1 sc_L_turned.nd d_dict0A)
    (s_cons (s_for PassesOwn.never rfl (i_any (d_frz (d_rev (d_frz (d_callTy (c_listC rfl) (by rfl) t.n_list (by decide +kernel) (a_cons (dv 0) a_nil))) (d_un o_neg d_int)))) (gn 2 sc_L_turned.nd) (s_one (s_asg (d_ixC hr.1.units (dv 0) (dv 2) (fun _ _ => rfl)) (g_sub (dv 1) (dv 2) (st_U hr.1.units)))))
    (s_one (s_ret (d_frzD (dv 1)))))))
theorem sc_law : FnScope ["_law_script", "_law_k", "_law_pot_here", "_law_value_here", "_law_due", "_law_told"] ["_law_script"] (defScope s_law) := ⟨rfl, rfl, rfl, by decide +kernel, rfl, by decide +kernel, by decide +kernel⟩
theorem ok_law (t : T w K mg) (hB : ∀ t ∈ Tb.C, LamX.TabB base mg t.c t.P) : FnG P w K mg base 6 t.law.f t.law.fd ["_law_script"] W_law := fn_g t.law.F sc_law fun A outer s H hr =>
  (s_cons (s_for PassesOwn.never rfl (i_rng1 (by rfl) t.n_range (a_cons (d_callB (c_max2 rfl) (by rfl) t.n_max (by decide +kernel) (a_cons d_int (a_cons (d_callB (c_min2 rfl) (by rfl) t.n_min (by decide +kernel) (a_cons d_int (a_cons (d_callB c_lenU (by rfl) t.n_len (by decide +kernel) (a_cons (dv 0) a_nil)) a_nil))) a_nil))) a_nil)) (gn 1 sc_law.nd) (s_cons (ss 2 sc_law.nd (d_call (ok_L_pot t hB) (hr.mono (j := 2) (by decide)) (by rfl) t.L_pot.g t.L_pot.F.kp t.b_L_pot (a_cons (dv 0) (a_cons (dv 1) a_nil))))
    (s_cons (ss 3 sc_law.nd (d_call (ok_L_deep t hB) (hr.mono (j := 3) (by decide)) (by rfl) t.L_deep.g t.L_deep.F.kp t.b_L_deep (a_cons (dv 2) (a_cons (d_call (ok_L_value t hB) (hr.mono (j := 5) (by decide)) (by rfl) t.L_value.g t.L_value.F.kp t.b_L_value (a_cons (dv 2) a_nil)) a_nil))))
    (s_cons (ss 4 sc_law.nd (d_call (ok_L_text t hB) (hr.mono (j := 4) (by decide)) (by rfl) t.L_text.g t.L_text.F.kp t.b_L_text (a_cons (dv 3) a_nil)))
    (s_cons (ss 5 sc_law.nd (d_call (ok_value_text t hB) (hr.mono (j := 5) (by decide)) (by rfl) t.value_text.g t.value_text.F.kp t.b_value_text (a_cons (dv 3) a_nil)))
    (s_cons (s_if (t_w (w_or (t_not (t_tru (d_callB c_isiV (by rfl) t.n_isinstance (by decide +kernel) (a_cons (dv 5) (a_cons (d_bty (by rfl) t.n_str (by decide +kernel)) a_nil))))) (w_or (t_cmp (o_ne hr.1.units) (dv 5) (dv 4) (nomark _)) (w_or1 (t_cmp (o_ne hr.1.units) (d_call (ok_L_text t hB) (hr.mono (j := 4) (by decide)) (by rfl) t.L_text.g t.L_text.F.kp t.b_L_text (a_cons (dv 3) a_nil)) (dv 4) (nomark _)))))) (s_one (s_ret d_bl)) s_nil)
    (s_one (s_if (t_cmp (o_ne hr.1.units) (d_call (ok_value_text t hB) (hr.mono (j := 5) (by decide)) (by rfl) t.value_text.g t.value_text.F.kp t.b_value_text (a_cons (d_call (ok_L_turned t hB) (hr.mono (j := 2) (by decide)) (by rfl) t.L_turned.g t.L_turned.F.kp t.b_L_turned (a_cons (dv 3) a_nil)) a_nil)) (dv 4) (nomark _)) (s_one (s_ret d_bl)) s_nil))))))))
    (s_one (s_ret (d_and (d_cmp (o_eq hr.1.units) (d_call (ok_value_text t hB) (hr.mono (j := 5) (by decide)) (by rfl) t.value_text.g t.value_text.F.kp t.b_value_text (a_cons (d_frzD d_dict0A) a_nil)) d_str (nomark _)) (d_and (d_cmp (o_eq hr.1.units) (d_call (ok_value_text t hB) (hr.mono (j := 5) (by decide)) (by rfl) t.value_text.g t.value_text.F.kp t.b_value_text (a_cons (d_frz (d_lst a_nil)) a_nil)) d_str (nomark _)) (d_one (d_cmp (o_eq hr.1.units) (d_call (ok_value_text t hB) (hr.mono (j := 5) (by decide)) (by rfl) t.value_text.g t.value_text.F.kp t.b_value_text (a_cons d_str a_nil)) d_str (nomark _))))))))
end
end L2.Dl.G

namespace L2.Dl.G
open PySem PySem.Spec PyProof.Rows TL TXL Inj
local macro_rules | `(tactic| walk_at "zgo0") => `(tactic| repeat (with_reducible first | (refine z_isWE ?_; first | (refine z_isV ?_; first | refine z_v0 ?_ | refine z_v1 ?_ | refine z_v2 ?_ | refine z_v3 ?_ | refine z_v4 ?_ | refine z_v5 ?_ | refine z_v6 ?_ | refine z_v7 ?_ | refine z_v8 ?_ | refine z_v9 ?_ | refine z_v10 ?_ | refine z_v11 ?_ | refine z_v12 ?_ | refine z_v13 ?_ | refine z_v14 ?_ | refine z_v15 ?_) | refine z_op ?_ | refine z_c ?_ | refine z_call ?_ | refine z_frz ?_ | refine z_tup ?_ | refine z_mta ?_ | refine z_fld ?_ | refine z_lst ?_ | refine z_or ?_ | refine z_and ?_ | refine z_mt ?_ | refine z_callK ?_ | refine z_un ?_ | refine z_not ?_ | refine z_if ?_ | refine z_chain ?_ | refine z_sl ?_ | refine z_lc ?_ | refine z_kin ?_ | refine z_kix ?_ | refine z_kget ?_ | refine z_dict ?_ | refine z_meth ?_ | refine z_make ?_ | refine z_fmt ?_) | (refine z_isWS ?_; first | refine z_seq ?_ | refine z_asg ?_ | refine z_ifs ?_ | refine z_ret ?_ | refine z_drop ?_ | refine z_next ?_ | refine z_frzs ?_ | refine z_retN ?_ | refine z_for ?_ | refine z_par ?_ | refine z_par3 ?_ | refine z_setf ?_ | refine z_break ?_ | refine z_cont ?_) | (refine z_isgN ?_; first | refine z_g0 ?_ | refine z_g1 ?_ | refine z_g2 ?_ | refine z_g3 ?_ | refine z_g4 ?_ | refine z_g5 ?_ | refine z_g6 ?_ | refine z_g7 ?_ | refine z_g8 ?_ | refine z_g9 ?_ | refine z_g10 ?_ | refine z_g11 ?_ | refine z_g12 ?_ | refine z_g13 ?_ | refine z_g14 ?_ | refine z_g15 ?_) | (refine z_isWA ?_; first | refine z_cons ?_ | refine z_nil ?_) | (refine z_isW2 ?_; first | refine z_eqi ?_ | refine z_eqsT ?_ | refine z_eqsF (by decide +kernel) ?_ | refine z_eqs ?_ | refine z_nei ?_ | refine z_nesT ?_ | refine z_nesF (by decide +kernel) ?_ | refine z_nes ?_ | refine z_ut0 ?_ | refine z_ut1 ?_ | refine z_ut2 ?_ | refine z_ut3 ?_ | refine z_uc0 ?_ | refine z_sd0 ?_ | refine z_sd1 ?_ | refine z_le ?_ | refine z_lt ?_ | refine z_gtt ?_ | refine z_ge ?_ | refine z_add ?_ | refine z_sub ?_ | refine z_isn ?_ | refine z_isni ?_ | refine z_isns ?_ | refine z_isnt ?_ | refine z_isnb ?_ | refine z_nn ?_ | refine z_nni ?_ | refine z_nns ?_ | refine z_nnt ?_ | refine z_nnb ?_ | refine z_ix0 ?_ | refine z_ix1 ?_ | refine z_ix2 ?_ | refine z_ix3 ?_ | refine z_p15 ?_ | refine z_p30 ?_ | refine z_p18 ?_ | refine z_uin0 ?_ | refine z_unin0 ?_) | (refine z_isWT ?_; first | refine z_tst ?_ | refine z_tru ?_ | refine z_tand ?_ | refine z_tor ?_ | refine z_tnot ?_ | refine z_yes ?_) | refine z_gc ?_ | refine z_gn ?_ | refine z_gst ?_ | refine z_nop ?_ | refine z_prt ?_ | refine z_prti ?_ | refine z_mstr ?_ | refine z_tb ?_ | refine z_trb ?_ | refine z_trn ?_ | refine z_T ?_ | refine z_F ?_ | refine z_NF ?_ | refine z_NT ?_ | refine z_neg ?_ | refine z_slt ?_ | refine z_its ?_ | refine z_rng1 ?_ | refine z_starts ?_ | refine z_kins ?_ | refine z_kgets ?_ | refine z_js ?_ | refine z_jsn ?_ | refine z_wpc ?_ | refine z_wpn ?_ | refine z_ita ?_ | refine z_ant ?_ | refine z_anc ?_ | refine z_slc ?_ | refine z_gsd ?_ | (refine z_isF ?_; first | refine z_fn ?_ | refine z_fb ?_ | refine z_fi ?_ | refine z_fs ?_ | refine z_ft ?_ | refine z_fc ?_ | refine z_fsd ?_) | (refine z_isWC ?_; first | (refine z_isI ?_; first | refine z_is_non_str ?_ | refine z_is_non_int ?_ | refine z_is_non_bool ?_ | refine z_is_non_tuple ?_ | refine z_is_non_list ?_ | refine z_is_non_dict ?_ | refine z_is_bl_str ?_ | refine z_is_bl_int ?_ | refine z_is_bl_bool ?_ | refine z_is_bl_tuple ?_ | refine z_is_bl_list ?_ | refine z_is_bl_dict ?_ | refine z_is_int_str ?_ | refine z_is_int_int ?_ | refine z_is_int_bool ?_ | refine z_is_int_tuple ?_ | refine z_is_int_list ?_ | refine z_is_int_dict ?_ | refine z_is_str_str ?_ | refine z_is_str_int ?_ | refine z_is_str_bool ?_ | refine z_is_str_tuple ?_ | refine z_is_str_list ?_ | refine z_is_str_dict ?_ | refine z_is_tup_str ?_ | refine z_is_tup_int ?_ | refine z_is_tup_bool ?_ | refine z_is_tup_tuple ?_ | refine z_is_tup_list ?_ | refine z_is_tup_dict ?_ | refine z_isd ?_) | refine z_lent ?_ | refine z_lenc ?_ | refine z_ult ?_ | refine z_ulc ?_ | refine z_inb ?_ | refine z_min ?_ | refine z_max ?_ | refine z_abs ?_ | refine z_strs ?_) | refine z_gt (by with_unfolding_all rfl) ?_ | refine z_sz (by with_unfolding_all rfl) ?_ | refine z_bind (by with_unfolding_all rfl) (by with_unfolding_all rfl) ?_ | refine newF ?_ | exact z_enc ?_))
variable [Tb]
def Pot (p : Addr) (M : Mp) : Prop := ∃ a b : Int, M p = some (.lst [.int a, .int b]) ∧ 0 ≤ a ∧ 0 ≤ b ∧ b < 2 ^ 40
theorem Pot.fr {p : Addr} {M M' : Mp} {S : List Addr} (h : Pot p M) (f : Fr S M M') (hS : p ∉ S) : Pot p M' := by
  obtain ⟨a, b, e, r⟩ := h
  exact ⟨a, b, f p _ hS e, r⟩
theorem Pot.new {p : Addr} {M M' : Mp} (h : Pot p M) (f : Fr [] M M') : Pot p M' := h.fr f (by simp)
theorem Pot.ne {p q : Addr} {M : Mp} (h : Pot p M) (hq : M q = none) : q ≠ p := fun z => by
  obtain ⟨a, b, e, r⟩ := h
  rw [← z, hq] at e; cases e
theorem Pot.some {p : Addr} {M : Mp} (h : Pot p M) : M p ≠ none := fun z => by
  obtain ⟨a, b, e, r⟩ := h
  rw [z] at e; cases e
theorem digit_ok {p : Addr} {n : Int} {M : Mp} {Q : DQ} (hp : Pot p M) (h0 : 0 < n) (h9 : n.natAbs.log2 < 9000) (q : ∀ d M', 0 ≤ d → d < n → Pot p M' → Fr [p] M M' → Q (.int d) M') : W_L_digit [.ref p, .int n] M Q := by
  obtain ⟨a, b, e, ha, hb, hb2⟩ := hp
  unfold W_L_digit; refine z_dg [some _, some _, none] rfl rfl ?_; walk_at "zgo0"
  refine z_uixl e (by rw [atI_0]) ?_; walk_at "zgo0"
  refine z_dec (fun h => ?_) fun h => ?_
  · walk_at "zgo0"
    refine z_uixl e (by rw [atI_0]) ?_; walk_at "zgo0"
    refine ⟨⟨h0, h9⟩, ?_⟩
    walk_at "zgo0"
    refine z_ustl e ixN_0 fun M2 e2 f2 => ?_
    walk_at "zgo0"
    exact z_kp (q _ _ (Int.emod_nonneg _ (by omega)) (Int.emod_lt_of_pos _ h0) ⟨a / n, b, e2, Int.ediv_nonneg ha (by omega), hb, hb2⟩ f2)
  · walk_at "zgo0"
    refine z_uixl e (by rw [atI_1]) ?_; walk_at "zgo0"
    refine z_mul (mul_small hb (by omega) (by omega) (by omega)) ?_; walk_at "zgo0"
    refine z_mod (by omega) ?_; walk_at "zgo0"
    refine z_ustl e ixN_1 fun M2 e2 f2 => ?_
    have e2' : M2 p = some (.lst [.int a, .int ((b * 48017 + 12289) % 2147483629)]) := e2
    clear e2
    have h1 : 0 ≤ (b * 48017 + 12289) % 2147483629 := Int.emod_nonneg _ (by omega)
    have h2 : (b * 48017 + 12289) % 2147483629 < 2147483629 := Int.emod_lt_of_pos _ (by omega)
    generalize (b * 48017 + 12289) % 2147483629 = b' at h1 h2 e2'
    walk_at "zgo0"
    refine z_uixl e2' (by rw [atI_1]) ?_; walk_at "zgo0"
    refine z_uixl e2' (by rw [atI_1]) ?_; walk_at "zgo0"
    refine z_mul (mul_small h1 (by omega) h1 (by omega)) ?_; walk_at "zgo0"
    refine z_mod (by omega) ?_; walk_at "zgo0"
    refine z_div (div_small (by omega) (by omega)) ?_; walk_at "zgo0"
    refine z_mod h0 ?_
    exact z_kp (q _ _ (Int.emod_nonneg _ (by omega)) (Int.emod_lt_of_pos _ h0) ⟨a, b', e2', ha, h1, by omega⟩ f2)
theorem log_lt {n : Int} (h0 : 0 < n) (h : n < 2 ^ 200) : n.natAbs.log2 < 9000 :=
  Nat.lt_of_lt_of_le (PySem.Flt.log2_lt_of (k := 200) (by decide) (by omega)) (by decide)
theorem dig {p : Addr} {n : Int} {M : Mp} {Q : DQ} (hp : Pot p M) (h0 : 0 < n) (h9 : n < 2 ^ 200) (q : ∀ d M', 0 ≤ d → d < n → Pot p M' → Fr [p] M M' → Q (.int d) M') : W_L_digit [.ref p, .int n] M Q := digit_ok hp h0 (log_lt h0 h9) q
theorem pot_ok {ns : List Int} {k : Nat} {M : Mp} {Q : DQ} (hk : k < 200) (q : ∀ l M', M l = none → Pot l M' → Fr [] M M' → Q (.ref l) M') : W_L_pot [.clst (ns.map .int), .int k] M Q := by
  have fin : ∀ c : Int, ∀ l M', M' l = some (.lst [.int (if (if c < 0 then -c else c) - 1000000000000000000 > 0 then (if c < 0 then -c else c) - 1000000000000000000 else 0), .int ((if c < 0 then -c else c) % 2147483579 + 907 * (k : Int) + 5)]) → Pot l M' := fun c l M' e => by
    refine ⟨_, _, e, ?_, ?_, ?_⟩
    · split <;> omega
    · have : 0 ≤ (if c < 0 then -c else c) % 2147483579 := Int.emod_nonneg _ (by omega)
      omega
    · have : (if c < 0 then -c else c) % 2147483579 < 2147483579 := Int.emod_lt_of_pos _ (by omega)
      omega
  have mul : CMulW 907 (k : Int) := mul_small (by decide) (by decide) (by omega) (by omega)
  unfold W_L_pot; refine z_dg [some _, some _, none] rfl rfl ?_; walk_at "zgo0"
  rw [List.length_map]
  refine z_dec (fun h => ?_) fun h => ?_
  · walk_at "zgo0"
    obtain ⟨c, hc, e⟩ := pick_int (ns := ns) (i := (k : Int)) (by omega) h
    refine z_uixc e ?_
    walk_at "zgo0"
    refine z_mod (by decide) ?_; walk_at "zgo0"
    refine z_mul mul ?_
    exact z_add (z_c (z_add (z_nil (z_sz (by with_unfolding_all rfl) fun l M' hl el fl => z_fw (z_kp (q l M' hl (fin c l M' el) fl))))))
  · walk_at "zgo0"
    refine z_mod (by decide) ?_; walk_at "zgo0"
    refine z_mul mul ?_
    exact z_add (z_c (z_add (z_nil (z_sz (by with_unfolding_all rfl) fun l M' hl el fl => z_fw (z_kp (q l M' hl (fin 0 l M' el) fl))))))
/-- one sign of a text -/
theorem pick_str {p : Addr} {z : Str} {M : Mp} {Q : DQ} (hp : Pot p M) (hz : z.length ≤ sizeLine) (h0 : 0 < z.length) (q : ∀ c M', c ∈ z.cps.toList → Pot p M' → Fr [p] M M' → Q (.str ⟨#[c]⟩) M') : W_L_pick [.ref p, .str z] M Q := by
  have hs : sizeLine < 2 ^ 100 := by decide
  have ll : z.cps.toList.length = z.length := by rw [Array.length_toList]; rfl
  unfold W_L_pick; refine z_dg [some _, some _] rfl rfl ?_; walk_at "zgo0"
  refine z_uls hz ?_
  walk_at "zgo0"
  refine dig hp (by omega) (by omega) fun i M2 i0 i1 p2 f2 => ?_
  have hi : i.toNat < z.cps.toList.length := by omega
  refine z_uix ⟨hz, z.cps.toList[i.toNat], ?_, z_kp (q _ M2 (List.getElem_mem hi) p2 f2)⟩
  have := L2.atI_nat (xs := z.cps.toList) (j := i.toNat) (v := z.cps.toList[i.toNat]) (by simp [hi])
  rwa [Int.toNat_of_nonneg i0] at this

end L2.Dl.G

namespace L2.Dl.G
open PySem PySem.Spec PyProof.Rows TL TXL Inj
variable [Tb]
def LET : List Nat := ("abcdefghijklmnopqrstuvwxyz" : Str).cps.toList
def headB (x : Str) : Bool := match x.cps.toList with
  | [] => false
  | c :: _ => decide (c ∈ LET)
theorem alln {α : Type} {P : α → Prop} : ∀ x ∈ ([] : List α), P x := fun _ h => nomatch h
theorem allc {α : Type} {P : α → Prop} {a : α} {l : List α} (h : P a) (t : ∀ x ∈ l, P x) : ∀ x ∈ a :: l, P x := fun x hx => by
  rcases List.mem_cons.mp hx with rfl | hx
  · exact h
  · exact t x hx
/-! ### wanted -/

end L2.Dl.G

namespace L2.Dl.G
open PySem PySem.Spec PyProof.Rows TL TXL Inj
variable [Tb]
section
variable {M : Mp} {Q : DQ}
theorem join_c {cs : List Nat} (hz : cs.length ≤ 1000) (q : Q (.str ⟨cs.toArray⟩) M) : mJoin (.str "") [.clst (cs.map fun c => .str (sg c))] M Q := by
  refine ⟨cs.map sg, by simp only [seqOf, lstOf, List.map_map]; rfl, ?_, by rw [join_signs]; exact q⟩
  rw [sum_signs]
  have : (("" : String) : Str).length = 0 := by decide +kernel
  rw [this]
  omega
theorem strs_of {ds : List D} {C : Nat → Prop} (h : ∀ x ∈ ds, ∃ c, C c ∧ x = .str (sg c)) : ∃ cs : List Nat, ds = cs.map (fun c => .str (sg c)) ∧ (∀ c ∈ cs, C c) ∧ cs.length = ds.length := by
  induction ds with
  | nil => exact ⟨[], rfl, alln, rfl⟩
  | cons d ds ih =>
    obtain ⟨c, hc, rfl⟩ := h d List.mem_cons_self
    obtain ⟨cs, rfl, h2, h3⟩ := ih fun x hx => h x (List.mem_cons_of_mem _ hx)
    exact ⟨c :: cs, rfl, allc hc h2, by simp⟩
/-- letters of a row of signs, by a digit -/
theorem sign_ix {z : Str} {i : Int} (hz : z.length ≤ sizeLine) (h0 : 0 ≤ i) (h1 : i < z.cps.toList.length) (q : ∀ c, c ∈ z.cps.toList → Q (.str (sg c)) M) : bIxU (.str z) (.int i) M Q := by
  obtain ⟨c, hc, e⟩ := atI_mem h0 h1
  exact z_uix ⟨hz, c, e, q c hc⟩
theorem pick_c {ns : List Int} {i : Int} (h0 : 0 ≤ i) (h1 : i < ns.length) (q : ∀ n, n ∈ ns → Q (.int n) M) : bIxU (.clst (ns.map .int)) (.int i) M Q := by
  obtain ⟨n, hn, e⟩ := pick_int h0 h1
  exact z_uixc e (q n hn)
theorem pick_d {ds : List D} {i : Int} (h0 : 0 ≤ i) (h1 : i < ds.length) (q : ∀ d, d ∈ ds → Q d M) : bIxU (.clst ds) (.int i) M Q := by
  obtain ⟨n, hn, e⟩ := atI_mem h0 h1
  exact z_uixc e (q n hn)
theorem Pot.del {p t : Addr} (h : Pot p M) (n : p ≠ t) : Pot p (M.del t) := by
  obtain ⟨a, b, e, r⟩ := h
  exact ⟨a, b, by rw [del_ne n]; exact e, r⟩
/-! ### names -/
theorem app_list {a b : Str} : (a ++ b).cps.toList = a.cps.toList ++ b.cps.toList := by show (a.cps ++ b.cps).toList = _; simp
theorem len_list {x : Str} : x.cps.toList.length = x.length := by rw [Array.length_toList]; rfl
theorem z_first {ds : List D} (h : ds ≠ []) (q : ∀ d, d ∈ ds → Q d M) : bIxU (.clst ds) (.int 0) M Q := by
  cases ds with
  | nil => exact absurd rfl h
  | cons d ds => exact z_uc0 (q d List.mem_cons_self)
end

end L2.Dl.G

namespace L2.Dl.G
open PySem PySem.Spec PyProof.Rows TL TXL Inj
local macro_rules | `(tactic| walk_at "zgo0") => `(tactic| repeat (with_reducible first | (refine z_isWE ?_; first | (refine z_isV ?_; first | refine z_v0 ?_ | refine z_v1 ?_ | refine z_v2 ?_ | refine z_v3 ?_ | refine z_v4 ?_ | refine z_v5 ?_ | refine z_v6 ?_ | refine z_v7 ?_ | refine z_v8 ?_ | refine z_v9 ?_ | refine z_v10 ?_ | refine z_v11 ?_ | refine z_v12 ?_ | refine z_v13 ?_ | refine z_v14 ?_ | refine z_v15 ?_) | refine z_op ?_ | refine z_c ?_ | refine z_call ?_ | refine z_frz ?_ | refine z_tup ?_ | refine z_mta ?_ | refine z_fld ?_ | refine z_lst ?_ | refine z_or ?_ | refine z_and ?_ | refine z_mt ?_ | refine z_callK ?_ | refine z_un ?_ | refine z_not ?_ | refine z_if ?_ | refine z_chain ?_ | refine z_sl ?_ | refine z_lc ?_ | refine z_kin ?_ | refine z_kix ?_ | refine z_kget ?_ | refine z_dict ?_ | refine z_meth ?_ | refine z_make ?_ | refine z_fmt ?_) | (refine z_isWS ?_; first | refine z_seq ?_ | refine z_asg ?_ | refine z_ifs ?_ | refine z_ret ?_ | refine z_drop ?_ | refine z_next ?_ | refine z_frzs ?_ | refine z_retN ?_ | refine z_for ?_ | refine z_par ?_ | refine z_par3 ?_ | refine z_setf ?_ | refine z_break ?_ | refine z_cont ?_) | (refine z_isgN ?_; first | refine z_g0 ?_ | refine z_g1 ?_ | refine z_g2 ?_ | refine z_g3 ?_ | refine z_g4 ?_ | refine z_g5 ?_ | refine z_g6 ?_ | refine z_g7 ?_ | refine z_g8 ?_ | refine z_g9 ?_ | refine z_g10 ?_ | refine z_g11 ?_ | refine z_g12 ?_ | refine z_g13 ?_ | refine z_g14 ?_ | refine z_g15 ?_) | (refine z_isWA ?_; first | refine z_cons ?_ | refine z_nil ?_) | (refine z_isW2 ?_; first | refine z_eqi ?_ | refine z_eqsT ?_ | refine z_eqsF (by decide +kernel) ?_ | refine z_eqs ?_ | refine z_nei ?_ | refine z_nesT ?_ | refine z_nesF (by decide +kernel) ?_ | refine z_nes ?_ | refine z_ut0 ?_ | refine z_ut1 ?_ | refine z_ut2 ?_ | refine z_ut3 ?_ | refine z_uc0 ?_ | refine z_sd0 ?_ | refine z_sd1 ?_ | refine z_le ?_ | refine z_lt ?_ | refine z_gtt ?_ | refine z_ge ?_ | refine z_add ?_ | refine z_sub ?_ | refine z_isn ?_ | refine z_isni ?_ | refine z_isns ?_ | refine z_isnt ?_ | refine z_isnb ?_ | refine z_nn ?_ | refine z_nni ?_ | refine z_nns ?_ | refine z_nnt ?_ | refine z_nnb ?_ | refine z_ix0 ?_ | refine z_ix1 ?_ | refine z_ix2 ?_ | refine z_ix3 ?_ | refine z_p15 ?_ | refine z_p30 ?_ | refine z_p18 ?_ | refine z_uin0 ?_ | refine z_unin0 ?_) | (refine z_isWT ?_; first | refine z_tst ?_ | refine z_tru ?_ | refine z_tand ?_ | refine z_tor ?_ | refine z_tnot ?_ | refine z_yes ?_) | refine z_gc ?_ | refine z_gn ?_ | refine z_gst ?_ | refine z_nop ?_ | refine z_prt ?_ | refine z_prti ?_ | refine z_mstr ?_ | refine z_tb ?_ | refine z_trb ?_ | refine z_trn ?_ | refine z_T ?_ | refine z_F ?_ | refine z_NF ?_ | refine z_NT ?_ | refine z_neg ?_ | refine z_slt ?_ | refine z_its ?_ | refine z_rng1 ?_ | refine z_starts ?_ | refine z_kins ?_ | refine z_kgets ?_ | refine z_js ?_ | refine z_jsn ?_ | refine z_wpc ?_ | refine z_wpn ?_ | refine z_ita ?_ | refine z_ant ?_ | refine z_anc ?_ | refine z_slc ?_ | refine z_gsd ?_ | (refine z_isF ?_; first | refine z_fn ?_ | refine z_fb ?_ | refine z_fi ?_ | refine z_fs ?_ | refine z_ft ?_ | refine z_fc ?_ | refine z_fsd ?_) | (refine z_isWC ?_; first | (refine z_isI ?_; first | refine z_is_non_str ?_ | refine z_is_non_int ?_ | refine z_is_non_bool ?_ | refine z_is_non_tuple ?_ | refine z_is_non_list ?_ | refine z_is_non_dict ?_ | refine z_is_bl_str ?_ | refine z_is_bl_int ?_ | refine z_is_bl_bool ?_ | refine z_is_bl_tuple ?_ | refine z_is_bl_list ?_ | refine z_is_bl_dict ?_ | refine z_is_int_str ?_ | refine z_is_int_int ?_ | refine z_is_int_bool ?_ | refine z_is_int_tuple ?_ | refine z_is_int_list ?_ | refine z_is_int_dict ?_ | refine z_is_str_str ?_ | refine z_is_str_int ?_ | refine z_is_str_bool ?_ | refine z_is_str_tuple ?_ | refine z_is_str_list ?_ | refine z_is_str_dict ?_ | refine z_is_tup_str ?_ | refine z_is_tup_int ?_ | refine z_is_tup_bool ?_ | refine z_is_tup_tuple ?_ | refine z_is_tup_list ?_ | refine z_is_tup_dict ?_ | refine z_isd ?_) | refine z_lent ?_ | refine z_lenc ?_ | refine z_ult ?_ | refine z_ulc ?_ | refine z_inb ?_ | refine z_min ?_ | refine z_max ?_ | refine z_abs ?_ | refine z_strs ?_) | refine z_gt (by with_unfolding_all rfl) ?_ | refine z_sz (by with_unfolding_all rfl) ?_ | refine z_bind (by with_unfolding_all rfl) (by with_unfolding_all rfl) ?_ | refine newF ?_ | exact z_enc ?_))
variable [Tb]
theorem strs_flat {ns : List Str} : flats (ns.map .str) = true := by
  unfold flats
  rw [List.all_map, List.all_eq_true]
  exact fun _ _ => rfl
theorem strs_in {x : Str} : ∀ {ns : List Str}, inV (flv (.str x)) ((ns.map D.str).map flv) = decide (x ∈ ns)
  | [] => by simp [inV]
  | n :: ns => by
    have ih := strs_in (x := x) (ns := ns)
    unfold inV at *
    rw [List.map_cons, List.map_cons, List.any_cons, ih]
    simp only [flv, eqV, List.mem_cons]
    by_cases h : x = n
    · subst h; simp
    · have : ¬ n = x := fun z => h z.symm
      simp [h, this]
theorem take_range {l : List Nat} {m : Nat} (h : m ≤ l.length) : l.take m = (List.range m).map fun i => l.getD i 0 := by
  apply List.ext_getElem?
  intro i
  rw [List.getElem?_take, List.getElem?_map]
  by_cases hi : i < m
  · rw [if_pos hi, List.getElem?_range hi]
    have hb : i < l.length := by omega
    simp [List.getD, hb]
  · rw [if_neg hi, List.getElem?_eq_none (by simpa using hi)]
    rfl
/-! ### the words of k41 to k47 and k61 to k69 -/
structure Sgn (z : Str) (mo : Int) : Prop where
  hz : z.length ≤ sizeLine
  hl : z.cps.toList.take 26 = LET
  ln : 26 ≤ z.cps.toList.length
  nd : z.cps.toList.Nodup
  m0 : 2 ≤ mo
  m1 : mo ≤ 20
  cut : ∀ x : Str, (x.length : Int) ≤ mo → (cutS x none (some (mo - 1))).cps.toList = x.cps.toList.take (mo.toNat - 1)
def WdB (z : Str) (mo : Int) (x : Str) : Prop := 1 ≤ x.length ∧ (x.length : Int) ≤ mo ∧ (∀ c ∈ x.cps.toList, c ∈ z.cps.toList) ∧ headB x = true
def candW (z : Str) (mo : Int) (x : Str) (m : Nat) : List Str := x :: (z.cps.toList.take m).map fun c => cutS x none (some (mo - 1)) ++ sg c
theorem candW_ok {z : Str} {mo : Int} (S : Sgn z mo) {x : Str} {m : Nat} (hx : WdB z mo x) : ∀ y ∈ candW z mo x m, WdB z mo y := by
  obtain ⟨h1, h2, h3, h4⟩ := hx
  intro y hy
  rcases List.mem_cons.mp hy with rfl | hy
  · exact ⟨h1, h2, h3, h4⟩
  · obtain ⟨c, hc, rfl⟩ := List.mem_map.mp hy
    have e : (cutS x none (some (mo - 1)) ++ sg c).cps.toList = x.cps.toList.take (mo.toNat - 1) ++ [c] := by rw [app_list, S.cut x h2]; rfl
    have hm := S.m0
    have hlen : (cutS x none (some (mo - 1)) ++ sg c).length = min (mo.toNat - 1) x.length + 1 := by
      rw [← len_list, e, List.length_append, List.length_take, len_list]; rfl
    refine ⟨by rw [hlen]; omega, by rw [hlen]; omega, fun d hd => ?_, ?_⟩
    · rw [e] at hd
      rcases List.mem_append.mp hd with hd | hd
      · exact h3 d (List.mem_of_mem_take hd)
      · rw [List.mem_singleton.mp hd]; exact List.mem_of_mem_take hc
    · unfold headB at h4 ⊢
      rw [e]
      cases hx : x.cps.toList with
      | nil => rw [← len_list, hx] at h1; exact absurd h1 (by simp)
      | cons a r =>
        rw [hx] at h4
        obtain ⟨k, hk⟩ : ∃ k, mo.toNat - 1 = k + 1 := ⟨mo.toNat - 2, by omega⟩
        rw [hk, List.take_succ_cons]
        exact h4
theorem candW_new {z : Str} {mo : Int} (S : Sgn z mo) {x : Str} {m : Nat} {found : List Str} (hm : m ≤ 26) (hf : found.length < m) : (candW z mo x m).filter (fun y => !decide (y ∈ found)) ≠ [] := fun e => by
  have h : ∀ y ∈ candW z mo x m, y ∈ found := fun y hy => by
    have := List.filter_eq_nil_iff.mp e y hy
    simpa using this
  have nd : ((z.cps.toList.take m).map fun c => cutS x none (some (mo - 1)) ++ sg c).Nodup := by
    unfold List.Nodup
    rw [List.pairwise_map]
    refine (S.nd.sublist (List.take_sublist m _)).imp fun {a b} h e => h ?_
    have : (cutS x none (some (mo - 1)) ++ sg a).cps.toList = (cutS x none (some (mo - 1)) ++ sg b).cps.toList := by rw [e]
    rw [app_list, app_list] at this
    have := List.append_cancel_left this
    have e2 : [a] = [b] := this
    simpa using e2
  have := List.Nodup.length_le_of_subset nd (l₂ := found) fun y hy => h y (List.mem_cons_of_mem _ hy)
  have l26 := S.ln
  rw [List.length_map, List.length_take] at this
  omega
theorem cut_m {x : Str} {k : Nat} (h : x.length ≤ k + 1) (hk : k ≤ 30) : (cutS x none (some (k : Int))).cps.toList = x.cps.toList.take k := by
  have hs : x.length = x.cps.size := rfl
  unfold cutS HT.sIx
  rw [hs] at h ⊢
  simp
  rw [if_neg (by omega)]
  omega
theorem sgn_fld : Sgn (("abcdefghijklmnopqrstuvwxyz" : Str) ++ ("0123456789_" : Str)) 12 := ⟨by decide +kernel, by decide +kernel, by decide +kernel, by decide +kernel, by decide, by decide, fun x h => cut_m (k := 11) (by omega) (by decide)⟩
section
variable {M : Mp} {Q : DQ}
theorem word_turn {p f : Addr} {m : Nat} {z : Str} {mo : Int} {a5 a6 a7 a8 a9 : Option D} {nx bk ct : Ev → Mp → Prop} {rt : DQ} {found : List Str} (S : Sgn z mo) (hp : Pot p M) (hf : M f = some (.lst (found.map .str))) (hpf : p ≠ f) (hm : m ≤ 26) (hl : found.length < m)
    (q : ∀ x M' b6 b7 b8, WdB z mo x → x ∉ found → Pot p M' → M' f = some (.lst ((found ++ [x]).map .str)) → Fr [p, f] M M' → nx [some (.ref p), some (.int m), some (.str z), some (.int mo), some (.ref f), a5, b6, b7, b8, a9] M') :
    W_L_words_6 ⟨nx, rt, bk, ct⟩ [some (.ref p), some (.int m), some (.str z), some (.int mo), some (.ref f), a5, a6, a7, a8, a9] M := by
  have up : ∀ {A B : Mp}, Fr [p] A B → Fr [p, f] A B := fun f => f.mono fun x hx => by rw [List.mem_singleton.mp hx]; exact List.mem_cons_self
  have hm0 := S.m0
  have hm1 := S.m1
  have hzn := S.ln
  (try unfold W_L_words_6); walk_at "zgo0"
  refine dig hp (by decide) (by decide) fun d1 M1 a1 b1 p1 f1 => ?_
  obtain ⟨c, hc, hcl, hci⟩ : ∃ c, L2.atI z.cps.toList d1 = some c ∧ c ∈ LET ∧ c ∈ z.cps.toList := by
    obtain ⟨i, rfl⟩ := Int.eq_ofNat_of_zero_le a1
    have hi : i < z.cps.toList.length := by omega
    have hi2 : i < 26 := by omega
    refine ⟨z.cps.toList[i], L2.atI_nat (xs := z.cps.toList) (by simp [hi]), ?_, List.getElem_mem hi⟩
    rw [← S.hl]
    refine List.mem_iff_getElem?.mpr ⟨i, ?_⟩
    rw [List.getElem?_take, if_pos hi2]
    simp [hi]
  refine z_uix ⟨S.hz, c, hc, ?_⟩
  walk_at "zgo0"
  (try unfold W_L_words_5); walk_at "zgo0"
  refine dig p1 (by decide) (by decide) fun d2 M2 a2 b2 p2 f2 => ?_
  refine pick_c (ns := [1, 2, mo]) a2 (by simpa using b2) fun n hn => ?_
  have hn2 : 0 < n ∧ n ≤ mo := by simp at hn; omega
  walk_at "zgo0"
  refine dig p2 hn2.1 (by omega) fun d3 M3 a3 b3 p3 f3 => ?_
  walk_at "zgo0"
  refine z_rngM (by omega) (by omega) ?_
  refine run_for (fun k env MM => ∃ (x : Str) (b7 : Option D), env = [some (.ref p), some (.int m), some (.str z), some (.int mo), some (.ref f), a5, some (.str x), b7, a8, a9] ∧ x.length = k + 1 ∧ (∀ c ∈ x.cps.toList, c ∈ z.cps.toList) ∧ headB x = true ∧ Pot p MM ∧ Fr [p] M3 MM) ⟨sg c, _, rfl, rfl, by simpa [sg] using hci, by unfold headB sg; simpa using hcl, p3, .refl⟩ (fun k d r env MM hdr hP next => ?_) fun env MM hP => ?_
  · obtain ⟨x, b7, rfl, x1, x2, x3, pm, fm⟩ := hP
    obtain ⟨hk, rfl⟩ := rng_at hdr
    refine ⟨trivial, z_g7 ?_⟩
    (try unfold W_L_words_4); walk_at "zgo0"
    refine pick_str pm S.hz (by rw [← len_list]; omega) fun e M5 he p5 f5 => ?_
    walk_at "zgo0"
    have e0 : (x ++ sg e).cps.toList = x.cps.toList ++ [e] := by rw [app_list]; rfl
    refine z_adds ?_ ?_
    · rw [x1]
      show k + 1 + 1 ≤ _
      exact Nat.le_trans (by omega : k + 1 + 1 ≤ 30) (by decide)
    walk_at "zgo0"
    refine next _ _ ⟨x ++ sg e, _, rfl, ?_, ?_, ?_, p5, fm.trans f5⟩
    · rw [← len_list, e0, List.length_append, len_list, x1]; rfl
    · rw [e0]
      intro y hy
      rcases List.mem_append.mp hy with hy | hy
      · exact x2 y hy
      · rw [List.mem_singleton.mp hy]; exact he
    · unfold headB at x3 ⊢
      rw [e0]
      cases hx : x.cps.toList with
      | nil => rw [hx] at x3; cases x3
      | cons a r => rw [hx] at x3; exact x3
  · obtain ⟨x, b7, rfl, x1, x2, x3, pm, fm⟩ := hP
    rw [rng_len] at x1
    refine ⟨trivial, ?_⟩
    have hx : WdB z mo x := ⟨by omega, by omega, x2, x3⟩
    have xz : x.length ≤ sizeLine := Nat.le_trans (by omega : x.length ≤ 30) (by decide)
    (try unfold W_L_words_3); walk_at "zgo0"
    refine z_rngM (by omega) (by omega) ?_
    refine lcF_map (fun d => match d with | .int i => .str (cutS x none (some (mo - 1)) ++ sg (z.cps.toList.getD i.toNat 0)) | _ => .non) (by rw [rng_len]; omega) (fun _ _ => trivial) (fun d M4 R hd f4 hR => ?_) ?_
    · obtain ⟨i, hi, rfl⟩ := List.mem_map.mp hd
      have hi2 : i < m := by simpa using hi
      simp only [ewipe, gN, List.foldl_cons, List.foldl_nil, List.set_cons_zero, List.set_cons_succ]
      walk_at "zgo0"
      refine z_sls' xz ?_; walk_at "zgo0"
      have hi3 : (0 + (i : Int)) = (i : Int) := by omega
      rw [hi3] at hR ⊢
      have hb : i < z.cps.toList.length := by omega
      refine z_uix ⟨S.hz, z.cps.toList.getD i 0, ?_, ?_⟩
      · rw [show z.cps.toList.getD i 0 = z.cps.toList[i] from by rw [List.getD_eq_getElem?_getD, List.getElem?_eq_getElem hb]; rfl]
        exact L2.atI_nat (xs := z.cps.toList) (by simp [hb])
      · have l1 : (⟨#[z.cps.toList.getD i 0]⟩ : Str).length = 1 := rfl
        have l3 := cutS_length x none (some (mo - 1))
        refine z_adds (Nat.le_trans (Nat.add_le_add_right l3 _) ?_) ?_
        · rw [l1]; exact Nat.le_trans (by omega : x.length + 1 ≤ 40) (by decide)
        · exact hR
    · have e0 : List.map (fun d => match d with | .int i => .str (cutS x none (some (mo - 1)) ++ sg (z.cps.toList.getD i.toNat 0)) | _ => .non) (rngD 0 (m : Int).toNat) = ((z.cps.toList.take m).map fun c => cutS x none (some (mo - 1)) ++ sg c).map D.str := by
        rw [take_range (by omega)]
        unfold rngD
        simp only [List.map_map, Int.toNat_natCast]
        refine List.map_congr_left fun i _ => ?_
        simp
      rw [e0]
      refine z_addc (by simp only [List.length_cons, List.length_nil, List.length_map, List.length_take]; exact Nat.le_trans (by omega : 0 + 1 + min m z.cps.toList.length ≤ 30) (by decide)) (newF ?_)
      walk_at "zgo0"
      have f03 : Fr [p] M MM := ((f1.trans f2).trans f3).trans fm
      have e3 : MM f = some (.lst (found.map .str)) := f03 _ _ (by simpa using hpf.symm) hf
      (try unfold W_L_words_2); walk_at "zgo0"
      refine z_ml e3 ?_; walk_at "zgo0"
      refine lcF_sift (fun d => match d with | .str y => !decide (y ∈ found) | _ => true) id (by simp only [List.length_append, List.length_cons, List.length_nil, List.length_map, List.length_take]; omega) (fun _ _ => trivial) (fun d M4 R hd f4 h1 h2 => ?_) ?_
      · have hd' : ∃ y, d = .str y := by
          rcases List.mem_append.mp hd with hd | hd
          · exact ⟨x, by simpa using hd⟩
          · obtain ⟨y, _, rfl⟩ := List.mem_map.mp hd
            exact ⟨y, rfl⟩
        obtain ⟨y, rfl⟩ := hd'
        simp only [ewipe, gN, List.foldl_cons, List.foldl_nil, List.set_cons_zero, List.set_cons_succ]
        walk_at "zgo0"
        refine z_uninl (f4 _ _ (by simp) e3) rfl strs_flat ?_
        rw [strs_in]
        walk_at "zgo0"
        refine z_iteN (fun k => ?_) fun k => ?_
        · refine z_v9 (h1 ?_)
          show (!decide (y ∈ found)) = true
          rw [k]; rfl
        · refine h2 ?_
          show (!decide (y ∈ found)) = false
          rw [k]; rfl
      · have e1 : (List.filter (fun d => match d with | .str y => !decide (y ∈ found) | _ => true) ([D.str x] ++ ((z.cps.toList.take m).map fun c => cutS x none (some (mo - 1)) ++ sg c).map D.str)).map id = ((candW z mo x m).filter fun y => !decide (y ∈ found)).map D.str := by
          rw [List.map_id]
          show List.filter _ ((candW z mo x m).map D.str) = _
          rw [List.filter_map]
          rfl
        rw [e1]
        refine z_first (fun z => candW_new S hm hl (List.map_eq_nil_iff.mp z)) fun d hd => ?_
        obtain ⟨y, hy, rfl⟩ := List.mem_map.mp hd
        walk_at "zgo0"
        refine ⟨_, e3, ?_, fun M4 e4 f4 => ?_⟩
        · rw [List.length_map]; exact Nat.lt_of_lt_of_le (by omega : found.length < 26) (by decide)
        walk_at "zgo0"
        exact q y M4 _ _ _ (candW_ok S hx y (List.mem_filter.mp hy).1) (by simpa using (List.mem_filter.mp hy).2) (pm.fr f4 (by simpa using hpf)) (by rw [e4, List.map_append]; rfl) ((up f03).trans (f4.mono fun x hx => by rw [List.mem_singleton.mp hx]; simp))
theorem words_nd {p : Addr} {m : Nat} {z : Str} {mo : Int} (S : Sgn z mo) (hp : Pot p M) (hm : m ≤ 26) (q : ∀ (ns : List Str) (M' : Mp), ns.length = m → (∀ x ∈ ns, WdB z mo x) → ns.Nodup → Pot p M' → Fr [p] M M' → Q (.clst (ns.map .str)) M') : W_L_words [.ref p, .int m, .str z, .int mo] M Q := by
  unfold W_L_words; refine z_dg [some _, some _, some _, some _, none, none, none, none, none, none] rfl rfl ?_; walk_at "zgo0"
  intro f M1 hf e1 f1
  have hpf : p ≠ f := (hp.ne hf).symm
  walk_at "zgo0"
  refine z_rngM (by omega) (by omega) ?_
  refine run_for (fun k env M2 => ∃ (xs : List Str) (b5 b6 b7 b8 b9 : Option D), env = [some (.ref p), some (.int m), some (.str z), some (.int mo), some (.ref f), b5, b6, b7, b8, b9] ∧ xs.length = k ∧ (∀ x ∈ xs, WdB z mo x) ∧ xs.Nodup ∧ M2 f = some (.lst (xs.map .str)) ∧ Pot p M2 ∧ Fr [p, f] M1 M2) ⟨[], _, _, _, _, _, rfl, rfl, alln, List.nodup_nil, e1, hp.new f1, .refl⟩ (fun k d r env M2 hd hP next => ?_) fun env M2 hP => ?_
  · obtain ⟨xs, b5, b6, b7, b8, b9, rfl, h1, h2, hN, h3, h4, h5⟩ := hP
    obtain ⟨hk, rfl⟩ := rng_at hd
    refine ⟨trivial, z_g5 ?_⟩
    refine word_turn S h4 h3 hpf hm (by rw [h1]; simpa using hk) fun x M3 c6 c7 c8 hx hx2 p3 e3 f3 => next _ _ ⟨xs ++ [x], _, _, _, _, _, rfl, by simp [h1], fun y hy => ?_, List.nodup_append.mpr ⟨hN, by simp, fun a ha b hb z => hx2 (by rw [← List.mem_singleton.mp hb, ← z]; exact ha)⟩, e3, p3, h5.trans f3⟩
    rcases List.mem_append.mp hy with hy | hy
    · exact h2 y hy
    · rw [List.mem_singleton.mp hy]; exact hx
  · obtain ⟨xs, b5, b6, b7, b8, b9, rfl, h1, h2, hN, h3, h4, h5⟩ := hP
    refine ⟨trivial, ?_⟩
    (try unfold W_L_words_1); walk_at "zgo0"
    have f0 : Fr [p] M (M2.del f) := fun a o n e => by
      have ha : a ≠ f := fun z => by rw [z, hf] at e; cases e
      rw [del_ne ha]
      exact h5 a o (by simpa using ⟨by simpa using n, ha⟩) (f1 a o (by simp) e)
    refine frz_del h3 (z_kp (q xs _ (by rw [h1, rng_len]; simp) h2 hN (h4.del hpf) f0))
end

end L2.Dl.G

namespace L2.Dl.G
open PySem PySem.Spec PyProof.Rows TL TXL Inj
variable [Tb]
/-! ### shown values as trees, and their texts as signs -/
section
inductive Vt where
  | lf (d : D)
  | ls (vs : List Vt)
  | ob (ks : List Str) (vs : List Vt)
mutual
def vd : Vt → D
  | .lf d => d
  | .ls vs => .clst (vds vs)
  | .ob ks vs => .cdic (ks.map Sum.inr) (vds vs)
def vds : List Vt → List D
  | [] => []
  | v :: vs => vd v :: vds vs
end
def escL (l : List Nat) : List Nat := l.flatMap fun c => if c = 92 ∨ c = 34 then [92, c] else [c]
def quoL (x : Str) : List Nat := 34 :: (escL (tl x) ++ [34])
def ofL (l : List Nat) : Str := ⟨l.toArray⟩
theorem tl_ofL (l : List Nat) : tl (ofL l) = l := by show l.toArray.toList = l; simp
def lfL : D → List Nat
  | .non => tl ("null" : String)
  | .bl true => tl ("true" : String)
  | .bl false => tl ("false" : String)
  | .int i => tl (toString i : String)
  | .str x => quoL x
  | _ => []
open Classical in
noncomputable def srt (ks : List Str) : List Str := if h : ∃ ys : List Str, ys.Perm ks ∧ sortedS ys = true then Classical.choose h else []
def lkL (k : Str) : List Str → List (List Nat) → List Nat
  | x :: ks, t :: ts => if x = k then t else lkL k ks ts
  | _, _ => []
def lkV (k : Str) : List Str → List Vt → Vt
  | x :: ks, v :: vs => if x = k then v else lkV k ks vs
  | _, _ => .lf .non
mutual
noncomputable def txV : Vt → List Nat
  | .lf d => lfL d
  | .ls vs => 91 :: (joinL [44] (txVs vs) ++ [93])
  | .ob ks vs => 123 :: (joinL [44] ((srt ks).map fun k => quoL k ++ 58 :: lkL k ks (txVs vs)) ++ [125])
noncomputable def txVs : List Vt → List (List Nat)
  | [] => []
  | v :: vs => txV v :: txVs vs
end
mutual
def wtT : Vt → Nat
  | .lf _ => 100
  | .ls vs => 10 + wtTs vs
  | .ob _ vs => 10 + wtTs vs
def wtTs : List Vt → Nat
  | [] => 0
  | v :: vs => 40 + wtT v + wtTs vs
end
/-- a leaf, short -/
def LfG (d : D) : Prop := d = .non ∨ (∃ b, d = .bl b) ∨ (∃ i : Int, d = .int i ∧ i.natAbs < 10 ^ 38) ∨ ∃ x : Str, d = .str x ∧ x.length ≤ 44
mutual
def GV : Vt → Prop
  | .lf d => LfG d
  | .ls vs => vs.length ≤ 900 ∧ GVs vs
  | .ob ks vs => ks.length = vs.length ∧ ks.length ≤ 60 ∧ ks.Nodup ∧ (∀ k ∈ ks, k.length ≤ 12) ∧ GVs vs
def GVs : List Vt → Prop
  | [] => True
  | v :: vs => GV v ∧ GVs vs
end
theorem vds_map : ∀ vs : List Vt, vds vs = vs.map vd
  | [] => rfl
  | v :: vs => by rw [List.map_cons, ← vds_map vs]; rfl
theorem txVs_map : ∀ vs : List Vt, txVs vs = vs.map txV
  | [] => by simp [txVs]
  | v :: vs => by rw [List.map_cons, ← txVs_map vs, txVs]
theorem GVs_iff : ∀ {vs : List Vt}, GVs vs ↔ ∀ v ∈ vs, GV v
  | [] => ⟨fun _ => (fun _ h => nomatch h), fun _ => trivial⟩
  | v :: vs => ⟨fun h x hx => by
    rcases List.mem_cons.mp hx with rfl | hx
    · exact h.1
    · exact GVs_iff.mp h.2 x hx, fun h => ⟨h v List.mem_cons_self, GVs_iff.mpr fun x hx => h x (List.mem_cons_of_mem _ hx)⟩⟩
theorem wtTs_sum : ∀ vs : List Vt, wtTs vs = (vs.map fun v => 40 + wtT v).sum
  | [] => rfl
  | v :: vs => by
    show 40 + wtT v + wtTs vs = _
    rw [List.map_cons, List.sum_cons, wtTs_sum vs]
/-! ### the pile: what is written, what is still a value -/
inductive Pc where
  | wr (x : Str)
  | vl (v : Vt)
noncomputable def pcL : Pc → List Nat
  | .wr x => tl x
  | .vl v => txV v
noncomputable def txP (L : List Pc) : List Nat := L.flatMap pcL
def pcG : Pc → Prop
  | .wr _ => True
  | .vl v => GV v
mutual
def msV : Vt → Nat
  | .lf _ => 2
  | .ls vs => 4 + msVs vs
  | .ob _ vs => 4 + msVs vs
def msVs : List Vt → Nat
  | [] => 0
  | v :: vs => 3 + msV v + msVs vs
end
def msP : Pc → Nat
  | .wr _ => 1
  | .vl v => msV v
def msL (L : List Pc) : Nat := (L.map msP).sum
mutual
theorem ms_wt : ∀ v : Vt, msV v ≤ wtT v
  | .lf _ => by show 2 ≤ 100; omega
  | .ls vs => by have := mss_wt vs; show 4 + msVs vs ≤ 10 + wtTs vs; omega
  | .ob _ vs => by have := mss_wt vs; show 4 + msVs vs ≤ 10 + wtTs vs; omega
theorem mss_wt : ∀ vs : List Vt, msVs vs ≤ wtTs vs
  | [] => Nat.le_refl _
  | v :: vs => by
    have h1 := ms_wt v
    have h2 := mss_wt vs
    show 3 + msV v + msVs vs ≤ 40 + wtT v + wtTs vs
    omega
end
theorem msV_pos (v : Vt) : 2 ≤ msV v := by
  cases v with
  | lf _ => exact Nat.le_refl _
  | ls vs => show 2 ≤ 4 + msVs vs; omega
  | ob ks vs => show 2 ≤ 4 + msVs vs; omega
theorem msP_pos (p : Pc) : 1 ≤ msP p := by
  cases p with
  | wr _ => exact Nat.le_refl _
  | vl v => have := msV_pos v; show 1 ≤ msV v; omega
theorem msL_len : ∀ L : List Pc, L.length ≤ msL L
  | [] => Nat.le_refl _
  | p :: L => by
    have h1 := msL_len L
    have h2 := msP_pos p
    show _ ≤ (msP p :: L.map msP).sum
    rw [List.sum_cons, List.length_cons]
    show L.length + 1 ≤ msP p + msL L
    omega
theorem msL_app (A B : List Pc) : msL (A ++ B) = msL A + msL B := by unfold msL; rw [List.map_append, List.sum_append]
theorem txP_app (A B : List Pc) : txP (A ++ B) = txP A ++ txP B := by unfold txP; rw [List.flatMap_append]
/-! ### texts joined by commas -/
def comL (ts : List (List Nat)) : List Nat := ts.flatMap fun t => 44 :: t
theorem join_com : ∀ (t : List Nat) (ts : List (List Nat)), joinL [44] (t :: ts) = t ++ comL ts
  | t, [] => by simp [joinL, comL]
  | t, u :: ts => by
    have ih := join_com u ts
    show t ++ ([44] ++ joinL [44] (u :: ts)) = _
    rw [ih]
    simp [comL]
theorem join_drop : ∀ ts : List (List Nat), joinL [44] ts = (comL ts).drop 1
  | [] => rfl
  | t :: ts => by rw [join_com]; simp [comL]
end

end L2.Dl.G

namespace L2.Dl.G
open PySem PySem.Spec PyProof.Rows TL TXL Inj
variable [Tb]
/-! ### what a value is made of -/
section
theorem tl_com : tl ((",":String) : Str) = [44] := by decide +kernel
theorem tl_emp : tl (("":String) : Str) = [] := by decide +kernel
def sepS (i : Nat) : Str := if (i : Int) > 0 then "," else ""
theorem sep_0 : tl (sepS 0) = [] := tl_emp
theorem sep_s (i : Nat) : tl (sepS (i + 1)) = [44] := by
  unfold sepS
  rw [if_pos (by omega)]; exact tl_com
def lsP : Nat → List Vt → List Pc
  | _, [] => []
  | i, v :: vs => .wr (sepS i) :: .vl v :: lsP (i + 1) vs
def keyS (k : Str) : Str := ofL (quoL k ++ [58])
def obP (g : Str → Vt) : Nat → List Str → List Pc
  | _, [] => []
  | i, k :: r => .wr (sepS i) :: .wr (keyS k) :: .vl (g k) :: obP g (i + 1) r
def lsQ (vs : List Vt) : List Pc := vs.flatMap fun v => [.wr ",", .vl v]
def obQ (g : Str → Vt) (ys : List Str) : List Pc := ys.flatMap fun k => [.wr ",", .wr (keyS k), .vl (g k)]
theorem lsP_app : ∀ (a b : List Vt) (i : Nat), lsP i (a ++ b) = lsP i a ++ lsP (i + a.length) b
  | [], b, i => rfl
  | v :: a, b, i => by
    show Pc.wr _ :: Pc.vl v :: lsP (i + 1) (a ++ b) = _
    rw [lsP_app a b (i + 1), List.length_cons, show i + 1 + a.length = i + (a.length + 1) by omega]; rfl
theorem obP_app (g : Str → Vt) : ∀ (a b : List Str) (i : Nat), obP g i (a ++ b) = obP g i a ++ obP g (i + a.length) b
  | [], b, i => rfl
  | k :: a, b, i => by
    show Pc.wr _ :: Pc.wr _ :: Pc.vl _ :: obP g (i + 1) (a ++ b) = _
    rw [obP_app g a b (i + 1), List.length_cons, show i + 1 + a.length = i + (a.length + 1) by omega]; rfl
theorem txP_cons (p : Pc) (L : List Pc) : txP (p :: L) = pcL p ++ txP L := by unfold txP; rw [List.flatMap_cons]
theorem lsP_tx : ∀ (vs : List Vt) (i : Nat), txP (lsP (i + 1) vs) = comL (txVs vs)
  | [], i => by rw [txVs]; rfl
  | v :: vs, i => by
    show txP (Pc.wr _ :: Pc.vl v :: lsP (i + 1 + 1) vs) = _
    rw [txP_cons, txP_cons, lsP_tx vs (i + 1), txVs]
    show tl (sepS (i + 1)) ++ (txV v ++ _) = _
    rw [sep_s]
    simp [comL]
theorem lsP_tx0 (vs : List Vt) : txP (lsP 0 vs) = joinL [44] (txVs vs) := by
  cases vs with
  | nil => rw [txVs]; rfl
  | cons v vs =>
    show txP (Pc.wr _ :: Pc.vl v :: lsP (0 + 1) vs) = _
    rw [txP_cons, txP_cons, lsP_tx vs 0, txVs, join_com]
    show tl (sepS 0) ++ (txV v ++ _) = _
    rw [sep_0, List.nil_append]
theorem tl_key (k : Str) : tl (keyS k) = quoL k ++ [58] := tl_ofL _
theorem obP_tx (g : Str → Vt) : ∀ (ys : List Str) (i : Nat), txP (obP g (i + 1) ys) = comL (ys.map fun k => quoL k ++ 58 :: txV (g k))
  | [], i => rfl
  | k :: ys, i => by
    show txP (Pc.wr _ :: Pc.wr _ :: Pc.vl _ :: obP g (i + 1 + 1) ys) = _
    rw [txP_cons, txP_cons, txP_cons, obP_tx g ys (i + 1), List.map_cons]
    show tl (sepS (i + 1)) ++ (tl (keyS k) ++ (txV (g k) ++ _)) = _
    rw [sep_s, tl_key]
    simp [comL]
theorem obP_tx0 (g : Str → Vt) (ys : List Str) : txP (obP g 0 ys) = joinL [44] (ys.map fun k => quoL k ++ 58 :: txV (g k)) := by
  cases ys with
  | nil => rfl
  | cons k ys =>
    show txP (Pc.wr _ :: Pc.wr _ :: Pc.vl _ :: obP g (0 + 1) ys) = _
    rw [txP_cons, txP_cons, txP_cons, obP_tx g ys 0, List.map_cons, join_com]
    show tl (sepS 0) ++ (tl (keyS k) ++ (txV (g k) ++ _)) = _
    rw [sep_0, tl_key]
    simp
theorem lsQ_tx (vs : List Vt) : txP (lsQ vs) = comL (txVs vs) := by
  rw [txVs_map]
  unfold lsQ txP comL
  rw [List.flatMap_assoc, List.flatMap_map]
  congr 1
  funext v
  show tl _ ++ (txV v ++ []) = _
  rw [tl_com, List.append_nil]; rfl
theorem obQ_tx (g : Str → Vt) (ys : List Str) : txP (obQ g ys) = comL (ys.map fun k => quoL k ++ 58 :: txV (g k)) := by
  unfold obQ txP comL
  rw [List.flatMap_assoc, List.flatMap_map]
  congr 1
  funext k
  show tl _ ++ (tl (keyS k) ++ (txV (g k) ++ [])) = _
  rw [tl_com, tl_key, List.append_nil]
  simp
theorem txP_drop {L : List Pc} {c : Nat} (h : ∀ p ∈ L.head?, pcL p = [c]) : txP (L.drop 1) = (txP L).drop 1 := by
  cases L with
  | nil => rfl
  | cons p L =>
    have := h p (by simp)
    rw [txP_cons, this]; rfl
theorem lsQ_drop (vs : List Vt) : txP ((lsQ vs).drop 1) = joinL [44] (txVs vs) := by
  rw [txP_drop (c := 44), lsQ_tx, join_drop]
  intro p hp
  cases vs with
  | nil => cases hp
  | cons v vs =>
    have : p = .wr "," := by
      have e : (lsQ (v :: vs)).head? = some (.wr ",") := rfl
      rw [e] at hp; simpa using hp.symm
    rw [this]; exact tl_com
theorem obQ_drop (g : Str → Vt) (ys : List Str) : txP ((obQ g ys).drop 1) = joinL [44] (ys.map fun k => quoL k ++ 58 :: txV (g k)) := by
  rw [txP_drop (c := 44), obQ_tx, join_drop]
  intro p hp
  cases ys with
  | nil => cases hp
  | cons v vs =>
    have : p = .wr "," := by
      have e : (obQ g (v :: vs)).head? = some (.wr ",") := rfl
      rw [e] at hp; simpa using hp.symm
    rw [this]; exact tl_com
/-! ### measures -/
theorem lsP_ms : ∀ (vs : List Vt) (i : Nat), msL (lsP i vs) + vs.length + vs.length ≤ msVs vs
  | [], _ => Nat.le_refl _
  | v :: vs, i => by
    have ih := lsP_ms vs (i + 1)
    show (msP (.wr (sepS i)) :: msP (.vl v) :: (lsP (i + 1) vs).map msP).sum + _ + _ ≤ 3 + msV v + msVs vs
    rw [List.sum_cons, List.sum_cons, List.length_cons]
    show 1 + (msV v + msL (lsP (i + 1) vs)) + _ + _ ≤ _
    omega
theorem lsQ_ms : ∀ vs : List Vt, msL (lsQ vs) ≤ msVs vs
  | [] => Nat.le_refl _
  | v :: vs => by
    have ih := lsQ_ms vs
    have e : lsQ (v :: vs) = [.wr ",", .vl v] ++ lsQ vs := rfl
    rw [e, msL_app]
    show 1 + (msV v + 0) + _ ≤ 3 + msV v + msVs vs
    omega
theorem obP_ms (g : Str → Vt) : ∀ (ys : List Str) (i : Nat), msL (obP g i ys) = (ys.map fun k => 2 + msV (g k)).sum
  | [], _ => rfl
  | k :: ys, i => by
    have ih := obP_ms g ys (i + 1)
    show (msP (.wr (sepS i)) :: msP (.wr (keyS k)) :: msP (.vl (g k)) :: (obP g (i + 1) ys).map msP).sum = _
    rw [List.sum_cons, List.sum_cons, List.sum_cons, List.map_cons, List.sum_cons, ← ih]
    show 1 + (1 + (msV (g k) + msL _)) = _
    omega
theorem obQ_ms (g : Str → Vt) : ∀ ys : List Str, msL (obQ g ys) = (ys.map fun k => 2 + msV (g k)).sum
  | [] => rfl
  | k :: ys => by
    have ih := obQ_ms g ys
    have e : obQ g (k :: ys) = [.wr ",", .wr (keyS k), .vl (g k)] ++ obQ g ys := rfl
    rw [e, msL_app, ih, List.map_cons, List.sum_cons]
    show 1 + (1 + (msV (g k) + 0)) + _ = _
    omega
theorem msVs_sum : ∀ vs : List Vt, msVs vs = (vs.map fun v => 3 + msV v).sum
  | [] => rfl
  | v :: vs => by
    show 3 + msV v + msVs vs = _
    rw [List.map_cons, List.sum_cons, msVs_sum vs]
/-! ### fields -/
theorem lk_map {α : Type} {g : Str → α} : ∀ {ks : List Str} {vs : List α}, ks.length = vs.length → ks.Nodup → (∀ (i : Nat) (k : Str) (v : α), ks[i]? = some k → vs[i]? = some v → g k = v) → ks.map g = vs
  | [], [], _, _, _ => rfl
  | [], _ :: _, h, _, _ => by simp at h
  | _ :: _, [], h, _, _ => by simp at h
  | k :: ks, v :: vs, h, nd, f => by
    rw [List.map_cons, f 0 k v rfl rfl, lk_map (by simpa using h) (List.nodup_cons.mp nd).2 fun i k' v' h1 h2 => f (i + 1) k' v' (by simpa using h1) (by simpa using h2)]
theorem lkV_at : ∀ {ks : List Str} {vs : List Vt} {i : Nat} {k : Str} {v : Vt}, ks.Nodup → ks[i]? = some k → vs[i]? = some v → lkV k ks vs = v
  | [], _, i, _, _, _, h, _ => by cases h
  | _ :: _, [], i, _, _, _, _, h => by cases h
  | x :: ks, y :: vs, 0, k, v, nd, h1, h2 => by
    cases h1
    cases h2
    show (if x = x then y else _) = y
    rw [if_pos rfl]
  | x :: ks, y :: vs, i + 1, k, v, nd, h1, h2 => by
    rw [List.getElem?_cons_succ] at h1 h2
    obtain ⟨n1, n2⟩ := List.nodup_cons.mp nd
    show (if x = k then y else lkV k ks vs) = v
    rw [if_neg fun e => n1 (by rw [e]; exact List.mem_of_getElem? h1)]
    exact lkV_at n2 h1 h2
theorem lkV_map {ks : List Str} {vs : List Vt} (h : ks.length = vs.length) (nd : ks.Nodup) : ks.map (fun k => lkV k ks vs) = vs := lk_map h nd fun _ _ _ h1 h2 => lkV_at nd h1 h2
theorem lkV_mem {ks : List Str} {vs : List Vt} {k : Str} (h : ks.length = vs.length) (nd : ks.Nodup) (hk : k ∈ ks) : lkV k ks vs ∈ vs := by
  have : lkV k ks vs ∈ ks.map fun k => lkV k ks vs := List.mem_map.mpr ⟨k, hk, rfl⟩
  rwa [lkV_map h nd] at this
theorem lkL_tx : ∀ {ks : List Str} {vs : List Vt} {k : Str}, ks.length = vs.length → k ∈ ks → lkL k ks (txVs vs) = txV (lkV k ks vs)
  | [], _, _, _, h => by cases h
  | _ :: _, [], _, h, _ => by simp at h
  | x :: ks, v :: vs, k, h, hk => by
    rw [txVs]
    show (if x = k then txV v else lkL k ks (txVs vs)) = txV (if x = k then v else lkV k ks vs)
    by_cases e : x = k
    · rw [if_pos e, if_pos e]
    · rw [if_neg e, if_neg e]
      rcases List.mem_cons.mp hk with z | z
      · exact absurd z.symm e
      · exact lkL_tx (by simpa using h) z
theorem lkV_val : ∀ {ks : List Str} {vs : List Vt} {k : Str}, ks.length = vs.length → k ∈ ks → valD ((ks.map fun k => (Sum.inr k : Key)).zip (vds vs)) (.inr k) = some (vd (lkV k ks vs))
  | [], _, _, _, h => by cases h
  | _ :: _, [], _, h, _ => by simp at h
  | x :: ks, v :: vs, k, h, hk => by
    show ((((Sum.inr x : Key), vd v) :: (ks.map fun k => (Sum.inr k : Key)).zip (vds vs)).find? fun p => decide (p.1 = Sum.inr k)).map (·.2) = some (vd (if x = k then v else lkV k ks vs))
    by_cases e : x = k
    · subst e
      rw [List.find?_cons_of_pos (by simp), if_pos rfl]; rfl
    · rw [List.find?_cons_of_neg (by simp; exact e), if_neg e]
      rcases List.mem_cons.mp hk with z | z
      · exact absurd z.symm e
      · exact lkV_val (by simpa using h) z
end

end L2.Dl.G

namespace L2.Dl.G
open PySem PySem.Spec PyProof.Rows TL TXL Inj
variable [Tb]
/-! ### sorted texts -/
abbrev leX (a b : Str) : Prop := a.cps.toList ≤ b.cps.toList
theorem leX_of {a b : Str} (h : ltCps b.cps.toList a.cps.toList = false) : leX a b := by
  rw [ltCps_eq, decide_eq_false_iff_not] at h
  exact List.not_lt.mp h
theorem leX_anti {a b : Str} (h1 : leX a b) (h2 : leX b a) : a = b := by
  obtain ⟨x⟩ := a
  obtain ⟨y⟩ := b
  have h : x.toList = y.toList := List.le_antisymm h1 h2
  rw [← Array.toArray_toList (xs := x), h]
theorem rising_pw : ∀ {l : List Str} {p : Str}, risingS p l = true → (p :: l).Pairwise leX
  | [], _, _ => List.pairwise_singleton _ _
  | x :: r, p, h => by
    have h : (!ltCps x.cps.toList p.cps.toList && risingS x r) = true := h
    rw [Bool.and_eq_true, Bool.not_eq_true'] at h
    have ih := rising_pw h.2
    have hp := leX_of h.1
    refine List.pairwise_cons.mpr ⟨fun y hy => ?_, ih⟩
    rcases List.mem_cons.mp hy with z | z
    · rw [z]; exact hp
    · exact List.le_trans hp ((List.pairwise_cons.mp ih).1 y z)
theorem sorted_pw : ∀ {l : List Str}, sortedS l = true → l.Pairwise leX
  | [], _ => .nil
  | _ :: _, h => rising_pw h
theorem sorted_uniq {a b : List Str} (hp : a.Perm b) (h1 : sortedS a = true) (h2 : sortedS b = true) : a = b :=
  List.Perm.eq_of_pairwise (fun _ _ _ _ z1 z2 => leX_anti z1 z2) (sorted_pw h1) (sorted_pw h2) hp
/-! ### the text of a value, walked -/

end L2.Dl.G

namespace L2.Dl.G
open PySem PySem.Spec PyProof.Rows TL TXL Inj
variable [Tb]
/-! ### bounds; the texts of leaves, walked -/
section
theorem srt_eq {ks ys : List Str} (p : ys.Perm ks) (s : sortedS ys = true) : srt ks = ys := by
  have h : ∃ ys : List Str, ys.Perm ks ∧ sortedS ys = true := ⟨ys, p, s⟩
  unfold srt
  rw [dif_pos h]
  obtain ⟨h1, h2⟩ := Classical.choose_spec h
  exact sorted_uniq (h1.trans p.symm) h2 s
theorem srt_or (ks : List Str) : srt ks = [] ∨ (srt ks).Perm ks := by
  unfold srt
  by_cases h : ∃ ys : List Str, ys.Perm ks ∧ sortedS ys = true
  · rw [dif_pos h]; exact .inr (Classical.choose_spec h).1
  · rw [dif_neg h]; exact .inl rfl
theorem srt_rev (ks : List Str) : srt ks.reverse = srt ks := by
  by_cases h : ∃ ys : List Str, ys.Perm ks ∧ sortedS ys = true
  · obtain ⟨ys, h1, h2⟩ := h
    rw [srt_eq h1 h2, srt_eq (h1.trans (List.reverse_perm ks).symm) h2]
  · unfold srt
    rw [dif_neg h, dif_neg fun ⟨ys, h1, h2⟩ => h ⟨ys, h1.trans (List.reverse_perm ks), h2⟩]
theorem escL_len : ∀ l : List Nat, (escL l).length ≤ 2 * l.length
  | [] => Nat.le_refl _
  | c :: l => by
    have ih := escL_len l
    have e : escL (c :: l) = (if c = 92 ∨ c = 34 then [92, c] else [c]) ++ escL l := rfl
    rw [e, List.length_append, List.length_cons]
    split <;> simp only [List.length_cons, List.length_nil] <;> omega
theorem quoL_len (x : Str) : (quoL x).length ≤ 2 * x.length + 2 := by
  have h := escL_len (tl x)
  rw [← len_tl] at h
  unfold quoL
  rw [List.length_cons, List.length_append, List.length_singleton]
  omega
theorem lfL_len {d : D} (h : LfG d) : (lfL d).length ≤ 100 := by
  rcases h with rfl | ⟨b, rfl⟩ | ⟨i, rfl, hi⟩ | ⟨x, rfl, hx⟩
  · decide +kernel
  · cases b <;> decide +kernel
  · show (tl (toString i : String)).length ≤ 100
    rw [← len_tl]
    have := int_len (k := 38) (by decide) hi
    omega
  · have := quoL_len x
    show (quoL x).length ≤ 100
    omega
theorem comL_len : ∀ ts : List (List Nat), (comL ts).length = (ts.map fun t => t.length + 1).sum
  | [] => rfl
  | t :: ts => by
    have e : comL (t :: ts) = 44 :: t ++ comL ts := rfl
    rw [e, List.length_append, List.map_cons, List.sum_cons, comL_len ts, List.length_cons]
theorem join_le (ts : List (List Nat)) : (joinL [44] ts).length ≤ (ts.map fun t => t.length + 1).sum := by
  rw [join_drop, List.length_drop, comL_len]; omega
theorem sum_mono {α : Type} {f g : α → Nat} : ∀ {l : List α}, (∀ x ∈ l, f x ≤ g x) → (l.map f).sum ≤ (l.map g).sum
  | [], _ => Nat.le_refl _
  | x :: l, h => by
    have h1 := h x List.mem_cons_self
    have h2 := sum_mono (l := l) fun y hy => h y (List.mem_cons_of_mem _ hy)
    rw [List.map_cons, List.map_cons, List.sum_cons, List.sum_cons]; omega
theorem srt_sum (f : Str → Nat) (ks : List Str) : ((srt ks).map f).sum ≤ (ks.map f).sum := by
  rcases srt_or ks with h | h
  · rw [h]; exact Nat.zero_le _
  · exact Nat.le_of_eq (List.Perm.sum_nat (h.map f))
theorem srt_mem {ks : List Str} {k : Str} (h : k ∈ srt ks) : k ∈ ks := by
  rcases srt_or ks with e | e
  · rw [e] at h; cases h
  · exact e.mem_iff.mp h
theorem ob_sum {ks : List Str} {vs : List Vt} (h : ks.length = vs.length) (nd : ks.Nodup) (f : Vt → Nat) : ((srt ks).map fun k => f (lkV k ks vs)).sum ≤ (vs.map f).sum := by
  refine Nat.le_trans (srt_sum (fun k => f (lkV k ks vs)) ks) (Nat.le_of_eq ?_)
  conv => rhs; rw [← lkV_map h nd]
  rw [List.map_map]; rfl
mutual
theorem tx_len : ∀ {v : Vt}, GV v → (txV v).length ≤ wtT v
  | .lf d, h => by rw [txV]; exact lfL_len h
  | .ls vs, h => by
    have ih := txs_len h.2
    have := join_le (txVs vs)
    rw [txV, List.length_cons, List.length_append, List.length_singleton]
    show _ ≤ 10 + wtTs vs
    omega
  | .ob ks vs, h => by
    obtain ⟨h1, h2, h3, h4, h5⟩ := h
    have ih := txs_mem h5
    have e : (srt ks).map (fun k => quoL k ++ 58 :: lkL k ks (txVs vs)) = (srt ks).map fun k => quoL k ++ 58 :: txV (lkV k ks vs) := List.map_congr_left fun k hk => by rw [lkL_tx h1 (srt_mem hk)]
    rw [txV, List.length_cons, List.length_append, List.length_singleton, e]
    have b1 := join_le ((srt ks).map fun k => quoL k ++ 58 :: txV (lkV k ks vs))
    rw [List.map_map] at b1
    have b2 : ((srt ks).map ((fun t => t.length + 1) ∘ fun k => quoL k ++ 58 :: txV (lkV k ks vs))).sum ≤ ((srt ks).map fun k => (fun v => 40 + wtT v) (lkV k ks vs)).sum := sum_mono fun k hk => by
      have hk := srt_mem hk
      have c1 := quoL_len k
      have c2 := h4 k hk
      have c3 := ih _ (lkV_mem h1 h3 hk)
      show (quoL k ++ 58 :: txV (lkV k ks vs)).length + 1 ≤ 40 + wtT (lkV k ks vs)
      rw [List.length_append, List.length_cons]
      omega
    have b3 := Nat.le_trans b1 (Nat.le_trans b2 (ob_sum h1 h3 fun v => 40 + wtT v))
    rw [← wtTs_sum] at b3
    show _ ≤ 10 + wtTs vs
    omega
theorem txs_len : ∀ {vs : List Vt}, GVs vs → ((txVs vs).map fun t => t.length + 1).sum ≤ wtTs vs
  | [], _ => by rw [txVs]; exact Nat.le_refl _
  | v :: vs, h => by
    have h1 := tx_len h.1
    have h2 := txs_len h.2
    rw [txVs, List.map_cons, List.sum_cons]
    show _ ≤ 40 + wtT v + wtTs vs
    omega
theorem txs_mem : ∀ {vs : List Vt}, GVs vs → ∀ v ∈ vs, (txV v).length ≤ wtT v
  | [], _, _, h => by cases h
  | v :: vs, h, x, hx => by
    rcases List.mem_cons.mp hx with e | hx
    · rw [e]; exact tx_len h.1
    · exact txs_mem h.2 x hx
end
end
section
variable {M : Mp} {Q : DQ}
def escS (c : Nat) : Str := if c = 92 ∨ c = 34 then ofL [92, c] else sg c
theorem sg_eq {c d : Nat} : sg c = sg d ↔ c = d := ⟨fun h => by have : [c] = [d] := congrArg tl h; simpa using this, fun h => by rw [h]⟩
theorem bs_sg : (("\\" : String) : Str) = sg 92 := by decide +kernel
theorem qu_sg : (("\"" : String) : Str) = sg 34 := by decide +kernel
theorem bs_app (c : Nat) : sg 92 ++ sg c = ofL [92, c] := ext_tl (by rw [tl_append, tl_ofL]; rfl)
theorem joinL_flat : ∀ ts : List (List Nat), joinL [] ts = ts.flatten
  | [] => rfl
  | [t] => by simp [joinL]
  | t :: u :: ts => by
    have ih := joinL_flat (u :: ts)
    show t ++ ([] ++ joinL [] (u :: ts)) = _
    rw [ih]; simp
theorem tl_join0 (ys : List Str) : tl (Txt.join (("" : String) : Str) ys) = ys.flatMap tl := by
  rw [join_eq, tl_join, tl_emp, joinL_flat, List.flatMap]
theorem esc_flat (cs : List Nat) : (cs.map escS).flatMap tl = escL cs := by
  unfold escL
  rw [List.flatMap_map]
  congr 1
  funext c
  unfold escS
  split
  · exact tl_ofL _
  · rfl
theorem sum_tl : ∀ ys : List Str, (ys.map (·.length)).sum = (ys.flatMap tl).length
  | [] => rfl
  | y :: ys => by rw [List.map_cons, List.sum_cons, List.flatMap_cons, List.length_append, ← sum_tl ys, ← len_tl]
theorem quo_eq {x : Str} : sg 34 ++ Txt.join (("" : String) : Str) ((tl x).map escS) ++ sg 34 = ofL (quoL x) := ext_tl (by
  rw [tl_append, tl_append, tl_join0, esc_flat, tl_ofL]; rfl)
end

end L2.Dl.G

namespace L2.Dl.G
open PySem PySem.Spec PyProof.Rows TL TXL Inj
local macro_rules | `(tactic| walk_at "zgo0") => `(tactic| repeat (with_reducible first | (refine z_isWE ?_; first | (refine z_isV ?_; first | refine z_v0 ?_ | refine z_v1 ?_ | refine z_v2 ?_ | refine z_v3 ?_ | refine z_v4 ?_ | refine z_v5 ?_ | refine z_v6 ?_ | refine z_v7 ?_ | refine z_v8 ?_ | refine z_v9 ?_ | refine z_v10 ?_ | refine z_v11 ?_ | refine z_v12 ?_ | refine z_v13 ?_ | refine z_v14 ?_ | refine z_v15 ?_) | refine z_op ?_ | refine z_c ?_ | refine z_call ?_ | refine z_frz ?_ | refine z_tup ?_ | refine z_mta ?_ | refine z_fld ?_ | refine z_lst ?_ | refine z_or ?_ | refine z_and ?_ | refine z_mt ?_ | refine z_callK ?_ | refine z_un ?_ | refine z_not ?_ | refine z_if ?_ | refine z_chain ?_ | refine z_sl ?_ | refine z_lc ?_ | refine z_kin ?_ | refine z_kix ?_ | refine z_kget ?_ | refine z_dict ?_ | refine z_meth ?_ | refine z_make ?_ | refine z_fmt ?_) | (refine z_isWS ?_; first | refine z_seq ?_ | refine z_asg ?_ | refine z_ifs ?_ | refine z_ret ?_ | refine z_drop ?_ | refine z_next ?_ | refine z_frzs ?_ | refine z_retN ?_ | refine z_for ?_ | refine z_par ?_ | refine z_par3 ?_ | refine z_setf ?_ | refine z_break ?_ | refine z_cont ?_) | (refine z_isgN ?_; first | refine z_g0 ?_ | refine z_g1 ?_ | refine z_g2 ?_ | refine z_g3 ?_ | refine z_g4 ?_ | refine z_g5 ?_ | refine z_g6 ?_ | refine z_g7 ?_ | refine z_g8 ?_ | refine z_g9 ?_ | refine z_g10 ?_ | refine z_g11 ?_ | refine z_g12 ?_ | refine z_g13 ?_ | refine z_g14 ?_ | refine z_g15 ?_) | (refine z_isWA ?_; first | refine z_cons ?_ | refine z_nil ?_) | (refine z_isW2 ?_; first | refine z_eqi ?_ | refine z_eqsT ?_ | refine z_eqsF (by decide +kernel) ?_ | refine z_eqs ?_ | refine z_nei ?_ | refine z_nesT ?_ | refine z_nesF (by decide +kernel) ?_ | refine z_nes ?_ | refine z_ut0 ?_ | refine z_ut1 ?_ | refine z_ut2 ?_ | refine z_ut3 ?_ | refine z_uc0 ?_ | refine z_sd0 ?_ | refine z_sd1 ?_ | refine z_le ?_ | refine z_lt ?_ | refine z_gtt ?_ | refine z_ge ?_ | refine z_add ?_ | refine z_sub ?_ | refine z_isn ?_ | refine z_isni ?_ | refine z_isns ?_ | refine z_isnt ?_ | refine z_isnb ?_ | refine z_nn ?_ | refine z_nni ?_ | refine z_nns ?_ | refine z_nnt ?_ | refine z_nnb ?_ | refine z_ix0 ?_ | refine z_ix1 ?_ | refine z_ix2 ?_ | refine z_ix3 ?_ | refine z_p15 ?_ | refine z_p30 ?_ | refine z_p18 ?_ | refine z_uin0 ?_ | refine z_unin0 ?_) | (refine z_isWT ?_; first | refine z_tst ?_ | refine z_tru ?_ | refine z_tand ?_ | refine z_tor ?_ | refine z_tnot ?_ | refine z_yes ?_) | refine z_gc ?_ | refine z_gn ?_ | refine z_gst ?_ | refine z_nop ?_ | refine z_prt ?_ | refine z_prti ?_ | refine z_mstr ?_ | refine z_tb ?_ | refine z_trb ?_ | refine z_trn ?_ | refine z_T ?_ | refine z_F ?_ | refine z_NF ?_ | refine z_NT ?_ | refine z_neg ?_ | refine z_slt ?_ | refine z_its ?_ | refine z_rng1 ?_ | refine z_starts ?_ | refine z_kins ?_ | refine z_kgets ?_ | refine z_js ?_ | refine z_jsn ?_ | refine z_wpc ?_ | refine z_wpn ?_ | refine z_ita ?_ | refine z_ant ?_ | refine z_anc ?_ | refine z_slc ?_ | refine z_gsd ?_ | (refine z_isF ?_; first | refine z_fn ?_ | refine z_fb ?_ | refine z_fi ?_ | refine z_fs ?_ | refine z_ft ?_ | refine z_fc ?_ | refine z_fsd ?_) | (refine z_isWC ?_; first | (refine z_isI ?_; first | refine z_is_non_str ?_ | refine z_is_non_int ?_ | refine z_is_non_bool ?_ | refine z_is_non_tuple ?_ | refine z_is_non_list ?_ | refine z_is_non_dict ?_ | refine z_is_bl_str ?_ | refine z_is_bl_int ?_ | refine z_is_bl_bool ?_ | refine z_is_bl_tuple ?_ | refine z_is_bl_list ?_ | refine z_is_bl_dict ?_ | refine z_is_int_str ?_ | refine z_is_int_int ?_ | refine z_is_int_bool ?_ | refine z_is_int_tuple ?_ | refine z_is_int_list ?_ | refine z_is_int_dict ?_ | refine z_is_str_str ?_ | refine z_is_str_int ?_ | refine z_is_str_bool ?_ | refine z_is_str_tuple ?_ | refine z_is_str_list ?_ | refine z_is_str_dict ?_ | refine z_is_tup_str ?_ | refine z_is_tup_int ?_ | refine z_is_tup_bool ?_ | refine z_is_tup_tuple ?_ | refine z_is_tup_list ?_ | refine z_is_tup_dict ?_ | refine z_isd ?_) | refine z_lent ?_ | refine z_lenc ?_ | refine z_ult ?_ | refine z_ulc ?_ | refine z_inb ?_ | refine z_min ?_ | refine z_max ?_ | refine z_abs ?_ | refine z_strs ?_) | refine z_gt (by with_unfolding_all rfl) ?_ | refine z_sz (by with_unfolding_all rfl) ?_ | refine z_bind (by with_unfolding_all rfl) (by with_unfolding_all rfl) ?_ | refine newF ?_ | exact z_enc ?_))
variable [Tb]
/-! ### leaves as texts, walked -/
section
variable {M : Mp} {Q : DQ}
theorem esc_p {c : Nat} (h : c = 92 ∨ c = 34) : escS c = sg 92 ++ sg c := by unfold escS; rw [if_pos h, bs_app]
theorem esc_n {c : Nat} (h : ¬(c = 92 ∨ c = 34)) : escS c = sg c := by unfold escS; rw [if_neg h]
theorem le_L {k n : Nat} (h : k ≤ n) (hn : n ≤ 16777216 := by decide) : k ≤ sizeLine := Nat.le_trans h (Nat.le_trans hn (by decide))
theorem escL_le (x : Str) : (((tl x).map escS).flatMap tl).length ≤ 2 * x.length := by
  rw [esc_flat, len_tl]; exact escL_len _
theorem sgl (c : Nat) : (sg c).length = 1 := rfl
theorem quo_len {x : Str} : (ofL (quoL x)).length ≤ 2 * x.length + 2 := by rw [len_tl, tl_ofL]; exact quoL_len x
/-- two texts put together -/
theorem z_addn {a b : Str} {n : Nat} (h : a.length + b.length ≤ n) (q : Q (.str (a ++ b)) M) (hn : n ≤ 16777216 := by decide) : bAdd (.str a) (.str b) M Q := z_adds (le_L h hn) q
theorem quoted_ok {x : Str} (hx : x.length ≤ 900) (q : Q (.str (ofL (quoL x))) M) : W_quoted [.str x] M Q := by
  have hl : (tl x).length ≤ 900 := by rw [← len_tl]; exact hx
  unfold W_quoted; refine z_dg [some _, none, none] rfl rfl ?_; walk_at "zgo0"
  rw [bs_sg, qu_sg]
  refine lcG_sift (fun _ => true) (fun d => match d with | .str ⟨#[c]⟩ => .str (escS c) | d => d) (by rw [List.length_map]; exact Nat.le_trans hl (by decide)) (fun _ _ => trivial) (fun d M1 R hd f1 r1 _ => ?_) fun t m ht et ft => frzS_of (Nat.lt_of_sub_eq_succ rfl) (frz_new ht et ft ?_)
  · obtain ⟨c, hc, rfl⟩ := List.mem_map.mp hd
    have r2 : R true (.str (escS c)) M1 := r1 rfl
    clear r1
    simp only [ewipe, gN, List.foldl_cons, List.foldl_nil, List.set_cons_zero, List.set_cons_succ]
    walk_at "zgo0"
    have h9 : ∀ d, ((⟨#[c]⟩ : Str) = sg d) ↔ c = d := fun d => sg_eq
    refine z_decN (fun h1 => ?_) fun h1 => ?_
    · rw [h9] at h1
      walk_at "zgo0"
      refine z_decN (fun h2 => ?_) fun h2 => ?_
      · rw [h9] at h2
        refine z_v2 ?_
        rw [esc_n (by rintro (h | h) <;> contradiction)] at r2
        exact r2
      · rw [h9] at h2
        walk_at "zgo0"
        rw [esc_p (.inr h2)] at r2
        exact z_addn (n := 2) (Nat.le_refl _) r2
    · rw [h9] at h1
      walk_at "zgo0"
      rw [esc_p (.inl h1)] at r2
      exact z_addn (n := 2) (Nat.le_refl _) r2
  · have e : ((((tl x).map fun c => D.str ⟨#[c]⟩).filter fun _ => true).map fun d => match d with | .str ⟨#[c]⟩ => .str (escS c) | d => d) = ((tl x).map escS).map D.str := by
      rw [List.filter_eq_self.mpr fun _ _ => rfl, List.map_map, List.map_map]; rfl
    rw [show x.cps.toList = tl x from rfl, e]
    walk_at "zgo0"
    (try unfold W_quoted_1); walk_at "zgo0"
    have b := escL_le x
    refine ⟨(tl x).map escS, rfl, ?_, ?_⟩
    · rw [sum_tl, show (("" : String) : Str).length = 0 by decide +kernel]
      omega
    · rw [qu_sg]
      refine z_addn (n := 5000) ?_ ?_
      · rw [len_tl (Txt.join _ _), tl_join0, sgl]; omega
      · refine z_addn (n := 5000) ?_ ?_
        · rw [strLen_append, len_tl (Txt.join _ _), tl_join0, sgl]; omega
        · rw [quo_eq]; exact z_kp q
theorem lquoted_ok {x : Str} (hx : x.length ≤ 900) (q : Q (.str (ofL (quoL x))) M) : W_L_quoted [.str x] M Q := by
  have hl : (tl x).length ≤ 900 := by rw [← len_tl]; exact hx
  unfold W_L_quoted; refine z_dg [some _, none, none] rfl rfl ?_; walk_at "zgo0"
  rw [qu_sg]
  refine run_for (fun k env MM => ∃ b2, env = [some (.str x), some (.str (ofL (34 :: escL ((tl x).take k)))), b2] ∧ MM = M) ⟨_, rfl, rfl⟩ (fun k d r env MM hd hP next => ?_) fun env MM hP => ?_
  · obtain ⟨b2, rfl, rfl⟩ := hP
    have hk : ((x.cps.toList.map fun c => D.str ⟨#[c]⟩))[k]? = some d := by
      have := congrArg (fun z => z[0]?) hd
      simpa using this
    rw [List.getElem?_map] at hk
    obtain ⟨c, hc, rfl⟩ := Option.map_eq_some_iff.mp hk
    have hc : (tl x)[k]? = some c := hc
    have et : (tl x).take (k + 1) = (tl x).take k ++ [c] := by rw [List.take_succ, hc]; rfl
    have ee : escL ((tl x).take (k + 1)) = escL ((tl x).take k) ++ tl (escS c) := by
      rw [et, ← esc_flat, ← esc_flat, List.map_append, List.flatMap_append]
      simp
    have hz : (escL ((tl x).take k)).length ≤ 1800 := by
      have := escL_len ((tl x).take k)
      rw [List.length_take] at this
      omega
    have hz2 : (ofL (34 :: escL ((tl x).take k))).length ≤ 1801 := by rw [len_tl, tl_ofL, List.length_cons]; omega
    refine ⟨trivial, ?_⟩
    (try unfold W_L_quoted_2); walk_at "zgo0"
    have ei : inV (flv (.str ⟨#[c]⟩)) ([D.str ("\"" : String), D.str ("\\" : String)].map flv) = decide (c = 92 ∨ c = 34) := by
      refine (strs_in (x := (⟨#[c]⟩ : Str)) (ns := [("\"" : String), ("\\" : String)])).trans ?_
      rw [qu_sg, bs_sg]
      have h9 : ∀ d, ((⟨#[c]⟩ : Str) = sg d) ↔ c = d := fun d => sg_eq
      simp only [List.mem_cons, List.not_mem_nil, or_false, h9]
      exact decide_eq_decide.mpr or_comm
    refine z_uint rfl (by decide +kernel) ?_
    rw [ei]
    refine z_ite (fun h1 => ?_) fun h1 => ?_
    · have h1 := of_decide_eq_true h1
      walk_at "zgo0"
      rw [bs_sg]
      refine z_addn (n := 2000) (by rw [sgl]; omega) ?_
      walk_at "zgo0"
      refine z_addn (n := 2000) (by rw [strLen_append, sgl]; show _ + (sg c).length ≤ _; rw [sgl]; omega) ?_
      walk_at "zgo0"
      have e2 : ofL (34 :: escL ((tl x).take k)) ++ sg 92 ++ ⟨#[c]⟩ = ofL (34 :: escL ((tl x).take (k + 1))) := ext_tl (by
        rw [ee, esc_p h1, tl_append, tl_append, tl_ofL, tl_ofL, tl_append, List.cons_append, List.cons_append, List.append_assoc]; rfl)
      rw [e2]
      exact next _ _ ⟨_, rfl, rfl⟩
    · have h1 := of_decide_eq_false h1
      walk_at "zgo0"
      refine z_addn (n := 2000) (by show _ + (sg c).length ≤ _; rw [sgl]; omega) ?_
      walk_at "zgo0"
      have e2 : ofL (34 :: escL ((tl x).take k)) ++ ⟨#[c]⟩ = ofL (34 :: escL ((tl x).take (k + 1))) := ext_tl (by
        rw [ee, esc_n h1, tl_append, tl_ofL, tl_ofL, List.cons_append]; rfl)
      rw [e2]
      exact next _ _ ⟨_, rfl, rfl⟩
  · obtain ⟨b2, rfl, rfl⟩ := hP
    refine ⟨trivial, ?_⟩
    rw [List.length_map]
    (try unfold W_L_quoted_1); walk_at "zgo0"
    rw [qu_sg, show x.cps.toList.length = (tl x).length from rfl, List.take_of_length_le (Nat.le_refl _)]
    refine z_addn (n := 2000) (by rw [sgl, len_tl, tl_ofL, List.length_cons]; have := escL_len (tl x); omega) ?_
    refine z_kp ?_
    have e : ofL (34 :: escL (tl x)) ++ sg 34 = ofL (quoL x) := ext_tl (by rw [tl_append, tl_ofL, tl_ofL]; rfl)
    rw [e]
    exact q
end

end L2.Dl.G

namespace L2.Dl.G
open PySem PySem.Spec PyProof.Rows TL TXL Inj
local macro_rules | `(tactic| walk_at "zgo0") => `(tactic| repeat (with_reducible first | (refine z_isWE ?_; first | (refine z_isV ?_; first | refine z_v0 ?_ | refine z_v1 ?_ | refine z_v2 ?_ | refine z_v3 ?_ | refine z_v4 ?_ | refine z_v5 ?_ | refine z_v6 ?_ | refine z_v7 ?_ | refine z_v8 ?_ | refine z_v9 ?_ | refine z_v10 ?_ | refine z_v11 ?_ | refine z_v12 ?_ | refine z_v13 ?_ | refine z_v14 ?_ | refine z_v15 ?_) | refine z_op ?_ | refine z_c ?_ | refine z_call ?_ | refine z_frz ?_ | refine z_tup ?_ | refine z_mta ?_ | refine z_fld ?_ | refine z_lst ?_ | refine z_or ?_ | refine z_and ?_ | refine z_mt ?_ | refine z_callK ?_ | refine z_un ?_ | refine z_not ?_ | refine z_if ?_ | refine z_chain ?_ | refine z_sl ?_ | refine z_lc ?_ | refine z_kin ?_ | refine z_kix ?_ | refine z_kget ?_ | refine z_dict ?_ | refine z_meth ?_ | refine z_make ?_ | refine z_fmt ?_) | (refine z_isWS ?_; first | refine z_seq ?_ | refine z_asg ?_ | refine z_ifs ?_ | refine z_ret ?_ | refine z_drop ?_ | refine z_next ?_ | refine z_frzs ?_ | refine z_retN ?_ | refine z_for ?_ | refine z_par ?_ | refine z_par3 ?_ | refine z_setf ?_ | refine z_break ?_ | refine z_cont ?_) | (refine z_isgN ?_; first | refine z_g0 ?_ | refine z_g1 ?_ | refine z_g2 ?_ | refine z_g3 ?_ | refine z_g4 ?_ | refine z_g5 ?_ | refine z_g6 ?_ | refine z_g7 ?_ | refine z_g8 ?_ | refine z_g9 ?_ | refine z_g10 ?_ | refine z_g11 ?_ | refine z_g12 ?_ | refine z_g13 ?_ | refine z_g14 ?_ | refine z_g15 ?_) | (refine z_isWA ?_; first | refine z_cons ?_ | refine z_nil ?_) | (refine z_isW2 ?_; first | refine z_eqi ?_ | refine z_eqsT ?_ | refine z_eqsF (by decide +kernel) ?_ | refine z_eqs ?_ | refine z_nei ?_ | refine z_nesT ?_ | refine z_nesF (by decide +kernel) ?_ | refine z_nes ?_ | refine z_ut0 ?_ | refine z_ut1 ?_ | refine z_ut2 ?_ | refine z_ut3 ?_ | refine z_uc0 ?_ | refine z_sd0 ?_ | refine z_sd1 ?_ | refine z_le ?_ | refine z_lt ?_ | refine z_gtt ?_ | refine z_ge ?_ | refine z_add ?_ | refine z_sub ?_ | refine z_isn ?_ | refine z_isni ?_ | refine z_isns ?_ | refine z_isnt ?_ | refine z_isnb ?_ | refine z_nn ?_ | refine z_nni ?_ | refine z_nns ?_ | refine z_nnt ?_ | refine z_nnb ?_ | refine z_ix0 ?_ | refine z_ix1 ?_ | refine z_ix2 ?_ | refine z_ix3 ?_ | refine z_p15 ?_ | refine z_p30 ?_ | refine z_p18 ?_ | refine z_uin0 ?_ | refine z_unin0 ?_) | (refine z_isWT ?_; first | refine z_tst ?_ | refine z_tru ?_ | refine z_tand ?_ | refine z_tor ?_ | refine z_tnot ?_ | refine z_yes ?_) | refine z_gc ?_ | refine z_gn ?_ | refine z_gst ?_ | refine z_nop ?_ | refine z_prt ?_ | refine z_prti ?_ | refine z_mstr ?_ | refine z_tb ?_ | refine z_trb ?_ | refine z_trn ?_ | refine z_T ?_ | refine z_F ?_ | refine z_NF ?_ | refine z_NT ?_ | refine z_neg ?_ | refine z_slt ?_ | refine z_its ?_ | refine z_rng1 ?_ | refine z_starts ?_ | refine z_kins ?_ | refine z_kgets ?_ | refine z_js ?_ | refine z_jsn ?_ | refine z_wpc ?_ | refine z_wpn ?_ | refine z_ita ?_ | refine z_ant ?_ | refine z_anc ?_ | refine z_slc ?_ | refine z_gsd ?_ | (refine z_isF ?_; first | refine z_fn ?_ | refine z_fb ?_ | refine z_fi ?_ | refine z_fs ?_ | refine z_ft ?_ | refine z_fc ?_ | refine z_fsd ?_) | (refine z_isWC ?_; first | (refine z_isI ?_; first | refine z_is_non_str ?_ | refine z_is_non_int ?_ | refine z_is_non_bool ?_ | refine z_is_non_tuple ?_ | refine z_is_non_list ?_ | refine z_is_non_dict ?_ | refine z_is_bl_str ?_ | refine z_is_bl_int ?_ | refine z_is_bl_bool ?_ | refine z_is_bl_tuple ?_ | refine z_is_bl_list ?_ | refine z_is_bl_dict ?_ | refine z_is_int_str ?_ | refine z_is_int_int ?_ | refine z_is_int_bool ?_ | refine z_is_int_tuple ?_ | refine z_is_int_list ?_ | refine z_is_int_dict ?_ | refine z_is_str_str ?_ | refine z_is_str_int ?_ | refine z_is_str_bool ?_ | refine z_is_str_tuple ?_ | refine z_is_str_list ?_ | refine z_is_str_dict ?_ | refine z_is_tup_str ?_ | refine z_is_tup_int ?_ | refine z_is_tup_bool ?_ | refine z_is_tup_tuple ?_ | refine z_is_tup_list ?_ | refine z_is_tup_dict ?_ | refine z_isd ?_) | refine z_lent ?_ | refine z_lenc ?_ | refine z_ult ?_ | refine z_ulc ?_ | refine z_inb ?_ | refine z_min ?_ | refine z_max ?_ | refine z_abs ?_ | refine z_strs ?_) | refine z_gt (by with_unfolding_all rfl) ?_ | refine z_sz (by with_unfolding_all rfl) ?_ | refine z_bind (by with_unfolding_all rfl) (by with_unfolding_all rfl) ?_ | refine newF ?_ | exact z_enc ?_))
variable [Tb]
/-! ### plain texts, pieces, what is opened: walked -/
section
variable {M : Mp} {Q : DQ}
theorem ofL_tl (x : Str) : ofL (tl x) = x := ext_tl (tl_ofL _)
theorem z_isiV {d : D} {n t : String} {b : Bool} (h1 : tyV d M = some t) (h2 : kitB t n = some b) (h : Q (.bl b) M) : fIsiV [d, .ty n] M Q := ⟨t, b, h1, h2, h⟩
theorem z_isiT {d : D} {ns : List D} {t : String} {b : Bool} (h1 : tyV d M = some t) (h2 : kitsB t ns = some b) (h : Q (.bl b) M) : fIsiT [d, .tup ns] M Q := ⟨t, b, h1, h2, h⟩
theorem plain_ok {d : D} (h : LfG d) (q : Q (.str (ofL (lfL d))) M) : W_plain_text [d] M Q := by
  rcases h with rfl | ⟨b, rfl⟩ | ⟨i, rfl, hi⟩ | ⟨x, rfl, hx⟩
  · unfold W_plain_text; refine z_dg [some _] rfl rfl ?_; walk_at "zgo0"
    exact z_kp (by rw [show lfL .non = tl ("null" : String) from rfl, ofL_tl] at q; exact q)
  · unfold W_plain_text; refine z_dg [some _] rfl rfl ?_; walk_at "zgo0"
    refine z_isiV (b := true) rfl (by decide +kernel) ?_
    cases b with
    | true =>
      walk_at "zgo0"
      exact z_kp (by rw [show lfL (.bl true) = tl ("true" : String) from rfl, ofL_tl] at q; exact q)
    | false =>
      walk_at "zgo0"
      exact z_kp (by rw [show lfL (.bl false) = tl ("false" : String) from rfl, ofL_tl] at q; exact q)
  · unfold W_plain_text; refine z_dg [some _] rfl rfl ?_; walk_at "zgo0"
    refine z_isiV (b := false) rfl (by decide +kernel) ?_
    walk_at "zgo0"
    refine z_isiV (b := true) rfl (by decide +kernel) ?_
    walk_at "zgo0"
    refine ⟨log_lt2 (by omega), z_kp ?_⟩
    rw [show lfL (.int i) = tl (toString i : String) from rfl, ofL_tl] at q
    exact q
  · unfold W_plain_text; refine z_dg [some _] rfl rfl ?_; walk_at "zgo0"
    refine z_isiV (b := false) rfl (by decide +kernel) ?_
    walk_at "zgo0"
    refine z_isiV (b := false) rfl (by decide +kernel) ?_
    walk_at "zgo0"
    refine quoted_ok (by omega) ?_
    exact z_kp q
theorem lplain_ok {d : D} (h : LfG d) (q : Q (.str (ofL (lfL d))) M) : W_L_plain_text [d] M Q := by
  rcases h with rfl | ⟨b, rfl⟩ | ⟨i, rfl, hi⟩ | ⟨x, rfl, hx⟩
  · unfold W_L_plain_text; refine z_dg [some _] rfl rfl ?_; walk_at "zgo0"
    exact z_kp (by rw [show lfL .non = tl ("null" : String) from rfl, ofL_tl] at q; exact q)
  · unfold W_L_plain_text; refine z_dg [some _] rfl rfl ?_; walk_at "zgo0"
    refine z_isiV (b := true) rfl (by decide +kernel) ?_
    walk_at "zgo0"
    cases b with
    | true =>
      rw [if_pos rfl]
      refine z_uixc (by rw [atI_1]) ?_
      exact z_kp (by rw [show lfL (.bl true) = tl ("true" : String) from rfl, ofL_tl] at q; exact q)
    | false =>
      rw [if_neg Bool.false_ne_true]
      walk_at "zgo0"
      exact z_kp (by rw [show lfL (.bl false) = tl ("false" : String) from rfl, ofL_tl] at q; exact q)
  · unfold W_L_plain_text; refine z_dg [some _] rfl rfl ?_; walk_at "zgo0"
    refine z_isiV (b := false) rfl (by decide +kernel) ?_
    walk_at "zgo0"
    refine z_isiV (b := true) rfl (by decide +kernel) ?_
    walk_at "zgo0"
    refine ⟨log_lt2 (by omega), z_kp ?_⟩
    rw [show lfL (.int i) = tl (toString i : String) from rfl, ofL_tl] at q
    exact q
  · unfold W_L_plain_text; refine z_dg [some _] rfl rfl ?_; walk_at "zgo0"
    refine z_isiV (b := false) rfl (by decide +kernel) ?_
    walk_at "zgo0"
    refine z_isiV (b := false) rfl (by decide +kernel) ?_
    walk_at "zgo0"
    refine lquoted_ok (by omega) ?_
    exact z_kp q
end

end L2.Dl.G

namespace L2.Dl.G
open PySem PySem.Spec PyProof.Rows TL TXL Inj
local macro_rules | `(tactic| walk_at "zgo0") => `(tactic| repeat (with_reducible first | (refine z_isWE ?_; first | (refine z_isV ?_; first | refine z_v0 ?_ | refine z_v1 ?_ | refine z_v2 ?_ | refine z_v3 ?_ | refine z_v4 ?_ | refine z_v5 ?_ | refine z_v6 ?_ | refine z_v7 ?_ | refine z_v8 ?_ | refine z_v9 ?_ | refine z_v10 ?_ | refine z_v11 ?_ | refine z_v12 ?_ | refine z_v13 ?_ | refine z_v14 ?_ | refine z_v15 ?_) | refine z_op ?_ | refine z_c ?_ | refine z_call ?_ | refine z_frz ?_ | refine z_tup ?_ | refine z_mta ?_ | refine z_fld ?_ | refine z_lst ?_ | refine z_or ?_ | refine z_and ?_ | refine z_mt ?_ | refine z_callK ?_ | refine z_un ?_ | refine z_not ?_ | refine z_if ?_ | refine z_chain ?_ | refine z_sl ?_ | refine z_lc ?_ | refine z_kin ?_ | refine z_kix ?_ | refine z_kget ?_ | refine z_dict ?_ | refine z_meth ?_ | refine z_make ?_ | refine z_fmt ?_) | (refine z_isWS ?_; first | refine z_seq ?_ | refine z_asg ?_ | refine z_ifs ?_ | refine z_ret ?_ | refine z_drop ?_ | refine z_next ?_ | refine z_frzs ?_ | refine z_retN ?_ | refine z_for ?_ | refine z_par ?_ | refine z_par3 ?_ | refine z_setf ?_ | refine z_break ?_ | refine z_cont ?_) | (refine z_isgN ?_; first | refine z_g0 ?_ | refine z_g1 ?_ | refine z_g2 ?_ | refine z_g3 ?_ | refine z_g4 ?_ | refine z_g5 ?_ | refine z_g6 ?_ | refine z_g7 ?_ | refine z_g8 ?_ | refine z_g9 ?_ | refine z_g10 ?_ | refine z_g11 ?_ | refine z_g12 ?_ | refine z_g13 ?_ | refine z_g14 ?_ | refine z_g15 ?_) | (refine z_isWA ?_; first | refine z_cons ?_ | refine z_nil ?_) | (refine z_isW2 ?_; first | refine z_eqi ?_ | refine z_eqsT ?_ | refine z_eqsF (by decide +kernel) ?_ | refine z_eqs ?_ | refine z_nei ?_ | refine z_nesT ?_ | refine z_nesF (by decide +kernel) ?_ | refine z_nes ?_ | refine z_ut0 ?_ | refine z_ut1 ?_ | refine z_ut2 ?_ | refine z_ut3 ?_ | refine z_uc0 ?_ | refine z_sd0 ?_ | refine z_sd1 ?_ | refine z_le ?_ | refine z_lt ?_ | refine z_gtt ?_ | refine z_ge ?_ | refine z_add ?_ | refine z_sub ?_ | refine z_isn ?_ | refine z_isni ?_ | refine z_isns ?_ | refine z_isnt ?_ | refine z_isnb ?_ | refine z_nn ?_ | refine z_nni ?_ | refine z_nns ?_ | refine z_nnt ?_ | refine z_nnb ?_ | refine z_ix0 ?_ | refine z_ix1 ?_ | refine z_ix2 ?_ | refine z_ix3 ?_ | refine z_p15 ?_ | refine z_p30 ?_ | refine z_p18 ?_ | refine z_uin0 ?_ | refine z_unin0 ?_) | (refine z_isWT ?_; first | refine z_tst ?_ | refine z_tru ?_ | refine z_tand ?_ | refine z_tor ?_ | refine z_tnot ?_ | refine z_yes ?_) | refine z_gc ?_ | refine z_gn ?_ | refine z_gst ?_ | refine z_nop ?_ | refine z_prt ?_ | refine z_prti ?_ | refine z_mstr ?_ | refine z_tb ?_ | refine z_trb ?_ | refine z_trn ?_ | refine z_T ?_ | refine z_F ?_ | refine z_NF ?_ | refine z_NT ?_ | refine z_neg ?_ | refine z_slt ?_ | refine z_its ?_ | refine z_rng1 ?_ | refine z_starts ?_ | refine z_kins ?_ | refine z_kgets ?_ | refine z_js ?_ | refine z_jsn ?_ | refine z_wpc ?_ | refine z_wpn ?_ | refine z_ita ?_ | refine z_ant ?_ | refine z_anc ?_ | refine z_slc ?_ | refine z_gsd ?_ | (refine z_isF ?_; first | refine z_fn ?_ | refine z_fb ?_ | refine z_fi ?_ | refine z_fs ?_ | refine z_ft ?_ | refine z_fc ?_ | refine z_fsd ?_) | (refine z_isWC ?_; first | (refine z_isI ?_; first | refine z_is_non_str ?_ | refine z_is_non_int ?_ | refine z_is_non_bool ?_ | refine z_is_non_tuple ?_ | refine z_is_non_list ?_ | refine z_is_non_dict ?_ | refine z_is_bl_str ?_ | refine z_is_bl_int ?_ | refine z_is_bl_bool ?_ | refine z_is_bl_tuple ?_ | refine z_is_bl_list ?_ | refine z_is_bl_dict ?_ | refine z_is_int_str ?_ | refine z_is_int_int ?_ | refine z_is_int_bool ?_ | refine z_is_int_tuple ?_ | refine z_is_int_list ?_ | refine z_is_int_dict ?_ | refine z_is_str_str ?_ | refine z_is_str_int ?_ | refine z_is_str_bool ?_ | refine z_is_str_tuple ?_ | refine z_is_str_list ?_ | refine z_is_str_dict ?_ | refine z_is_tup_str ?_ | refine z_is_tup_int ?_ | refine z_is_tup_bool ?_ | refine z_is_tup_tuple ?_ | refine z_is_tup_list ?_ | refine z_is_tup_dict ?_ | refine z_isd ?_) | refine z_lent ?_ | refine z_lenc ?_ | refine z_ult ?_ | refine z_ulc ?_ | refine z_inb ?_ | refine z_min ?_ | refine z_max ?_ | refine z_abs ?_ | refine z_strs ?_) | refine z_gt (by with_unfolding_all rfl) ?_ | refine z_sz (by with_unfolding_all rfl) ?_ | refine z_bind (by with_unfolding_all rfl) (by with_unfolding_all rfl) ?_ | refine newF ?_ | exact z_enc ?_))
variable [Tb]
/-! ### pieces_of -/
section
def pcD : Pc → D
  | .wr x => .tup [.bl true, .str x]
  | .vl v => .tup [.bl false, vd v]
noncomputable def pcsP : Vt → List Pc
  | .lf d => [.wr (ofL (lfL d))]
  | .ls vs => .wr "[" :: (lsP 0 vs ++ [.wr "]"])
  | .ob ks vs => .wr "{" :: (obP (fun k => lkV k ks vs) 0 (srt ks) ++ [.wr "}"])
theorem tl_b1 : tl (("[" : String) : Str) = [91] := by decide +kernel
theorem tl_b2 : tl (("]" : String) : Str) = [93] := by decide +kernel
theorem tl_c1 : tl (("{" : String) : Str) = [123] := by decide +kernel
theorem tl_c2 : tl (("}" : String) : Str) = [125] := by decide +kernel
theorem txP_one (p : Pc) : txP [p] = pcL p := by unfold txP; simp
theorem pcs_tx {v : Vt} (h : GV v) : txP (pcsP v) = txV v := by
  cases v with
  | lf d => rw [txV]; show txP [_] = _; rw [txP_one]; exact tl_ofL _
  | ls vs =>
    show txP (_ :: (_ ++ [_])) = _
    rw [txP_cons, txP_app, txP_one, lsP_tx0, txV]
    show tl _ ++ (_ ++ tl _) = _
    rw [tl_b1, tl_b2]; rfl
  | ob ks vs =>
    obtain ⟨h1, h2, h3, h4, h5⟩ := h
    have e : (srt ks).map (fun k => quoL k ++ 58 :: lkL k ks (txVs vs)) = (srt ks).map fun k => quoL k ++ 58 :: txV (lkV k ks vs) := List.map_congr_left fun k hk => by rw [lkL_tx h1 (srt_mem hk)]
    show txP (_ :: (_ ++ [_])) = _
    rw [txP_cons, txP_app, txP_one, obP_tx0, txV, e]
    show tl _ ++ (_ ++ tl _) = _
    rw [tl_c1, tl_c2]; rfl
theorem lsP_G : ∀ {vs : List Vt} (i : Nat), GVs vs → ∀ p ∈ lsP i vs, pcG p
  | [], _, _, _, h => by cases h
  | v :: vs, i, g, p, h => by
    rcases List.mem_cons.mp h with rfl | h
    · trivial
    rcases List.mem_cons.mp h with rfl | h
    · exact g.1
    · exact lsP_G (i + 1) g.2 p h
theorem obP_G {g : Str → Vt} : ∀ {ys : List Str} (i : Nat), (∀ k ∈ ys, GV (g k)) → ∀ p ∈ obP g i ys, pcG p
  | [], _, _, _, h => by cases h
  | k :: ys, i, hg, p, h => by
    rcases List.mem_cons.mp h with rfl | h
    · trivial
    rcases List.mem_cons.mp h with rfl | h
    · trivial
    rcases List.mem_cons.mp h with rfl | h
    · exact hg k List.mem_cons_self
    · exact obP_G (i + 1) (fun x hx => hg x (List.mem_cons_of_mem _ hx)) p h
theorem pcs_G {v : Vt} (h : GV v) : ∀ p ∈ pcsP v, pcG p := by
  cases v with
  | lf d => intro p hp; rw [List.mem_singleton.mp hp]; trivial
  | ls vs =>
    intro p hp
    rcases List.mem_cons.mp hp with rfl | hp
    · trivial
    rcases List.mem_append.mp hp with hp | hp
    · exact lsP_G 0 h.2 p hp
    · rw [List.mem_singleton.mp hp]; trivial
  | ob ks vs =>
    obtain ⟨h1, h2, h3, h4, h5⟩ := h
    intro p hp
    rcases List.mem_cons.mp hp with rfl | hp
    · trivial
    rcases List.mem_append.mp hp with hp | hp
    · exact obP_G 0 (fun k hk => GVs_iff.mp h5 _ (lkV_mem h1 h3 (srt_mem hk))) p hp
    · rw [List.mem_singleton.mp hp]; trivial
theorem msL_cons (p : Pc) (L : List Pc) : msL (p :: L) = msP p + msL L := by unfold msL; rw [List.map_cons, List.sum_cons]
theorem pcs_ms {v : Vt} (h : GV v) : msL (pcsP v) < msV v := by
  cases v with
  | lf d => show 1 + 0 < 2; omega
  | ls vs =>
    have := lsP_ms vs 0
    show msL (_ :: (_ ++ [_])) < 4 + msVs vs
    rw [msL_cons, msL_app]
    show 1 + (_ + (1 + 0)) < _
    omega
  | ob ks vs =>
    obtain ⟨h1, h2, h3, h4, h5⟩ := h
    have a1 := obP_ms (fun k => lkV k ks vs) (srt ks) 0
    have a2 := ob_sum h1 h3 fun v => 2 + msV v
    have a3 : (vs.map fun v => 2 + msV v).sum ≤ msVs vs := by rw [msVs_sum]; exact sum_mono fun v _ => by omega
    have a4 : msL (obP (fun k => lkV k ks vs) 0 (srt ks)) ≤ msVs vs := by rw [a1]; exact Nat.le_trans a2 a3
    show msL (_ :: (_ ++ [_])) < 4 + msVs vs
    rw [msL_cons, msL_app]
    show 1 + (_ + (1 + 0)) < _
    omega
theorem lsP_len : ∀ (vs : List Vt) (i : Nat), (lsP i vs).length = 2 * vs.length
  | [], _ => rfl
  | v :: vs, i => by show (lsP (i + 1) vs).length + 1 + 1 = 2 * (vs.length + 1); rw [lsP_len vs (i + 1)]; omega
theorem obP_len (g : Str → Vt) : ∀ (ys : List Str) (i : Nat), (obP g i ys).length = 3 * ys.length
  | [], _ => rfl
  | v :: vs, i => by show (obP g (i + 1) vs).length + 1 + 1 + 1 = 3 * (vs.length + 1); rw [obP_len g vs (i + 1)]; omega
theorem take_s {α : Type} {l : List α} {k : Nat} {x : α} (h : l[k]? = some x) : l.take (k + 1) = l.take k ++ [x] := by rw [List.take_succ, h]; rfl
theorem take_l {α : Type} {l : List α} {k : Nat} {x : α} (h : l[k]? = some x) : (l.take k).length = k := by
  rw [List.length_take]
  have := (List.getElem?_eq_some_iff.mp h).1
  omega
end
section
variable {M : Mp} {Q : DQ}
theorem z_extc {a : Addr} {es zs : List D} {n : Nat} (e : M a = some (.lst es)) (h : es.length + zs.length ≤ n) (q : Put M a (.lst (es ++ zs)) fun M2 => Q .non M2) (hn : n ≤ 16777216 := by decide) : mExtendC (.ref a) [.clst zs] M Q := ⟨es, zs, e, rfl, le_L h hn, q⟩
theorem z_ixCg {ks : List Key} {ds : List D} {k : Key} {x v : D} (hk : keyD x = some k) (hv : valD (ks.zip ds) k = some v) (h : Q v M) : bIxC (.cdic ks ds) x M Q := .inr (by unfold bGetC; dsimp only; rw [hk]; exact ⟨v, hv, h⟩)
theorem pieces_ok {v : Vt} (h : GV v) (q : Q (.clst ((pcsP v).map pcD)) M) : W_pieces_of [vd v] M Q := by
  cases v with
  | lf d =>
    have ht : tyV d M = some "NoneType" ∨ tyV d M = some "bool" ∨ tyV d M = some "int" ∨ tyV d M = some "str" := by
      rcases h with rfl | ⟨b, rfl⟩ | ⟨i, rfl, hi⟩ | ⟨x, rfl, hx⟩
      · exact .inl rfl
      · exact .inr (.inl rfl)
      · exact .inr (.inr (.inl rfl))
      · exact .inr (.inr (.inr rfl))
    have no : ∀ {n : String} {R : DQ}, (n = "dict" ∨ n = "list") → R (.bl false) M → fIsiV [d, .ty n] M R := fun {n R} hn hR => by
      rcases ht with e | e | e | e <;> rcases hn with rfl | rfl <;> exact z_isiV (b := false) e (by decide +kernel) hR
    show W_pieces_of [d] M Q
    unfold W_pieces_of; refine z_dg [some _, none, none, none, none] rfl rfl ?_; walk_at "zgo0"
    refine no (.inl rfl) ?_
    walk_at "zgo0"
    (try unfold W_pieces_of_4); walk_at "zgo0"
    refine no (.inr rfl) ?_
    walk_at "zgo0"
    (try unfold W_pieces_of_1); walk_at "zgo0"
    refine plain_ok h ?_
    walk_at "zgo0"
    exact z_kp q
  | ls vs =>
    show W_pieces_of [.clst (vds vs)] M Q
    unfold W_pieces_of; refine z_dg [some _, none, none, none, none] rfl rfl ?_; walk_at "zgo0"
    refine z_isiV (b := false) (t := "list") rfl (by decide +kernel) ?_
    walk_at "zgo0"
    (try unfold W_pieces_of_4); walk_at "zgo0"
    refine z_isiV (b := true) (t := "list") rfl (by decide +kernel) ?_
    obtain ⟨hl, hg⟩ := h
    have ld : (vds vs).length = vs.length := by rw [vds_map, List.length_map]
    walk_at "zgo0"
    intro a M1 ha ea fa
    walk_at "zgo0"
    refine z_ite0 ?_
    walk_at "zgo0"
    refine ⟨vds vs, rfl, ?_⟩
    refine run_for (fun k env MM => ∃ b2 b3 b4, env = [some (.clst (vds vs)), some (.ref a), b2, b3, b4] ∧ MM a = some (.lst ((Pc.wr "[" :: lsP 0 (vs.take k)).map pcD)) ∧ Fr [a] M1 MM) ⟨_, _, _, rfl, ea, .refl⟩ (fun k d r env MM hd hP next => ?_) fun env MM hP => ?_
    · obtain ⟨b2, b3, b4, rfl, e1, f1⟩ := hP
      have hk : (enumD (vds vs))[k]? = some d := by
        have := congrArg (fun z => z[0]?) hd
        simpa using this
      obtain ⟨y, hy, rfl⟩ := enum_at hk
      rw [vds_map, List.getElem?_map] at hy
      obtain ⟨v, hv, rfl⟩ := Option.map_eq_some_iff.mp hy
      have hkl := (List.getElem?_eq_some_iff.mp hv).1
      refine ⟨rfl, ?_⟩
      (try unfold W_pieces_of_3); walk_at "zgo0"
      have ep : ∀ z : Str, z = sepS k → (Pc.wr "[" :: lsP 0 (vs.take k)).map pcD ++ [.tup [.bl true, .str z], .tup [.bl false, vd v]] = (Pc.wr "[" :: lsP 0 (vs.take (k + 1))).map pcD := fun z hz => by
        rw [take_s hv, lsP_app, hz, Nat.zero_add, take_l hv, List.map_cons, List.map_cons, List.map_append, List.cons_append]; rfl
      have el : ((Pc.wr "[" :: lsP 0 (vs.take k)).map pcD).length ≤ 1900 := by
        rw [List.length_map, List.length_cons, lsP_len, take_l hv]; omega
      refine z_ml e1 ?_
      walk_at "zgo0"
      refine z_dec (fun h0 => ?_) fun h0 => ?_
      · walk_at "zgo0"
        refine z_extc (n := 2000) e1 (by simp only [List.length_cons, List.length_nil]; omega) fun M2 e2 f2 => ?_
        walk_at "zgo0"
        rw [ep "," (by unfold sepS; rw [if_pos h0])] at e2
        exact next _ _ ⟨_, _, _, rfl, e2, f1.trans f2⟩
      · walk_at "zgo0"
        refine z_extc (n := 2000) e1 (by simp only [List.length_cons, List.length_nil]; omega) fun M2 e2 f2 => ?_
        walk_at "zgo0"
        rw [ep "" (by unfold sepS; rw [if_neg h0])] at e2
        exact next _ _ ⟨_, _, _, rfl, e2, f1.trans f2⟩
    · obtain ⟨b2, b3, b4, rfl, e1, f1⟩ := hP
      refine ⟨rfl, ?_⟩
      rw [show (enumD (vds vs)).length = vs.length by unfold enumD; rw [List.length_map, List.length_zipIdx, ld], List.take_of_length_le (Nat.le_refl _)] at e1
      (try unfold W_pieces_of_2); walk_at "zgo0"
      have el : ((Pc.wr "[" :: lsP 0 vs).map pcD).length ≤ 1900 := by
        rw [List.length_map, List.length_cons, lsP_len]; omega
      refine z_addlc e1 (le_L (n := 2000) (by simp only [List.length_cons, List.length_nil]; omega)) ?_
      rw [show (Pc.wr "[" :: lsP 0 vs).map pcD ++ [.tup [.bl true, .str "]"]] = (pcsP (.ls vs)).map pcD by
        show _ = (Pc.wr "[" :: (lsP 0 vs ++ [Pc.wr "]"])).map pcD
        rw [← List.cons_append, List.map_append]; rfl]
      refine newF ?_
      exact z_drf q (Fr.drop ha fa f1)
  | ob ks vs =>
    obtain ⟨h1, h2, h3, h4, h5⟩ := h
    have ld : (vds vs).length = vs.length := by rw [vds_map, List.length_map]
    show W_pieces_of [.cdic (ks.map Sum.inr) (vds vs)] M Q
    unfold W_pieces_of; refine z_dg [some _, none, none, none, none] rfl rfl ?_; walk_at "zgo0"
    refine z_isiV (b := true) (t := "dict") rfl (by decide +kernel) ?_
    walk_at "zgo0"
    intro a M1 ha ea fa
    walk_at "zgo0"
    refine z_ite0 ?_
    walk_at "zgo0"
    refine ⟨ks, rfl, by omega, fun ys hp hs => ?_⟩
    have es : srt ks = ys := srt_eq hp hs
    have ly : ys.length = ks.length := hp.length_eq
    refine newF ?_
    walk_at "zgo0"
    refine ⟨ys.map .str, rfl, ?_⟩
    refine run_for (fun k env MM => ∃ b2 b3 b4, env = [some (.cdic (ks.map Sum.inr) (vds vs)), some (.ref a), b2, b3, b4] ∧ MM a = some (.lst ((Pc.wr "{" :: obP (fun k => lkV k ks vs) 0 (ys.take k)).map pcD)) ∧ Fr [a] M1 MM) ⟨_, _, _, rfl, ea, .refl⟩ (fun k d r env MM hd hP next => ?_) fun env MM hP => ?_
    · obtain ⟨b2, b3, b4, rfl, e1, f1⟩ := hP
      have hk : (enumD (ys.map D.str))[k]? = some d := by
        have := congrArg (fun z => z[0]?) hd
        simpa using this
      obtain ⟨y, hy, rfl⟩ := enum_at hk
      rw [List.getElem?_map] at hy
      obtain ⟨x, hx, rfl⟩ := Option.map_eq_some_iff.mp hy
      have hkl := (List.getElem?_eq_some_iff.mp hx).1
      have hxk : x ∈ ks := hp.mem_iff.mp (List.mem_of_getElem? hx)
      have hx12 := h4 x hxk
      have hv := lkV_val (k := x) h1 hxk
      refine ⟨rfl, ?_⟩
      (try unfold W_pieces_of_6); walk_at "zgo0"
      refine z_ml e1 ?_
      walk_at "zgo0"
      have ep : ∀ z : Str, z = sepS k → (Pc.wr "{" :: obP (fun k => lkV k ks vs) 0 (ys.take k)).map pcD ++ [.tup [.bl true, .str z], .tup [.bl true, .str (keyS x)], .tup [.bl false, vd (lkV x ks vs)]] = (Pc.wr "{" :: obP (fun k => lkV k ks vs) 0 (ys.take (k + 1))).map pcD := fun z hz => by
        rw [take_s hx, obP_app, hz, Nat.zero_add, take_l hx, List.map_cons, List.map_cons, List.map_append, List.cons_append]; rfl
      have el : ((Pc.wr "{" :: obP (fun k => lkV k ks vs) 0 (ys.take k)).map pcD).length ≤ 1900 := by
        rw [List.length_map, List.length_cons, obP_len, take_l hx]; omega
      have ek : ofL (quoL x) ++ ((":" : String) : Str) = keyS x := ext_tl (by rw [tl_append, tl_ofL, tl_key]; rfl)
      have lq := quo_len (x := x)
      have l1 : ((":" : String) : Str).length = 1 := by decide +kernel
      refine z_dec (fun h0 => ?_) fun h0 => ?_
      · walk_at "zgo0"
        refine quoted_ok (by omega) ?_
        walk_at "zgo0"
        refine z_addn (n := 2000) (by rw [l1]; omega) ?_
        rw [ek]
        walk_at "zgo0"
        refine z_ixCg rfl hv ?_
        walk_at "zgo0"
        refine z_extc (n := 2000) e1 (by simp only [List.length_cons, List.length_nil]; omega) fun M2 e2 f2 => ?_
        walk_at "zgo0"
        rw [ep "," (by unfold sepS; rw [if_pos h0])] at e2
        exact next _ _ ⟨_, _, _, rfl, e2, f1.trans f2⟩
      · walk_at "zgo0"
        refine quoted_ok (by omega) ?_
        walk_at "zgo0"
        refine z_addn (n := 2000) (by rw [l1]; omega) ?_
        rw [ek]
        walk_at "zgo0"
        refine z_ixCg rfl hv ?_
        walk_at "zgo0"
        refine z_extc (n := 2000) e1 (by simp only [List.length_cons, List.length_nil]; omega) fun M2 e2 f2 => ?_
        walk_at "zgo0"
        rw [ep "" (by unfold sepS; rw [if_neg h0])] at e2
        exact next _ _ ⟨_, _, _, rfl, e2, f1.trans f2⟩
    · obtain ⟨b2, b3, b4, rfl, e1, f1⟩ := hP
      refine ⟨rfl, ?_⟩
      rw [show (enumD (ys.map D.str)).length = ys.length by unfold enumD; rw [List.length_map, List.length_zipIdx, List.length_map], List.take_of_length_le (Nat.le_refl _)] at e1
      (try unfold W_pieces_of_5); walk_at "zgo0"
      have el : ((Pc.wr "{" :: obP (fun k => lkV k ks vs) 0 ys).map pcD).length ≤ 1900 := by
        rw [List.length_map, List.length_cons, obP_len]; omega
      refine z_addlc e1 (le_L (n := 2000) (by simp only [List.length_cons, List.length_nil]; omega)) ?_
      rw [show (Pc.wr "{" :: obP (fun k => lkV k ks vs) 0 ys).map pcD ++ [.tup [.bl true, .str "}"]] = (pcsP (.ob ks vs)).map pcD by
        show _ = (Pc.wr "{" :: (obP (fun k => lkV k ks vs) 0 (srt ks) ++ [Pc.wr "}"])).map pcD
        rw [es, ← List.cons_append, List.map_append]; rfl]
      refine newF ?_
      exact z_drf q (Fr.drop ha fa f1)
end

end L2.Dl.G

namespace L2.Dl.G
open PySem PySem.Spec PyProof.Rows TL TXL Inj
local macro_rules | `(tactic| walk_at "zgo0") => `(tactic| repeat (with_reducible first | (refine z_isWE ?_; first | (refine z_isV ?_; first | refine z_v0 ?_ | refine z_v1 ?_ | refine z_v2 ?_ | refine z_v3 ?_ | refine z_v4 ?_ | refine z_v5 ?_ | refine z_v6 ?_ | refine z_v7 ?_ | refine z_v8 ?_ | refine z_v9 ?_ | refine z_v10 ?_ | refine z_v11 ?_ | refine z_v12 ?_ | refine z_v13 ?_ | refine z_v14 ?_ | refine z_v15 ?_) | refine z_op ?_ | refine z_c ?_ | refine z_call ?_ | refine z_frz ?_ | refine z_tup ?_ | refine z_mta ?_ | refine z_fld ?_ | refine z_lst ?_ | refine z_or ?_ | refine z_and ?_ | refine z_mt ?_ | refine z_callK ?_ | refine z_un ?_ | refine z_not ?_ | refine z_if ?_ | refine z_chain ?_ | refine z_sl ?_ | refine z_lc ?_ | refine z_kin ?_ | refine z_kix ?_ | refine z_kget ?_ | refine z_dict ?_ | refine z_meth ?_ | refine z_make ?_ | refine z_fmt ?_) | (refine z_isWS ?_; first | refine z_seq ?_ | refine z_asg ?_ | refine z_ifs ?_ | refine z_ret ?_ | refine z_drop ?_ | refine z_next ?_ | refine z_frzs ?_ | refine z_retN ?_ | refine z_for ?_ | refine z_par ?_ | refine z_par3 ?_ | refine z_setf ?_ | refine z_break ?_ | refine z_cont ?_) | (refine z_isgN ?_; first | refine z_g0 ?_ | refine z_g1 ?_ | refine z_g2 ?_ | refine z_g3 ?_ | refine z_g4 ?_ | refine z_g5 ?_ | refine z_g6 ?_ | refine z_g7 ?_ | refine z_g8 ?_ | refine z_g9 ?_ | refine z_g10 ?_ | refine z_g11 ?_ | refine z_g12 ?_ | refine z_g13 ?_ | refine z_g14 ?_ | refine z_g15 ?_) | (refine z_isWA ?_; first | refine z_cons ?_ | refine z_nil ?_) | (refine z_isW2 ?_; first | refine z_eqi ?_ | refine z_eqsT ?_ | refine z_eqsF (by decide +kernel) ?_ | refine z_eqs ?_ | refine z_nei ?_ | refine z_nesT ?_ | refine z_nesF (by decide +kernel) ?_ | refine z_nes ?_ | refine z_ut0 ?_ | refine z_ut1 ?_ | refine z_ut2 ?_ | refine z_ut3 ?_ | refine z_uc0 ?_ | refine z_sd0 ?_ | refine z_sd1 ?_ | refine z_le ?_ | refine z_lt ?_ | refine z_gtt ?_ | refine z_ge ?_ | refine z_add ?_ | refine z_sub ?_ | refine z_isn ?_ | refine z_isni ?_ | refine z_isns ?_ | refine z_isnt ?_ | refine z_isnb ?_ | refine z_nn ?_ | refine z_nni ?_ | refine z_nns ?_ | refine z_nnt ?_ | refine z_nnb ?_ | refine z_ix0 ?_ | refine z_ix1 ?_ | refine z_ix2 ?_ | refine z_ix3 ?_ | refine z_p15 ?_ | refine z_p30 ?_ | refine z_p18 ?_ | refine z_uin0 ?_ | refine z_unin0 ?_) | (refine z_isWT ?_; first | refine z_tst ?_ | refine z_tru ?_ | refine z_tand ?_ | refine z_tor ?_ | refine z_tnot ?_ | refine z_yes ?_) | refine z_gc ?_ | refine z_gn ?_ | refine z_gst ?_ | refine z_nop ?_ | refine z_prt ?_ | refine z_prti ?_ | refine z_mstr ?_ | refine z_tb ?_ | refine z_trb ?_ | refine z_trn ?_ | refine z_T ?_ | refine z_F ?_ | refine z_NF ?_ | refine z_NT ?_ | refine z_neg ?_ | refine z_slt ?_ | refine z_its ?_ | refine z_rng1 ?_ | refine z_starts ?_ | refine z_kins ?_ | refine z_kgets ?_ | refine z_js ?_ | refine z_jsn ?_ | refine z_wpc ?_ | refine z_wpn ?_ | refine z_ita ?_ | refine z_ant ?_ | refine z_anc ?_ | refine z_slc ?_ | refine z_gsd ?_ | (refine z_isF ?_; first | refine z_fn ?_ | refine z_fb ?_ | refine z_fi ?_ | refine z_fs ?_ | refine z_ft ?_ | refine z_fc ?_ | refine z_fsd ?_) | (refine z_isWC ?_; first | (refine z_isI ?_; first | refine z_is_non_str ?_ | refine z_is_non_int ?_ | refine z_is_non_bool ?_ | refine z_is_non_tuple ?_ | refine z_is_non_list ?_ | refine z_is_non_dict ?_ | refine z_is_bl_str ?_ | refine z_is_bl_int ?_ | refine z_is_bl_bool ?_ | refine z_is_bl_tuple ?_ | refine z_is_bl_list ?_ | refine z_is_bl_dict ?_ | refine z_is_int_str ?_ | refine z_is_int_int ?_ | refine z_is_int_bool ?_ | refine z_is_int_tuple ?_ | refine z_is_int_list ?_ | refine z_is_int_dict ?_ | refine z_is_str_str ?_ | refine z_is_str_int ?_ | refine z_is_str_bool ?_ | refine z_is_str_tuple ?_ | refine z_is_str_list ?_ | refine z_is_str_dict ?_ | refine z_is_tup_str ?_ | refine z_is_tup_int ?_ | refine z_is_tup_bool ?_ | refine z_is_tup_tuple ?_ | refine z_is_tup_list ?_ | refine z_is_tup_dict ?_ | refine z_isd ?_) | refine z_lent ?_ | refine z_lenc ?_ | refine z_ult ?_ | refine z_ulc ?_ | refine z_inb ?_ | refine z_min ?_ | refine z_max ?_ | refine z_abs ?_ | refine z_strs ?_) | refine z_gt (by with_unfolding_all rfl) ?_ | refine z_sz (by with_unfolding_all rfl) ?_ | refine z_bind (by with_unfolding_all rfl) (by with_unfolding_all rfl) ?_ | refine newF ?_ | exact z_enc ?_))
variable [Tb]
/-! ### the text of a value, the program's -/
section
theorem snocP {α : Type} : ∀ l : List α, l = [] ∨ ∃ r x, l = r ++ [x]
  | [] => .inl rfl
  | a :: l => by
    rcases snocP l with rfl | ⟨r, x, rfl⟩
    · exact .inr ⟨[], a, rfl⟩
    · exact .inr ⟨a :: r, x, rfl⟩
theorem msL_rev (L : List Pc) : msL L.reverse = msL L := by
  unfold msL
  rw [List.map_reverse]
  exact List.Perm.sum_nat (List.reverse_perm _)
end
section
variable {M : Mp} {Q : DQ}
theorem vt_loop {f p : Addr} {M0 : Mp} {v0 : Option D} {N : Nat} {T : List Nat} {nx bk ct : Ev → Mp → Prop} {rt : DQ} (hne : f ≠ p) (hN : N ≤ 100000)
    (fin : ∀ (F : List Str) (MM : Mp) (b3 b4 : Option D), F.flatMap tl = T → F.length ≤ N → MM f = some (.lst (F.map D.str)) → Fr [f, p] M0 MM → nx [v0, some (.ref f), some (.ref p), b3, b4] MM) :
    ∀ (n : Nat) (F : List Str) (P : List Pc) (MM : Mp) (b3 b4 : Option D), msL P < n → (∀ x ∈ P, pcG x) → F.length + msL P ≤ N → MM f = some (.lst (F.map D.str)) → MM p = some (.lst (P.map pcD)) → Fr [f, p] M0 MM → F.flatMap tl ++ txP P.reverse = T →
      runWhile (wTst (wOp cNeE (wVar 2) (wFrz (wLst wNil)))) W_value_text_2 ⟨nx, rt, bk, ct⟩ n [v0, some (.ref f), some (.ref p), b3, b4] MM := by
  intro n
  induction n with
  | zero => intro F P MM b3 b4 h; omega
  | succ n ih =>
    intro F P MM b3 b4 hn hg hs ef ep fr ht
    unfold runWhile
    walk_at "zgo0"
    rcases snocP P with rfl | ⟨R, x, rfl⟩
    · refine ⟨rfl, [], by simp only [lstOf, ep]; rfl, ?_⟩
      walk_at "zgo0"
      show if false = true then _ else _
      rw [if_neg Bool.false_ne_true]
      exact fin F MM b3 b4 (by rw [← ht]; simp [txP]) (by omega) ef fr
    · have he : ((R ++ [x]).map pcD).isEmpty = false := by simp
      rw [msL_app] at hn hs
      have hx1 : msL [x] = msP x := by unfold msL; simp
      have hpx := msP_pos x
      refine ⟨rfl, (R ++ [x]).map pcD, by simp only [lstOf, ep], ?_⟩
      rw [he]
      walk_at "zgo0"
      (try unfold W_value_text_2); walk_at "zgo0"
      refine z_ml ep ?_
      walk_at "zgo0"
      refine ⟨R.map pcD, pcD x, by rw [ep, List.map_append]; rfl, fun M2 e2 f2 => ?_⟩
      have ef2 : M2 f = some (.lst (F.map D.str)) := f2 _ _ (by simpa using hne) ef
      have fr2 : Fr [f, p] M0 M2 := fr.trans (f2.mono fun y hy => by rw [List.mem_singleton.mp hy]; simp)
      have hgR : ∀ y ∈ R, pcG y := fun y hy => hg y (List.mem_append_left _ hy)
      rw [List.reverse_append, List.reverse_singleton, List.singleton_append, txP_cons] at ht
      cases x with
      | wr z =>
        show gTu 2 _ (.tup [.bl true, .str z]) _ _ _
        walk_at "zgo0"
        refine z_ml ef2 ?_
        walk_at "zgo0"
        refine ⟨F.map D.str, ef2, by rw [List.length_map]; exact Nat.lt_of_le_of_lt (by omega : F.length ≤ 100000) (by decide), fun M3 e3 f3 => ?_⟩
        walk_at "zgo0"
        refine ih (F ++ [z]) R M3 _ _ (by omega) hgR (by rw [List.length_append, List.length_singleton]; omega) (by rw [e3, List.map_append]; rfl) (f3 _ _ (by simpa using hne.symm) e2) (fr2.trans (f3.mono fun y hy => by rw [List.mem_singleton.mp hy]; simp)) ?_
        rw [List.flatMap_append, List.append_assoc, ← ht]
        simp [pcL]
      | vl v =>
        have hv : GV v := hg (.vl v) (List.mem_append_right _ (List.mem_singleton_self _))
        have hm : msP (.vl v) = msV v := rfl
        have h1 := pcs_ms hv
        have h2 := msL_len (pcsP v)
        have h3 := msL_len R
        show gTu 2 _ (.tup [.bl false, vd v]) _ _ _
        walk_at "zgo0"
        refine z_ml e2 ?_
        walk_at "zgo0"
        refine pieces_ok hv ?_
        walk_at "zgo0"
        refine ⟨rfl, _, rfl, newF ?_⟩
        walk_at "zgo0"
        refine z_extc (n := 200000) e2 (by rw [List.length_map, List.length_reverse, List.length_map]; omega) fun M3 e3 f3 => ?_
        walk_at "zgo0"
        refine ih F (R ++ (pcsP v).reverse) M3 _ _ (by rw [msL_app, msL_rev]; omega) (fun y hy => ?_) (by rw [msL_app, msL_rev]; omega) (f3 _ _ (by simpa using hne) ef2) (by rw [e3, List.map_append, List.map_reverse]) (fr2.trans (f3.mono fun y hy => by rw [List.mem_singleton.mp hy]; simp)) ?_
        · rcases List.mem_append.mp hy with hy | hy
          · exact hgR y hy
          · exact pcs_G hv y (List.mem_reverse.mp hy)
        · rw [List.reverse_append, List.reverse_reverse, txP_app, pcs_tx hv]
          exact ht
theorem vtext_ok {v : Vt} (h : GV v) (hw : wtT v ≤ 100000) (q : Q (.str (ofL (txV v))) M) : W_value_text [vd v] M Q := by
  have hm := ms_wt v
  have hl := tx_len h
  unfold W_value_text; refine z_dg [some _, none, none, none, none] rfl rfl ?_; walk_at "zgo0"
  intro f M1 hf ef ff
  walk_at "zgo0"
  intro p M2 hp ep fp
  have hne : f ≠ p := fun z => by rw [← z, ef] at hp; cases hp
  walk_at "zgo0"
  refine ⟨msV v + 1, vt_loop (T := txV v) (N := msV v) (M0 := M2) hne (by omega) (fun F MM b3 b4 hF hFl eF fr => ?_) (msV v + 1) [] [.vl v] M2 _ _ (by show msV v + 0 < _; omega) (fun x hx => by rw [List.mem_singleton.mp hx]; exact h) (by show 0 + (msV v + 0) ≤ _; omega) (fp _ _ (by simp) ef) ep .refl ?_⟩
  · (try unfold W_value_text_1); walk_at "zgo0"
    refine ⟨F, by simp only [seqOf, lstOf, eF], ?_, ?_⟩
    · rw [sum_tl, hF, show (("" : String) : Str).length = 0 by decide +kernel]
      omega
    · have e : Txt.join (("" : String) : Str) F = ofL (txV v) := ext_tl (by rw [tl_join0, hF, tl_ofL])
      rw [e]
      have f2 : Fr [f] M1 MM := Fr.drop hp (fp.mono fun _ h => (nomatch h)) (fr.mono fun y hy => by simpa [or_comm] using hy)
      exact z_drf q (Fr.drop hf ff f2)
  · show txP [_] = _
    rw [txP_one]; rfl
end

end L2.Dl.G

namespace L2.Dl.G
open PySem PySem.Spec PyProof.Rows TL TXL Inj
local macro_rules | `(tactic| walk_at "zgo0") => `(tactic| repeat (with_reducible first | (refine z_isWE ?_; first | (refine z_isV ?_; first | refine z_v0 ?_ | refine z_v1 ?_ | refine z_v2 ?_ | refine z_v3 ?_ | refine z_v4 ?_ | refine z_v5 ?_ | refine z_v6 ?_ | refine z_v7 ?_ | refine z_v8 ?_ | refine z_v9 ?_ | refine z_v10 ?_ | refine z_v11 ?_ | refine z_v12 ?_ | refine z_v13 ?_ | refine z_v14 ?_ | refine z_v15 ?_) | refine z_op ?_ | refine z_c ?_ | refine z_call ?_ | refine z_frz ?_ | refine z_tup ?_ | refine z_mta ?_ | refine z_fld ?_ | refine z_lst ?_ | refine z_or ?_ | refine z_and ?_ | refine z_mt ?_ | refine z_callK ?_ | refine z_un ?_ | refine z_not ?_ | refine z_if ?_ | refine z_chain ?_ | refine z_sl ?_ | refine z_lc ?_ | refine z_kin ?_ | refine z_kix ?_ | refine z_kget ?_ | refine z_dict ?_ | refine z_meth ?_ | refine z_make ?_ | refine z_fmt ?_) | (refine z_isWS ?_; first | refine z_seq ?_ | refine z_asg ?_ | refine z_ifs ?_ | refine z_ret ?_ | refine z_drop ?_ | refine z_next ?_ | refine z_frzs ?_ | refine z_retN ?_ | refine z_for ?_ | refine z_par ?_ | refine z_par3 ?_ | refine z_setf ?_ | refine z_break ?_ | refine z_cont ?_) | (refine z_isgN ?_; first | refine z_g0 ?_ | refine z_g1 ?_ | refine z_g2 ?_ | refine z_g3 ?_ | refine z_g4 ?_ | refine z_g5 ?_ | refine z_g6 ?_ | refine z_g7 ?_ | refine z_g8 ?_ | refine z_g9 ?_ | refine z_g10 ?_ | refine z_g11 ?_ | refine z_g12 ?_ | refine z_g13 ?_ | refine z_g14 ?_ | refine z_g15 ?_) | (refine z_isWA ?_; first | refine z_cons ?_ | refine z_nil ?_) | (refine z_isW2 ?_; first | refine z_eqi ?_ | refine z_eqsT ?_ | refine z_eqsF (by decide +kernel) ?_ | refine z_eqs ?_ | refine z_nei ?_ | refine z_nesT ?_ | refine z_nesF (by decide +kernel) ?_ | refine z_nes ?_ | refine z_ut0 ?_ | refine z_ut1 ?_ | refine z_ut2 ?_ | refine z_ut3 ?_ | refine z_uc0 ?_ | refine z_sd0 ?_ | refine z_sd1 ?_ | refine z_le ?_ | refine z_lt ?_ | refine z_gtt ?_ | refine z_ge ?_ | refine z_add ?_ | refine z_sub ?_ | refine z_isn ?_ | refine z_isni ?_ | refine z_isns ?_ | refine z_isnt ?_ | refine z_isnb ?_ | refine z_nn ?_ | refine z_nni ?_ | refine z_nns ?_ | refine z_nnt ?_ | refine z_nnb ?_ | refine z_ix0 ?_ | refine z_ix1 ?_ | refine z_ix2 ?_ | refine z_ix3 ?_ | refine z_p15 ?_ | refine z_p30 ?_ | refine z_p18 ?_ | refine z_uin0 ?_ | refine z_unin0 ?_) | (refine z_isWT ?_; first | refine z_tst ?_ | refine z_tru ?_ | refine z_tand ?_ | refine z_tor ?_ | refine z_tnot ?_ | refine z_yes ?_) | refine z_gc ?_ | refine z_gn ?_ | refine z_gst ?_ | refine z_nop ?_ | refine z_prt ?_ | refine z_prti ?_ | refine z_mstr ?_ | refine z_tb ?_ | refine z_trb ?_ | refine z_trn ?_ | refine z_T ?_ | refine z_F ?_ | refine z_NF ?_ | refine z_NT ?_ | refine z_neg ?_ | refine z_slt ?_ | refine z_its ?_ | refine z_rng1 ?_ | refine z_starts ?_ | refine z_kins ?_ | refine z_kgets ?_ | refine z_js ?_ | refine z_jsn ?_ | refine z_wpc ?_ | refine z_wpn ?_ | refine z_ita ?_ | refine z_ant ?_ | refine z_anc ?_ | refine z_slc ?_ | refine z_gsd ?_ | (refine z_isF ?_; first | refine z_fn ?_ | refine z_fb ?_ | refine z_fi ?_ | refine z_fs ?_ | refine z_ft ?_ | refine z_fc ?_ | refine z_fsd ?_) | (refine z_isWC ?_; first | (refine z_isI ?_; first | refine z_is_non_str ?_ | refine z_is_non_int ?_ | refine z_is_non_bool ?_ | refine z_is_non_tuple ?_ | refine z_is_non_list ?_ | refine z_is_non_dict ?_ | refine z_is_bl_str ?_ | refine z_is_bl_int ?_ | refine z_is_bl_bool ?_ | refine z_is_bl_tuple ?_ | refine z_is_bl_list ?_ | refine z_is_bl_dict ?_ | refine z_is_int_str ?_ | refine z_is_int_int ?_ | refine z_is_int_bool ?_ | refine z_is_int_tuple ?_ | refine z_is_int_list ?_ | refine z_is_int_dict ?_ | refine z_is_str_str ?_ | refine z_is_str_int ?_ | refine z_is_str_bool ?_ | refine z_is_str_tuple ?_ | refine z_is_str_list ?_ | refine z_is_str_dict ?_ | refine z_is_tup_str ?_ | refine z_is_tup_int ?_ | refine z_is_tup_bool ?_ | refine z_is_tup_tuple ?_ | refine z_is_tup_list ?_ | refine z_is_tup_dict ?_ | refine z_isd ?_) | refine z_lent ?_ | refine z_lenc ?_ | refine z_ult ?_ | refine z_ulc ?_ | refine z_inb ?_ | refine z_min ?_ | refine z_max ?_ | refine z_abs ?_ | refine z_strs ?_) | refine z_gt (by with_unfolding_all rfl) ?_ | refine z_sz (by with_unfolding_all rfl) ?_ | refine z_bind (by with_unfolding_all rfl) (by with_unfolding_all rfl) ?_ | refine newF ?_ | exact z_enc ?_))
variable [Tb]
/-! ### what the law opens -/
section
def pcE : Pc → D
  | .wr x => .tup [.str "", .str x]
  | .vl v => .tup [.str "value", vd v]
noncomputable def opP : Vt → List Pc
  | .lf _ => []
  | .ls vs => .wr "[" :: ((lsQ vs).drop 1 ++ [.wr "]"])
  | .ob ks vs => .wr "{" :: ((obQ (fun k => lkV k ks vs) (srt ks)).drop 1 ++ [.wr "}"])
theorem op_tx {v : Vt} (h : GV v) (hn : ∀ d, v ≠ .lf d) : txP (opP v) = txV v := by
  cases v with
  | lf d => exact absurd rfl (hn d)
  | ls vs =>
    show txP (_ :: (_ ++ [_])) = _
    rw [txP_cons, txP_app, txP_one, lsQ_drop, txV]
    show tl _ ++ (_ ++ tl _) = _
    rw [tl_b1, tl_b2]; rfl
  | ob ks vs =>
    obtain ⟨h1, h2, h3, h4, h5⟩ := h
    have e : (srt ks).map (fun k => quoL k ++ 58 :: lkL k ks (txVs vs)) = (srt ks).map fun k => quoL k ++ 58 :: txV (lkV k ks vs) := List.map_congr_left fun k hk => by rw [lkL_tx h1 (srt_mem hk)]
    show txP (_ :: (_ ++ [_])) = _
    rw [txP_cons, txP_app, txP_one, obQ_drop, txV, e]
    show tl _ ++ (_ ++ tl _) = _
    rw [tl_c1, tl_c2]; rfl
theorem lsQ_G {vs : List Vt} (g : GVs vs) : ∀ p ∈ lsQ vs, pcG p := by
  intro p hp
  obtain ⟨v, hv, hp⟩ := List.mem_flatMap.mp hp
  rcases List.mem_cons.mp hp with rfl | hp
  · trivial
  · rw [List.mem_singleton.mp hp]; exact GVs_iff.mp g v hv
theorem obQ_G {g : Str → Vt} {ys : List Str} (h : ∀ k ∈ ys, GV (g k)) : ∀ p ∈ obQ g ys, pcG p := by
  intro p hp
  obtain ⟨k, hk, hp⟩ := List.mem_flatMap.mp hp
  rcases List.mem_cons.mp hp with rfl | hp
  · trivial
  rcases List.mem_cons.mp hp with rfl | hp
  · trivial
  · rw [List.mem_singleton.mp hp]; exact h k hk
theorem op_G {v : Vt} (h : GV v) : ∀ p ∈ opP v, pcG p := by
  cases v with
  | lf d => intro p hp; cases hp
  | ls vs =>
    intro p hp
    rcases List.mem_cons.mp hp with rfl | hp
    · trivial
    rcases List.mem_append.mp hp with hp | hp
    · exact lsQ_G h.2 p (List.mem_of_mem_drop hp)
    · rw [List.mem_singleton.mp hp]; trivial
  | ob ks vs =>
    obtain ⟨h1, h2, h3, h4, h5⟩ := h
    intro p hp
    rcases List.mem_cons.mp hp with rfl | hp
    · trivial
    rcases List.mem_append.mp hp with hp | hp
    · exact obQ_G (fun k hk => GVs_iff.mp h5 _ (lkV_mem h1 h3 (srt_mem hk))) p (List.mem_of_mem_drop hp)
    · rw [List.mem_singleton.mp hp]; trivial
theorem msL_drop (L : List Pc) : msL (L.drop 1) ≤ msL L := by
  cases L with
  | nil => exact Nat.le_refl _
  | cons p L => rw [msL_cons]; show msL L ≤ _; omega
theorem op_ms {v : Vt} (h : GV v) : msL (opP v) < msV v := by
  cases v with
  | lf d => show 0 < 2; omega
  | ls vs =>
    have := lsQ_ms vs
    have b := msL_drop (lsQ vs)
    show msL (_ :: (_ ++ [_])) < 4 + msVs vs
    rw [msL_cons, msL_app]
    show 1 + (_ + (1 + 0)) < _
    omega
  | ob ks vs =>
    obtain ⟨h1, h2, h3, h4, h5⟩ := h
    have a1 := obQ_ms (fun k => lkV k ks vs) (srt ks)
    have a2 := ob_sum h1 h3 fun v => 2 + msV v
    have a3 : (vs.map fun v => 2 + msV v).sum ≤ msVs vs := by rw [msVs_sum]; exact sum_mono fun v _ => by omega
    have a4 : msL (obQ (fun k => lkV k ks vs) (srt ks)) ≤ msVs vs := by rw [a1]; exact Nat.le_trans a2 a3
    have b := msL_drop (obQ (fun k => lkV k ks vs) (srt ks))
    show msL (_ :: (_ ++ [_])) < 4 + msVs vs
    rw [msL_cons, msL_app]
    show 1 + (_ + (1 + 0)) < _
    omega
theorem lsQ_len (vs : List Vt) : (lsQ vs).length = 2 * vs.length := by
  induction vs with
  | nil => rfl
  | cons v vs ih => show (lsQ vs).length + 1 + 1 = 2 * (vs.length + 1); rw [ih]; omega
theorem obQ_len (g : Str → Vt) (ys : List Str) : (obQ g ys).length = 3 * ys.length := by
  induction ys with
  | nil => rfl
  | cons v vs ih => show (obQ g vs).length + 1 + 1 + 1 = 3 * (vs.length + 1); rw [ih]; omega
theorem lsQ_snoc (vs : List Vt) (v : Vt) : lsQ (vs ++ [v]) = lsQ vs ++ [.wr ",", .vl v] := by unfold lsQ; rw [List.flatMap_append]; rfl
theorem obQ_snoc (g : Str → Vt) (ys : List Str) (k : Str) : obQ g (ys ++ [k]) = obQ g ys ++ [.wr ",", .wr (keyS k), .vl (g k)] := by unfold obQ; rw [List.flatMap_append]; rfl
theorem cut_one {α : Type} {l : List α} : cutL l (some 1) none = l.drop 1 := by
  unfold cutL HT.sIx
  cases l with
  | nil => rfl
  | cons x l => simp
end
section
variable {M : Mp} {Q : DQ}
theorem opened_ok {v : Vt} (h : GV v) (hn : ∀ d, v ≠ .lf d) (q : Q (.clst ((opP v).map pcE)) M) : W_L_opened [vd v] M Q := by
  cases v with
  | lf d => exact absurd rfl (hn d)
  | ls vs =>
    obtain ⟨hl, hg⟩ := h
    have ld : (vds vs).length = vs.length := by rw [vds_map, List.length_map]
    show W_L_opened [.clst (vds vs)] M Q
    unfold W_L_opened; refine z_dg [some _, none, none, none] rfl rfl ?_; walk_at "zgo0"
    refine z_isiV (b := false) (t := "list") rfl (by decide +kernel) ?_
    walk_at "zgo0"
    (try unfold W_L_opened_3); walk_at "zgo0"
    refine run_for (fun k env MM => ∃ b2 b3, env = [some (.clst (vds vs)), some (.clst ((lsQ (vs.take k)).map pcE)), b2, b3] ∧ MM = M) ⟨_, _, rfl, rfl⟩ (fun k d r env MM hd hP next => ?_) fun env MM hP => ?_
    · obtain ⟨b2, b3, rfl, rfl⟩ := hP
      have hk : (vds vs)[k]? = some d := by
        have := congrArg (fun z => z[0]?) hd
        simpa using this
      rw [vds_map, List.getElem?_map] at hk
      obtain ⟨v, hv, rfl⟩ := Option.map_eq_some_iff.mp hk
      have hkl := (List.getElem?_eq_some_iff.mp hv).1
      refine ⟨trivial, ?_⟩
      (try unfold W_L_opened_2); walk_at "zgo0"
      refine z_addc (le_L (n := 2000) (by rw [List.length_map, lsQ_len, take_l hv]; simp only [List.length_cons, List.length_nil]; omega)) ?_
      walk_at "zgo0"
      rw [show (lsQ (vs.take k)).map pcE ++ [.tup [.str "", .str ","], .tup [.str "value", vd v]] = (lsQ (vs.take (k + 1))).map pcE by
        rw [take_s hv, lsQ_snoc, List.map_append]; rfl]
      exact next _ _ ⟨_, _, rfl, rfl⟩
    · obtain ⟨b2, b3, rfl, rfl⟩ := hP
      refine ⟨trivial, ?_⟩
      rw [ld, List.take_of_length_le (Nat.le_refl _)]
      (try unfold W_L_opened_1); walk_at "zgo0"
      rw [cut_one]
      have ll : ((lsQ vs).map pcE).length ≤ 1800 := by rw [List.length_map, lsQ_len]; omega
      refine z_addc (le_L (n := 2000) (by rw [List.length_drop]; simp only [List.length_cons, List.length_nil]; omega)) ?_
      walk_at "zgo0"
      refine z_addc (le_L (n := 2010) (by rw [List.length_append, List.length_drop]; simp only [List.length_cons, List.length_nil]; omega)) ?_
      refine newF ?_
      rw [show [.tup [.str "", .str "["]] ++ ((lsQ vs).map pcE).drop 1 ++ [.tup [.str "", .str "]"]] = (opP (.ls vs)).map pcE by
        show _ = (Pc.wr "[" :: ((lsQ vs).drop 1 ++ [Pc.wr "]"])).map pcE
        rw [List.map_cons, List.map_append, List.map_drop]; rfl]
      exact z_kp q
  | ob ks vs =>
    obtain ⟨h1, h2, h3, h4, h5⟩ := h
    show W_L_opened [.cdic (ks.map Sum.inr) (vds vs)] M Q
    unfold W_L_opened; refine z_dg [some _, none, none, none] rfl rfl ?_; walk_at "zgo0"
    refine z_isiV (b := true) (t := "dict") rfl (by decide +kernel) ?_
    walk_at "zgo0"
    refine ⟨ks, rfl, by omega, fun ys hp hs => ?_⟩
    have es : srt ks = ys := srt_eq hp hs
    have ly : ys.length = ks.length := hp.length_eq
    refine newF ?_
    walk_at "zgo0"
    refine run_for (fun k env MM => ∃ b2 b3, env = [some (.cdic (ks.map Sum.inr) (vds vs)), some (.clst ((obQ (fun k => lkV k ks vs) (ys.take k)).map pcE)), b2, b3] ∧ MM = M) ⟨_, _, rfl, rfl⟩ (fun k d r env MM hd hP next => ?_) fun env MM hP => ?_
    · obtain ⟨b2, b3, rfl, rfl⟩ := hP
      have hk : (ys.map D.str)[k]? = some d := by
        have := congrArg (fun z => z[0]?) hd
        simpa using this
      rw [List.getElem?_map] at hk
      obtain ⟨x, hx, rfl⟩ := Option.map_eq_some_iff.mp hk
      have hkl := (List.getElem?_eq_some_iff.mp hx).1
      have hxk : x ∈ ks := hp.mem_iff.mp (List.mem_of_getElem? hx)
      have hx12 := h4 x hxk
      have hv := lkV_val (k := x) h1 hxk
      have ek : ofL (quoL x) ++ ((":" : String) : Str) = keyS x := ext_tl (by rw [tl_append, tl_ofL, tl_key]; rfl)
      have lq := quo_len (x := x)
      have l1 : ((":" : String) : Str).length = 1 := by decide +kernel
      refine ⟨trivial, ?_⟩
      (try unfold W_L_opened_5); walk_at "zgo0"
      refine lquoted_ok (by omega) ?_
      walk_at "zgo0"
      refine z_addn (n := 2000) (by rw [l1]; omega) ?_
      rw [ek]
      walk_at "zgo0"
      refine z_ixCg rfl hv ?_
      walk_at "zgo0"
      refine z_addc (le_L (n := 2000) (by rw [List.length_map, obQ_len, take_l hx]; simp only [List.length_cons, List.length_nil]; omega)) ?_
      walk_at "zgo0"
      rw [show (obQ (fun k => lkV k ks vs) (ys.take k)).map pcE ++ [.tup [.str "", .str ","], .tup [.str "", .str (keyS x)], .tup [.str "value", vd (lkV x ks vs)]] = (obQ (fun k => lkV k ks vs) (ys.take (k + 1))).map pcE by
        rw [take_s hx, obQ_snoc, List.map_append]; rfl]
      exact next _ _ ⟨_, _, rfl, rfl⟩
    · obtain ⟨b2, b3, rfl, rfl⟩ := hP
      refine ⟨trivial, ?_⟩
      rw [List.length_map, List.take_of_length_le (Nat.le_refl _)]
      (try unfold W_L_opened_4); walk_at "zgo0"
      rw [cut_one]
      have ll : ((obQ (fun k => lkV k ks vs) ys).map pcE).length ≤ 1800 := by rw [List.length_map, obQ_len]; omega
      refine z_addc (le_L (n := 2000) (by rw [List.length_drop]; simp only [List.length_cons, List.length_nil]; omega)) ?_
      walk_at "zgo0"
      refine z_addc (le_L (n := 2010) (by rw [List.length_append, List.length_drop]; simp only [List.length_cons, List.length_nil]; omega)) ?_
      refine newF ?_
      rw [show [.tup [.str "", .str "{"]] ++ ((obQ (fun k => lkV k ks vs) ys).map pcE).drop 1 ++ [.tup [.str "", .str "}"]] = (opP (.ob ks vs)).map pcE by
        show _ = (Pc.wr "{" :: ((obQ (fun k => lkV k ks vs) (srt ks)).drop 1 ++ [Pc.wr "}"])).map pcE
        rw [es, List.map_cons, List.map_append, List.map_drop]; rfl]
      exact z_kp q
end

end L2.Dl.G

namespace L2.Dl.G
open PySem PySem.Spec PyProof.Rows TL TXL Inj
local macro_rules | `(tactic| walk_at "zgo0") => `(tactic| repeat (with_reducible first | (refine z_isWE ?_; first | (refine z_isV ?_; first | refine z_v0 ?_ | refine z_v1 ?_ | refine z_v2 ?_ | refine z_v3 ?_ | refine z_v4 ?_ | refine z_v5 ?_ | refine z_v6 ?_ | refine z_v7 ?_ | refine z_v8 ?_ | refine z_v9 ?_ | refine z_v10 ?_ | refine z_v11 ?_ | refine z_v12 ?_ | refine z_v13 ?_ | refine z_v14 ?_ | refine z_v15 ?_) | refine z_op ?_ | refine z_c ?_ | refine z_call ?_ | refine z_frz ?_ | refine z_tup ?_ | refine z_mta ?_ | refine z_fld ?_ | refine z_lst ?_ | refine z_or ?_ | refine z_and ?_ | refine z_mt ?_ | refine z_callK ?_ | refine z_un ?_ | refine z_not ?_ | refine z_if ?_ | refine z_chain ?_ | refine z_sl ?_ | refine z_lc ?_ | refine z_kin ?_ | refine z_kix ?_ | refine z_kget ?_ | refine z_dict ?_ | refine z_meth ?_ | refine z_make ?_ | refine z_fmt ?_) | (refine z_isWS ?_; first | refine z_seq ?_ | refine z_asg ?_ | refine z_ifs ?_ | refine z_ret ?_ | refine z_drop ?_ | refine z_next ?_ | refine z_frzs ?_ | refine z_retN ?_ | refine z_for ?_ | refine z_par ?_ | refine z_par3 ?_ | refine z_setf ?_ | refine z_break ?_ | refine z_cont ?_) | (refine z_isgN ?_; first | refine z_g0 ?_ | refine z_g1 ?_ | refine z_g2 ?_ | refine z_g3 ?_ | refine z_g4 ?_ | refine z_g5 ?_ | refine z_g6 ?_ | refine z_g7 ?_ | refine z_g8 ?_ | refine z_g9 ?_ | refine z_g10 ?_ | refine z_g11 ?_ | refine z_g12 ?_ | refine z_g13 ?_ | refine z_g14 ?_ | refine z_g15 ?_) | (refine z_isWA ?_; first | refine z_cons ?_ | refine z_nil ?_) | (refine z_isW2 ?_; first | refine z_eqi ?_ | refine z_eqsT ?_ | refine z_eqsF (by decide +kernel) ?_ | refine z_eqs ?_ | refine z_nei ?_ | refine z_nesT ?_ | refine z_nesF (by decide +kernel) ?_ | refine z_nes ?_ | refine z_ut0 ?_ | refine z_ut1 ?_ | refine z_ut2 ?_ | refine z_ut3 ?_ | refine z_uc0 ?_ | refine z_sd0 ?_ | refine z_sd1 ?_ | refine z_le ?_ | refine z_lt ?_ | refine z_gtt ?_ | refine z_ge ?_ | refine z_add ?_ | refine z_sub ?_ | refine z_isn ?_ | refine z_isni ?_ | refine z_isns ?_ | refine z_isnt ?_ | refine z_isnb ?_ | refine z_nn ?_ | refine z_nni ?_ | refine z_nns ?_ | refine z_nnt ?_ | refine z_nnb ?_ | refine z_ix0 ?_ | refine z_ix1 ?_ | refine z_ix2 ?_ | refine z_ix3 ?_ | refine z_p15 ?_ | refine z_p30 ?_ | refine z_p18 ?_ | refine z_uin0 ?_ | refine z_unin0 ?_) | (refine z_isWT ?_; first | refine z_tst ?_ | refine z_tru ?_ | refine z_tand ?_ | refine z_tor ?_ | refine z_tnot ?_ | refine z_yes ?_) | refine z_gc ?_ | refine z_gn ?_ | refine z_gst ?_ | refine z_nop ?_ | refine z_prt ?_ | refine z_prti ?_ | refine z_mstr ?_ | refine z_tb ?_ | refine z_trb ?_ | refine z_trn ?_ | refine z_T ?_ | refine z_F ?_ | refine z_NF ?_ | refine z_NT ?_ | refine z_neg ?_ | refine z_slt ?_ | refine z_its ?_ | refine z_rng1 ?_ | refine z_starts ?_ | refine z_kins ?_ | refine z_kgets ?_ | refine z_js ?_ | refine z_jsn ?_ | refine z_wpc ?_ | refine z_wpn ?_ | refine z_ita ?_ | refine z_ant ?_ | refine z_anc ?_ | refine z_slc ?_ | refine z_gsd ?_ | (refine z_isF ?_; first | refine z_fn ?_ | refine z_fb ?_ | refine z_fi ?_ | refine z_fs ?_ | refine z_ft ?_ | refine z_fc ?_ | refine z_fsd ?_) | (refine z_isWC ?_; first | (refine z_isI ?_; first | refine z_is_non_str ?_ | refine z_is_non_int ?_ | refine z_is_non_bool ?_ | refine z_is_non_tuple ?_ | refine z_is_non_list ?_ | refine z_is_non_dict ?_ | refine z_is_bl_str ?_ | refine z_is_bl_int ?_ | refine z_is_bl_bool ?_ | refine z_is_bl_tuple ?_ | refine z_is_bl_list ?_ | refine z_is_bl_dict ?_ | refine z_is_int_str ?_ | refine z_is_int_int ?_ | refine z_is_int_bool ?_ | refine z_is_int_tuple ?_ | refine z_is_int_list ?_ | refine z_is_int_dict ?_ | refine z_is_str_str ?_ | refine z_is_str_int ?_ | refine z_is_str_bool ?_ | refine z_is_str_tuple ?_ | refine z_is_str_list ?_ | refine z_is_str_dict ?_ | refine z_is_tup_str ?_ | refine z_is_tup_int ?_ | refine z_is_tup_bool ?_ | refine z_is_tup_tuple ?_ | refine z_is_tup_list ?_ | refine z_is_tup_dict ?_ | refine z_isd ?_) | refine z_lent ?_ | refine z_lenc ?_ | refine z_ult ?_ | refine z_ulc ?_ | refine z_inb ?_ | refine z_min ?_ | refine z_max ?_ | refine z_abs ?_ | refine z_strs ?_) | refine z_gt (by with_unfolding_all rfl) ?_ | refine z_sz (by with_unfolding_all rfl) ?_ | refine z_bind (by with_unfolding_all rfl) (by with_unfolding_all rfl) ?_ | refine newF ?_ | exact z_enc ?_))
variable [Tb]
/-! ### the text of a value, the law's -/
section
variable {M : Mp} {Q : DQ}
theorem lt_loop {f p : Addr} {M0 : Mp} {v0 : Option D} {N : Nat} {T : List Nat} {nx bk ct : Ev → Mp → Prop} {rt : DQ} (hne : f ≠ p) (hN : N ≤ 100000)
    (fin : ∀ (F : List Str) (MM : Mp) (b3 b4 : Option D), F.flatMap tl = T → F.length ≤ N → MM f = some (.lst (F.map D.str)) → Fr [f, p] M0 MM → nx [v0, some (.ref p), some (.ref f), b3, b4] MM) :
    ∀ (n : Nat) (F : List Str) (P : List Pc) (MM : Mp) (b3 b4 : Option D), msL P < n → (∀ x ∈ P, pcG x) → F.length + msL P ≤ N → MM f = some (.lst (F.map D.str)) → MM p = some (.lst (P.map pcE)) → Fr [f, p] M0 MM → F.flatMap tl ++ txP P.reverse = T →
      runWhile (wTst (wOp cNeE (wVar 1) (wFrz (wLst wNil)))) W_L_text_2 ⟨nx, rt, bk, ct⟩ n [v0, some (.ref p), some (.ref f), b3, b4] MM := by
  intro n
  induction n with
  | zero => intro F P MM b3 b4 h; omega
  | succ n ih =>
    intro F P MM b3 b4 hn hg hs ef ep fr ht
    unfold runWhile
    walk_at "zgo0"
    rcases snocP P with rfl | ⟨R, x, rfl⟩
    · refine ⟨rfl, [], by simp only [lstOf, ep]; rfl, ?_⟩
      walk_at "zgo0"
      show if false = true then _ else _
      rw [if_neg Bool.false_ne_true]
      exact fin F MM b3 b4 (by rw [← ht]; simp [txP]) (by omega) ef fr
    · have he : ((R ++ [x]).map pcE).isEmpty = false := by simp
      rw [msL_app] at hn hs
      have hx1 : msL [x] = msP x := by unfold msL; simp
      have hpx := msP_pos x
      refine ⟨rfl, (R ++ [x]).map pcE, by simp only [lstOf, ep], ?_⟩
      rw [he]
      walk_at "zgo0"
      (try unfold W_L_text_2); walk_at "zgo0"
      refine z_ml ep ?_
      walk_at "zgo0"
      refine ⟨R.map pcE, pcE x, by rw [ep, List.map_append]; rfl, fun M2 e2 f2 => ?_⟩
      have ef2 : M2 f = some (.lst (F.map D.str)) := f2 _ _ (by simpa using hne) ef
      have fr2 : Fr [f, p] M0 M2 := fr.trans (f2.mono fun y hy => by rw [List.mem_singleton.mp hy]; simp)
      have hgR : ∀ y ∈ R, pcG y := fun y hy => hg y (List.mem_append_left _ hy)
      rw [List.reverse_append, List.reverse_singleton, List.singleton_append, txP_cons] at ht
      have app : ∀ {z : Str} {b3 b4 : Option D}, tl z = pcL x → mAppend (.ref f) [.str z] M2 fun _ m => runWhile (wTst (wOp cNeE (wVar 1) (wFrz (wLst wNil)))) W_L_text_2 ⟨nx, rt, bk, ct⟩ n [v0, some (.ref p), some (.ref f), b3, b4] m := fun {z b3 b4} hz =>
        ⟨F.map D.str, ef2, by rw [List.length_map]; exact Nat.lt_of_le_of_lt (by omega : F.length ≤ 100000) (by decide), fun M3 e3 f3 =>
          ih (F ++ [z]) R M3 _ _ (by omega) hgR (by rw [List.length_append, List.length_singleton]; omega) (by rw [e3, List.map_append]; rfl) (f3 _ _ (by simpa using hne.symm) e2) (fr2.trans (f3.mono fun y hy => by rw [List.mem_singleton.mp hy]; simp)) (by
            rw [List.flatMap_append, List.append_assoc, ← ht, ← hz]
            simp)⟩
      cases x with
      | wr z =>
        show gTu 2 _ (.tup [.str "", .str z]) _ _ _
        walk_at "zgo0"
        refine z_ml ef2 ?_
        walk_at "zgo0"
        exact app rfl
      | vl v =>
        have hv : GV v := hg (.vl v) (List.mem_append_right _ (List.mem_singleton_self _))
        have hm : msP (.vl v) = msV v := rfl
        have h3 := msL_len R
        show gTu 2 _ (.tup [.str "value", vd v]) _ _ _
        walk_at "zgo0"
        have go : (∀ d, v ≠ .lf d) → ∀ {M3 : Mp} {b3 b4 : Option D}, M3 p = some (.lst (R.map pcE ++ (opP v).reverse.map pcE)) → Fr [p] M2 M3 → runWhile (wTst (wOp cNeE (wVar 1) (wFrz (wLst wNil)))) W_L_text_2 ⟨nx, rt, bk, ct⟩ n [v0, some (.ref p), some (.ref f), b3, b4] M3 := fun hv2 {M3 b3 b4} e3 f3 => by
          have h1 := op_ms hv
          refine ih F (R ++ (opP v).reverse) M3 _ _ (by rw [msL_app, msL_rev]; omega) (fun y hy => ?_) (by rw [msL_app, msL_rev]; omega) (f3 _ _ (by simpa using hne) ef2) (by rw [e3, List.map_append]) (fr2.trans (f3.mono fun y hy => by rw [List.mem_singleton.mp hy]; simp)) ?_
          · rcases List.mem_append.mp hy with hy | hy
            · exact hgR y hy
            · exact op_G hv y (List.mem_reverse.mp hy)
          · rw [List.reverse_append, List.reverse_reverse, txP_app, op_tx hv hv2]
            exact ht
        cases v with
        | lf d =>
          have ht : ∃ t, tyV d M2 = some t ∧ kitsB t [.ty "dict", .ty "list"] = some false := by
            rcases hv with rfl | ⟨b, rfl⟩ | ⟨i, rfl, hi⟩ | ⟨x, rfl, hx⟩
            · exact ⟨_, rfl, by decide +kernel⟩
            · exact ⟨_, rfl, by decide +kernel⟩
            · exact ⟨_, rfl, by decide +kernel⟩
            · exact ⟨_, rfl, by decide +kernel⟩
          obtain ⟨t, h1, h2⟩ := ht
          refine z_isiT h1 h2 ?_
          walk_at "zgo0"
          refine z_ml ef2 ?_
          walk_at "zgo0"
          show W_L_plain_text [d] M2 _
          refine lplain_ok hv ?_
          walk_at "zgo0"
          refine app ?_
          show tl (ofL (lfL d)) = txV (.lf d)
          rw [tl_ofL, txV]
        | ls vs =>
          refine z_isiT (t := "list") (b := true) rfl (by decide +kernel) ?_
          walk_at "zgo0"
          refine z_ml e2 ?_
          walk_at "zgo0"
          show W_L_opened [vd (.ls vs)] M2 _
          refine opened_ok hv (fun _ h => nomatch h) ?_
          walk_at "zgo0"
          refine ⟨rfl, _, rfl, newF ?_⟩
          walk_at "zgo0"
          have h1 := op_ms hv
          have h2 := msL_len (opP (.ls vs))
          refine z_extc (n := 200000) e2 (by rw [List.length_map, List.length_reverse, List.length_map]; omega) fun M3 e3 f3 => ?_
          exact go (fun _ h => nomatch h) (by rw [e3, List.map_reverse]) f3
        | ob ks vs =>
          refine z_isiT (t := "dict") (b := true) rfl (by decide +kernel) ?_
          walk_at "zgo0"
          refine z_ml e2 ?_
          walk_at "zgo0"
          show W_L_opened [vd (.ob ks vs)] M2 _
          refine opened_ok hv (fun _ h => nomatch h) ?_
          walk_at "zgo0"
          refine ⟨rfl, _, rfl, newF ?_⟩
          walk_at "zgo0"
          have h1 := op_ms hv
          have h2 := msL_len (opP (.ob ks vs))
          refine z_extc (n := 200000) e2 (by rw [List.length_map, List.length_reverse, List.length_map]; omega) fun M3 e3 f3 => ?_
          exact go (fun _ h => nomatch h) (by rw [e3, List.map_reverse]) f3
theorem ltext_ok {v : Vt} (h : GV v) (hw : wtT v ≤ 100000) (q : Q (.str (ofL (txV v))) M) : W_L_text [vd v] M Q := by
  have hm := ms_wt v
  have hl := tx_len h
  unfold W_L_text; refine z_dg [some _, none, none, none, none] rfl rfl ?_; walk_at "zgo0"
  intro p M1 hp ep fp
  walk_at "zgo0"
  intro f M2 hf ef ff
  have hne : f ≠ p := fun z => by rw [z, ep] at hf; cases hf
  walk_at "zgo0"
  refine ⟨msV v + 1, lt_loop (T := txV v) (N := msV v) (M0 := M2) hne (by omega) (fun F MM b3 b4 hF hFl eF fr => ?_) (msV v + 1) [] [.vl v] M2 _ _ (by show msV v + 0 < _; omega) (fun x hx => by rw [List.mem_singleton.mp hx]; exact h) (by show 0 + (msV v + 0) ≤ _; omega) ef (ff _ _ (by simp) ep) .refl ?_⟩
  · (try unfold W_L_text_1); walk_at "zgo0"
    refine ⟨F, by simp only [seqOf, lstOf, eF], ?_, ?_⟩
    · rw [sum_tl, hF, show (("" : String) : Str).length = 0 by decide +kernel]
      omega
    · have e : Txt.join (("" : String) : Str) F = ofL (txV v) := ext_tl (by rw [tl_join0, hF, tl_ofL])
      rw [e]
      have f2 : Fr [p] M1 MM := Fr.drop hf (ff.mono fun _ h => (nomatch h)) fr
      exact z_drf q (Fr.drop hp fp f2)
  · show txP [_] = _
    rw [txP_one]; rfl
end

end L2.Dl.G

namespace L2.Dl.G
open PySem PySem.Spec PyProof.Rows TL TXL Inj
local macro_rules | `(tactic| walk_at "zgo0") => `(tactic| repeat (with_reducible first | (refine z_isWE ?_; first | (refine z_isV ?_; first | refine z_v0 ?_ | refine z_v1 ?_ | refine z_v2 ?_ | refine z_v3 ?_ | refine z_v4 ?_ | refine z_v5 ?_ | refine z_v6 ?_ | refine z_v7 ?_ | refine z_v8 ?_ | refine z_v9 ?_ | refine z_v10 ?_ | refine z_v11 ?_ | refine z_v12 ?_ | refine z_v13 ?_ | refine z_v14 ?_ | refine z_v15 ?_) | refine z_op ?_ | refine z_c ?_ | refine z_call ?_ | refine z_frz ?_ | refine z_tup ?_ | refine z_mta ?_ | refine z_fld ?_ | refine z_lst ?_ | refine z_or ?_ | refine z_and ?_ | refine z_mt ?_ | refine z_callK ?_ | refine z_un ?_ | refine z_not ?_ | refine z_if ?_ | refine z_chain ?_ | refine z_sl ?_ | refine z_lc ?_ | refine z_kin ?_ | refine z_kix ?_ | refine z_kget ?_ | refine z_dict ?_ | refine z_meth ?_ | refine z_make ?_ | refine z_fmt ?_) | (refine z_isWS ?_; first | refine z_seq ?_ | refine z_asg ?_ | refine z_ifs ?_ | refine z_ret ?_ | refine z_drop ?_ | refine z_next ?_ | refine z_frzs ?_ | refine z_retN ?_ | refine z_for ?_ | refine z_par ?_ | refine z_par3 ?_ | refine z_setf ?_ | refine z_break ?_ | refine z_cont ?_) | (refine z_isgN ?_; first | refine z_g0 ?_ | refine z_g1 ?_ | refine z_g2 ?_ | refine z_g3 ?_ | refine z_g4 ?_ | refine z_g5 ?_ | refine z_g6 ?_ | refine z_g7 ?_ | refine z_g8 ?_ | refine z_g9 ?_ | refine z_g10 ?_ | refine z_g11 ?_ | refine z_g12 ?_ | refine z_g13 ?_ | refine z_g14 ?_ | refine z_g15 ?_) | (refine z_isWA ?_; first | refine z_cons ?_ | refine z_nil ?_) | (refine z_isW2 ?_; first | refine z_eqi ?_ | refine z_eqsT ?_ | refine z_eqsF (by decide +kernel) ?_ | refine z_eqs ?_ | refine z_nei ?_ | refine z_nesT ?_ | refine z_nesF (by decide +kernel) ?_ | refine z_nes ?_ | refine z_ut0 ?_ | refine z_ut1 ?_ | refine z_ut2 ?_ | refine z_ut3 ?_ | refine z_uc0 ?_ | refine z_sd0 ?_ | refine z_sd1 ?_ | refine z_le ?_ | refine z_lt ?_ | refine z_gtt ?_ | refine z_ge ?_ | refine z_add ?_ | refine z_sub ?_ | refine z_isn ?_ | refine z_isni ?_ | refine z_isns ?_ | refine z_isnt ?_ | refine z_isnb ?_ | refine z_nn ?_ | refine z_nni ?_ | refine z_nns ?_ | refine z_nnt ?_ | refine z_nnb ?_ | refine z_ix0 ?_ | refine z_ix1 ?_ | refine z_ix2 ?_ | refine z_ix3 ?_ | refine z_p15 ?_ | refine z_p30 ?_ | refine z_p18 ?_ | refine z_uin0 ?_ | refine z_unin0 ?_) | (refine z_isWT ?_; first | refine z_tst ?_ | refine z_tru ?_ | refine z_tand ?_ | refine z_tor ?_ | refine z_tnot ?_ | refine z_yes ?_) | refine z_gc ?_ | refine z_gn ?_ | refine z_gst ?_ | refine z_nop ?_ | refine z_prt ?_ | refine z_prti ?_ | refine z_mstr ?_ | refine z_tb ?_ | refine z_trb ?_ | refine z_trn ?_ | refine z_T ?_ | refine z_F ?_ | refine z_NF ?_ | refine z_NT ?_ | refine z_neg ?_ | refine z_slt ?_ | refine z_its ?_ | refine z_rng1 ?_ | refine z_starts ?_ | refine z_kins ?_ | refine z_kgets ?_ | refine z_js ?_ | refine z_jsn ?_ | refine z_wpc ?_ | refine z_wpn ?_ | refine z_ita ?_ | refine z_ant ?_ | refine z_anc ?_ | refine z_slc ?_ | refine z_gsd ?_ | (refine z_isF ?_; first | refine z_fn ?_ | refine z_fb ?_ | refine z_fi ?_ | refine z_fs ?_ | refine z_ft ?_ | refine z_fc ?_ | refine z_fsd ?_) | (refine z_isWC ?_; first | (refine z_isI ?_; first | refine z_is_non_str ?_ | refine z_is_non_int ?_ | refine z_is_non_bool ?_ | refine z_is_non_tuple ?_ | refine z_is_non_list ?_ | refine z_is_non_dict ?_ | refine z_is_bl_str ?_ | refine z_is_bl_int ?_ | refine z_is_bl_bool ?_ | refine z_is_bl_tuple ?_ | refine z_is_bl_list ?_ | refine z_is_bl_dict ?_ | refine z_is_int_str ?_ | refine z_is_int_int ?_ | refine z_is_int_bool ?_ | refine z_is_int_tuple ?_ | refine z_is_int_list ?_ | refine z_is_int_dict ?_ | refine z_is_str_str ?_ | refine z_is_str_int ?_ | refine z_is_str_bool ?_ | refine z_is_str_tuple ?_ | refine z_is_str_list ?_ | refine z_is_str_dict ?_ | refine z_is_tup_str ?_ | refine z_is_tup_int ?_ | refine z_is_tup_bool ?_ | refine z_is_tup_tuple ?_ | refine z_is_tup_list ?_ | refine z_is_tup_dict ?_ | refine z_isd ?_) | refine z_lent ?_ | refine z_lenc ?_ | refine z_ult ?_ | refine z_ulc ?_ | refine z_inb ?_ | refine z_min ?_ | refine z_max ?_ | refine z_abs ?_ | refine z_strs ?_) | refine z_gt (by with_unfolding_all rfl) ?_ | refine z_sz (by with_unfolding_all rfl) ?_ | refine z_bind (by with_unfolding_all rfl) (by with_unfolding_all rfl) ?_ | refine newF ?_ | exact z_enc ?_))
variable [Tb]
/-! ### drawn leaves -/
section
variable {M : Mp} {Q : DQ}
theorem pick_of {z : Str} {p : Addr} (hp : Pot p M) (hz : z.length ≤ 1000) (h1 : 0 < z.length) (q : ∀ c M', c ∈ tl z → Pot p M' → Fr [p] M M' → Q (.str (sg c)) M') : W_L_pick [.ref p, .str z] M Q := by
  unfold W_L_pick; refine z_dg [some _, some _] rfl rfl ?_; walk_at "zgo0"
  refine z_uls (le_L hz) ?_
  walk_at "zgo0"
  refine dig hp (by omega) (by omega) fun k M1 k0 k1 p1 f1 => ?_
  refine sign_ix (le_L hz) k0 (by rw [len_list]; exact k1) fun c hc => ?_
  exact z_kp (q c M1 hc p1 f1)
theorem low_len : (Txt.lower (("ABCDEFGHIJKLMNOPQRSTUVWXYZ" : String) : Str)).length = 26 := by decide +kernel
theorem cap_len : (("ABCDEFGHIJKLMNOPQRSTUVWXYZ" : String) : Str).length = 26 := by decide +kernel
theorem sg1_len : ((" !\"#$&'()*+,-./0123456789:;<=>?@" : String) : Str).length ≤ 40 := by decide +kernel
theorem sg2_len : (("[\\]^_`" : String) : Str).length ≤ 40 := by decide +kernel
theorem sg3_len : (("{|}~" : String) : Str).length ≤ 40 := by decide +kernel
theorem signs_ok (q : ∀ z : Str, z.length ≤ 1000 → 0 < z.length → Q (.str z) M) : W_L_signs [] M Q := by
  have h1 := cap_len
  have h2 := sg1_len
  have h3 := sg2_len
  have h4 := sg3_len
  have h5 := low_len
  unfold W_L_signs; refine z_dg [none] rfl rfl ?_; walk_at "zgo0"
  refine z_addn (n := 1000) (by omega) ?_
  walk_at "zgo0"
  refine z_addn (n := 1000) (by rw [strLen_append]; omega) ?_
  walk_at "zgo0"
  refine ⟨by omega, ?_⟩
  walk_at "zgo0"
  refine z_addn (n := 1000) (by rw [strLen_append, strLen_append]; omega) ?_
  walk_at "zgo0"
  refine z_addn (n := 1000) (by rw [strLen_append, strLen_append, strLen_append]; omega) ?_
  exact z_kp (q _ (by rw [strLen_append, strLen_append, strLen_append, strLen_append]; omega) (by rw [strLen_append, strLen_append, strLen_append, strLen_append]; omega))
theorem signs_txt {cs : List Nat} (h : cs.length ≤ 44) : LfG (.str ⟨cs.toArray⟩) := .inr (.inr (.inr ⟨_, rfl, by rw [len_tl]; show cs.toArray.toList.length ≤ 44; simpa using h⟩))
theorem lplainD_ok {p : Addr} (hp : Pot p M) (q : ∀ d M', LfG d → Pot p M' → Fr [p] M M' → Q d M') : W_L_plain [.ref p] M Q := by
  unfold W_L_plain; refine z_dg [some _, none, none, none] rfl rfl ?_; walk_at "zgo0"
  refine dig hp (by omega) (by omega) fun k M1 k0 k1 p1 f1 => ?_
  refine pick_c (ns := [10, 1000, 1000000000000000000000000000000]) k0 k1 fun nn hn => ?_
  have hn0 : 0 < nn ∧ nn < 2 ^ 200 := by
    simp only [List.mem_cons, List.not_mem_nil, or_false] at hn
    rcases hn with rfl | rfl | rfl <;> decide
  have hn9 : nn ≤ 10 ^ 30 := by
    simp only [List.mem_cons, List.not_mem_nil, or_false] at hn
    rcases hn with rfl | rfl | rfl <;> decide
  walk_at "zgo0"
  refine dig p1 hn0.1 hn0.2 fun num M2 a0 a1 p2 f2 => ?_
  walk_at "zgo0"
  (try unfold W_L_plain_4); walk_at "zgo0"
  refine dig p2 (by omega) (by omega) fun way M3 w0 w1 p3 f3 => ?_
  have f13 : Fr [p] M M3 := (f1.trans f2).trans f3
  walk_at "zgo0"
  (try unfold W_L_plain_3); walk_at "zgo0"
  refine z_dec (fun h3 => ?_) fun h3 => ?_
  · walk_at "zgo0"
    refine pick_c (ns := [2, 5, 41]) w0 h3 fun mm hm => ?_
    have hm0 : 0 < mm ∧ mm ≤ 41 := by
      simp only [List.mem_cons, List.not_mem_nil, or_false] at hm
      rcases hm with rfl | rfl | rfl <;> decide
    walk_at "zgo0"
    refine dig p3 hm0.1 (by omega) fun j M4 j0 j1 p4 f4 => ?_
    walk_at "zgo0"
    refine z_rngM (by omega) (by omega) ?_
    refine lcF_draw [p] (Pot p) (fun x => ∃ c, True ∧ x = .str (sg c)) (allc p4.some alln) (by rw [rng_len]; omega) (fun _ _ => trivial) (fun t ht M1 M2 f h => h.fr f (by simpa using (p4.ne ht).symm)) (fun t ht M1 h => h.del (p4.ne ht).symm) p4 (fun d M1 R hd f1 i1 hR => ?_) fun ds M' hl2 hc pm f => ?_
    · simp only [ewipe, gN, List.foldl_cons, List.foldl_nil, List.set_cons_zero, List.set_cons_succ]
      walk_at "zgo0"
      refine signs_ok fun z z1 z2 => ?_
      walk_at "zgo0"
      exact pick_of i1 z1 z2 fun c M2 _ p2 f2 => hR _ M2 ⟨c, trivial, rfl⟩ f2 p2
    · obtain ⟨cs, rfl, _, h2⟩ := strs_of hc
      have hcs : cs.length ≤ 44 := by rw [h2, hl2, rng_len]; omega
      walk_at "zgo0"
      refine join_c (by omega) ?_
      exact z_kp (q _ _ (signs_txt hcs) pm ((f13.trans f4).trans f))
  · walk_at "zgo0"
    (try unfold W_L_plain_2); walk_at "zgo0"
    refine z_dec (fun h4 => ?_) fun h4 => ?_
    · walk_at "zgo0"
      refine dig p3 (by omega) (by omega) fun j M4 j0 j1 p4 f4 => ?_
      walk_at "zgo0"
      refine z_rngM (by omega) (by omega) ?_
      refine lcF_draw [p] (Pot p) (fun x => ∃ c, True ∧ x = .str (sg c)) (allc p4.some alln) (by rw [rng_len]; omega) (fun _ _ => trivial) (fun t ht M1 M2 f h => h.fr f (by simpa using (p4.ne ht).symm)) (fun t ht M1 h => h.del (p4.ne ht).symm) p4 (fun d M1 R hd f1 i1 hR => ?_) fun ds M' hl2 hc pm f => ?_
      · simp only [ewipe, gN, List.foldl_cons, List.foldl_nil, List.set_cons_zero, List.set_cons_succ]
        walk_at "zgo0"
        exact pick_of i1 (by decide +kernel) (by decide +kernel) fun c M2 _ p2 f2 => hR _ M2 ⟨c, trivial, rfl⟩ f2 p2
      · obtain ⟨cs, rfl, _, h2⟩ := strs_of hc
        have hcs : cs.length ≤ 44 := by rw [h2, hl2, rng_len]; omega
        walk_at "zgo0"
        refine join_c (by omega) ?_
        exact z_kp (q _ _ (signs_txt hcs) pm ((f13.trans f4).trans f))
    · walk_at "zgo0"
      (try unfold W_L_plain_1); walk_at "zgo0"
      refine dig p3 (by omega) (by omega) fun j M4 j0 j1 p4 f4 => ?_
      refine pick_c (ns := [0, 1, 2, 3, 4, 5, 6]) j0 j1 fun x hx => ?_
      have hx0 : 0 ≤ x ∧ x < 7 := by
        simp only [List.mem_cons, List.not_mem_nil, or_false] at hx
        rcases hx with rfl | rfl | rfl | rfl | rfl | rfl | rfl <;> decide
      refine pick_d hx0.1 hx0.2 fun d hd => ?_
      refine z_kp (q d M4 ?_ p4 (f13.trans f4))
      have hnum : num.natAbs < 10 ^ 38 := by omega
      simp only [List.mem_cons, List.not_mem_nil, or_false] at hd
      rcases hd with rfl | rfl | rfl | rfl | rfl | rfl | rfl
      · exact .inl rfl
      · exact .inr (.inl ⟨_, rfl⟩)
      · exact .inr (.inl ⟨_, rfl⟩)
      · exact .inr (.inr (.inl ⟨_, rfl, hnum⟩))
      · exact .inr (.inr (.inl ⟨_, rfl, by omega⟩))
      · exact .inr (.inr (.inl ⟨_, rfl, by decide⟩))
      · exact .inr (.inr (.inl ⟨_, rfl, by decide⟩))
end

end L2.Dl.G

namespace L2.Dl.G
open PySem PySem.Spec PyProof.Rows TL TXL Inj
local macro_rules | `(tactic| walk_at "zgo0") => `(tactic| repeat (with_reducible first | (refine z_isWE ?_; first | (refine z_isV ?_; first | refine z_v0 ?_ | refine z_v1 ?_ | refine z_v2 ?_ | refine z_v3 ?_ | refine z_v4 ?_ | refine z_v5 ?_ | refine z_v6 ?_ | refine z_v7 ?_ | refine z_v8 ?_ | refine z_v9 ?_ | refine z_v10 ?_ | refine z_v11 ?_ | refine z_v12 ?_ | refine z_v13 ?_ | refine z_v14 ?_ | refine z_v15 ?_) | refine z_op ?_ | refine z_c ?_ | refine z_call ?_ | refine z_frz ?_ | refine z_tup ?_ | refine z_mta ?_ | refine z_fld ?_ | refine z_lst ?_ | refine z_or ?_ | refine z_and ?_ | refine z_mt ?_ | refine z_callK ?_ | refine z_un ?_ | refine z_not ?_ | refine z_if ?_ | refine z_chain ?_ | refine z_sl ?_ | refine z_lc ?_ | refine z_kin ?_ | refine z_kix ?_ | refine z_kget ?_ | refine z_dict ?_ | refine z_meth ?_ | refine z_make ?_ | refine z_fmt ?_) | (refine z_isWS ?_; first | refine z_seq ?_ | refine z_asg ?_ | refine z_ifs ?_ | refine z_ret ?_ | refine z_drop ?_ | refine z_next ?_ | refine z_frzs ?_ | refine z_retN ?_ | refine z_for ?_ | refine z_par ?_ | refine z_par3 ?_ | refine z_setf ?_ | refine z_break ?_ | refine z_cont ?_) | (refine z_isgN ?_; first | refine z_g0 ?_ | refine z_g1 ?_ | refine z_g2 ?_ | refine z_g3 ?_ | refine z_g4 ?_ | refine z_g5 ?_ | refine z_g6 ?_ | refine z_g7 ?_ | refine z_g8 ?_ | refine z_g9 ?_ | refine z_g10 ?_ | refine z_g11 ?_ | refine z_g12 ?_ | refine z_g13 ?_ | refine z_g14 ?_ | refine z_g15 ?_) | (refine z_isWA ?_; first | refine z_cons ?_ | refine z_nil ?_) | (refine z_isW2 ?_; first | refine z_eqi ?_ | refine z_eqsT ?_ | refine z_eqsF (by decide +kernel) ?_ | refine z_eqs ?_ | refine z_nei ?_ | refine z_nesT ?_ | refine z_nesF (by decide +kernel) ?_ | refine z_nes ?_ | refine z_ut0 ?_ | refine z_ut1 ?_ | refine z_ut2 ?_ | refine z_ut3 ?_ | refine z_uc0 ?_ | refine z_sd0 ?_ | refine z_sd1 ?_ | refine z_le ?_ | refine z_lt ?_ | refine z_gtt ?_ | refine z_ge ?_ | refine z_add ?_ | refine z_sub ?_ | refine z_isn ?_ | refine z_isni ?_ | refine z_isns ?_ | refine z_isnt ?_ | refine z_isnb ?_ | refine z_nn ?_ | refine z_nni ?_ | refine z_nns ?_ | refine z_nnt ?_ | refine z_nnb ?_ | refine z_ix0 ?_ | refine z_ix1 ?_ | refine z_ix2 ?_ | refine z_ix3 ?_ | refine z_p15 ?_ | refine z_p30 ?_ | refine z_p18 ?_ | refine z_uin0 ?_ | refine z_unin0 ?_) | (refine z_isWT ?_; first | refine z_tst ?_ | refine z_tru ?_ | refine z_tand ?_ | refine z_tor ?_ | refine z_tnot ?_ | refine z_yes ?_) | refine z_gc ?_ | refine z_gn ?_ | refine z_gst ?_ | refine z_nop ?_ | refine z_prt ?_ | refine z_prti ?_ | refine z_mstr ?_ | refine z_tb ?_ | refine z_trb ?_ | refine z_trn ?_ | refine z_T ?_ | refine z_F ?_ | refine z_NF ?_ | refine z_NT ?_ | refine z_neg ?_ | refine z_slt ?_ | refine z_its ?_ | refine z_rng1 ?_ | refine z_starts ?_ | refine z_kins ?_ | refine z_kgets ?_ | refine z_js ?_ | refine z_jsn ?_ | refine z_wpc ?_ | refine z_wpn ?_ | refine z_ita ?_ | refine z_ant ?_ | refine z_anc ?_ | refine z_slc ?_ | refine z_gsd ?_ | (refine z_isF ?_; first | refine z_fn ?_ | refine z_fb ?_ | refine z_fi ?_ | refine z_fs ?_ | refine z_ft ?_ | refine z_fc ?_ | refine z_fsd ?_) | (refine z_isWC ?_; first | (refine z_isI ?_; first | refine z_is_non_str ?_ | refine z_is_non_int ?_ | refine z_is_non_bool ?_ | refine z_is_non_tuple ?_ | refine z_is_non_list ?_ | refine z_is_non_dict ?_ | refine z_is_bl_str ?_ | refine z_is_bl_int ?_ | refine z_is_bl_bool ?_ | refine z_is_bl_tuple ?_ | refine z_is_bl_list ?_ | refine z_is_bl_dict ?_ | refine z_is_int_str ?_ | refine z_is_int_int ?_ | refine z_is_int_bool ?_ | refine z_is_int_tuple ?_ | refine z_is_int_list ?_ | refine z_is_int_dict ?_ | refine z_is_str_str ?_ | refine z_is_str_int ?_ | refine z_is_str_bool ?_ | refine z_is_str_tuple ?_ | refine z_is_str_list ?_ | refine z_is_str_dict ?_ | refine z_is_tup_str ?_ | refine z_is_tup_int ?_ | refine z_is_tup_bool ?_ | refine z_is_tup_tuple ?_ | refine z_is_tup_list ?_ | refine z_is_tup_dict ?_ | refine z_isd ?_) | refine z_lent ?_ | refine z_lenc ?_ | refine z_ult ?_ | refine z_ulc ?_ | refine z_inb ?_ | refine z_min ?_ | refine z_max ?_ | refine z_abs ?_ | refine z_strs ?_) | refine z_gt (by with_unfolding_all rfl) ?_ | refine z_sz (by with_unfolding_all rfl) ?_ | refine z_bind (by with_unfolding_all rfl) (by with_unfolding_all rfl) ?_ | refine newF ?_ | exact z_enc ?_))
variable [Tb]
/-! ### drawn values -/
section
theorem vds_app (a b : List Vt) : vds (a ++ b) = vds a ++ vds b := by rw [vds_map, vds_map, vds_map, List.map_append]
theorem vds_len (a : List Vt) : (vds a).length = a.length := by rw [vds_map, List.length_map]
theorem wtTs_app (a b : List Vt) : wtTs (a ++ b) = wtTs a + wtTs b := by rw [wtTs_sum, wtTs_sum, wtTs_sum, List.map_append, List.sum_append]
theorem GVs_app {a b : List Vt} : GVs (a ++ b) ↔ GVs a ∧ GVs b := by
  rw [GVs_iff, GVs_iff, GVs_iff]
  exact ⟨fun h => ⟨fun v hv => h v (List.mem_append_left _ hv), fun v hv => h v (List.mem_append_right _ hv)⟩, fun h v hv => (List.mem_append.mp hv).elim (h.1 v) (h.2 v)⟩
theorem fr_a {S : List Addr} {M M1 M2 : Mp} {a : Addr} (f : Fr S M M1) (ha : M a = none) (g : Fr [a] M1 M2) : Fr S M M2 := fun x o n e => by
  refine g x _ ?_ (f x o n e)
  intro h
  rw [List.mem_singleton.mp h, ha] at e
  cases e
theorem fresh0 {S : List Addr} {M M1 : Mp} {a : Addr} (f : Fr S M M1) (ha : M1 a = none) (hS : a ∉ S) : M a = none := by
  cases e : M a with
  | none => rfl
  | some o => rw [f a _ hS e] at ha; cases ha
theorem cut_toM {α : Type} {l : List α} {j : Nat} : cutL l none (some (j : Int)) = l.take j := by
  unfold cutL HT.sIx
  have h1 : ¬ ((j : Int) < 0) := by omega
  simp only [h1, if_false, Int.toNat_natCast, List.drop_zero, Nat.sub_zero]
  by_cases h : j ≤ l.length
  · rw [Nat.min_eq_left h]
  · rw [Nat.min_eq_right (by omega), List.take_of_length_le (Nat.le_refl _), List.take_of_length_le (by omega)]
theorem cut_frN {α : Type} {l : List α} {j : Nat} (h : j ≤ l.length) : cutL l (some (j : Int)) none = l.drop j := by
  unfold cutL HT.sIx
  have h1 : ¬ ((j : Int) < 0) := by omega
  simp only [h1, if_false, Int.toNat_natCast]
  rw [Nat.min_eq_left h, List.take_of_length_le (by rw [List.length_drop]; omega)]
theorem zip_pairs : ∀ (xs : List Str) (ds : List D), zipT (xs.map .str) ds = (xs.zip ds).map pairS
  | [], _ => rfl
  | _ :: _, [] => rfl
  | x :: xs, d :: ds => by
    show D.tup [.str x, d] :: zipT (xs.map .str) ds = _
    rw [zip_pairs xs ds]; rfl
theorem putD_new : ∀ {acc : List (Key × D)} {k : Key} {v : D}, (∀ p ∈ acc, p.1 ≠ k) → putD acc k v = acc ++ [(k, v)]
  | acc, k, v, h => by
    unfold putD
    rw [if_neg]
    intro z
    obtain ⟨p, hp, e⟩ := List.any_eq_true.mp z
    exact h p hp (of_decide_eq_true e)
theorem merge_go : ∀ {kvs acc : List (Key × D)}, (kvs.map (·.1)).Nodup → (∀ p ∈ acc, ∀ q ∈ kvs, p.1 ≠ q.1) → kvs.foldl (fun acc kv => putD acc kv.1 kv.2) acc = acc ++ kvs
  | [], acc, _, _ => by simp
  | q :: kvs, acc, nd, h => by
    rw [List.map_cons] at nd
    obtain ⟨n1, n2⟩ := List.nodup_cons.mp nd
    rw [List.foldl_cons, putD_new fun p hp => h p hp q List.mem_cons_self, merge_go n2 fun p hp r hr => ?_]
    · simp
    · rcases List.mem_append.mp hp with hp | hp
      · exact h p hp r (List.mem_cons_of_mem _ hr)
      · rw [List.mem_singleton.mp hp]
        intro e
        exact n1 (List.mem_map.mpr ⟨r, hr, e.symm⟩)
theorem merge_nd {kvs : List (Key × D)} (nd : (kvs.map (·.1)).Nodup) : mergeD kvs = kvs := by
  unfold mergeD
  rw [merge_go nd (fun p hp => by cases hp)]; rfl
theorem fld_str : (("abcdefghijklmnopqrstuvwxyz0123456789_" : String) : Str) = ("abcdefghijklmnopqrstuvwxyz" : Str) ++ ("0123456789_" : Str) := by decide +kernel
theorem nodup_inr {ks : List Str} (h : ks.Nodup) : (ks.map fun k => (Sum.inr k : Key)).Nodup := by
  unfold List.Nodup at *
  rw [List.pairwise_map]
  exact h.imp fun {a b} hab e => hab (by injection e)
end
section
variable {M : Mp} {Q : DQ}
def lzR (ds : List D) (M1 : Mp) (Q : DQ) : Prop := match ds with
  | [d, e] => ∃ xs ys, lstOf d M1 = some xs ∧ lstOf e M1 = some ys ∧ New M1 (.lst (zipT xs ys)) fun p M2 => Q (.ref p) M2
  | _ => False
theorem z_lz {wx : WA} {env : Ev} (h : wx env M fun ds m => lzR ds m Q) : wListZ wx env M Q := h
theorem lz_ok {xs ys : List D} (q : New M (.lst (zipT xs ys)) fun p M2 => Q (.ref p) M2) : lzR [.clst xs, .clst ys] M Q := ⟨xs, ys, rfl, rfl, q⟩
theorem valueD_ok {p : Addr} (hp : Pot p M) (q : ∀ v M', GV v → wtT v ≤ 3000 → Pot p M' → Fr [p] M M' → Q (vd v) M') : W_L_value [.ref p] M Q := by
  unfold W_L_value; refine z_dg [some _, none, none, none, none, none, none] rfl rfl ?_; walk_at "zgo0"
  refine lplainD_ok hp fun d M1 hd p1 f1 => ?_
  walk_at "zgo0"
  intro a M2 ha ea fa
  walk_at "zgo0"
  (try unfold W_L_value_6); walk_at "zgo0"
  have p2 : Pot p M2 := p1.new fa
  have ha0 : M a = none := fresh0 f1 ha (by simpa using p1.ne ha)
  refine dig p2 (by omega) (by omega) fun n M3 n0 n1 p3 f3 => ?_
  walk_at "zgo0"
  refine z_rngM (by omega) (by omega) ?_
  refine run_for (fun k env MM => ∃ (a : Addr) (vs : List Vt) (b2 b3 b4 b5 b6 : Option D), env = [some (.ref p), some (.ref a), b2, b3, b4, b5, b6] ∧ MM a = some (.lst (vds vs)) ∧ M a = none ∧ GVs vs ∧ vs ≠ [] ∧ vs.length ≤ k + 1 ∧ wtTs vs ≤ 140 * (k + 1) ∧ Pot p MM ∧ Fr [p] M MM)
    ⟨a, [.lf d], _, _, _, _, _, rfl, f3 _ _ (by simpa using hp.ne ha0) ea, ha0, ⟨hd, trivial⟩, by simp, Nat.le_refl _, by show 40 + 100 + 0 ≤ _; omega, p3, (f1.trans (fa.mono fun _ h => nomatch h)).trans f3⟩ (fun k dd r env MM hdr hP next => ?_) fun env MM hP => ?_
  · obtain ⟨a, vs, b2, b3, b4, b5, b6, rfl, ea, ha0, hg, hne, hl, hw, pM, fM⟩ := hP
    obtain ⟨hk, rfl⟩ := rng_at hdr
    have hk9 : k < 20 := by omega
    have hap := hp.ne ha0
    refine ⟨trivial, ?_⟩
    (try unfold W_L_value_5); walk_at "zgo0"
    refine dig pM (by omega) (by omega) fun way M4 w0 w1 p4 f4 => ?_
    have e4 : M4 a = some (.lst (vds vs)) := f4 _ _ (by simpa using hap) ea
    have f04 := fM.trans f4
    walk_at "zgo0"
    (try unfold W_L_value_4); walk_at "zgo0"
    refine z_dec (fun h2 => ?_) fun h2 => ?_
    · walk_at "zgo0"
      refine z_ml e4 ?_
      walk_at "zgo0"
      refine lplainD_ok p4 fun d M5 hd5 p5 f5 => ?_
      have e5 : M5 a = some (.lst (vds vs)) := f5 _ _ (by simpa using hap) e4
      walk_at "zgo0"
      refine z_ap e5 (by rw [vds_len]; omega) fun M6 e6 f6 => ?_
      walk_at "zgo0"
      refine next _ _ ⟨a, vs ++ [.lf d], _, _, _, _, _, rfl, by rw [e6, vds_app]; rfl, ha0, GVs_app.mpr ⟨hg, (show GV (.lf d) from hd5), trivial⟩, by simp, by rw [List.length_append]; simp only [List.length_cons, List.length_nil]; omega, ?_, p5.fr f6 (by simpa using hap.symm), fr_a (f04.trans f5) ha0 f6⟩
      rw [wtTs_app]
      show wtTs vs + (40 + 100 + 0) ≤ _
      omega
    · walk_at "zgo0"
      refine z_ull e4 ?_
      rw [vds_len]
      walk_at "zgo0"
      refine dig p4 (by split <;> omega) (by split <;> omega) fun many M5 m0 m1 p5 f5 => ?_
      have e5 : M5 a = some (.lst (vds vs)) := f5 _ _ (by simpa using hap) e4
      have f05 := f04.trans f5
      obtain ⟨mm, rfl⟩ := Int.eq_ofNat_of_zero_le m0
      have hm6 : mm ≤ 6 ∧ mm ≤ vs.length := by
        split at m1 <;> omega
      walk_at "zgo0"
      (try unfold W_L_value_3); walk_at "zgo0"
      refine z_ull e5 ?_
      rw [vds_len]
      walk_at "zgo0"
      rw [show (vs.length : Int) - (mm : Int) = ((vs.length - mm : Nat) : Int) by omega]
      refine z_sll e5 (newF ?_)
      rw [cut_frN (by rw [vds_len]; omega)]
      walk_at "zgo0"
      refine z_ull e5 ?_
      rw [vds_len]
      walk_at "zgo0"
      rw [show (vs.length : Int) - (mm : Int) = ((vs.length - mm : Nat) : Int) by omega]
      refine z_sll e5 ?_
      rw [cut_toM]
      intro a2 M6 h6 e6 f6
      have p6 : Pot p M6 := p5.new f6
      have ha2 : M a2 = none := fresh0 f05 h6 (by simpa using p5.ne h6)
      have f06 := f05.trans (f6.mono fun _ h => nomatch h)
      walk_at "zgo0"
      rw [fld_str]
      refine words_nd (m := mm) sgn_fld p6 (by omega) fun xs M7 hxl hxs hxn p7 f7 => ?_
      have e7 : M7 a2 = some (.lst ((vds vs).take (vs.length - mm))) := f7 _ _ (by simpa using hp.ne ha2) e6
      have f07 := f06.trans f7
      walk_at "zgo0"
      (try unfold W_L_value_2); walk_at "zgo0"
      refine z_ml e7 ?_
      walk_at "zgo0"
      refine z_frzD ?_
      walk_at "zgo0"
      refine z_lz ?_
      walk_at "zgo0"
      refine lz_ok (newF ?_)
      walk_at "zgo0"
      have hin : (vds vs).drop (vs.length - mm) = vds (vs.drop (vs.length - mm)) := by rw [vds_map, vds_map, List.map_drop]
      have hre : (vds vs).take (vs.length - mm) = vds (vs.take (vs.length - mm)) := by rw [vds_map, vds_map, List.map_take]
      have hsp : vs.take (vs.length - mm) ++ vs.drop (vs.length - mm) = vs := List.take_append_drop _ _
      have hil : (vs.drop (vs.length - mm)).length = mm := by rw [List.length_drop]; omega
      have hrl : (vs.take (vs.length - mm)).length = vs.length - mm := by rw [List.length_take]; omega
      rw [hin]
      rw [hre] at e7
      rw [← hsp] at hg hw
      generalize vs.drop (vs.length - mm) = inn at hin hsp hil hg hw ⊢
      generalize vs.take (vs.length - mm) = res at hre hsp hrl hg hw e7 ⊢
      rw [zip_pairs]
      refine ⟨xs.zip (vds inn), rfl, ?_⟩
      intro b M8 hb eb fb
      have lz : (kvS (xs.zip (vds inn))).map (·.1) = xs.map fun k => (Sum.inr k : Key) := by
        unfold kvS
        rw [List.map_map]
        have := congrArg (List.map fun k => (Sum.inr k : Key)) (List.map_fst_zip (l₁ := xs) (l₂ := vds inn) (by rw [vds_len]; omega))
        rw [List.map_map] at this
        exact this
      have lz2 : (kvS (xs.zip (vds inn))).map (·.2) = vds inn := by
        unfold kvS
        rw [List.map_map]
        exact List.map_snd_zip (l₁ := xs) (l₂ := vds inn) (by rw [vds_len]; omega)
      rw [merge_nd (by rw [lz]; exact nodup_inr hxn)] at eb
      refine frzD_new hb eb fb ?_
      rw [lz, lz2]
      walk_at "zgo0"
      obtain ⟨hgr, hgi⟩ := GVs_app.mp hg
      have hwa := wtTs_app res inn
      have step : ∀ w : Vt, GV w → wtT w = 10 + wtTs inn → mAppend (.ref a2) [vd w] M7 fun x m => runFor (fun x => True) (gN 2) W_L_value_5 { nx := fun e m => W_L_value_1 { nx := fun x m => dropQ Q D.non m, rt := dropQ Q } e m, rt := dropQ Q } r [some (.ref p), some (.ref a2), some (.int (0 + (k : Int))), some (.int way), some (.int (mm : Int)), some (.clst (vds inn)), some (.clst (xs.map .str))] m := fun w gw ww => by
        refine z_ap e7 (by rw [vds_len]; omega) fun M9 e9 f9 => ?_
        refine next _ _ ⟨a2, res ++ [w], _, _, _, _, _, rfl, by rw [e9, vds_app]; rfl, ha2, GVs_app.mpr ⟨hgr, gw, trivial⟩, by simp, by rw [List.length_append]; simp only [List.length_cons, List.length_nil]; omega, ?_, p7.fr f9 (by simpa using (hp.ne ha2).symm), fr_a f07 ha2 f9⟩
        rw [wtTs_app]
        show wtTs res + (40 + wtT w + 0) ≤ _
        omega
      refine pick_d (by omega) (by simp only [List.length_cons, List.length_nil]; omega) fun d hd => ?_
      simp only [List.mem_cons, List.not_mem_nil, or_false] at hd
      rcases hd with rfl | rfl
      · walk_at "zgo0"
        exact step (.ls inn) ⟨by omega, hgi⟩ rfl
      · walk_at "zgo0"
        exact step (.ob xs inn) ⟨by omega, by omega, hxn, fun x hx => by have := (hxs x hx).2.1; omega, hgi⟩ rfl
  · obtain ⟨a, vs, b2, b3, b4, b5, b6, rfl, ea, ha0, hg, hne, hl, hw, pM, fM⟩ := hP
    rw [rng_len] at hl hw
    refine ⟨trivial, ?_⟩
    (try unfold W_L_value_1); walk_at "zgo0"
    obtain ⟨vs', x, rfl⟩ : ∃ vs' x, vs = vs' ++ [x] := by
      rcases snocP vs with h | h
      · exact absurd h hne
      · exact h
    refine z_uixl ea (by rw [vds_app]; exact L2.atI_last _ _) ?_
    have hgs := GVs_app.mp hg
    have hx : GV x := hgs.2.1
    have hwx : wtT x ≤ 2900 := by
      rw [wtTs_app] at hw
      have : wtTs [x] = 40 + wtT x + 0 := rfl
      omega
    walk_at "zgo0"
    refine frz_del ea ?_
    have pD : Pot p (MM.del a) := pM.del (hp.ne ha0).symm
    have fD : Fr [p] M (MM.del a) := del_fr ha0 fM
    walk_at "zgo0"
    refine dig pD (by omega) (by omega) fun j M4 j0 j1 p4 f4 => ?_
    refine pick_d j0 j1 fun d hd => ?_
    have f5 := fD.trans f4
    simp only [List.mem_cons, List.not_mem_nil, or_false] at hd
    rcases hd with rfl | rfl
    · exact z_kp (q x M4 hx (by omega) p4 f5)
    · exact z_kp (q (.ls (vs' ++ [x])) M4 ⟨by omega, hg⟩ (by show 10 + wtTs (vs' ++ [x]) ≤ 3000; omega) p4 f5)
theorem frz_vd {v : Vt} (hv : GV v) (h : Q (vd v) M) : frzR (vd v) M Q := by
  cases v with
  | lf d => rcases hv with rfl | ⟨b, rfl⟩ | ⟨i, rfl, hi⟩ | ⟨x, rfl, hx⟩ <;> exact h
  | ls vs => exact h
  | ob ks vs => exact h
theorem deepD_ok {p : Addr} {v : Vt} (hp : Pot p M) (hv : GV v) (hw : wtT v ≤ 3000) (q : ∀ v M', GV v → wtT v ≤ 50000 → Pot p M' → Fr [p] M M' → Q (vd v) M') : W_L_deep [.ref p, vd v] M Q := by
  unfold W_L_deep; refine z_dg [some _, some _, none, none] rfl rfl ?_; walk_at "zgo0"
  refine dig hp (by omega) (by omega) fun n M3 n0 n1 p3 f3 => ?_
  walk_at "zgo0"
  refine dig p3 (by omega) (by omega) fun i M4 i0 i1 p4 f4 => ?_
  refine pick_c (ns := [0, 0, n]) i0 i1 fun m hm => ?_
  have hm0 : 0 ≤ m ∧ m ≤ 101 := by
    simp only [List.mem_cons, List.not_mem_nil, or_false] at hm
    rcases hm with rfl | rfl | rfl <;> omega
  walk_at "zgo0"
  refine z_rngM (by omega) (by omega) ?_
  refine run_for (fun k env MM => ∃ (w : Vt) (b3 : Option D), env = [some (.ref p), some (vd v), some (vd w), b3] ∧ GV w ∧ wtT w ≤ 3000 + 300 * k ∧ Pot p MM ∧ Fr [p] M MM)
    ⟨v, _, rfl, hv, by omega, p4, f3.trans f4⟩ (fun k dd r env MM hdr hP next => ?_) fun env MM hP => ?_
  · obtain ⟨w, b3, rfl, hg, hw, pM, fM⟩ := hP
    obtain ⟨hk, rfl⟩ := rng_at hdr
    refine ⟨trivial, ?_⟩
    (try unfold W_L_deep_2); walk_at "zgo0"
    refine z_frzD ?_
    refine z_dict ?_
    intro b M5 hb eb fb
    walk_at "zgo0"
    refine ⟨eb, [(.inr "a", vd w), (.inr "b", .int (0 + (k : Int)))], rfl, (show 2 ≤ 15 by omega), fun M6 e6 f6 => ?_⟩
    rw [show mergeD [((.inr "a" : Key), vd w), (.inr "b", .int (0 + (k : Int)))] = [(.inr "a", vd w), (.inr "b", .int (0 + (k : Int)))] from rfl] at e6
    refine frzD_new hb e6 (Fr.drop hb fb f6) ?_
    walk_at "zgo0"
    refine dig pM (by omega) (by omega) fun j M7 j0 j1 p7 f7 => ?_
    refine pick_d j0 j1 fun d hd => ?_
    walk_at "zgo0"
    simp only [List.mem_cons, List.not_mem_nil, or_false] at hd
    rcases hd with rfl | rfl | rfl
    · exact next _ _ ⟨.ls [w], _, rfl, ⟨(show 1 ≤ 900 by omega), hg, trivial⟩, by show 10 + (40 + wtT w + 0) ≤ _; omega, p7, fM.trans f7⟩
    · exact next _ _ ⟨.ob ["a", "b"] [w, .lf (.int (0 + (k : Int)))], _, rfl, ⟨rfl, by decide, by decide +kernel, fun x hx => by
        simp only [List.mem_cons, List.not_mem_nil, or_false] at hx
        rcases hx with rfl | rfl <;> decide +kernel, hg, (show GV (.lf _) from .inr (.inr (.inl ⟨_, rfl, by omega⟩))), trivial⟩, by show 10 + (40 + wtT w + (40 + 100 + 0)) ≤ _; omega, p7, fM.trans f7⟩
    · exact next _ _ ⟨.ls [.lf .non, w], _, rfl, ⟨(show 2 ≤ 900 by omega), (show GV (.lf _) from .inl rfl), hg, trivial⟩, by show 10 + (40 + 100 + (40 + wtT w + 0)) ≤ _; omega, p7, fM.trans f7⟩
  · obtain ⟨w, b3, rfl, hg, hw, pM, fM⟩ := hP
    rw [rng_len] at hw
    refine ⟨trivial, ?_⟩
    (try unfold W_L_deep_1); walk_at "zgo0"
    refine frz_vd hg ?_
    exact z_kp (q w MM hg (by omega) pM fM)
end

end L2.Dl.G

namespace L2.Dl.G
open PySem PySem.Spec PyProof.Rows TL TXL Inj
local macro_rules | `(tactic| walk_at "zgo0") => `(tactic| repeat (with_reducible first | (refine z_isWE ?_; first | (refine z_isV ?_; first | refine z_v0 ?_ | refine z_v1 ?_ | refine z_v2 ?_ | refine z_v3 ?_ | refine z_v4 ?_ | refine z_v5 ?_ | refine z_v6 ?_ | refine z_v7 ?_ | refine z_v8 ?_ | refine z_v9 ?_ | refine z_v10 ?_ | refine z_v11 ?_ | refine z_v12 ?_ | refine z_v13 ?_ | refine z_v14 ?_ | refine z_v15 ?_) | refine z_op ?_ | refine z_c ?_ | refine z_call ?_ | refine z_frz ?_ | refine z_tup ?_ | refine z_mta ?_ | refine z_fld ?_ | refine z_lst ?_ | refine z_or ?_ | refine z_and ?_ | refine z_mt ?_ | refine z_callK ?_ | refine z_un ?_ | refine z_not ?_ | refine z_if ?_ | refine z_chain ?_ | refine z_sl ?_ | refine z_lc ?_ | refine z_kin ?_ | refine z_kix ?_ | refine z_kget ?_ | refine z_dict ?_ | refine z_meth ?_ | refine z_make ?_ | refine z_fmt ?_) | (refine z_isWS ?_; first | refine z_seq ?_ | refine z_asg ?_ | refine z_ifs ?_ | refine z_ret ?_ | refine z_drop ?_ | refine z_next ?_ | refine z_frzs ?_ | refine z_retN ?_ | refine z_for ?_ | refine z_par ?_ | refine z_par3 ?_ | refine z_setf ?_ | refine z_break ?_ | refine z_cont ?_) | (refine z_isgN ?_; first | refine z_g0 ?_ | refine z_g1 ?_ | refine z_g2 ?_ | refine z_g3 ?_ | refine z_g4 ?_ | refine z_g5 ?_ | refine z_g6 ?_ | refine z_g7 ?_ | refine z_g8 ?_ | refine z_g9 ?_ | refine z_g10 ?_ | refine z_g11 ?_ | refine z_g12 ?_ | refine z_g13 ?_ | refine z_g14 ?_ | refine z_g15 ?_) | (refine z_isWA ?_; first | refine z_cons ?_ | refine z_nil ?_) | (refine z_isW2 ?_; first | refine z_eqi ?_ | refine z_eqsT ?_ | refine z_eqsF (by decide +kernel) ?_ | refine z_eqs ?_ | refine z_nei ?_ | refine z_nesT ?_ | refine z_nesF (by decide +kernel) ?_ | refine z_nes ?_ | refine z_ut0 ?_ | refine z_ut1 ?_ | refine z_ut2 ?_ | refine z_ut3 ?_ | refine z_uc0 ?_ | refine z_sd0 ?_ | refine z_sd1 ?_ | refine z_le ?_ | refine z_lt ?_ | refine z_gtt ?_ | refine z_ge ?_ | refine z_add ?_ | refine z_sub ?_ | refine z_isn ?_ | refine z_isni ?_ | refine z_isns ?_ | refine z_isnt ?_ | refine z_isnb ?_ | refine z_nn ?_ | refine z_nni ?_ | refine z_nns ?_ | refine z_nnt ?_ | refine z_nnb ?_ | refine z_ix0 ?_ | refine z_ix1 ?_ | refine z_ix2 ?_ | refine z_ix3 ?_ | refine z_p15 ?_ | refine z_p30 ?_ | refine z_p18 ?_ | refine z_uin0 ?_ | refine z_unin0 ?_) | (refine z_isWT ?_; first | refine z_tst ?_ | refine z_tru ?_ | refine z_tand ?_ | refine z_tor ?_ | refine z_tnot ?_ | refine z_yes ?_) | refine z_gc ?_ | refine z_gn ?_ | refine z_gst ?_ | refine z_nop ?_ | refine z_prt ?_ | refine z_prti ?_ | refine z_mstr ?_ | refine z_tb ?_ | refine z_trb ?_ | refine z_trn ?_ | refine z_T ?_ | refine z_F ?_ | refine z_NF ?_ | refine z_NT ?_ | refine z_neg ?_ | refine z_slt ?_ | refine z_its ?_ | refine z_rng1 ?_ | refine z_starts ?_ | refine z_kins ?_ | refine z_kgets ?_ | refine z_js ?_ | refine z_jsn ?_ | refine z_wpc ?_ | refine z_wpn ?_ | refine z_ita ?_ | refine z_ant ?_ | refine z_anc ?_ | refine z_slc ?_ | refine z_gsd ?_ | (refine z_isF ?_; first | refine z_fn ?_ | refine z_fb ?_ | refine z_fi ?_ | refine z_fs ?_ | refine z_ft ?_ | refine z_fc ?_ | refine z_fsd ?_) | (refine z_isWC ?_; first | (refine z_isI ?_; first | refine z_is_non_str ?_ | refine z_is_non_int ?_ | refine z_is_non_bool ?_ | refine z_is_non_tuple ?_ | refine z_is_non_list ?_ | refine z_is_non_dict ?_ | refine z_is_bl_str ?_ | refine z_is_bl_int ?_ | refine z_is_bl_bool ?_ | refine z_is_bl_tuple ?_ | refine z_is_bl_list ?_ | refine z_is_bl_dict ?_ | refine z_is_int_str ?_ | refine z_is_int_int ?_ | refine z_is_int_bool ?_ | refine z_is_int_tuple ?_ | refine z_is_int_list ?_ | refine z_is_int_dict ?_ | refine z_is_str_str ?_ | refine z_is_str_int ?_ | refine z_is_str_bool ?_ | refine z_is_str_tuple ?_ | refine z_is_str_list ?_ | refine z_is_str_dict ?_ | refine z_is_tup_str ?_ | refine z_is_tup_int ?_ | refine z_is_tup_bool ?_ | refine z_is_tup_tuple ?_ | refine z_is_tup_list ?_ | refine z_is_tup_dict ?_ | refine z_isd ?_) | refine z_lent ?_ | refine z_lenc ?_ | refine z_ult ?_ | refine z_ulc ?_ | refine z_inb ?_ | refine z_min ?_ | refine z_max ?_ | refine z_abs ?_ | refine z_strs ?_) | refine z_gt (by with_unfolding_all rfl) ?_ | refine z_sz (by with_unfolding_all rfl) ?_ | refine z_bind (by with_unfolding_all rfl) (by with_unfolding_all rfl) ?_ | refine newF ?_ | exact z_enc ?_))
variable [Tb]
/-! ### a dict turned round -/
section
def tuV : Vt → Vt
  | .ob ks vs => .ob ks.reverse vs.reverse
  | v => v
theorem lk_rev {ks : List Str} {vs : List Vt} {k : Str} (h : ks.length = vs.length) (nd : ks.Nodup) (hk : k ∈ ks) : lkV k ks.reverse vs.reverse = lkV k ks vs := by
  obtain ⟨i, hi⟩ := List.getElem?_of_mem hk
  have hl := (List.getElem?_eq_some_iff.mp hi).1
  have hv : vs[i]? = some vs[i] := List.getElem?_eq_getElem (by omega)
  rw [lkV_at nd hi hv]
  refine lkV_at (i := ks.length - 1 - i) ((List.reverse_perm _).nodup_iff.mpr nd) ?_ ?_
  · rw [List.getElem?_reverse (by omega), show ks.length - 1 - (ks.length - 1 - i) = i by omega]; exact hi
  · rw [List.getElem?_reverse (by omega), show vs.length - 1 - (ks.length - 1 - i) = i by omega]; exact hv
theorem tu_tx {v : Vt} (h : GV v) : txV (tuV v) = txV v := by
  cases v with
  | lf d => rfl
  | ls vs => rfl
  | ob ks vs =>
    obtain ⟨h1, h2, h3, h4, h5⟩ := h
    show txV (.ob ks.reverse vs.reverse) = _
    rw [txV, txV, srt_rev]
    congr 3
    refine List.map_congr_left fun k hk => ?_
    have hk := srt_mem hk
    rw [lkL_tx h1 hk, lkL_tx (by rw [List.length_reverse, List.length_reverse, h1]) (List.mem_reverse.mpr hk), lk_rev h1 h3 hk]
theorem tu_G {v : Vt} (h : GV v) : GV (tuV v) := by
  cases v with
  | lf d => exact h
  | ls vs => exact h
  | ob ks vs =>
    obtain ⟨h1, h2, h3, h4, h5⟩ := h
    exact ⟨by rw [List.length_reverse, List.length_reverse, h1], by rw [List.length_reverse]; exact h2, (List.reverse_perm _).nodup_iff.mpr h3, fun k hk => h4 k (List.mem_reverse.mp hk), GVs_iff.mpr fun x hx => GVs_iff.mp h5 x (List.mem_reverse.mp hx)⟩
theorem tu_wt (v : Vt) : wtT (tuV v) = wtT v := by
  cases v with
  | lf d => rfl
  | ls vs => rfl
  | ob ks vs =>
    show 10 + wtTs vs.reverse = 10 + wtTs vs
    rw [wtTs_sum, wtTs_sum, List.map_reverse, List.Perm.sum_nat (List.reverse_perm _)]
end
section
variable {M : Mp} {Q : DQ}
def revQ (ws : WE) (env : Ev) (d : D) (M1 : Mp) (Q : DQ) : Prop := ws env M1 fun y M2 => y = .int (-1) ∧ ∃ ds, lstOf d M2 = some ds ∧ New M2 (.lst ds.reverse) fun p M3 => Q (.ref p) M3
theorem z_revw {we ws : WE} {env : Ev} (h : we env M fun d M1 => revQ ws env d M1 Q) : wRev we ws env M Q := h
theorem rev_ok {env : Ev} {ds : List D} (h : New M (.lst ds.reverse) fun p M3 => Q (.ref p) M3) : revQ (wUn bNeg (wC (.int 1))) env (.clst ds) M Q := ⟨rfl, ds, rfl, h⟩
theorem turned_ok {v : Vt} (h : GV v) (q : Q (vd (tuV v)) M) : W_L_turned [vd v] M Q := by
  cases v with
  | lf d =>
    have ht : ∃ t, tyV d M = some t ∧ kitB t "dict" = some false := by
      rcases h with rfl | ⟨b, rfl⟩ | ⟨i, rfl, hi⟩ | ⟨x, rfl, hx⟩
      · exact ⟨_, rfl, by decide +kernel⟩
      · exact ⟨_, rfl, by decide +kernel⟩
      · exact ⟨_, rfl, by decide +kernel⟩
      · exact ⟨_, rfl, by decide +kernel⟩
    obtain ⟨t, h1, h2⟩ := ht
    show W_L_turned [d] M Q
    unfold W_L_turned; refine z_dg [some _, none, none] rfl rfl ?_; walk_at "zgo0"
    refine z_isiV h1 h2 ?_
    walk_at "zgo0"
    refine frz_vd (v := .lf d) h ?_
    exact z_kp q
  | ls vs =>
    show W_L_turned [.clst (vds vs)] M Q
    unfold W_L_turned; refine z_dg [some _, none, none] rfl rfl ?_; walk_at "zgo0"
    refine z_isiV (t := "list") (b := false) rfl (by decide +kernel) ?_
    walk_at "zgo0"
    exact z_kp q
  | ob ks vs =>
    obtain ⟨h1, h2, h3, h4, h5⟩ := h
    show W_L_turned [.cdic (ks.map Sum.inr) (vds vs)] M Q
    unfold W_L_turned; refine z_dg [some _, none, none] rfl rfl ?_; walk_at "zgo0"
    refine z_isiV (t := "dict") (b := true) rfl (by decide +kernel) ?_
    walk_at "zgo0"
    refine .inl fun a M1 ha ea fa => ?_
    walk_at "zgo0"
    refine z_revw ?_
    walk_at "zgo0"
    refine newF ?_
    walk_at "zgo0"
    refine rev_ok (newF ?_)
    walk_at "zgo0"
    rw [show (List.map keyV (ks.map Sum.inr)).reverse = ks.reverse.map D.str by rw [List.map_map, ← List.map_reverse]; rfl]
    have hrl : ks.reverse.length = vs.reverse.length := by rw [List.length_reverse, List.length_reverse, h1]
    have nr : ks.reverse.Nodup := (List.reverse_perm _).nodup_iff.mpr h3
    have z1 : ((ks.reverse.map fun k => (Sum.inr k : Key)).zip (vds vs.reverse)).map (·.1) = ks.reverse.map Sum.inr := List.map_fst_zip (by rw [List.length_map, vds_len]; omega)
    have z2 : ((ks.reverse.map fun k => (Sum.inr k : Key)).zip (vds vs.reverse)).map (·.2) = vds vs.reverse := List.map_snd_zip (by rw [List.length_map, vds_len]; omega)
    have zl : ((ks.reverse.map fun k => (Sum.inr k : Key)).zip (vds vs.reverse)).length = ks.length := by rw [List.length_zip, List.length_map, vds_len, List.length_reverse, List.length_reverse]; omega
    have zat : ∀ {k : Nat} {x : Str}, ks.reverse[k]? = some x → ((ks.reverse.map fun k => (Sum.inr k : Key)).zip (vds vs.reverse))[k]? = some (.inr x, vd (lkV x ks vs)) := fun {k x} hx => by
      have hkl := (List.getElem?_eq_some_iff.mp hx).1
      have hv : vs.reverse[k]? = some (vs.reverse[k]'(by omega)) := List.getElem?_eq_getElem (by omega)
      have e := lkV_at nr hx hv
      rw [lk_rev h1 h3 (List.mem_reverse.mp (List.mem_of_getElem? hx))] at e
      rw [List.getElem?_zip_eq_some]
      refine ⟨by rw [List.getElem?_map, hx]; rfl, ?_⟩
      show (vds vs.reverse)[k]? = some (vd (lkV x ks vs))
      rw [vds_map, List.getElem?_map, hv, e]; rfl
    generalize (ks.reverse.map fun k => (Sum.inr k : Key)).zip (vds vs.reverse) = kvs at z1 z2 zl zat
    refine run_for (fun k env MM => ∃ b2, env = [some (.cdic (ks.map Sum.inr) (vds vs)), some (.ref a), b2] ∧ MM a = some (.dK (kvs.take k)) ∧ Fr [a] M1 MM) ⟨_, rfl, by rw [List.take_zero]; exact ea, .refl⟩ (fun k dd r env MM hdr hP next => ?_) fun env MM hP => ?_
    · obtain ⟨b2, rfl, e1, f1⟩ := hP
      have hk : (ks.reverse.map D.str)[k]? = some dd := by
        have := congrArg (fun z => z[0]?) hdr
        simpa using this
      rw [List.getElem?_map] at hk
      obtain ⟨x, hx, rfl⟩ := Option.map_eq_some_iff.mp hk
      have hxk : x ∈ ks := List.mem_reverse.mp (List.mem_of_getElem? hx)
      have hkv := zat hx
      have hkl : k < kvs.length := (List.getElem?_eq_some_iff.mp hkv).1
      refine ⟨trivial, ?_⟩
      (try unfold W_L_turned_2); walk_at "zgo0"
      refine z_ixCg rfl (lkV_val h1 hxk) ?_
      walk_at "zgo0"
      refine z_ustK e1 rfl (Nat.lt_of_le_of_lt (by rw [List.length_take]; omega : (kvs.take k).length ≤ 60) (by decide)) fun M2 e2 f2 => ?_
      rw [putD_new (fun p hp he => ?_), ← take_s hkv] at e2
      · walk_at "zgo0"
        exact next _ _ ⟨_, rfl, e2, f1.trans f2⟩
      · have m1 : p.1 ∈ (ks.reverse.take k).map fun k => (Sum.inr k : Key) := by
          rw [List.map_take, show (ks.reverse.map fun k => (Sum.inr k : Key)) = kvs.map (·.1) from z1.symm, ← List.map_take]
          exact List.mem_map.mpr ⟨p, hp, rfl⟩
        obtain ⟨y, hy, ey⟩ := List.mem_map.mp m1
        rw [he] at ey
        have hxy : y = x := by injection ey
        have nd1 : (ks.reverse.take (k + 1)).Nodup := nr.sublist (List.take_sublist _ _)
        rw [take_s hx] at nd1
        exact (List.nodup_append.mp nd1).2.2 y hy x (List.mem_singleton_self _) hxy
    · obtain ⟨b2, rfl, e1, f1⟩ := hP
      refine ⟨trivial, ?_⟩
      rw [List.length_map, List.length_reverse, List.take_of_length_le (by omega)] at e1
      (try unfold W_L_turned_1); walk_at "zgo0"
      refine frzD_new ha e1 (Fr.drop ha fa f1) ?_
      rw [z1, z2]
      exact z_kp q
end

end L2.Dl.G

namespace L2.Dl.G
open PySem PySem.Spec PyProof.Rows TL TXL Inj
local macro_rules | `(tactic| walk_at "zgo0") => `(tactic| repeat (with_reducible first | (refine z_isWE ?_; first | (refine z_isV ?_; first | refine z_v0 ?_ | refine z_v1 ?_ | refine z_v2 ?_ | refine z_v3 ?_ | refine z_v4 ?_ | refine z_v5 ?_ | refine z_v6 ?_ | refine z_v7 ?_ | refine z_v8 ?_ | refine z_v9 ?_ | refine z_v10 ?_ | refine z_v11 ?_ | refine z_v12 ?_ | refine z_v13 ?_ | refine z_v14 ?_ | refine z_v15 ?_) | refine z_op ?_ | refine z_c ?_ | refine z_call ?_ | refine z_frz ?_ | refine z_tup ?_ | refine z_mta ?_ | refine z_fld ?_ | refine z_lst ?_ | refine z_or ?_ | refine z_and ?_ | refine z_mt ?_ | refine z_callK ?_ | refine z_un ?_ | refine z_not ?_ | refine z_if ?_ | refine z_chain ?_ | refine z_sl ?_ | refine z_lc ?_ | refine z_kin ?_ | refine z_kix ?_ | refine z_kget ?_ | refine z_dict ?_ | refine z_meth ?_ | refine z_make ?_ | refine z_fmt ?_) | (refine z_isWS ?_; first | refine z_seq ?_ | refine z_asg ?_ | refine z_ifs ?_ | refine z_ret ?_ | refine z_drop ?_ | refine z_next ?_ | refine z_frzs ?_ | refine z_retN ?_ | refine z_for ?_ | refine z_par ?_ | refine z_par3 ?_ | refine z_setf ?_ | refine z_break ?_ | refine z_cont ?_) | (refine z_isgN ?_; first | refine z_g0 ?_ | refine z_g1 ?_ | refine z_g2 ?_ | refine z_g3 ?_ | refine z_g4 ?_ | refine z_g5 ?_ | refine z_g6 ?_ | refine z_g7 ?_ | refine z_g8 ?_ | refine z_g9 ?_ | refine z_g10 ?_ | refine z_g11 ?_ | refine z_g12 ?_ | refine z_g13 ?_ | refine z_g14 ?_ | refine z_g15 ?_) | (refine z_isWA ?_; first | refine z_cons ?_ | refine z_nil ?_) | (refine z_isW2 ?_; first | refine z_eqi ?_ | refine z_eqsT ?_ | refine z_eqsF (by decide +kernel) ?_ | refine z_eqs ?_ | refine z_nei ?_ | refine z_nesT ?_ | refine z_nesF (by decide +kernel) ?_ | refine z_nes ?_ | refine z_ut0 ?_ | refine z_ut1 ?_ | refine z_ut2 ?_ | refine z_ut3 ?_ | refine z_uc0 ?_ | refine z_sd0 ?_ | refine z_sd1 ?_ | refine z_le ?_ | refine z_lt ?_ | refine z_gtt ?_ | refine z_ge ?_ | refine z_add ?_ | refine z_sub ?_ | refine z_isn ?_ | refine z_isni ?_ | refine z_isns ?_ | refine z_isnt ?_ | refine z_isnb ?_ | refine z_nn ?_ | refine z_nni ?_ | refine z_nns ?_ | refine z_nnt ?_ | refine z_nnb ?_ | refine z_ix0 ?_ | refine z_ix1 ?_ | refine z_ix2 ?_ | refine z_ix3 ?_ | refine z_p15 ?_ | refine z_p30 ?_ | refine z_p18 ?_ | refine z_uin0 ?_ | refine z_unin0 ?_) | (refine z_isWT ?_; first | refine z_tst ?_ | refine z_tru ?_ | refine z_tand ?_ | refine z_tor ?_ | refine z_tnot ?_ | refine z_yes ?_) | refine z_gc ?_ | refine z_gn ?_ | refine z_gst ?_ | refine z_nop ?_ | refine z_prt ?_ | refine z_prti ?_ | refine z_mstr ?_ | refine z_tb ?_ | refine z_trb ?_ | refine z_trn ?_ | refine z_T ?_ | refine z_F ?_ | refine z_NF ?_ | refine z_NT ?_ | refine z_neg ?_ | refine z_slt ?_ | refine z_its ?_ | refine z_rng1 ?_ | refine z_starts ?_ | refine z_kins ?_ | refine z_kgets ?_ | refine z_js ?_ | refine z_jsn ?_ | refine z_wpc ?_ | refine z_wpn ?_ | refine z_ita ?_ | refine z_ant ?_ | refine z_anc ?_ | refine z_slc ?_ | refine z_gsd ?_ | (refine z_isF ?_; first | refine z_fn ?_ | refine z_fb ?_ | refine z_fi ?_ | refine z_fs ?_ | refine z_ft ?_ | refine z_fc ?_ | refine z_fsd ?_) | (refine z_isWC ?_; first | (refine z_isI ?_; first | refine z_is_non_str ?_ | refine z_is_non_int ?_ | refine z_is_non_bool ?_ | refine z_is_non_tuple ?_ | refine z_is_non_list ?_ | refine z_is_non_dict ?_ | refine z_is_bl_str ?_ | refine z_is_bl_int ?_ | refine z_is_bl_bool ?_ | refine z_is_bl_tuple ?_ | refine z_is_bl_list ?_ | refine z_is_bl_dict ?_ | refine z_is_int_str ?_ | refine z_is_int_int ?_ | refine z_is_int_bool ?_ | refine z_is_int_tuple ?_ | refine z_is_int_list ?_ | refine z_is_int_dict ?_ | refine z_is_str_str ?_ | refine z_is_str_int ?_ | refine z_is_str_bool ?_ | refine z_is_str_tuple ?_ | refine z_is_str_list ?_ | refine z_is_str_dict ?_ | refine z_is_tup_str ?_ | refine z_is_tup_int ?_ | refine z_is_tup_bool ?_ | refine z_is_tup_tuple ?_ | refine z_is_tup_list ?_ | refine z_is_tup_dict ?_ | refine z_isd ?_) | refine z_lent ?_ | refine z_lenc ?_ | refine z_ult ?_ | refine z_ulc ?_ | refine z_inb ?_ | refine z_min ?_ | refine z_max ?_ | refine z_abs ?_ | refine z_strs ?_) | refine z_gt (by with_unfolding_all rfl) ?_ | refine z_sz (by with_unfolding_all rfl) ?_ | refine z_bind (by with_unfolding_all rfl) (by with_unfolding_all rfl) ?_ | refine newF ?_ | exact z_enc ?_))
variable [Tb]
section
variable {M : Mp} {Q : DQ}
theorem tx_obj : ofL (txV (.ob [] [])) = (("{}" : String) : Str) := by
  have e : srt [] = [] := srt_eq (.refl _) rfl
  rw [txV, e]
  exact ext_tl (by rw [tl_ofL]; decide +kernel)
theorem tx_lst : ofL (txV (.ls [])) = (("[]" : String) : Str) := by
  rw [txV, txVs]
  exact ext_tl (by rw [tl_ofL]; decide +kernel)
theorem tx_str : ofL (txV (.lf (.str ""))) = (("\"\"" : String) : Str) := by
  rw [txV]
  exact ext_tl (by rw [tl_ofL]; decide +kernel)
end
theorem law_holds (ns : List Int) (hn : ns.length ≤ 63) (hbits : ∀ z ∈ ns, Builtin.Int.intBits z ≤ 1048576) : W_law [.clst (ns.map .int)] (fun _ => none) fun v _ => v = .bl true := by
  unfold W_law; refine z_dg [some _, none, none, none, none, none] rfl rfl ?_; walk_at "zgo0"
  rw [List.length_map]
  generalize hmm : (if (if (ns.length : Int) < 8 then (ns.length : Int) else 8) > 1 then (if (ns.length : Int) < 8 then (ns.length : Int) else 8) else 1) = many
  have hmany : 1 ≤ many ∧ many ≤ 8 := by subst hmm; split <;> split <;> omega
  refine z_rngM (by omega) (by omega) ?_
  refine run_for (fun k env MM => ∃ (b1 b2 b3 b4 b5 : Option D), env = [some (.clst (ns.map .int)), b1, b2, b3, b4, b5]) ⟨_, _, _, _, _, rfl⟩ (fun k d r env MM hdr hP next => ?_) fun env MM hP => ?_
  · obtain ⟨b1, b2, b3, b4, b5, rfl⟩ := hP
    obtain ⟨hk, rfl⟩ := rng_at hdr
    refine ⟨trivial, ?_⟩
    (try unfold W_law_7); walk_at "zgo0"
    rw [show (0 : Int) + (k : Int) = (k : Int) by omega]
    refine pot_ok (by omega) fun l M1 hl p1 f1 => ?_
    walk_at "zgo0"
    (try unfold W_law_6); walk_at "zgo0"
    refine valueD_ok p1 fun v M2 hv hw p2 f2 => ?_
    walk_at "zgo0"
    refine deepD_ok p2 hv hw fun v M3 hv hw p3 f3 => ?_
    walk_at "zgo0"
    (try unfold W_law_5); walk_at "zgo0"
    refine ltext_ok hv (by omega) ?_
    walk_at "zgo0"
    (try unfold W_law_4); walk_at "zgo0"
    refine vtext_ok hv (by omega) ?_
    walk_at "zgo0"
    (try unfold W_law_3); walk_at "zgo0"
    refine z_isiV (t := "str") (b := true) rfl (by decide +kernel) ?_
    walk_at "zgo0"
    refine ltext_ok hv (by omega) ?_
    walk_at "zgo0"
    (try unfold W_law_2); walk_at "zgo0"
    refine turned_ok hv ?_
    walk_at "zgo0"
    refine vtext_ok (tu_G hv) (by rw [tu_wt]; omega) ?_
    rw [tu_tx hv]
    walk_at "zgo0"
    exact next _ _ ⟨_, _, _, _, _, rfl⟩
  · obtain ⟨b1, b2, b3, b4, b5, rfl⟩ := hP
    refine ⟨trivial, ?_⟩
    (try unfold W_law_1); walk_at "zgo0"
    refine z_frzD ?_
    refine .inl fun a M1 ha ea fa => ?_
    refine frzD_new ha ea fa ?_
    walk_at "zgo0"
    refine vtext_ok (v := .ob [] []) ⟨rfl, by decide, .nil, (fun _ h => nomatch h), trivial⟩ (by decide) ?_
    rw [tx_obj]
    walk_at "zgo0"
    refine vtext_ok (v := .ls []) ⟨by decide, trivial⟩ (by decide) ?_
    rw [tx_lst]
    walk_at "zgo0"
    refine vtext_ok (v := .lf (.str "")) (.inr (.inr (.inr ⟨_, rfl, by decide +kernel⟩))) (by decide) ?_
    rw [tx_str]
    walk_at "zgo0"
    exact z_kp rfl
end L2.Dl.G

set_option pp.maxSteps 200
namespace L2.Dl.G
open PySem PySem.Spec PyProof.Rows
local instance : Tb := ⟨[]⟩
def fx_L_pot {K : PySem.W.Frag} {h : Heap} {mg : Str → Option Value} {f : Addr} {od an : Option Addr} {sl : Array (Option Value)} {oc kV dc pm cd ct : Value} (X : K.In h) (G : h.Ns mainGlobals mg) (a : PySem.W.nsIn K mainGlobals "_law_pot" = some (some (.ref f))) (l : K.lookup f = some ⟨oc, od, .func (PySem.W.fnOf "_law_pot" "_law_pot" (defArgs s_L_pot) (defBody s_L_pot) (defScope s_L_pot) .none kV dc pm an cd ct), sl⟩) (c : PySem.W.codeIn K cd "_law_pot" = true) (k : PySem.W.keepIn K (.ref f) = true) : Fx K mg "_law_pot" s_L_pot := ⟨f, _, .none, kV, cd, (funA_mk (st := s_L_pot) l c k), PySem.W.mg_of X G a⟩
def fx_L_digit {K : PySem.W.Frag} {h : Heap} {mg : Str → Option Value} {f : Addr} {od an : Option Addr} {sl : Array (Option Value)} {oc kV dc pm cd ct : Value} (X : K.In h) (G : h.Ns mainGlobals mg) (a : PySem.W.nsIn K mainGlobals "_law_digit" = some (some (.ref f))) (l : K.lookup f = some ⟨oc, od, .func (PySem.W.fnOf "_law_digit" "_law_digit" (defArgs s_L_digit) (defBody s_L_digit) (defScope s_L_digit) .none kV dc pm an cd ct), sl⟩) (c : PySem.W.codeIn K cd "_law_digit" = true) (k : PySem.W.keepIn K (.ref f) = true) : Fx K mg "_law_digit" s_L_digit := ⟨f, _, .none, kV, cd, (funA_mk (st := s_L_digit) l c k), PySem.W.mg_of X G a⟩
def fx_L_deep {K : PySem.W.Frag} {h : Heap} {mg : Str → Option Value} {f : Addr} {od an : Option Addr} {sl : Array (Option Value)} {oc kV dc pm cd ct : Value} (X : K.In h) (G : h.Ns mainGlobals mg) (a : PySem.W.nsIn K mainGlobals "_law_deep" = some (some (.ref f))) (l : K.lookup f = some ⟨oc, od, .func (PySem.W.fnOf "_law_deep" "_law_deep" (defArgs s_L_deep) (defBody s_L_deep) (defScope s_L_deep) .none kV dc pm an cd ct), sl⟩) (c : PySem.W.codeIn K cd "_law_deep" = true) (k : PySem.W.keepIn K (.ref f) = true) : Fx K mg "_law_deep" s_L_deep := ⟨f, _, .none, kV, cd, (funA_mk (st := s_L_deep) l c k), PySem.W.mg_of X G a⟩
def fx_L_quoted {K : PySem.W.Frag} {h : Heap} {mg : Str → Option Value} {f : Addr} {od an : Option Addr} {sl : Array (Option Value)} {oc kV dc pm cd ct : Value} (X : K.In h) (G : h.Ns mainGlobals mg) (a : PySem.W.nsIn K mainGlobals "_law_quoted" = some (some (.ref f))) (l : K.lookup f = some ⟨oc, od, .func (PySem.W.fnOf "_law_quoted" "_law_quoted" (defArgs s_L_quoted) (defBody s_L_quoted) (defScope s_L_quoted) .none kV dc pm an cd ct), sl⟩) (c : PySem.W.codeIn K cd "_law_quoted" = true) (k : PySem.W.keepIn K (.ref f) = true) : Fx K mg "_law_quoted" s_L_quoted := ⟨f, _, .none, kV, cd, (funA_mk (st := s_L_quoted) l c k), PySem.W.mg_of X G a⟩
def fx_L_plain_text {K : PySem.W.Frag} {h : Heap} {mg : Str → Option Value} {f : Addr} {od an : Option Addr} {sl : Array (Option Value)} {oc kV dc pm cd ct : Value} (X : K.In h) (G : h.Ns mainGlobals mg) (a : PySem.W.nsIn K mainGlobals "_law_plain_text" = some (some (.ref f))) (l : K.lookup f = some ⟨oc, od, .func (PySem.W.fnOf "_law_plain_text" "_law_plain_text" (defArgs s_L_plain_text) (defBody s_L_plain_text) (defScope s_L_plain_text) .none kV dc pm an cd ct), sl⟩) (c : PySem.W.codeIn K cd "_law_plain_text" = true) (k : PySem.W.keepIn K (.ref f) = true) : Fx K mg "_law_plain_text" s_L_plain_text := ⟨f, _, .none, kV, cd, (funA_mk (st := s_L_plain_text) l c k), PySem.W.mg_of X G a⟩
def fx_L_opened {K : PySem.W.Frag} {h : Heap} {mg : Str → Option Value} {f : Addr} {od an : Option Addr} {sl : Array (Option Value)} {oc kV dc pm cd ct : Value} (X : K.In h) (G : h.Ns mainGlobals mg) (a : PySem.W.nsIn K mainGlobals "_law_opened" = some (some (.ref f))) (l : K.lookup f = some ⟨oc, od, .func (PySem.W.fnOf "_law_opened" "_law_opened" (defArgs s_L_opened) (defBody s_L_opened) (defScope s_L_opened) .none kV dc pm an cd ct), sl⟩) (c : PySem.W.codeIn K cd "_law_opened" = true) (k : PySem.W.keepIn K (.ref f) = true) : Fx K mg "_law_opened" s_L_opened := ⟨f, _, .none, kV, cd, (funA_mk (st := s_L_opened) l c k), PySem.W.mg_of X G a⟩
def fx_L_text {K : PySem.W.Frag} {h : Heap} {mg : Str → Option Value} {f : Addr} {od an : Option Addr} {sl : Array (Option Value)} {oc kV dc pm cd ct : Value} (X : K.In h) (G : h.Ns mainGlobals mg) (a : PySem.W.nsIn K mainGlobals "_law_text" = some (some (.ref f))) (l : K.lookup f = some ⟨oc, od, .func (PySem.W.fnOf "_law_text" "_law_text" (defArgs s_L_text) (defBody s_L_text) (defScope s_L_text) .none kV dc pm an cd ct), sl⟩) (c : PySem.W.codeIn K cd "_law_text" = true) (k : PySem.W.keepIn K (.ref f) = true) : Fx K mg "_law_text" s_L_text := ⟨f, _, .none, kV, cd, (funA_mk (st := s_L_text) l c k), PySem.W.mg_of X G a⟩
def fx_quoted {K : PySem.W.Frag} {h : Heap} {mg : Str → Option Value} {f : Addr} {od an : Option Addr} {sl : Array (Option Value)} {oc kV dc pm cd ct : Value} (X : K.In h) (G : h.Ns mainGlobals mg) (a : PySem.W.nsIn K mainGlobals "quoted" = some (some (.ref f))) (l : K.lookup f = some ⟨oc, od, .func (PySem.W.fnOf "quoted" "quoted" (defArgs s_quoted) (defBody s_quoted) (defScope s_quoted) .none kV dc pm an cd ct), sl⟩) (c : PySem.W.codeIn K cd "quoted" = true) (k : PySem.W.keepIn K (.ref f) = true) : Fx K mg "quoted" s_quoted := ⟨f, _, .none, kV, cd, (funA_mk (st := s_quoted) l c k), PySem.W.mg_of X G a⟩
def fx_plain_text {K : PySem.W.Frag} {h : Heap} {mg : Str → Option Value} {f : Addr} {od an : Option Addr} {sl : Array (Option Value)} {oc kV dc pm cd ct : Value} (X : K.In h) (G : h.Ns mainGlobals mg) (a : PySem.W.nsIn K mainGlobals "plain_text" = some (some (.ref f))) (l : K.lookup f = some ⟨oc, od, .func (PySem.W.fnOf "plain_text" "plain_text" (defArgs s_plain_text) (defBody s_plain_text) (defScope s_plain_text) .none kV dc pm an cd ct), sl⟩) (c : PySem.W.codeIn K cd "plain_text" = true) (k : PySem.W.keepIn K (.ref f) = true) : Fx K mg "plain_text" s_plain_text := ⟨f, _, .none, kV, cd, (funA_mk (st := s_plain_text) l c k), PySem.W.mg_of X G a⟩
def fx_pieces_of {K : PySem.W.Frag} {h : Heap} {mg : Str → Option Value} {f : Addr} {od an : Option Addr} {sl : Array (Option Value)} {oc kV dc pm cd ct : Value} (X : K.In h) (G : h.Ns mainGlobals mg) (a : PySem.W.nsIn K mainGlobals "pieces_of" = some (some (.ref f))) (l : K.lookup f = some ⟨oc, od, .func (PySem.W.fnOf "pieces_of" "pieces_of" (defArgs s_pieces_of) (defBody s_pieces_of) (defScope s_pieces_of) .none kV dc pm an cd ct), sl⟩) (c : PySem.W.codeIn K cd "pieces_of" = true) (k : PySem.W.keepIn K (.ref f) = true) : Fx K mg "pieces_of" s_pieces_of := ⟨f, _, .none, kV, cd, (funA_mk (st := s_pieces_of) l c k), PySem.W.mg_of X G a⟩
def fx_value_text {K : PySem.W.Frag} {h : Heap} {mg : Str → Option Value} {f : Addr} {od an : Option Addr} {sl : Array (Option Value)} {oc kV dc pm cd ct : Value} (X : K.In h) (G : h.Ns mainGlobals mg) (a : PySem.W.nsIn K mainGlobals "value_text" = some (some (.ref f))) (l : K.lookup f = some ⟨oc, od, .func (PySem.W.fnOf "value_text" "value_text" (defArgs s_value_text) (defBody s_value_text) (defScope s_value_text) .none kV dc pm an cd ct), sl⟩) (c : PySem.W.codeIn K cd "value_text" = true) (k : PySem.W.keepIn K (.ref f) = true) : Fx K mg "value_text" s_value_text := ⟨f, _, .none, kV, cd, (funA_mk (st := s_value_text) l c k), PySem.W.mg_of X G a⟩
def fx_L_pick {K : PySem.W.Frag} {h : Heap} {mg : Str → Option Value} {f : Addr} {od an : Option Addr} {sl : Array (Option Value)} {oc kV dc pm cd ct : Value} (X : K.In h) (G : h.Ns mainGlobals mg) (a : PySem.W.nsIn K mainGlobals "_law_pick" = some (some (.ref f))) (l : K.lookup f = some ⟨oc, od, .func (PySem.W.fnOf "_law_pick" "_law_pick" (defArgs s_L_pick) (defBody s_L_pick) (defScope s_L_pick) .none kV dc pm an cd ct), sl⟩) (c : PySem.W.codeIn K cd "_law_pick" = true) (k : PySem.W.keepIn K (.ref f) = true) : Fx K mg "_law_pick" s_L_pick := ⟨f, _, .none, kV, cd, (funA_mk (st := s_L_pick) l c k), PySem.W.mg_of X G a⟩
def fx_L_signs {K : PySem.W.Frag} {h : Heap} {mg : Str → Option Value} {f : Addr} {od an : Option Addr} {sl : Array (Option Value)} {oc kV dc pm cd ct : Value} (X : K.In h) (G : h.Ns mainGlobals mg) (a : PySem.W.nsIn K mainGlobals "_law_signs" = some (some (.ref f))) (l : K.lookup f = some ⟨oc, od, .func (PySem.W.fnOf "_law_signs" "_law_signs" (defArgs s_L_signs) (defBody s_L_signs) (defScope s_L_signs) .none kV dc pm an cd ct), sl⟩) (c : PySem.W.codeIn K cd "_law_signs" = true) (k : PySem.W.keepIn K (.ref f) = true) : Fx K mg "_law_signs" s_L_signs := ⟨f, _, .none, kV, cd, (funA_mk (st := s_L_signs) l c k), PySem.W.mg_of X G a⟩
def fx_L_plain {K : PySem.W.Frag} {h : Heap} {mg : Str → Option Value} {f : Addr} {od an : Option Addr} {sl : Array (Option Value)} {oc kV dc pm cd ct : Value} (X : K.In h) (G : h.Ns mainGlobals mg) (a : PySem.W.nsIn K mainGlobals "_law_plain" = some (some (.ref f))) (l : K.lookup f = some ⟨oc, od, .func (PySem.W.fnOf "_law_plain" "_law_plain" (defArgs s_L_plain) (defBody s_L_plain) (defScope s_L_plain) .none kV dc pm an cd ct), sl⟩) (c : PySem.W.codeIn K cd "_law_plain" = true) (k : PySem.W.keepIn K (.ref f) = true) : Fx K mg "_law_plain" s_L_plain := ⟨f, _, .none, kV, cd, (funA_mk (st := s_L_plain) l c k), PySem.W.mg_of X G a⟩
def fx_L_words {K : PySem.W.Frag} {h : Heap} {mg : Str → Option Value} {f : Addr} {od an : Option Addr} {sl : Array (Option Value)} {oc kV dc pm cd ct : Value} (X : K.In h) (G : h.Ns mainGlobals mg) (a : PySem.W.nsIn K mainGlobals "_law_words" = some (some (.ref f))) (l : K.lookup f = some ⟨oc, od, .func (PySem.W.fnOf "_law_words" "_law_words" (defArgs s_L_words) (defBody s_L_words) (defScope s_L_words) .none kV dc pm an cd ct), sl⟩) (c : PySem.W.codeIn K cd "_law_words" = true) (k : PySem.W.keepIn K (.ref f) = true) : Fx K mg "_law_words" s_L_words := ⟨f, _, .none, kV, cd, (funA_mk (st := s_L_words) l c k), PySem.W.mg_of X G a⟩
def fx_L_value {K : PySem.W.Frag} {h : Heap} {mg : Str → Option Value} {f : Addr} {od an : Option Addr} {sl : Array (Option Value)} {oc kV dc pm cd ct : Value} (X : K.In h) (G : h.Ns mainGlobals mg) (a : PySem.W.nsIn K mainGlobals "_law_value" = some (some (.ref f))) (l : K.lookup f = some ⟨oc, od, .func (PySem.W.fnOf "_law_value" "_law_value" (defArgs s_L_value) (defBody s_L_value) (defScope s_L_value) .none kV dc pm an cd ct), sl⟩) (c : PySem.W.codeIn K cd "_law_value" = true) (k : PySem.W.keepIn K (.ref f) = true) : Fx K mg "_law_value" s_L_value := ⟨f, _, .none, kV, cd, (funA_mk (st := s_L_value) l c k), PySem.W.mg_of X G a⟩
def fx_L_turned {K : PySem.W.Frag} {h : Heap} {mg : Str → Option Value} {f : Addr} {od an : Option Addr} {sl : Array (Option Value)} {oc kV dc pm cd ct : Value} (X : K.In h) (G : h.Ns mainGlobals mg) (a : PySem.W.nsIn K mainGlobals "_law_turned" = some (some (.ref f))) (l : K.lookup f = some ⟨oc, od, .func (PySem.W.fnOf "_law_turned" "_law_turned" (defArgs s_L_turned) (defBody s_L_turned) (defScope s_L_turned) .none kV dc pm an cd ct), sl⟩) (c : PySem.W.codeIn K cd "_law_turned" = true) (k : PySem.W.keepIn K (.ref f) = true) : Fx K mg "_law_turned" s_L_turned := ⟨f, _, .none, kV, cd, (funA_mk (st := s_L_turned) l c k), PySem.W.mg_of X G a⟩
def fx_law {K : PySem.W.Frag} {h : Heap} {mg : Str → Option Value} {f : Addr} {od an : Option Addr} {sl : Array (Option Value)} {oc kV dc pm cd ct : Value} (X : K.In h) (G : h.Ns mainGlobals mg) (a : PySem.W.nsIn K mainGlobals "law" = some (some (.ref f))) (l : K.lookup f = some ⟨oc, od, .func (PySem.W.fnOf "law" "law" (defArgs s_law) (defBody s_law) (defScope s_law) .none kV dc pm an cd ct), sl⟩) (c : PySem.W.codeIn K cd "law" = true) (k : PySem.W.keepIn K (.ref f) = true) : Fx K mg "law" s_law := ⟨f, _, .none, kV, cd, (funA_mk (st := s_law) l c k), PySem.W.mg_of X G a⟩
theorem bx_L_deep {K : PySem.W.Frag} {h : Heap} {mg : Str → Option Value} {f : Addr} {od an : Option Addr} {sl : Array (Option Value)} {oc kV dc pm cd ct : Value} (X : K.In h) (G : h.Ns mainGlobals mg) (a : PySem.W.nsIn K mainGlobals "_law_deep" = some (some (.ref f))) (l : K.lookup f = some ⟨oc, od, .func (PySem.W.fnOf "_law_deep" "_law_deep" (defArgs s_L_deep) (defBody s_L_deep) (defScope s_L_deep) .none kV dc pm an cd ct), sl⟩) (c : PySem.W.codeIn K cd "_law_deep" = true) (k : PySem.W.keepIn K (.ref f) = true) : PB K (fx_L_deep X G a l c k).fd ["_law_pot_here", "_law_value_here"] := pb_of (ps := ["_law_pot_here", "_law_value_here"]) (funA_mk (st := s_L_deep) l c k) fun _ _ _ _ _ us hl => match us, hl with | [_, _], _ => rfl
theorem bx_L_digit {K : PySem.W.Frag} {h : Heap} {mg : Str → Option Value} {f : Addr} {od an : Option Addr} {sl : Array (Option Value)} {oc kV dc pm cd ct : Value} (X : K.In h) (G : h.Ns mainGlobals mg) (a : PySem.W.nsIn K mainGlobals "_law_digit" = some (some (.ref f))) (l : K.lookup f = some ⟨oc, od, .func (PySem.W.fnOf "_law_digit" "_law_digit" (defArgs s_L_digit) (defBody s_L_digit) (defScope s_L_digit) .none kV dc pm an cd ct), sl⟩) (c : PySem.W.codeIn K cd "_law_digit" = true) (k : PySem.W.keepIn K (.ref f) = true) : PB K (fx_L_digit X G a l c k).fd ["_law_pot_here", "_law_many"] := pb_of (ps := ["_law_pot_here", "_law_many"]) (funA_mk (st := s_L_digit) l c k) fun _ _ _ _ _ us hl => match us, hl with | [_, _], _ => rfl
theorem bx_L_opened {K : PySem.W.Frag} {h : Heap} {mg : Str → Option Value} {f : Addr} {od an : Option Addr} {sl : Array (Option Value)} {oc kV dc pm cd ct : Value} (X : K.In h) (G : h.Ns mainGlobals mg) (a : PySem.W.nsIn K mainGlobals "_law_opened" = some (some (.ref f))) (l : K.lookup f = some ⟨oc, od, .func (PySem.W.fnOf "_law_opened" "_law_opened" (defArgs s_L_opened) (defBody s_L_opened) (defScope s_L_opened) .none kV dc pm an cd ct), sl⟩) (c : PySem.W.codeIn K cd "_law_opened" = true) (k : PySem.W.keepIn K (.ref f) = true) : PB K (fx_L_opened X G a l c k).fd ["_law_value_here"] := pb_of (ps := ["_law_value_here"]) (funA_mk (st := s_L_opened) l c k) fun _ _ _ _ _ us hl => match us, hl with | [_], _ => rfl
theorem bx_L_pick {K : PySem.W.Frag} {h : Heap} {mg : Str → Option Value} {f : Addr} {od an : Option Addr} {sl : Array (Option Value)} {oc kV dc pm cd ct : Value} (X : K.In h) (G : h.Ns mainGlobals mg) (a : PySem.W.nsIn K mainGlobals "_law_pick" = some (some (.ref f))) (l : K.lookup f = some ⟨oc, od, .func (PySem.W.fnOf "_law_pick" "_law_pick" (defArgs s_L_pick) (defBody s_L_pick) (defScope s_L_pick) .none kV dc pm an cd ct), sl⟩) (c : PySem.W.codeIn K cd "_law_pick" = true) (k : PySem.W.keepIn K (.ref f) = true) : PB K (fx_L_pick X G a l c k).fd ["_law_pot_here", "_law_row"] := pb_of (ps := ["_law_pot_here", "_law_row"]) (funA_mk (st := s_L_pick) l c k) fun _ _ _ _ _ us hl => match us, hl with | [_, _], _ => rfl
theorem bx_L_plain {K : PySem.W.Frag} {h : Heap} {mg : Str → Option Value} {f : Addr} {od an : Option Addr} {sl : Array (Option Value)} {oc kV dc pm cd ct : Value} (X : K.In h) (G : h.Ns mainGlobals mg) (a : PySem.W.nsIn K mainGlobals "_law_plain" = some (some (.ref f))) (l : K.lookup f = some ⟨oc, od, .func (PySem.W.fnOf "_law_plain" "_law_plain" (defArgs s_L_plain) (defBody s_L_plain) (defScope s_L_plain) .none kV dc pm an cd ct), sl⟩) (c : PySem.W.codeIn K cd "_law_plain" = true) (k : PySem.W.keepIn K (.ref f) = true) : PB K (fx_L_plain X G a l c k).fd ["_law_pot_here"] := pb_of (ps := ["_law_pot_here"]) (funA_mk (st := s_L_plain) l c k) fun _ _ _ _ _ us hl => match us, hl with | [_], _ => rfl
theorem bx_L_plain_text {K : PySem.W.Frag} {h : Heap} {mg : Str → Option Value} {f : Addr} {od an : Option Addr} {sl : Array (Option Value)} {oc kV dc pm cd ct : Value} (X : K.In h) (G : h.Ns mainGlobals mg) (a : PySem.W.nsIn K mainGlobals "_law_plain_text" = some (some (.ref f))) (l : K.lookup f = some ⟨oc, od, .func (PySem.W.fnOf "_law_plain_text" "_law_plain_text" (defArgs s_L_plain_text) (defBody s_L_plain_text) (defScope s_L_plain_text) .none kV dc pm an cd ct), sl⟩) (c : PySem.W.codeIn K cd "_law_plain_text" = true) (k : PySem.W.keepIn K (.ref f) = true) : PB K (fx_L_plain_text X G a l c k).fd ["_law_value_here"] := pb_of (ps := ["_law_value_here"]) (funA_mk (st := s_L_plain_text) l c k) fun _ _ _ _ _ us hl => match us, hl with | [_], _ => rfl
theorem bx_L_pot {K : PySem.W.Frag} {h : Heap} {mg : Str → Option Value} {f : Addr} {od an : Option Addr} {sl : Array (Option Value)} {oc kV dc pm cd ct : Value} (X : K.In h) (G : h.Ns mainGlobals mg) (a : PySem.W.nsIn K mainGlobals "_law_pot" = some (some (.ref f))) (l : K.lookup f = some ⟨oc, od, .func (PySem.W.fnOf "_law_pot" "_law_pot" (defArgs s_L_pot) (defBody s_L_pot) (defScope s_L_pot) .none kV dc pm an cd ct), sl⟩) (c : PySem.W.codeIn K cd "_law_pot" = true) (k : PySem.W.keepIn K (.ref f) = true) : PB K (fx_L_pot X G a l c k).fd ["_law_script", "_law_k"] := pb_of (ps := ["_law_script", "_law_k"]) (funA_mk (st := s_L_pot) l c k) fun _ _ _ _ _ us hl => match us, hl with | [_, _], _ => rfl
theorem bx_L_quoted {K : PySem.W.Frag} {h : Heap} {mg : Str → Option Value} {f : Addr} {od an : Option Addr} {sl : Array (Option Value)} {oc kV dc pm cd ct : Value} (X : K.In h) (G : h.Ns mainGlobals mg) (a : PySem.W.nsIn K mainGlobals "_law_quoted" = some (some (.ref f))) (l : K.lookup f = some ⟨oc, od, .func (PySem.W.fnOf "_law_quoted" "_law_quoted" (defArgs s_L_quoted) (defBody s_L_quoted) (defScope s_L_quoted) .none kV dc pm an cd ct), sl⟩) (c : PySem.W.codeIn K cd "_law_quoted" = true) (k : PySem.W.keepIn K (.ref f) = true) : PB K (fx_L_quoted X G a l c k).fd ["_law_text_here"] := pb_of (ps := ["_law_text_here"]) (funA_mk (st := s_L_quoted) l c k) fun _ _ _ _ _ us hl => match us, hl with | [_], _ => rfl
theorem bx_L_signs {K : PySem.W.Frag} {h : Heap} {mg : Str → Option Value} {f : Addr} {od an : Option Addr} {sl : Array (Option Value)} {oc kV dc pm cd ct : Value} (X : K.In h) (G : h.Ns mainGlobals mg) (a : PySem.W.nsIn K mainGlobals "_law_signs" = some (some (.ref f))) (l : K.lookup f = some ⟨oc, od, .func (PySem.W.fnOf "_law_signs" "_law_signs" (defArgs s_L_signs) (defBody s_L_signs) (defScope s_L_signs) .none kV dc pm an cd ct), sl⟩) (c : PySem.W.codeIn K cd "_law_signs" = true) (k : PySem.W.keepIn K (.ref f) = true) : PB K (fx_L_signs X G a l c k).fd [] := pb_of (ps := []) (funA_mk (st := s_L_signs) l c k) fun _ _ _ _ _ us hl => match us, hl with | [], _ => rfl
theorem bx_L_text {K : PySem.W.Frag} {h : Heap} {mg : Str → Option Value} {f : Addr} {od an : Option Addr} {sl : Array (Option Value)} {oc kV dc pm cd ct : Value} (X : K.In h) (G : h.Ns mainGlobals mg) (a : PySem.W.nsIn K mainGlobals "_law_text" = some (some (.ref f))) (l : K.lookup f = some ⟨oc, od, .func (PySem.W.fnOf "_law_text" "_law_text" (defArgs s_L_text) (defBody s_L_text) (defScope s_L_text) .none kV dc pm an cd ct), sl⟩) (c : PySem.W.codeIn K cd "_law_text" = true) (k : PySem.W.keepIn K (.ref f) = true) : PB K (fx_L_text X G a l c k).fd ["_law_value_here"] := pb_of (ps := ["_law_value_here"]) (funA_mk (st := s_L_text) l c k) fun _ _ _ _ _ us hl => match us, hl with | [_], _ => rfl
theorem bx_L_turned {K : PySem.W.Frag} {h : Heap} {mg : Str → Option Value} {f : Addr} {od an : Option Addr} {sl : Array (Option Value)} {oc kV dc pm cd ct : Value} (X : K.In h) (G : h.Ns mainGlobals mg) (a : PySem.W.nsIn K mainGlobals "_law_turned" = some (some (.ref f))) (l : K.lookup f = some ⟨oc, od, .func (PySem.W.fnOf "_law_turned" "_law_turned" (defArgs s_L_turned) (defBody s_L_turned) (defScope s_L_turned) .none kV dc pm an cd ct), sl⟩) (c : PySem.W.codeIn K cd "_law_turned" = true) (k : PySem.W.keepIn K (.ref f) = true) : PB K (fx_L_turned X G a l c k).fd ["_law_value_here"] := pb_of (ps := ["_law_value_here"]) (funA_mk (st := s_L_turned) l c k) fun _ _ _ _ _ us hl => match us, hl with | [_], _ => rfl
theorem bx_L_value {K : PySem.W.Frag} {h : Heap} {mg : Str → Option Value} {f : Addr} {od an : Option Addr} {sl : Array (Option Value)} {oc kV dc pm cd ct : Value} (X : K.In h) (G : h.Ns mainGlobals mg) (a : PySem.W.nsIn K mainGlobals "_law_value" = some (some (.ref f))) (l : K.lookup f = some ⟨oc, od, .func (PySem.W.fnOf "_law_value" "_law_value" (defArgs s_L_value) (defBody s_L_value) (defScope s_L_value) .none kV dc pm an cd ct), sl⟩) (c : PySem.W.codeIn K cd "_law_value" = true) (k : PySem.W.keepIn K (.ref f) = true) : PB K (fx_L_value X G a l c k).fd ["_law_pot_here"] := pb_of (ps := ["_law_pot_here"]) (funA_mk (st := s_L_value) l c k) fun _ _ _ _ _ us hl => match us, hl with | [_], _ => rfl
theorem bx_L_words {K : PySem.W.Frag} {h : Heap} {mg : Str → Option Value} {f : Addr} {od an : Option Addr} {sl : Array (Option Value)} {oc kV dc pm cd ct : Value} (X : K.In h) (G : h.Ns mainGlobals mg) (a : PySem.W.nsIn K mainGlobals "_law_words" = some (some (.ref f))) (l : K.lookup f = some ⟨oc, od, .func (PySem.W.fnOf "_law_words" "_law_words" (defArgs s_L_words) (defBody s_L_words) (defScope s_L_words) .none kV dc pm an cd ct), sl⟩) (c : PySem.W.codeIn K cd "_law_words" = true) (k : PySem.W.keepIn K (.ref f) = true) : PB K (fx_L_words X G a l c k).fd ["_law_pot_here", "_law_many", "_law_signs_here", "_law_most"] := pb_of (ps := ["_law_pot_here", "_law_many", "_law_signs_here", "_law_most"]) (funA_mk (st := s_L_words) l c k) fun _ _ _ _ _ us hl => match us, hl with | [_, _, _, _], _ => rfl
theorem bx_law {K : PySem.W.Frag} {h : Heap} {mg : Str → Option Value} {f : Addr} {od an : Option Addr} {sl : Array (Option Value)} {oc kV dc pm cd ct : Value} (X : K.In h) (G : h.Ns mainGlobals mg) (a : PySem.W.nsIn K mainGlobals "law" = some (some (.ref f))) (l : K.lookup f = some ⟨oc, od, .func (PySem.W.fnOf "law" "law" (defArgs s_law) (defBody s_law) (defScope s_law) .none kV dc pm an cd ct), sl⟩) (c : PySem.W.codeIn K cd "law" = true) (k : PySem.W.keepIn K (.ref f) = true) : PB K (fx_law X G a l c k).fd ["_law_script"] := pb_of (ps := ["_law_script"]) (funA_mk (st := s_law) l c k) fun _ _ _ _ _ us hl => match us, hl with | [_], _ => rfl
theorem bx_pieces_of {K : PySem.W.Frag} {h : Heap} {mg : Str → Option Value} {f : Addr} {od an : Option Addr} {sl : Array (Option Value)} {oc kV dc pm cd ct : Value} (X : K.In h) (G : h.Ns mainGlobals mg) (a : PySem.W.nsIn K mainGlobals "pieces_of" = some (some (.ref f))) (l : K.lookup f = some ⟨oc, od, .func (PySem.W.fnOf "pieces_of" "pieces_of" (defArgs s_pieces_of) (defBody s_pieces_of) (defScope s_pieces_of) .none kV dc pm an cd ct), sl⟩) (c : PySem.W.codeIn K cd "pieces_of" = true) (k : PySem.W.keepIn K (.ref f) = true) : PB K (fx_pieces_of X G a l c k).fd ["value"] := pb_of (ps := ["value"]) (funA_mk (st := s_pieces_of) l c k) fun _ _ _ _ _ us hl => match us, hl with | [_], _ => rfl
theorem bx_plain_text {K : PySem.W.Frag} {h : Heap} {mg : Str → Option Value} {f : Addr} {od an : Option Addr} {sl : Array (Option Value)} {oc kV dc pm cd ct : Value} (X : K.In h) (G : h.Ns mainGlobals mg) (a : PySem.W.nsIn K mainGlobals "plain_text" = some (some (.ref f))) (l : K.lookup f = some ⟨oc, od, .func (PySem.W.fnOf "plain_text" "plain_text" (defArgs s_plain_text) (defBody s_plain_text) (defScope s_plain_text) .none kV dc pm an cd ct), sl⟩) (c : PySem.W.codeIn K cd "plain_text" = true) (k : PySem.W.keepIn K (.ref f) = true) : PB K (fx_plain_text X G a l c k).fd ["value"] := pb_of (ps := ["value"]) (funA_mk (st := s_plain_text) l c k) fun _ _ _ _ _ us hl => match us, hl with | [_], _ => rfl
theorem bx_quoted {K : PySem.W.Frag} {h : Heap} {mg : Str → Option Value} {f : Addr} {od an : Option Addr} {sl : Array (Option Value)} {oc kV dc pm cd ct : Value} (X : K.In h) (G : h.Ns mainGlobals mg) (a : PySem.W.nsIn K mainGlobals "quoted" = some (some (.ref f))) (l : K.lookup f = some ⟨oc, od, .func (PySem.W.fnOf "quoted" "quoted" (defArgs s_quoted) (defBody s_quoted) (defScope s_quoted) .none kV dc pm an cd ct), sl⟩) (c : PySem.W.codeIn K cd "quoted" = true) (k : PySem.W.keepIn K (.ref f) = true) : PB K (fx_quoted X G a l c k).fd ["text"] := pb_of (ps := ["text"]) (funA_mk (st := s_quoted) l c k) fun _ _ _ _ _ us hl => match us, hl with | [_], _ => rfl
theorem bx_value_text {K : PySem.W.Frag} {h : Heap} {mg : Str → Option Value} {f : Addr} {od an : Option Addr} {sl : Array (Option Value)} {oc kV dc pm cd ct : Value} (X : K.In h) (G : h.Ns mainGlobals mg) (a : PySem.W.nsIn K mainGlobals "value_text" = some (some (.ref f))) (l : K.lookup f = some ⟨oc, od, .func (PySem.W.fnOf "value_text" "value_text" (defArgs s_value_text) (defBody s_value_text) (defScope s_value_text) .none kV dc pm an cd ct), sl⟩) (c : PySem.W.codeIn K cd "value_text" = true) (k : PySem.W.keepIn K (.ref f) = true) : PB K (fx_value_text X G a l c k).fd ["value"] := pb_of (ps := ["value"]) (funA_mk (st := s_value_text) l c k) fun _ _ _ _ _ us hl => match us, hl with | [_], _ => rfl
theorem fin_mk {P : Program} {w : World} {K : PySem.W.Frag} {mg : Str → Option Value} {fa : Addr} {h : Heap} (t : @T ⟨[]⟩ w K mg) (hmg : mg "law" = some (.ref fa)) :
    ∃ (fd : FuncData) (ts : List Tbl), PB K fd ["_law_script"] ∧ (∀ t ∈ ts, t.Ok K h) ∧ ∀ base : Heap, (∀ t ∈ ts, LamX.TabB base mg t.c t.P) → @FnG ⟨ts⟩ P w K mg base 6 fa fd ["_law_script"] W_law := by
  have e := hmg.symm.trans (@T.law ⟨[]⟩ w K mg t).g
  cases e
  exact ⟨_, [], @T.b_law ⟨[]⟩ w K mg t, (fun _ h => nomatch h), fun base hB => @ok_law ⟨[]⟩ P w K mg base t hB⟩
end L2.Dl.G
open PySem PySem.W PyProof.Rows
set_option maxHeartbeats 0 in
theorem PySem.Challenge.cw_heardalike_k66_value_texts_holds : PySem.Challenge.rw_heardalike_k66_value_texts.Holds := by
  w_on; o_law; k_head; (case hw => w_witness2)
  k_fill
  letI : L2.Dl.Tb := ⟨[]⟩
  refine L2.Dl.walk_t (l := PySem.Challenge.rw_heardalike_k66_value_texts) (n := 63) (k := 6) (x := "_law_script") (W := L2.Dl.G.W_law) rfl (by decide) rfl ⟨rfl, by decide, by decide⟩ (fun w h Y => PySem.W.kIn_of Y) ?F (@L2.Dl.G.law_holds ⟨[]⟩)
  case F =>
    intro w mg fa h TT Y KX G hmg
    refine' L2.Dl.G.fin_mk  (@L2.Dl.G.T.mk ⟨[]⟩ w _ mg
      (L2.Dl.G.fx_L_pot KX G ?a0 ?l0 ?c0 ?k0)
      (L2.Dl.G.fx_L_digit KX G ?a1 ?l1 ?c1 ?k1)
      (L2.Dl.G.fx_L_deep KX G ?a2 ?l2 ?c2 ?k2)
      (L2.Dl.G.fx_L_quoted KX G ?a3 ?l3 ?c3 ?k3)
      (L2.Dl.G.fx_L_plain_text KX G ?a4 ?l4 ?c4 ?k4)
      (L2.Dl.G.fx_L_opened KX G ?a5 ?l5 ?c5 ?k5)
      (L2.Dl.G.fx_L_text KX G ?a6 ?l6 ?c6 ?k6)
      (L2.Dl.G.fx_quoted KX G ?a7 ?l7 ?c7 ?k7)
      (L2.Dl.G.fx_plain_text KX G ?a8 ?l8 ?c8 ?k8)
      (L2.Dl.G.fx_pieces_of KX G ?a9 ?l9 ?c9 ?k9)
      (L2.Dl.G.fx_value_text KX G ?a10 ?l10 ?c10 ?k10)
      (L2.Dl.G.fx_L_pick KX G ?a11 ?l11 ?c11 ?k11)
      (L2.Dl.G.fx_L_signs KX G ?a12 ?l12 ?c12 ?k12)
      (L2.Dl.G.fx_L_plain KX G ?a13 ?l13 ?c13 ?k13)
      (L2.Dl.G.fx_L_words KX G ?a14 ?l14 ?c14 ?k14)
      (L2.Dl.G.fx_L_value KX G ?a15 ?l15 ?c15 ?k15)
      (L2.Dl.G.fx_L_turned KX G ?a16 ?l16 ?c16 ?k16)
      (L2.Dl.G.fx_law KX G ?a17 ?l17 ?c17 ?k17)
      (L2.Dl.G.bx_L_deep KX G ?a2 ?l2 ?c2 ?k2)
      (L2.Dl.G.bx_L_digit KX G ?a1 ?l1 ?c1 ?k1)
      (L2.Dl.G.bx_L_opened KX G ?a5 ?l5 ?c5 ?k5)
      (L2.Dl.G.bx_L_pick KX G ?a11 ?l11 ?c11 ?k11)
      (L2.Dl.G.bx_L_plain KX G ?a13 ?l13 ?c13 ?k13)
      (L2.Dl.G.bx_L_plain_text KX G ?a4 ?l4 ?c4 ?k4)
      (L2.Dl.G.bx_L_pot KX G ?a0 ?l0 ?c0 ?k0)
      (L2.Dl.G.bx_L_quoted KX G ?a3 ?l3 ?c3 ?k3)
      (L2.Dl.G.bx_L_signs KX G ?a12 ?l12 ?c12 ?k12)
      (L2.Dl.G.bx_L_text KX G ?a6 ?l6 ?c6 ?k6)
      (L2.Dl.G.bx_L_turned KX G ?a16 ?l16 ?c16 ?k16)
      (L2.Dl.G.bx_L_value KX G ?a15 ?l15 ?c15 ?k15)
      (L2.Dl.G.bx_L_words KX G ?a14 ?l14 ?c14 ?k14)
      (L2.Dl.G.bx_pieces_of KX G ?a9 ?l9 ?c9 ?k9)
      (L2.Dl.G.bx_plain_text KX G ?a8 ?l8 ?c8 ?k8)
      (L2.Dl.G.bx_quoted KX G ?a7 ?l7 ?c7 ?k7)
      (L2.Dl.G.bx_value_text KX G ?a10 ?l10 ?c10 ?k10)
      (L2.Dl.G.bx_law KX G ?a17 ?l17 ?c17 ?k17)
      (PySem.W.mg_none_of KX G ?z_abs)
      (PySem.W.mg_none_of KX G ?z_bool)
      (PySem.W.mg_none_of KX G ?z_dict)
      (PySem.W.mg_none_of KX G ?z_divmod)
      (PySem.W.mg_none_of KX G ?z_enumerate)
      (PySem.W.mg_none_of KX G ?z_int)
      (PySem.W.mg_none_of KX G ?z_isinstance)
      (PySem.W.mg_none_of KX G ?z_len)
      (PySem.W.mg_none_of KX G ?z_list)
      (PySem.W.mg_none_of KX G ?z_max)
      (PySem.W.mg_none_of KX G ?z_min)
      (PySem.W.mg_none_of KX G ?z_range)
      (PySem.W.mg_none_of KX G ?z_sorted)
      (PySem.W.mg_none_of KX G ?z_str)
      (PySem.W.mg_none_of KX G ?z_zip)) hmg
    (case a0 => k_is); (case l0 => k_is); (case c0 => k_is); (case k0 => k_is); (case a1 => k_is); (case l1 => k_is); (case c1 => k_is); (case k1 => k_is); (case a2 => k_is); (case l2 => k_is); (case c2 => k_is); (case k2 => k_is); (case a3 => k_is); (case l3 => k_is); (case c3 => k_is); (case k3 => k_is); (case a4 => k_is); (case l4 => k_is); (case c4 => k_is); (case k4 => k_is); (case a5 => k_is); (case l5 => k_is); (case c5 => k_is); (case k5 => k_is); (case a6 => k_is); (case l6 => k_is); (case c6 => k_is); (case k6 => k_is); (case a7 => k_is); (case l7 => k_is); (case c7 => k_is); (case k7 => k_is); (case a8 => k_is); (case l8 => k_is); (case c8 => k_is); (case k8 => k_is); (case a9 => k_is); (case l9 => k_is); (case c9 => k_is); (case k9 => k_is); (case a10 => k_is); (case l10 => k_is); (case c10 => k_is); (case k10 => k_is); (case a11 => k_is); (case l11 => k_is); (case c11 => k_is); (case k11 => k_is); (case a12 => k_is); (case l12 => k_is); (case c12 => k_is); (case k12 => k_is); (case a13 => k_is); (case l13 => k_is); (case c13 => k_is); (case k13 => k_is); (case a14 => k_is); (case l14 => k_is); (case c14 => k_is); (case k14 => k_is); (case a15 => k_is); (case l15 => k_is); (case c15 => k_is); (case k15 => k_is); (case a16 => k_is); (case l16 => k_is); (case c16 => k_is); (case k16 => k_is); (case a17 => k_is); (case l17 => k_is); (case c17 => k_is); (case k17 => k_is); (case z_abs => k_is); (case z_bool => k_is); (case z_dict => k_is); (case z_divmod => k_is); (case z_enumerate => k_is); (case z_int => k_is); (case z_isinstance => k_is); (case z_len => k_is); (case z_list => k_is); (case z_max => k_is); (case z_min => k_is); (case z_range => k_is); (case z_sorted => k_is); (case z_str => k_is); (case z_zip => k_is)
