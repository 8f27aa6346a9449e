import PyProof.Rows.All
import Wide.All
import OpenK.AllK
import Wide.FinOn
import HandS.ForMost
import HandS.Wide
import HandS.IsInst
import HandS.FStr
import HandS.Flow
import HandS.TupAny
import HandS.RaiseMore
import HandS.EndBits
import PyProof.ReprLen
import HandS.Zip
import PyProof.CollectIter
import PyProof.ListRange
import HandS.More
import HandS.Style
import KE.KStrBytes
import HandS.TupMul
import PySem.Challenge.RW_heardalike_k14_whole_edges_of_deeds
set_option Elab.async false
set_option linter.all false
set_option maxRecDepth 100000
/-! DBase: values as trees (tuples are trees), a heap of what may change, and the weakest ends over them, above HandS. -/
namespace L2.Dl
open PySem PySem.Spec PyProof.Rows

inductive D where
  | non | bl (b : Bool) | int (i : Int) | str (x : Str) | tup (ds : List D) | clst (ds : List D) | cdic (ks : List Key) (ds : List D) | ref (a : Addr) | ty (n : String)
inductive MO where
  | lst (ds : List D) | dK (kvs : List (Key × D)) | dT (kvs : List (List Key × D)) | ins (C : Addr) (fs : List (Str × D))
abbrev Mp := Addr → Option MO
def mup (M : Mp) (a : Addr) (o : MO) : Mp := fun b => if b = a then some o else M b
@[simp] theorem mup_same {M : Mp} {a : Addr} {o : MO} : mup M a o a = some o := if_pos rfl
theorem mup_ne {M : Mp} {a b : Addr} {o : MO} (h : b ≠ a) : mup M a o b = M b := if_neg h

/-- all that the map tells stays, but at S -/
def Fr (S : List Addr) (M M' : Mp) : Prop := ∀ a o, a ∉ S → M a = some o → M' a = some o
/-- a new object; an object changed -/
def New (M : Mp) (o : MO) (Q : Addr → Mp → Prop) : Prop := ∀ p M', M p = none → M' p = some o → Fr [] M M' → Q p M'
def Put (M : Mp) (a : Addr) (o : MO) (Q : Mp → Prop) : Prop := ∀ M', M' a = some o → Fr [a] M M' → Q M'
theorem New.at {M : Mp} {o : MO} {Q : Addr → Mp → Prop} {p : Addr} (h : New M o Q) (hp : M p = none) : Q p (mup M p o) := h p _ hp mup_same fun a x _ e => by
  rw [mup_ne (fun z : a = p => by rw [z, hp] at e; cases e)]; exact e
theorem Put.at {M : Mp} {a : Addr} {o : MO} {Q : Mp → Prop} (h : Put M a o Q) : Q (mup M a o) := h _ mup_same fun b x n e => by
  rw [mup_ne (fun z : b = a => n (by rw [z]; exact List.mem_singleton_self a))]; exact e
/-- a tuple: laid by the call, or of the written part -/
def TupAt (K : PySem.W.Frag) (H : Hp) (a : Addr) (vs : List V) : Prop := H a = some (.tup vs) ∨ SqT K (fun _ => none) a vs
def ClsAt (K : PySem.W.Frag) (H : Hp) (a : Addr) (vs : List V) : Prop := (∃ o, H a = some (.frz o (.lst vs))) ∨ SqL K (fun _ => none) a vs
/-- a dict of the written part -/
def DicAt (K : PySem.W.Frag) (a : Addr) (kvs : List (Key × V)) : Prop :=
  ∃ (o : Obj) (es : Array DictEntry) (n : Nat), K.lookup a = some o ∧ o.cls = .type "dict" ∧ o.dict = none ∧ o.data = .dict es n ∧ Paired (fun (p : Key × V) (e : DictEntry) => keyIs p.1 e.key = true ∧ RelV p.2 e.val) kvs es.toList

mutual
def RelD (K : PySem.W.Frag) (H : Hp) : D → V → Prop
  | .non, v => v = V.non
  | .bl b, v => v = V.bl b
  | .int i, v => v = V.int i
  | .str x, v => v = V.str x
  | .tup ds, v => ∃ a vs, v = V.ref a ∧ TupAt K H a vs ∧ RelDs K H ds vs
  | .clst ds, v => ∃ a vs, v = V.ref a ∧ ClsAt K H a vs ∧ RelDs K H ds vs
  | .cdic ks ds, v => ∃ a vs, v = V.ref a ∧ ks.length = ds.length ∧ DicAt K a (ks.zip vs) ∧ RelDs K H ds vs
  | .ref a, v => v = V.ref a
  | .ty n, v => v = V.ty n
def RelDs (K : PySem.W.Frag) (H : Hp) : List D → List V → Prop
  | [], vs => vs = []
  | d :: ds, vs => ∃ v r, vs = v :: r ∧ RelD K H d v ∧ RelDs K H ds r
end

/-- what never changes stays -/
def Keep (H H' : Hp) : Prop := (∀ a xs, H a = some (.tup xs) → H' a = some (.tup xs)) ∧ ∀ a o u, H a = some (.frz o u) → H' a = some (.frz o u)
theorem Keep.refl {H : Hp} : Keep H H := ⟨fun _ _ h => h, fun _ _ _ h => h⟩
theorem Keep.trans {H H1 H2 : Hp} (a : Keep H H1) (b : Keep H1 H2) : Keep H H2 := ⟨fun x xs h => b.1 x xs (a.1 x xs h), fun x o u h => b.2 x o u (a.2 x o u h)⟩
theorem Keep.fresh {H : Hp} {p : Addr} {o : HO} (h : H p = none) : Keep H (upd H p o) :=
  ⟨fun a xs e => by rw [upd_ne (ne_of_none e h)]; exact e, fun a _ u e => by rw [upd_ne (ne_of_none e h)]; exact e⟩
theorem TupAt.keep {K : PySem.W.Frag} {H H' : Hp} {a : Addr} {vs : List V} (k : Keep H H') (h : TupAt K H a vs) : TupAt K H' a vs := h.imp (k.1 a vs) id
theorem ClsAt.keep {K : PySem.W.Frag} {H H' : Hp} {a : Addr} {vs : List V} (k : Keep H H') (h : ClsAt K H a vs) : ClsAt K H' a vs := h.imp (fun ⟨o, e⟩ => ⟨o, k.2 a o _ e⟩) id
theorem sqT_none {K : PySem.W.Frag} {H : Hp} {a : Addr} {vs : List V} (h : SqT K (fun _ => none) a vs) : SqT K H a vs := by
  rcases h with (h | ⟨_, h⟩) | h
  · cases h
  · cases h
  · exact .inr h
theorem sqL_none {K : PySem.W.Frag} {H : Hp} {a : Addr} {vs : List V} (h : SqL K (fun _ => none) a vs) : SqL K H a vs := by
  rcases h with (h | ⟨_, h⟩) | h
  · cases h
  · cases h
  · exact .inr h
theorem TupAt.sq {K : PySem.W.Frag} {H : Hp} {a : Addr} {vs : List V} (h : TupAt K H a vs) : SqT K H a vs := h.elim SqT.of sqT_none
theorem ClsAt.sq {K : PySem.W.Frag} {H : Hp} {a : Addr} {vs : List V} (h : ClsAt K H a vs) : SqL K H a vs := h.elim (fun ⟨o, e⟩ => .inl (.inr ⟨o, e⟩)) sqL_none

mutual
theorem RelD.keep {K : PySem.W.Frag} {H H' : Hp} (k : Keep H H') : ∀ {d : D} {v : V}, RelD K H d v → RelD K H' d v
  | .non, _, h => h
  | .bl _, _, h => h
  | .int _, _, h => h
  | .str _, _, h => h
  | .tup ds, _, h => by
    unfold RelD at h ⊢
    obtain ⟨a, vs, e, t, r⟩ := h
    exact ⟨a, vs, e, t.keep k, RelDs.keep k r⟩
  | .clst ds, _, h => by
    unfold RelD at h ⊢
    obtain ⟨a, vs, e, t, r⟩ := h
    exact ⟨a, vs, e, t.keep k, RelDs.keep k r⟩
  | .cdic ks ds, _, h => by
    unfold RelD at h ⊢
    obtain ⟨a, vs, e, l, t, r⟩ := h
    exact ⟨a, vs, e, l, t, RelDs.keep k r⟩
  | .ref _, _, h => h
  | .ty _, _, h => h
theorem RelDs.keep {K : PySem.W.Frag} {H H' : Hp} (k : Keep H H') : ∀ {ds : List D} {vs : List V}, RelDs K H ds vs → RelDs K H' ds vs
  | [], _, h => h
  | d :: ds, _, h => by
    unfold RelDs at h ⊢
    obtain ⟨v, r, e, h1, h2⟩ := h
    exact ⟨v, r, e, RelD.keep k h1, RelDs.keep k h2⟩
end
section
variable {K : PySem.W.Frag} {H H' : Hp}
theorem RelDs.nil : RelDs K H [] [] := rfl
theorem RelDs.cons {d : D} {v : V} {ds : List D} {vs : List V} (h : RelD K H d v) (r : RelDs K H ds vs) : RelDs K H (d :: ds) (v :: vs) := ⟨v, vs, rfl, h, r⟩
theorem RelDs.len : ∀ {ds : List D} {vs : List V}, RelDs K H ds vs → ds.length = vs.length
  | [], _, h => by cases h; rfl
  | _ :: ds, _, h => by
    obtain ⟨v, r, rfl, _, h2⟩ := h
    exact congrArg (· + 1) (RelDs.len h2)
theorem RelDs.get : ∀ {ds : List D} {vs : List V} {i : Nat} {d : D}, RelDs K H ds vs → ds[i]? = some d → ∃ v, vs[i]? = some v ∧ RelD K H d v
  | [], _, _, _, _, e => by simp at e
  | _ :: ds, _, 0, d, h, e => by
    obtain ⟨v, r, rfl, h1, _⟩ := h
    have e' := Option.some.inj e
    subst e'
    exact ⟨v, rfl, h1⟩
  | _ :: ds, _, i + 1, d, h, e => by
    obtain ⟨v, r, rfl, _, h2⟩ := h
    exact RelDs.get (i := i) h2 e
theorem RelDs.app : ∀ {ds es : List D} {vs us : List V}, RelDs K H ds vs → RelDs K H es us → RelDs K H (ds ++ es) (vs ++ us)
  | [], _, _, _, h, r => by cases h; exact r
  | _ :: ds, _, _, _, h, r => by
    obtain ⟨v, w, rfl, h1, h2⟩ := h
    exact .cons h1 (RelDs.app h2 r)
theorem RelDs.drop : ∀ {ds : List D} {vs : List V} (n : Nat), RelDs K H ds vs → RelDs K H (ds.drop n) (vs.drop n)
  | _, _, 0, h => h
  | [], _, n + 1, h => by cases h; exact .nil
  | _ :: ds, _, n + 1, h => by
    obtain ⟨v, r, rfl, _, h2⟩ := h
    exact RelDs.drop n h2
theorem RelDs.take : ∀ {ds : List D} {vs : List V} (n : Nat), RelDs K H ds vs → RelDs K H (ds.take n) (vs.take n)
  | _, _, 0, h => rfl
  | [], _, n + 1, h => by cases h; exact .nil
  | _ :: ds, _, n + 1, h => by
    obtain ⟨v, r, rfl, h1, h2⟩ := h
    exact .cons h1 (RelDs.take n h2)
theorem RelDs.set : ∀ {ds : List D} {vs : List V} (n : Nat) {d : D} {v : V}, RelDs K H ds vs → RelD K H d v → RelDs K H (ds.set n d) (vs.set n v)
  | [], _, _, _, _, h, _ => by cases h; exact .nil
  | _ :: ds, _, 0, _, _, h, q => by
    obtain ⟨v, r, rfl, h1, h2⟩ := h
    exact .cons q h2
  | _ :: ds, _, n + 1, _, _, h, q => by
    obtain ⟨v, r, rfl, h1, h2⟩ := h
    exact .cons h1 (RelDs.set n h2 q)
theorem RelDs.rev : ∀ {ds : List D} {vs : List V}, RelDs K H ds vs → RelDs K H ds.reverse vs.reverse
  | [], _, h => by cases h; exact .nil
  | d :: ds, _, h => by
    obtain ⟨v, r, rfl, h1, h2⟩ := h
    rw [List.reverse_cons, List.reverse_cons]
    exact (RelDs.rev h2).app (.cons h1 .nil)
theorem RelDs.ints : ∀ {is : List Int}, RelDs K H (is.map D.int) (is.map V.int)
  | [] => rfl
  | i :: is => .cons rfl RelDs.ints
theorem RelDs.strs : ∀ {is : List Str}, RelDs K H (is.map D.str) (is.map V.str)
  | [] => rfl
  | i :: is => .cons rfl RelDs.strs
theorem RelDs.strs_of : ∀ {is : List Str} {vs : List V}, RelDs K H (is.map D.str) vs → vs = is.map V.str
  | [], _, h => h
  | i :: is, _, h => by
    obtain ⟨v, r, rfl, h1, h2⟩ := h
    rw [RelDs.strs_of h2, show v = V.str i from h1]
    rfl
theorem RelDs.bls_of : ∀ {is : List Bool} {vs : List V}, RelDs K H (is.map D.bl) vs → vs = is.map V.bl
  | [], _, h => h
  | i :: is, _, h => by
    obtain ⟨v, r, rfl, h1, h2⟩ := h
    rw [RelDs.bls_of h2, show v = V.bl i from h1]
    rfl
theorem RelDs.ints_of : ∀ {is : List Int} {vs : List V}, RelDs K H (is.map D.int) vs → vs = is.map V.int
  | [], _, h => h
  | i :: is, _, h => by
    obtain ⟨v, r, rfl, h1, h2⟩ := h
    rw [RelDs.ints_of h2, show v = V.int i from h1]
    rfl
end

/-- an object that may change -/
def RelKv (K : PySem.W.Frag) (H : Hp) {κ : Type} (kds : List (κ × D)) (kvs : List (κ × V)) : Prop := Paired (fun (p : κ × D) (q : κ × V) => p.1 = q.1 ∧ RelD K H p.2 q.2) kds kvs
def RelO (K : PySem.W.Frag) (H : Hp) (a : Addr) : MO → Prop
  | .lst ds => ∃ vs, H a = some (.lst vs) ∧ RelDs K H ds vs
  | .dK kds => ∃ kvs, H a = some (.dK kvs) ∧ RelKv K H kds kvs
  | .dT kds => ∃ kvs, H a = some (.dT kvs) ∧ RelKv K H kds kvs
  | .ins C fs => ∃ dx gs, H a = some (.ins C dx gs) ∧ RelKv K H fs gs
def RelM (K : PySem.W.Frag) (H : Hp) (M : Mp) : Prop := ∀ a o, M a = some o → RelO K H a o
section
variable {K : PySem.W.Frag} {H H' : Hp} {M : Mp} {a p : Addr} {o : MO} {u : HO}
theorem RelKv.keep {κ : Type} {kds : List (κ × D)} {kvs : List (κ × V)} (k : Keep H H') (h : RelKv K H kds kvs) : RelKv K H' kds kvs := Paired.mapP h fun _ _ z => ⟨z.1, z.2.keep k⟩
theorem RelO.move (k : Keep H H') (e : H' a = H a) (h : RelO K H a o) : RelO K H' a o := by
  cases o with
  | lst ds => obtain ⟨vs, h1, h2⟩ := h; exact ⟨vs, e.trans h1, h2.keep k⟩
  | dK ds => obtain ⟨vs, h1, h2⟩ := h; exact ⟨vs, e.trans h1, h2.keep k⟩
  | dT ds => obtain ⟨vs, h1, h2⟩ := h; exact ⟨vs, e.trans h1, h2.keep k⟩
  | ins C fs => obtain ⟨dx, gs, h1, h2⟩ := h; exact ⟨dx, gs, e.trans h1, h2.keep k⟩
theorem RelO.there (h : RelO K H a o) : ∃ u, H a = some u := by
  cases o with
  | lst ds => obtain ⟨vs, h1, h2⟩ := h; exact ⟨_, h1⟩
  | dK ds => obtain ⟨vs, h1, h2⟩ := h; exact ⟨_, h1⟩
  | dT ds => obtain ⟨vs, h1, h2⟩ := h; exact ⟨_, h1⟩
  | ins C fs => obtain ⟨dx, gs, h1, h2⟩ := h; exact ⟨_, h1⟩
theorem RelM.free (r : RelM K H M) (h : H p = none) : M p = none := by
  cases e : M p with
  | none => rfl
  | some o =>
    obtain ⟨u, q⟩ := (r p o e).there
    rw [h] at q
    cases q
/-- a new object that the map does not tell -/
theorem RelM.skip (r : RelM K H M) (h : H p = none) : RelM K (upd H p u) M := fun a o e => by
  obtain ⟨x, q⟩ := (r a o e).there
  exact (r a o e).move (.fresh h) (upd_ne (ne_of_none q h))
/-- a new object that it tells -/
theorem RelM.new (r : RelM K H M) (h : H p = none) (n : RelO K (upd H p u) p o) : RelM K (upd H p u) (mup M p o) := fun a x e => by
  by_cases ea : a = p
  · subst ea
    rw [mup_same] at e
    cases e
    exact n
  · rw [mup_ne ea] at e
    exact r.skip h a x e
/-- what may be changed is no tuple -/
def Soft : HO → Prop
  | .tup _ => False
  | .frz _ _ => False
  | _ => True
theorem Keep.write {x : HO} (h : H a = some x) (s : Soft x) : Keep H (upd H a u) := by
  refine ⟨fun b xs e => ?_, fun b o v e => ?_⟩
  · rw [upd_ne (ne_of e h fun z => by subst z; exact s)]
    exact e
  · rw [upd_ne (ne_of e h fun z => by subst z; exact s)]
    exact e
theorem RelM.write {x : HO} (r : RelM K H M) (h : H a = some x) (s : Soft x) (n : RelO K (upd H a u) a o) : RelM K (upd H a u) (mup M a o) := fun b y e => by
  by_cases ea : b = a
  · subst ea
    rw [mup_same] at e
    cases e
    exact n
  · rw [mup_ne ea] at e
    exact (r b y e).move (.write h s) (upd_ne ea)
end

/-! ### the slots -/
abbrev Ev := List (Option D)
def RelS (K : PySem.W.Frag) (H : Hp) (env : Ev) (σ : St) : Prop := env.length = σ.length ∧ ∀ (i : Nat) (d : D), env[i]? = some (some d) → ∃ v, σ[i]? = some (some v) ∧ RelD K H d v
section
variable {K : PySem.W.Frag} {H H' : Hp} {env : Ev} {σ : St}
theorem RelS.keep (k : Keep H H') (r : RelS K H env σ) : RelS K H' env σ := ⟨r.1, fun i d e => let ⟨v, h1, h2⟩ := r.2 i d e; ⟨v, h1, h2.keep k⟩⟩
theorem RelS.set {i : Nat} {d : D} {v : V} (r : RelS K H env σ) (h : RelD K H d v) : RelS K H (env.set i (some d)) (σ.set i (some v)) := by
  refine ⟨by rw [List.length_set, List.length_set]; exact r.1, fun j e q => ?_⟩
  by_cases hj : i = j
  · subst hj
    have hl : i < env.length := by
      have := (List.getElem?_eq_some_iff.mp q).1
      rwa [List.length_set] at this
    rw [List.getElem?_set_self hl] at q
    cases q
    exact ⟨v, List.getElem?_set_self (by rw [← r.1]; exact hl), h⟩
  · rw [List.getElem?_set_ne hj] at q ⊢
    exact r.2 j e q
theorem RelS.out {i : Nat} (r : RelS K H env σ) : RelS K H (env.set i none) (σ.set i none) := by
  refine ⟨by rw [List.length_set, List.length_set]; exact r.1, fun j e q => ?_⟩
  by_cases hj : i = j
  · subst hj
    by_cases hl : i < env.length
    · rw [List.getElem?_set_self hl] at q
      cases q
    · rw [List.getElem?_eq_none (by rw [List.length_set]; omega)] at q
      cases q
  · rw [List.getElem?_set_ne hj] at q ⊢
    exact r.2 j e q
def ewipe (env : Ev) : List Nat → Ev
  | [] => env
  | v :: vs => (ewipe env vs).set v none
theorem RelS.wipe (r : RelS K H env σ) : ∀ vs : List Nat, RelS K H (ewipe env vs) (L2.wipe σ vs)
  | [] => r
  | v :: vs => (RelS.wipe r vs).out
theorem RelS.start {N : List Str} {ds : List D} {vs : List V} (r : RelDs K H ds vs) : RelS K H (ds.map some ++ List.replicate (N.length - ds.length) none) (L2.start N vs) := by
  have hl := r.len
  refine ⟨by simp [L2.start, hl], fun i d e => ?_⟩
  by_cases hi : i < ds.length
  · rw [List.getElem?_append_left (by simpa using hi), List.getElem?_map] at e
    cases q : ds[i]? with
    | none => rw [q] at e; cases e
    | some x =>
      rw [q] at e
      cases e
      obtain ⟨v, hv, hr⟩ := r.get q
      refine ⟨v, ?_, hr⟩
      unfold L2.start
      rw [List.getElem?_append_left (by simpa [← hl] using hi), List.getElem?_map, hv]
      rfl
  · rw [List.getElem?_append_right (by simpa using hi), List.getElem?_replicate] at e
    split at e <;> cases e
end
end L2.Dl

/-! DRule: the constructs' weakest ends over trees, each shown by HandS's rule. -/
namespace L2.Dl
open PySem PySem.Spec PyProof.Rows

abbrev DQ := D → Mp → Prop
abbrev WE := Ev → Mp → DQ → Prop
abbrev WT := Ev → Mp → (Bool → Mp → Prop) → Prop
abbrev WA := Ev → Mp → (List D → Mp → Prop) → Prop
structure DEnds where
  nx : Ev → Mp → Prop
  rt : DQ
  bk : Ev → Mp → Prop := fun _ _ => False
  ct : Ev → Mp → Prop := fun _ _ => False
abbrev WS := DEnds → Ev → Mp → Prop
abbrev WG := D → Ev → Mp → (Ev → Mp → Prop) → Prop

def Lift (K : PySem.W.Frag) (H : Hp) (Qd : DQ) (Q : VK) : Prop := ∀ d M v H', Qd d M → RelD K H' d v → Keep H H' → RelM K H' M → Q v H'
def LiftB (K : PySem.W.Frag) (H : Hp) (Qd : Bool → Mp → Prop) (Q : Bool → Hp → Prop) : Prop := ∀ b M H', Qd b M → Keep H H' → RelM K H' M → Q b H'
def LiftA (K : PySem.W.Frag) (H : Hp) (Qd : List D → Mp → Prop) (Q : List V → Hp → Prop) : Prop := ∀ ds M vs H', Qd ds M → RelDs K H' ds vs → Keep H H' → RelM K H' M → Q vs H'
def LiftS (K : PySem.W.Frag) (H : Hp) (Qd : Ev → Mp → Prop) (Q : St → Hp → Prop) : Prop := ∀ env M σ H', Qd env M → RelS K H' env σ → Keep H H' → RelM K H' M → Q σ H'
structure LiftD (K : PySem.W.Frag) (H : Hp) (Ed : DEnds) (E : Ends) : Prop where
  nx : LiftS K H Ed.nx E.nx
  rt : Lift K H Ed.rt E.rt
  bk : LiftS K H Ed.bk E.bk
  ct : LiftS K H Ed.ct E.ct
def tD (K : PySem.W.Frag) (w : WE) : TE := fun σ H Q => ∃ env M Qd, RelS K H env σ ∧ RelM K H M ∧ w env M Qd ∧ Lift K H Qd Q
def tT (K : PySem.W.Frag) (w : WT) : TT := fun σ H Q => ∃ env M Qd, RelS K H env σ ∧ RelM K H M ∧ w env M Qd ∧ LiftB K H Qd Q
def tA (K : PySem.W.Frag) (w : WA) : TA := fun σ H Q => ∃ env M Qd, RelS K H env σ ∧ RelM K H M ∧ w env M Qd ∧ LiftA K H Qd Q
def tS (K : PySem.W.Frag) (w : WS) : TS := fun E σ H => ∃ env M Ed, RelS K H env σ ∧ RelM K H M ∧ w Ed env M ∧ LiftD K H Ed E
def tG (K : PySem.W.Frag) (w : WG) : TG := fun v σ H Q => ∃ d env M Qd, RelD K H d v ∧ RelS K H env σ ∧ RelM K H M ∧ w d env M Qd ∧ LiftS K H Qd Q
def DE (X : Cx) (e : Expr) (w : WE) : Prop := PE X e (tD X.K w)
def DT (X : Cx) (e : Expr) (w : WT) : Prop := PT X e (tT X.K w)
def DW (X : Cx) (e : Expr) (w : WT) : Prop := PW X e (tT X.K w)
def DA (X : Cx) (e : List Expr) (w : WA) : Prop := PA X e (tA X.K w)
def DS (X : Cx) (e : Stmt) (w : WS) : Prop := PS X e (tS X.K w)
def DSs (X : Cx) (e : List Stmt) (w : WS) : Prop := PSs X e (tS X.K w)
def DG (X : Cx) (e : Expr) (w : WG) : Prop := PG X e (tG X.K w)

section
variable {X : Cx} {e : Expr}
theorem pe_wk {t t' : TE} (h : PE X e t) (k : ∀ σ H Q, t' σ H Q → t σ H Q) : PE X e t' := ⟨fun pins s σ H Q I q => h.run pins s σ H Q I (k σ H Q q)⟩
theorem pt_wk {t t' : TT} (h : PT X e t) (k : ∀ σ H Q, t' σ H Q → t σ H Q) : PT X e t' := ⟨fun pins s σ H Q I q => h.run pins s σ H Q I (k σ H Q q)⟩
theorem pw_wk {t t' : TT} (h : PW X e t) (k : ∀ σ H Q, t' σ H Q → t σ H Q) : PW X e t' := ⟨fun wh pins s σ H Q I q => h.run wh pins s σ H Q I (k σ H Q q)⟩
theorem pa_wk {es : List Expr} {t t' : TA} (h : PA X es t) (k : ∀ σ H Q, t' σ H Q → t σ H Q) : PA X es t' := ⟨fun pos pins s σ H Q I q => h.run pos pins s σ H Q I (k σ H Q q)⟩
theorem ps_wk {st : Stmt} {t t' : TS} (h : PS X st t) (k : ∀ E σ H, t' E σ H → t E σ H) : PS X st t' := ⟨fun pins s σ H E I q => h.run pins s σ H E I (k E σ H q)⟩
theorem pss_wk {st : List Stmt} {t t' : TS} (h : PSs X st t) (k : ∀ E σ H, t' E σ H → t E σ H) : PSs X st t' := ⟨fun pins s σ H E I q => h.run pins s σ H E I (k E σ H q)⟩
theorem pg_wk {t t' : TG} (h : PG X e t) (k : ∀ v σ H Q, t' v σ H Q → t v σ H Q) : PG X e t' := ⟨fun pins s σ H v u Q I r q => h.run pins s σ H v u Q I r (k v σ H Q q)⟩
end
section
variable {K : PySem.W.Frag} {H H1 H' : Hp}
theorem Lift.at {Qd : DQ} {Q : VK} (l : Lift K H Qd Q) (k : Keep H H1) : Lift K H1 Qd Q := fun d M v H' q r k' m => l d M v H' q r (k.trans k') m
theorem LiftS.at {Qd : Ev → Mp → Prop} {Q : St → Hp → Prop} (l : LiftS K H Qd Q) (k : Keep H H1) : LiftS K H1 Qd Q := fun d M v H' q r k' m => l d M v H' q r (k.trans k') m
theorem LiftB.at {Qd : Bool → Mp → Prop} {Q : Bool → Hp → Prop} (l : LiftB K H Qd Q) (k : Keep H H1) : LiftB K H1 Qd Q := fun b M H' q k' m => l b M H' q (k.trans k') m
theorem LiftD.at {Ed : DEnds} {E : Ends} (l : LiftD K H Ed E) (k : Keep H H1) : LiftD K H1 Ed E := ⟨l.nx.at k, l.rt.at k, l.bk.at k, l.ct.at k⟩
end

section
variable {X : Cx} {a b c e : Expr} {es : List Expr} {wa wb wc we : WE} {wt wu wv : WT} {wx : WA} {pos : Pos}
/-! names, constants -/
def wVar (i : Nat) : WE | env, M, Q => match env[i]? with
  | some (some d) => Q d M
  | _ => False
theorem d_var {i : Nat} {x : Str} (hN : X.N[i]? = some x) (hv : Vis X.env.scope x) (hd : (x == ("__debug__" : Str)) = false := by decide) (hcd : (x == ("__classdict__" : Str)) = false := by decide) : DE X (.Name x pos) (wVar i) :=
  pe_wk (pe_var hN hv hd hcd) fun σ H Q ⟨env, M, Qd, hs, hm, hw, hl⟩ => by
    have hw : (match env[i]? with
      | some (some d) => Qd d M
      | _ => False) := hw
    split at hw
    · rename_i d e
      obtain ⟨v, e', r⟩ := hs.2 _ _ e
      exact ⟨v, e', hl d M v H hw r .refl hm⟩
    · cases hw
def wC (d : D) : WE | _, M, Q => Q d M
theorem d_int {i j} : DE X (.Constant (.int i) j pos) (wC (.int i)) := pe_wk pe_int fun σ H Q ⟨env, M, Qd, hs, hm, hw, hl⟩ => hl _ M _ H hw rfl .refl hm
theorem d_bl {i j} : DE X (.Constant (.bool i) j pos) (wC (.bl i)) := pe_wk pe_bl fun σ H Q ⟨env, M, Qd, hs, hm, hw, hl⟩ => hl _ M _ H hw rfl .refl hm
theorem d_non {j} : DE X (.Constant .none j pos) (wC .non) := pe_wk pe_non fun σ H Q ⟨env, M, Qd, hs, hm, hw, hl⟩ => hl _ M _ H hw rfl .refl hm
theorem d_str {x : Str} {j} : DE X (.Constant (.str x) j pos) (wC (.str x)) := pe_wk pe_str fun σ H Q ⟨env, M, Qd, hs, hm, hw, hl⟩ => hl _ M _ H hw rfl .refl hm
/-- a name of the module: its value, as a tree -/
def Glo (K : PySem.W.Frag) (mg : Str → Option Value) (x : Str) (d : D) : Prop := ∃ u v, mg x = some u ∧ RelV v u ∧ RelD K (fun _ => none) d v
theorem keep_none {H : Hp} : Keep (fun _ => none) H := ⟨fun _ _ h => (nomatch h), fun _ _ _ h => (nomatch h)⟩
theorem d_glo {x : Str} {d : D} (hg : Gl X x) (h : Glo X.K X.mg x d) (hd : (x == ("__debug__" : Str)) = false := by decide) : DE X (.Name x pos) (wC d) := by
  obtain ⟨u, v, h1, h2, h3⟩ := h
  exact pe_wk (pe_glob hg h1 h2 hd) fun σ H Q ⟨env, M, Qd, hs, hm, hw, hl⟩ => hl _ M _ H hw (h3.keep keep_none) .refl hm
theorem d_bty {x : Str} {n : String} (hg : Gl X x) (hm : X.mg x = none) (hv : bootBuiltins x = some (.type n)) (hn : x ≠ "__name__" := by decide) (hd : (x == ("__debug__" : Str)) = false := by decide) : DE X (.Name x pos) (wC (.ty n)) :=
  pe_wk (pe_bltn (v := .ty n) hg hm hv rfl hn hd) fun σ H Q ⟨env, M, Qd, hs, hm, hw, hl⟩ => hl _ M _ H hw rfl .refl hm

/-! two values, an operation on them -/
abbrev W2 := D → D → Mp → DQ → Prop
def rD (K : PySem.W.Frag) (r : W2) : R2 := fun x y H Q => ∃ d e M Qd, RelD K H d x ∧ RelD K H e y ∧ RelM K H M ∧ r d e M Qd ∧ Lift K H Qd Q
def OpD (X : Cx) (f : Value → Value → Sem Value) (r : W2) : Prop := OpR X f (rD X.K r)
def wOp (r : W2) (wa wb : WE) : WE | env, M, Q => wa env M fun x M1 => wb env M1 fun y M2 => r x y M2 Q
theorem tOp_of {K : PySem.W.Frag} {r : W2} {σ : St} {H : Hp} {Q : VK} (h : tD K (wOp r wa wb) σ H Q) : tOp (rD K r) (tD K wa) (tD K wb) σ H Q := by
  obtain ⟨env, M, Qd, hs, hm, hw, hl⟩ := h
  exact ⟨env, M, _, hs, hm, hw, fun x M1 v H1 q rv k m1 => ⟨env, M1, _, hs.keep k, m1, q, fun y M2 u H2 q2 ru k2 m2 => ⟨x, y, M2, Qd, rv.keep k2, ru, m2, q2, (hl.at k).at k2⟩⟩⟩
theorem d_op {op : Operator} {r : W2} (ho : OpD X (binaryOp op) r) (ha : DE X a wa) (hb : DE X b wb) : DE X (.BinOp a op b pos) (wOp r wa wb) := pe_wk (pe_op ho ha hb) fun _ _ _ h => tOp_of h
theorem d_cmp {op : CmpOp} {r : W2} (ho : OpD X (compareOp op) r) (ha : DE X a wa) (hb : DE X b wb) (hm : behindInMarks op b = false) : DE X (.Compare a [op] [b] pos) (wOp r wa wb) := pe_wk (pe_cmpR ho ha hb hm) fun _ _ _ h => tOp_of h
/-- a value that is True or False, as a test -/
def wTst (w : WE) : WT | env, M, Q => w env M fun d M1 => match d with
  | .bl k => Q k M1
  | _ => False
theorem tTst_of {K : PySem.W.Frag} {w : WE} {t : TE} (k : ∀ σ H Q, tD K w σ H Q → t σ H Q) {σ : St} {H : Hp} {Q : Bool → Hp → Prop} (h : tT K (wTst w) σ H Q) : t σ H fun x H' => ∃ k, x = .bl k ∧ Q k H' := by
  obtain ⟨env, M, Qd, hs, hm, hw, hl⟩ := h
  refine k _ _ _ ⟨env, M, _, hs, hm, hw, fun x M1 v H1 q rv kk m1 => ?_⟩
  cases x with
  | bl b => exact ⟨b, rv, hl b M1 H1 q kk m1⟩
  | _ => exact q.elim
theorem t_cmp {op : CmpOp} {r : W2} (ho : OpD X (compareOp op) r) (ha : DE X a wa) (hb : DE X b wb) (hm : behindInMarks op b = false) : DT X (.Compare a [op] [b] pos) (wTst (wOp r wa wb)) :=
  pt_wk (pt_cmpR ho ha hb hm) fun _ _ _ h => tTst_of (fun _ _ _ => tOp_of) h
def wChain (r r' : W2) (wa wb wc : WE) : WE | env, M, Q => wa env M fun x M1 => wb env M1 fun y M2 => r x y M2 fun z M3 => match z with
  | .bl k => if k = true then wc env M3 fun w M4 => r' y w M4 Q else Q (.bl false) M3
  | _ => False
theorem tChain_of {K : PySem.W.Frag} {r r' : W2} {σ : St} {H : Hp} {Q : VK} (h : tD K (wChain r r' wa wb wc) σ H Q) : tChain (rD K r) (rD K r') (tD K wa) (tD K wb) (tD K wc) σ H Q := by
  obtain ⟨env, M, Qd, hs, hm, hw, hl⟩ := h
  refine ⟨env, M, _, hs, hm, hw, fun x M1 v H1 q rv k m1 => ⟨env, M1, _, hs.keep k, m1, q, fun y M2 u H2 q2 ru k2 m2 => ⟨x, y, M2, _, rv.keep k2, ru, m2, q2, fun z M3 z' H3 q3 rz k3 m3 => ?_⟩⟩⟩
  cases z with
  | bl b =>
    refine ⟨b, rz, ?_⟩
    cases b with
    | true => exact ⟨env, M3, _, ((hs.keep k).keep k2).keep k3, m3, q3, fun w M4 w' H4 q4 rw k4 m4 => ⟨y, w, M4, Qd, (ru.keep k3).keep k4, rw, m4, q4, (((hl.at k).at k2).at k3).at k4⟩⟩
    | false => exact hl _ _ _ H3 q3 rfl ((k.trans k2).trans k3) m3
  | _ => exact q3.elim
theorem d_chain {op op' : CmpOp} {r r' : W2} (ho : OpD X (compareOp op) r) (ho' : OpD X (compareOp op') r') (ha : DE X a wa) (hb : DE X b wb) (hc : DE X c wc) (hm : lastMarks [op, op'] [b, c] = false := by with_unfolding_all rfl) :
    DE X (.Compare a [op, op'] [b, c] pos) (wChain r r' wa wb wc) := pe_wk (pe_chain ho ho' ha hb hc hm) fun _ _ _ h => tChain_of h
theorem t_chain {op op' : CmpOp} {r r' : W2} (ho : OpD X (compareOp op) r) (ho' : OpD X (compareOp op') r') (ha : DE X a wa) (hb : DE X b wb) (hc : DE X c wc) (hm : lastMarks [op, op'] [b, c] = false := by with_unfolding_all rfl) :
    DT X (.Compare a [op, op'] [b, c] pos) (wTst (wChain r r' wa wb wc)) := pt_wk (pt_chain ho ho' ha hb hc hm) fun _ _ _ h => tTst_of (fun _ _ _ => tChain_of) h

/-! truth -/
def truD (d : D) (M : Mp) (Q : Bool → Prop) : Prop := match d with
  | .non => Q false
  | .bl b => Q b
  | .int i => Q (i != 0)
  | .str y => y.length ≤ sizeLine ∧ Q (decide (y.length ≠ 0))
  | .tup ds => Q (!ds.isEmpty)
  | .clst ds => Q (!ds.isEmpty)
  | .ref a => match M a with
    | some (.lst ds) => Q (!ds.isEmpty)
    | some (.dK kvs) => Q (!kvs.isEmpty)
    | _ => False
  | _ => False
theorem emp_rel {K : PySem.W.Frag} {H : Hp} {ds : List D} {vs : List V} (r : RelDs K H ds vs) : ds.isEmpty = vs.isEmpty := by
  have := r.len
  cases ds <;> cases vs <;> simp_all
theorem emp_kv {K : PySem.W.Frag} {H : Hp} {κ : Type} {ds : List (κ × D)} {vs : List (κ × V)} (r : RelKv K H ds vs) : ds.isEmpty = vs.isEmpty := by
  cases r <;> rfl
theorem tru_of {K : PySem.W.Frag} {H : Hp} {M : Mp} {d : D} {v : V} {Q : Bool → Prop} (r : RelD K H d v) (m : RelM K H M) (h : truD d M Q) : ∃ k, TruV K v H k ∧ Q k := by
  cases d with
  | non => cases (show v = _ from r); exact ⟨_, rfl, h⟩
  | bl b => cases (show v = _ from r); exact ⟨_, rfl, h⟩
  | int i => cases (show v = _ from r); exact ⟨_, rfl, h⟩
  | str y =>
    cases (show v = _ from r)
    refine ⟨_, ⟨h.1, rfl⟩, ?_⟩
    have e : ((y.length : Int) != 0) = decide (y.length ≠ 0) := by
      by_cases hy : y.length = 0
      · rw [hy]; rfl
      · rw [decide_eq_true hy]
        exact bne_iff_ne.mpr (by omega)
    rw [e]
    exact h.2
  | tup ds =>
    obtain ⟨a, vs, rfl, t, rs⟩ := r
    exact ⟨_, .inr (.inl ⟨vs, t.sq, rfl⟩), by rw [← emp_rel rs]; exact h⟩
  | clst ds =>
    obtain ⟨a, vs, rfl, t, rs⟩ := r
    exact ⟨_, .inl ⟨vs, t.sq, rfl⟩, by rw [← emp_rel rs]; exact h⟩
  | ref a =>
    cases (show v = _ from r)
    unfold truD at h
    simp only at h
    cases e : M a with
    | none => rw [e] at h; exact h.elim
    | some o =>
      rw [e] at h
      have ro := m a o e
      cases o with
      | lst ds =>
        obtain ⟨vs, q, rs⟩ := ro
        exact ⟨_, .inl ⟨vs, .of q, rfl⟩, by rw [← emp_rel rs]; exact h⟩
      | dK kvs =>
        obtain ⟨vs, q, rs⟩ := ro
        exact ⟨_, .inr (.inr ⟨vs, q, rfl⟩), by rw [← emp_kv rs]; exact h⟩
      | _ => exact h.elim
  | _ => exact h.elim
def wTru (w : WE) : WT | env, M, Q => w env M fun d M1 => truD d M1 fun k => Q k M1
theorem t_tru (ha : DE X a wa) (he : ∀ whole, isTrue a X.env whole = (do let v ← whole; standAt a.pos; holding [v] (truthy v)) := by intro _; rfl) : DT X a (wTru wa) :=
  pt_wk (pt_truth ha he) fun σ H Q ⟨env, M, Qd, hs, hm, hw, hl⟩ => ⟨env, M, _, hs, hm, hw, fun d M1 v H1 q r k m1 => by
    obtain ⟨b, h1, h2⟩ := tru_of r m1 q
    exact ⟨b, h1, hl b M1 H1 h2 k m1⟩⟩
/-! and, or, not, if-else -/
def wAnd (wa wb : WE) : WE | env, M, Q => wa env M fun x M1 => truD x M1 fun k => if k = true then wb env M1 Q else Q x M1
def wOr (wa wb : WE) : WE | env, M, Q => wa env M fun x M1 => truD x M1 fun k => if k = true then Q x M1 else wb env M1 Q
def wNot (wa : WE) : WE | env, M, Q => wa env M fun x M1 => truD x M1 fun k => Q (.bl (!k)) M1
theorem d_one {op} (h : DE X a wa) : DE X (.BoolOp op [a] pos) wa := pe_one h
theorem d_and {rest : List Expr} (ha : DE X a wa) (hb : DE X (.BoolOp .And (b :: rest) pos) wb) : DE X (.BoolOp .And (a :: b :: rest) pos) (wAnd wa wb) :=
  pe_wk (pe_andT ha hb) fun σ H Q ⟨env, M, Qd, hs, hm, hw, hl⟩ => ⟨env, M, _, hs, hm, hw, fun d M1 v H1 q r k m1 => by
    obtain ⟨b, h1, h2⟩ := tru_of r m1 q
    refine ⟨b, h1, ?_⟩
    cases b with
    | true => exact ⟨env, M1, Qd, hs.keep k, m1, h2, hl.at k⟩
    | false => exact hl _ _ _ _ h2 r k m1⟩
theorem d_or {rest : List Expr} (ha : DE X a wa) (hb : DE X (.BoolOp .Or (b :: rest) pos) wb) : DE X (.BoolOp .Or (a :: b :: rest) pos) (wOr wa wb) :=
  pe_wk (pe_orT ha hb) fun σ H Q ⟨env, M, Qd, hs, hm, hw, hl⟩ => ⟨env, M, _, hs, hm, hw, fun d M1 v H1 q r k m1 => by
    obtain ⟨b, h1, h2⟩ := tru_of r m1 q
    refine ⟨b, h1, ?_⟩
    cases b with
    | false => exact ⟨env, M1, Qd, hs.keep k, m1, h2, hl.at k⟩
    | true => exact hl _ _ _ _ h2 r k m1⟩
theorem d_not (ha : DE X a wa) : DE X (.UnaryOp .Not a pos) (wNot wa) :=
  pe_wk (pe_notT ha) fun σ H Q ⟨env, M, Qd, hs, hm, hw, hl⟩ => ⟨env, M, _, hs, hm, hw, fun d M1 v H1 q r k m1 => by
    obtain ⟨b, h1, h2⟩ := tru_of r m1 q
    exact ⟨b, h1, hl _ _ _ _ h2 rfl k m1⟩⟩
def wtAnd (wt wu : WT) : WT | env, M, Q => wt env M fun k M1 => if k = true then wu env M1 Q else Q false M1
def wtOr (wt wu : WT) : WT | env, M, Q => wt env M fun k M1 => if k = true then Q true M1 else wu env M1 Q
def wtNot (wt : WT) : WT | env, M, Q => wt env M fun k M1 => Q (!k) M1
theorem w_and1 (ha : DT X a wt) : DW X (.BoolOp .And [a] pos) wt := pw_and1 ha
theorem w_or1 (ha : DT X a wt) : DW X (.BoolOp .Or [a] pos) wt := pw_or1 ha
theorem w_and {rest : List Expr} (ha : DT X a wt) (hb : DW X (.BoolOp .And (b :: rest) pos) wu) : DW X (.BoolOp .And (a :: b :: rest) pos) (wtAnd wt wu) :=
  pw_wk (pw_and ha hb) fun σ H Q ⟨env, M, Qd, hs, hm, hw, hl⟩ => ⟨env, M, _, hs, hm, hw, fun b M1 H1 q k m1 => by
    cases b with
    | true => exact ⟨env, M1, Qd, hs.keep k, m1, q, hl.at k⟩
    | false => exact hl _ _ _ q k m1⟩
theorem w_or {rest : List Expr} (ha : DT X a wt) (hb : DW X (.BoolOp .Or (b :: rest) pos) wu) : DW X (.BoolOp .Or (a :: b :: rest) pos) (wtOr wt wu) :=
  pw_wk (pw_or ha hb) fun σ H Q ⟨env, M, Qd, hs, hm, hw, hl⟩ => ⟨env, M, _, hs, hm, hw, fun b M1 H1 q k m1 => by
    cases b with
    | false => exact ⟨env, M1, Qd, hs.keep k, m1, q, hl.at k⟩
    | true => exact hl _ _ _ q k m1⟩
theorem t_w (h : DW X a wt) : DT X a wt := PW.pt h
theorem t_not (ha : DT X a wt) : DT X (.UnaryOp .Not a pos) (wtNot wt) :=
  pt_wk (pt_not ha) fun σ H Q ⟨env, M, Qd, hs, hm, hw, hl⟩ => ⟨env, M, _, hs, hm, hw, fun b M1 H1 q k m1 => hl _ _ _ q k m1⟩
def wIf (wt : WT) (wa wb : WE) : WE | env, M, Q => wt env M fun k M1 => if k = true then wa env M1 Q else wb env M1 Q
theorem d_if (hc : DT X c wt) (ha : DE X a wa) (hb : DE X b wb) : DE X (.IfExp c a b pos) (wIf wt wa wb) :=
  pe_wk (pe_ifExp hc ha hb) fun σ H Q ⟨env, M, Qd, hs, hm, hw, hl⟩ => ⟨env, M, _, hs, hm, hw, fun b M1 H1 q k m1 => by
    cases b with
    | true => exact ⟨env, M1, Qd, hs.keep k, m1, q, hl.at k⟩
    | false => exact ⟨env, M1, Qd, hs.keep k, m1, q, hl.at k⟩⟩

/-! arguments, displays -/
def wNil : WA | _, M, Q => Q [] M
def wCons (wa : WE) (wx : WA) : WA | env, M, Q => wa env M fun d M1 => wx env M1 fun ds M2 => Q (d :: ds) M2
theorem a_nil : DA X [] wNil := pa_wk pa_nil fun σ H Q ⟨env, M, Qd, hs, hm, hw, hl⟩ => hl _ _ _ _ hw .nil .refl hm
theorem a_cons (ha : DE X a wa) (hr : DA X es wx) (hs : starEach (a :: es) X.env = (false, eval a X.env) :: starEach es X.env := by rfl) : DA X (a :: es) (wCons wa wx) :=
  pa_wk (pa_cons ha hr hs) fun σ H Q ⟨env, M, Qd, hs, hm, hw, hl⟩ => ⟨env, M, _, hs, hm, hw, fun d M1 v H1 q r k m1 => ⟨env, M1, _, hs.keep k, m1, q, fun ds M2 vs H2 q2 rs k2 m2 => hl _ _ _ _ q2 (.cons (r.keep k2) rs) (k.trans k2) m2⟩⟩
def wTup (wx : WA) : WE | env, M, Q => wx env M fun ds M1 => ds.length ≤ sizeLine ∧ Q (.tup ds) M1
theorem d_tup {x1} (h : DA X es wx) : DE X (.Tuple es x1 pos) (wTup wx) :=
  pe_wk (pe_tup h) fun σ H Q ⟨env, M, Qd, hs, hm, hw, hl⟩ => ⟨env, M, _, hs, hm, hw, fun ds M1 vs H1 q rs k m1 => ⟨by rw [← rs.len]; exact q.1, fun p hp => by
    have kk : Keep H1 (upd H1 p (.tup vs)) := .fresh hp
    exact hl _ M1 _ _ q.2 ⟨p, vs, rfl, .inl upd_same, rs.keep kk⟩ (k.trans kk) (m1.skip hp)⟩⟩
def wLst (wx : WA) : WE | env, M, Q => wx env M fun ds M1 => ds.length ≤ sizeLine ∧ New M1 (.lst ds) fun p M2 => Q (.ref p) M2
/-- a new list -/
theorem Lift.newL {K : PySem.W.Frag} {H : Hp} {M : Mp} {Qd : DQ} {Q : VK} {ds : List D} {vs : List V} (l : Lift K H Qd Q) (rs : RelDs K H ds vs) (m : RelM K H M) (q : New M (.lst ds) fun p M2 => Qd (.ref p) M2) :
    ∀ p, H p = none → Q (.ref p) (upd H p (.lst vs)) := fun p hp => by
  have kk : Keep H (upd H p (.lst vs)) := .fresh hp
  exact l _ _ _ _ (q.at (m.free hp)) rfl kk (m.new hp ⟨vs, upd_same, rs.keep kk⟩)
theorem d_lst (h : DA X es wx) : DE X (.List es pos) (wLst wx) :=
  pe_wk (pe_lst h) fun σ H Q ⟨env, M, Qd, hs, hm, hw, hl⟩ => ⟨env, M, _, hs, hm, hw, fun ds M1 vs H1 q rs k m1 => ⟨by rw [← rs.len]; exact q.1, (hl.at k).newL rs m1 q.2⟩⟩

/-! one value, an operation; a call of a built-in -/
def rD1 (K : PySem.W.Frag) (r : D → Mp → DQ → Prop) : V → Hp → VK → Prop := fun x H Q => ∃ d M Qd, RelD K H d x ∧ RelM K H M ∧ r d M Qd ∧ Lift K H Qd Q
def UnD (X : Cx) (f : Value → Sem Value) (r : D → Mp → DQ → Prop) : Prop := UnR X f (rD1 X.K r)
def wUn (r : D → Mp → DQ → Prop) (wa : WE) : WE | env, M, Q => wa env M fun x M1 => r x M1 Q
theorem d_un {op : UnaryOp} {r : D → Mp → DQ → Prop} (ho : UnD X (unaryOp op) r) (ha : DE X a wa) : DE X (.UnaryOp op a pos) (wUn r wa) :=
  pe_wk (pe_un ho ha) fun σ H Q ⟨env, M, Qd, hs, hm, hw, hl⟩ => ⟨env, M, _, hs, hm, hw, fun d M1 v H1 q r k m1 => ⟨d, M1, Qd, r, m1, q, hl.at k⟩⟩
abbrev WC := List D → Mp → DQ → Prop
def rDs (K : PySem.W.Frag) (r : WC) : List V → Hp → VK → Prop := fun xs H Q => ∃ ds M Qd, RelDs K H ds xs ∧ RelM K H M ∧ r ds M Qd ∧ Lift K H Qd Q
def CallD (X : Cx) (f : Value) (r : WC) : Prop := CallR X f (rDs X.K r)
def wCall (r : WC) (wx : WA) : WE | env, M, Q => wx env M fun ds M1 => r ds M1 Q
theorem tCall_of {K : PySem.W.Frag} {r : WC} {σ : St} {H : Hp} {Q : VK} (h : tD K (wCall r wx) σ H Q) : tA K wx σ H fun xs H1 => rDs K r xs H1 Q := by
  obtain ⟨env, M, Qd, hs, hm, hw, hl⟩ := h
  exact ⟨env, M, _, hs, hm, hw, fun d M1 v H1 q r k m1 => ⟨d, M1, Qd, r, m1, q, hl.at k⟩⟩
theorem d_callB {x : Str} {id : String} {r : WC} {p : Pos} (hc : CallD X (.builtin id) r) (hg : Gl X x) (hm : X.mg x = none) (hv : bootBuiltins x = some (.builtin id)) (ha : DA X (e :: es) wx) (hn : x ≠ "__name__" := by decide)
    (hdb : (x == ("__debug__" : Str)) = false := by decide) (he : starEach (e :: es) X.env = (false, eval e X.env) :: starEach es X.env := by rfl) (hpl : (backTo pos (starEach es X.env)).any (·.1) = false := by rfl) :
    DE X (.Call (.Name x p) (e :: es) [] pos) (wCall r wx) := pe_wk (pe_callB hc hg hm hv ha hn hdb he hpl) fun _ _ _ h => tCall_of h
theorem d_callTy {x : Str} {T : String} {r : WC} {p : Pos} (hc : CallD X (.type T) r) (hg : Gl X x) (hm : X.mg x = none) (hv : bootBuiltins x = some (.type T)) (ha : DA X (e :: es) wx) (hn : x ≠ "__name__" := by decide)
    (hdb : (x == ("__debug__" : Str)) = false := by decide) (he : starEach (e :: es) X.env = (false, eval e X.env) :: starEach es X.env := by rfl) (hpl : (backTo pos (starEach es X.env)).any (·.1) = false := by rfl) :
    DE X (.Call (.Name x p) (e :: es) [] pos) (wCall r wx) := pe_wk (pe_callTy hc hg hm hv ha hn hdb he hpl) fun _ _ _ h => tCall_of h
end

/-! ### statements -/
section
variable {X : Cx} {st : Stmt} {rest sa sb : List Stmt} {a b c e : Expr} {we wb : WE} {wt : WT} {w u : WS} {wg : WG} {pos : Pos}
def wNext : WS | E, env, M => E.nx env M
def wSeq (w u : WS) : WS | E, env, M => w { E with nx := fun env' M' => u E env' M' } env M
theorem s_nil : DSs X [] wNext := pss_wk pss_nil fun E σ H ⟨env, M, Ed, hs, hm, hw, hl⟩ => hl.nx _ _ _ _ hw hs .refl hm
theorem s_cons (h1 : DS X st w) (h2 : DSs X rest u) : DSs X (st :: rest) (wSeq w u) :=
  pss_wk (pss_cons h1 h2) fun E σ H ⟨env, M, Ed, hs, hm, hw, hl⟩ => ⟨env, M, _, hs, hm, hw, ⟨fun env1 M1 σ1 H1 q r k m => ⟨env1, M1, Ed, r, m, q, hl.at k⟩, hl.rt, hl.bk, hl.ct⟩⟩
theorem s_one (h1 : DS X st w) : DSs X [st] w := pss_one h1
theorem s_pass : DS X (.Pass pos) wNext := ps_wk ps_pass fun E σ H ⟨env, M, Ed, hs, hm, hw, hl⟩ => hl.nx _ _ _ _ hw hs .refl hm
def wBreak : WS | E, env, M => E.bk env M
def wCont : WS | E, env, M => E.ct env M
theorem s_break : DS X (.Break pos) wBreak := ps_wk ps_break fun E σ H ⟨env, M, Ed, hs, hm, hw, hl⟩ => hl.bk _ _ _ _ hw hs .refl hm
theorem s_cont : DS X (.Continue pos) wCont := ps_wk ps_continue fun E σ H ⟨env, M, Ed, hs, hm, hw, hl⟩ => hl.ct _ _ _ _ hw hs .refl hm
theorem s_doc {x : Str} {j pos'} : DS X (.Expr (.Constant (.str x) j pos) pos') wNext := ps_wk ps_doc fun E σ H ⟨env, M, Ed, hs, hm, hw, hl⟩ => hl.nx _ _ _ _ hw hs .refl hm
def wDrop (we : WE) : WS | E, env, M => we env M fun _ M1 => E.nx env M1
theorem s_expr (he : DE X e we) (hs : swapsWith e none pos.line X.env = pure false := by rfl) : DS X (.Expr e pos) (wDrop we) :=
  ps_wk (ps_expr he hs) fun E σ H ⟨env, M, Ed, hs, hm, hw, hl⟩ => ⟨env, M, _, hs, hm, hw, fun d M1 v H1 q r k m1 => hl.nx _ _ _ _ q (hs.keep k) k m1⟩
def wRet (we : WE) : WS | E, env, M => we env M E.rt
theorem s_ret (he : DE X e we) : DS X (.Return (some e) pos) (wRet we) := ps_wk (ps_ret he) fun E σ H ⟨env, M, Ed, hs, hm, hw, hl⟩ => ⟨env, M, _, hs, hm, hw, hl.rt⟩
def wRetN : WS | E, _, M => E.rt .non M
theorem s_retN : DS X (.Return none pos) wRetN := ps_wk ps_retN fun E σ H ⟨env, M, Ed, hs, hm, hw, hl⟩ => hl.rt _ _ _ _ hw rfl .refl hm
def wIfS (wt : WT) (w u : WS) : WS | E, env, M => wt env M fun k M1 => if k = true then w E env M1 else u E env M1
theorem s_if (hc : DT X c wt) (ha : DSs X sa w) (hb : DSs X sb u) : DS X (.If c sa sb pos) (wIfS wt w u) :=
  ps_wk (ps_if hc ha hb) fun E σ H ⟨env, M, Ed, hs, hm, hw, hl⟩ => ⟨env, M, _, hs, hm, hw, fun b M1 H1 q k m1 => by
    cases b with
    | true => exact ⟨env, M1, Ed, hs.keep k, m1, q, hl.at k⟩
    | false => exact ⟨env, M1, Ed, hs.keep k, m1, q, hl.at k⟩⟩
/-! targets -/
def gN (i : Nat) : WG | d, env, M, Q => Q (env.set i (some d)) M
theorem g_name {i : Nat} {x : Str} (hN : X.N.Nodup) (hi : X.N[i]? = some x) (hx : Loc X.env.scope x) (hf : X.fn x = true ∨ X.env.scope.names.lookup x = some .local := by first | exact .inl rfl | exact .inr rfl | assumption) : DG X (.Name x pos) (gN i) :=
  pg_wk (pg_name hN hi hx hf) fun v σ H Q ⟨d, env, M, Qd, hr, hs, hm, hw, hl⟩ => hl _ _ _ _ hw (hs.set hr) .refl hm
abbrev WGs := List D → Ev → Mp → (Ev → Mp → Prop) → Prop
def tGs (K : PySem.W.Frag) (w : WGs) : TGs := fun vs σ H Q => ∃ ds env M Qd, RelDs K H ds vs ∧ RelS K H env σ ∧ RelM K H M ∧ w ds env M Qd ∧ LiftS K H Qd Q
def DGs (X : Cx) (es : List Expr) (w : WGs) : Prop := PGs X es (tGs X.K w)
theorem pgs_wk {es : List Expr} {t t' : TGs} (h : PGs X es t) (k : ∀ v σ H Q, t' v σ H Q → t v σ H Q) : PGs X es t' := ⟨fun pins s σ H v u Q I r q => h.run pins s σ H v u Q I r (k v σ H Q q)⟩
def gsNil : WGs | ds, env, M, Q => ds = [] ∧ Q env M
def gsCons (g : WG) (gs : WGs) : WGs | ds, env, M, Q => match ds with
  | d :: r => g d env M fun env1 M1 => gs r env1 M1 Q
  | [] => False
theorem gs_nil : DGs X [] gsNil := pgs_wk pgs_nil fun vs σ H Q ⟨ds, env, M, Qd, hr, hs, hm, hw, hl⟩ => by
  obtain ⟨rfl, q⟩ := hw
  cases hr
  exact ⟨rfl, hl _ _ _ _ q hs .refl hm⟩
theorem gs_cons {es : List Expr} {gs : WGs} (h1 : DG X e wg) (h2 : DGs X es gs) (hs : (assignEach (e :: es) X.env).map (·.2) = assign e X.env :: (assignEach es X.env).map (·.2) := by rfl) : DGs X (e :: es) (gsCons wg gs) :=
  pgs_wk (pgs_cons h1 h2 hs) fun vs σ H Q ⟨ds, env, M, Qd, hr, hs, hm, hw, hl⟩ => by
    cases ds with
    | nil => exact hw.elim
    | cons d r =>
      obtain ⟨v, vr, rfl, rv, rr⟩ := hr
      exact ⟨v, vr, rfl, d, env, M, _, rv, hs, hm, hw, fun env1 M1 σ1 H1 q r1 k m1 => ⟨r, env1, M1, Qd, rr.keep k, r1, m1, q, hl.at k⟩⟩
def gTu (n : Nat) (gs : WGs) : WG | d, env, M, Q => match d with
  | .tup ds => ds.length = n ∧ gs ds env M Q
  | _ => False
theorem g_tup {es : List Expr} {k : Nat} {gs : WGs} {n : Nat} (hc : X.calm = true) (h : DGs X es gs) (hn : (assignEach es X.env).length = n := by rfl) (hst : (assignEach es X.env).findIdx? (·.1) = none := by rfl) :
    DG X (.Tuple es k pos) (gTu n gs) := pg_wk (pg_tup hc h hn hst) fun v σ H Q ⟨d, env, M, Qd, hr, hs, hm, hw, hl⟩ => by
  cases d with
  | tup ds =>
    obtain ⟨a, vs, rfl, t, rs⟩ := hr
    exact ⟨a, vs, rfl, t.sq, by rw [← rs.len]; exact hw.1, ds, env, M, Qd, rs, hs, hm, hw.2, hl⟩
  | _ => exact hw.elim
def wAsg (we : WE) (g : WG) : WS | E, env, M => we env M fun d M1 => g d env M1 E.nx
theorem tAsg_of {K : PySem.W.Frag} {E : Ends} {σ : St} {H : Hp} (h : tS K (wAsg we wg) E σ H) : tAsg (tD K we) (tG K wg) E σ H := by
  obtain ⟨env, M, Ed, hs, hm, hw, hl⟩ := h
  exact ⟨env, M, _, hs, hm, hw, fun d M1 v H1 q r k m1 => ⟨d, env, M1, _, r, hs.keep k, m1, q, hl.nx.at k⟩⟩
theorem s_asg {tg : Expr} (he : DE X e we) (hg : DG X tg wg) (hs : swapsWithSole [tg] e pos.line X.env = pure false := by rfl) (hw : swappedStores [tg] e X.env = pure none := by rfl)
    (h1 : (assignEach [tg] X.env).map (·.2) = [assign tg X.env] := by rfl) : DS X (.Assign [tg] e pos) (wAsg we wg) := ps_wk (ps_asg he hg hs hw h1) fun _ _ _ h => tAsg_of h
theorem s_set {i : Nat} {x : Str} {pos' : Pos} (hN : X.N.Nodup) (hi : X.N[i]? = some x) (hx : Loc X.env.scope x) (he : DE X e we) (hs : swapsWith e (some (.Name x pos')) pos.line X.env = pure false := by rfl)
    (hf : X.fn x = true ∨ X.env.scope.names.lookup x = some .local := by first | exact .inl rfl | exact .inr rfl | assumption) : DS X (.Assign [.Name x pos'] e pos) (wAsg we (gN i)) :=
  ps_wk (ps_set hN hi hx he hs hf) fun E σ H ⟨env, M, Ed, hs, hm, hw, hl⟩ => ⟨env, M, _, hs, hm, hw, fun d M1 v H1 q r k m1 => hl.nx _ _ _ _ q ((hs.keep k).set r) k m1⟩
def wPar (i j : Nat) (wx : WA) : WS | E, env, M => wx env M fun ds M1 => match ds with
  | [d, e] => E.nx ((env.set i (some d)).set j (some e)) M1
  | _ => False
theorem s_par {i j : Nat} {x y : Str} {wx : WA} {px py pt : Pos} {kt k2 pt2} (hc : X.calm = true) (hN : X.N.Nodup) (hi : X.N[i]? = some x) (hj : X.N[j]? = some y) (hij : i ≠ j)
    (hx : X.env.scope.names.lookup x = some .local) (hy : X.env.scope.names.lookup y = some .local) (ha : DA X [a, b] wx)
    (hw : swappedStores [.Tuple [.Name x px, .Name y py] kt pt] (.Tuple [a, b] k2 pt2) X.env = pure (some [x, y]))
    (hs : swapsWithSole [.Tuple [.Name x px, .Name y py] kt pt] (.Tuple [a, b] k2 pt2) pos.line X.env = pure false := by rfl) :
    DS X (.Assign [.Tuple [.Name x px, .Name y py] kt pt] (.Tuple [a, b] k2 pt2) pos) (wPar i j wx) :=
  ps_wk (ps_par hc hN hi hj hij hx hy ha hw hs) fun E σ H ⟨env, M, Ed, hs, hm, hw, hl⟩ => ⟨env, M, _, hs, hm, hw, fun ds M1 vs H1 q r k m1 => by
    match ds, q with
    | [d, e], q =>
      obtain ⟨v, r1, rfl, hv, u, r2, rfl, hu, e2⟩ := r
      cases e2
      exact ⟨v, u, rfl, hl.nx _ _ _ _ q (((hs.keep k).set hv).set hu) k m1⟩⟩
end
end L2.Dl

/-! DLoop: what is walked, for, while, list comprehensions; calls of defs. -/
namespace L2.Dl
open PySem PySem.Spec PyProof.Rows

/-! ### what is walked -/
structure ItD (K : PySem.W.Frag) (H0 : Hp) (J : It) (ok : Mp → Prop) (items : List D) : Prop where
  go : ∀ i H M, Keep H0 H → RelM K H M → ok M → i < items.length → J.go i H
  yld : ∀ i H M x H' d, Keep H0 H → RelM K H M → ok M → J.yld i H x H' → items[i]? = some d → RelD K H' d x ∧ Keep H H' ∧ RelM K H' M
  stop : ∀ i H M, Keep H0 H → RelM K H M → ok M → items.length ≤ i → J.stop i H
abbrev WI := Ev → Mp → ((Mp → Prop) → List D → Mp → Prop) → Prop
def tI (K : PySem.W.Frag) (wi : WI) : TI := fun σ H R => ∃ env M Rd, RelS K H env σ ∧ RelM K H M ∧ wi env M Rd ∧ ∀ ok items M' H' J, Rd ok items M' → Keep H H' → RelM K H' M' → ItD K H' J ok items → R J H'
def DI (X : Cx) (tg iter : Expr) (wi : WI) : Prop := PI X tg iter (tI X.K wi)
theorem pi_wk {X : Cx} {tg it : Expr} {t t' : TI} (h : PI X tg it t) (k : ∀ σ H R, t' σ H R → t σ H R) : PI X tg it t' := ⟨fun pins s σ H R I q => h.run pins s σ H R I (k σ H R q)⟩

def runFor (ok : Mp → Prop) (g : WG) (w : WS) (E : DEnds) : List D → Ev → Mp → Prop
  | [], env, M => ok M ∧ E.nx env M
  | d :: r, env, M => ok M ∧ g d env M fun env1 M1 => w { nx := runFor ok g w E r, rt := E.rt, bk := E.nx, ct := runFor ok g w E r } env1 M1
def wFor (wi : WI) (g : WG) (w : WS) : WS | E, env, M => wi env M fun ok items M1 => runFor ok g w E items env M1
section
variable {X : Cx} {tg it e c : Expr} {body : List Stmt} {wi : WI} {wg : WG} {w : WS} {we : WE} {wt : WT} {pos : Pos}
theorem s_for (hp : PassesOwn (model X.prog X.w) X.A X.env X.xe) (hc : X.calm = true) (hi : DI X tg it wi) (hg : DG X tg wg) (hb : DSs X body w) (hs : ∀ x, foldedSetIterable it X.env x = pure x := by intro _; rfl) : DS X (.For tg it body [] pos) (wFor wi wg w) :=
  ps_wk (ps_for hp hc hi hg hb hs) fun E σ H ⟨env, M, Ed, hs, hm, hw, hl⟩ => by
    refine ⟨env, M, _, hs, hm, hw, fun ok items M1 H1 J q k1 m1 D => ?_⟩
    refine ⟨fun i m σ2 H2 => ∃ env2 M2, Keep H1 H2 ∧ RelS X.K H2 env2 σ2 ∧ RelM X.K H2 M2 ∧ i + m = items.length ∧ runFor ok wg w Ed (items.drop i) env2 M2, ⟨items.length, env, M1, .refl, hs.keep k1, m1, Nat.zero_add _, q⟩, fun i m σ2 H2 hW => ?_⟩
    obtain ⟨env2, M2, k2, s2, m2, hi, hr⟩ := hW
    by_cases h : i < items.length
    · rw [List.drop_eq_getElem_cons h] at hr
      obtain ⟨ho, hr⟩ := hr
      refine .inr ⟨D.go i H2 M2 k2 m2 ho h, fun σ' H' => ∃ env' M', Keep H1 H' ∧ RelS X.K H' env' σ' ∧ RelM X.K H' M' ∧ runFor ok wg w Ed (items.drop (i + 1)) env' M', fun σ' H' hN => ?_, fun x H' hy => ?_⟩
      · obtain ⟨env', M', k', s', m', r'⟩ := hN
        exact ⟨m - 1, by omega, env', M', k', s', m', by omega, r'⟩
      · obtain ⟨rd, k3, m3⟩ := D.yld i H2 M2 x H' _ k2 m2 ho hy (List.getElem?_eq_getElem h)
        refine ⟨_, env2, M2, _, rd, s2.keep k3, m3, hr, fun env4 M4 σ4 H4 q4 s4 k4 m4 => ⟨env4, M4, _, s4, m4, q4, ?_⟩⟩
        have kk : Keep H1 H4 := (k2.trans k3).trans k4
        have nx : LiftS X.K H4 (runFor ok wg w Ed (items.drop (i + 1))) fun σ' H' => ∃ env' M', Keep H1 H' ∧ RelS X.K H' env' σ' ∧ RelM X.K H' M' ∧ runFor ok wg w Ed (items.drop (i + 1)) env' M' :=
          fun env5 M5 σ5 H5 q5 s5 k5 m5 => ⟨env5, M5, kk.trans k5, s5, m5, q5⟩
        exact ⟨nx, hl.rt.at (k1.trans kk), hl.nx.at (k1.trans kk), nx⟩
    · rw [List.drop_of_length_le (by omega)] at hr
      exact .inl ⟨D.stop i H2 M2 k2 m2 hr.1 (by omega), hl.nx _ _ _ _ hr.2 s2 (k1.trans k2) m2⟩

def runWhile (wt : WT) (w : WS) (E : DEnds) : Nat → Ev → Mp → Prop
  | 0, _, _ => False
  | n + 1, env, M => wt env M fun k M1 => if k = true then w { nx := runWhile wt w E n, rt := E.rt, bk := E.nx, ct := runWhile wt w E n } env M1 else E.nx env M1
def wWhile (wt : WT) (w : WS) : WS | E, env, M => ∃ n, runWhile wt w E n env M
theorem s_while (hp : PassesOwn (model X.prog X.w) X.A X.env X.xe) (hc : DT X c wt) (hb : DSs X body w) : DS X (.While c body [] pos) (wWhile wt w) :=
  ps_wk (ps_while hp hc hb) fun E σ H ⟨env, M, Ed, hs, hm, ⟨n, hw⟩, hl⟩ => by
    refine ⟨fun m σ2 H2 => ∃ env2 M2, Keep H H2 ∧ RelS X.K H2 env2 σ2 ∧ RelM X.K H2 M2 ∧ runWhile wt w Ed m env2 M2, ⟨n, env, M, .refl, hs, hm, hw⟩, fun m σ2 H2 hW => ?_⟩
    obtain ⟨env2, M2, k2, s2, m2, hr⟩ := hW
    cases m with
    | zero => exact hr.elim
    | succ m =>
      refine ⟨env2, M2, _, s2, m2, hr, fun b M3 H3 q3 k3 m3 => ?_⟩
      cases b with
      | true =>
        refine ⟨fun σ' H' => ∃ env' M', Keep H H' ∧ RelS X.K H' env' σ' ∧ RelM X.K H' M' ∧ runWhile wt w Ed m env' M', fun σ' H' hN => ⟨m, Nat.lt_succ_self _, hN⟩, env2, M3, _, s2.keep k3, m3, q3, ?_⟩
        have kk : Keep H H3 := k2.trans k3
        have nx : LiftS X.K H3 (runWhile wt w Ed m) fun σ' H' => ∃ env' M', Keep H H' ∧ RelS X.K H' env' σ' ∧ RelM X.K H' M' ∧ runWhile wt w Ed m env' M' := fun env5 M5 σ5 H5 q5 s5 k5 m5 => ⟨env5, M5, kk.trans k5, s5, m5, q5⟩
        exact ⟨nx, hl.rt.at kk, hl.nx.at kk, nx⟩
      | false => exact hl.nx _ _ _ _ q3 (s2.keep k3) (k2.trans k3) m3

/-! ### list comprehensions -/
/-- a target of a block's own names -/
def LiftW (K : PySem.W.Frag) (vs : List Nat) (σ0 : St) (H : Hp) (Qd : Ev → Mp → Prop) (Q : St → Hp → Prop) : Prop := ∀ env M σ H', Qd env M → RelS K H' env σ → Keep H H' → RelM K H' M → L2.wipe σ vs = L2.wipe σ0 vs → Q σ H'
def tGo (K : PySem.W.Frag) (vs : List Nat) (w : WG) : TG := fun v σ H Q => ∃ d env M Qd, RelD K H d v ∧ RelS K H env σ ∧ RelM K H M ∧ w d env M Qd ∧ LiftW K vs σ H Qd Q
def DGo (X : Cx) (vs : List Nat) (e : Expr) (w : WG) : Prop := PG X e (tGo X.K vs w)
def tGos (K : PySem.W.Frag) (us : List Nat) (w : WGs) : TGs := fun vs σ H Q => ∃ ds env M Qd, RelDs K H ds vs ∧ RelS K H env σ ∧ RelM K H M ∧ w ds env M Qd ∧ LiftW K us σ H Qd Q
def DGos (X : Cx) (vs : List Nat) (es : List Expr) (w : WGs) : Prop := PGs X es (tGos X.K vs w)
theorem wipe_set {σ : St} {i : Nat} {o : Option V} : ∀ {vs : List Nat}, i ∈ vs → L2.wipe (σ.set i o) vs = L2.wipe σ vs
  | [], h => by simp at h
  | v :: vs, h => by
    unfold L2.wipe
    by_cases hv : i ∈ vs
    · rw [wipe_set hv]
    · have hiv : i = v := (List.mem_cons.mp h).resolve_right hv
      subst hiv
      have step : ∀ us : List Nat, i ∉ us → ∀ τ : St, L2.wipe (τ.set i o) us = (L2.wipe τ us).set i o := fun us => by
        induction us with
        | nil => intro _ τ; rfl
        | cons u us ih =>
          intro hn τ
          unfold L2.wipe
          rw [ih (fun z => hn (List.mem_cons_of_mem _ z)) τ, List.set_comm _ _ (fun z : i = u => hn (z ▸ List.mem_cons_self))]
      rw [step vs hv σ, List.set_set]
theorem wipe_comm {v : Nat} : ∀ (us : List Nat) (τ : St), L2.wipe (τ.set v none) us = (L2.wipe τ us).set v none
  | [], _ => rfl
  | u :: us, τ => by
    unfold L2.wipe
    rw [wipe_comm us τ]
    by_cases h : v = u
    · subst h
      rfl
    · rw [List.set_comm _ _ h]
theorem wipe_idem : ∀ (us : List Nat) (τ : St), L2.wipe (L2.wipe τ us) us = L2.wipe τ us
  | [], _ => rfl
  | u :: us, τ => by
    show (L2.wipe ((L2.wipe τ us).set u none) us).set u none = (L2.wipe τ us).set u none
    rw [wipe_comm, wipe_idem us τ, List.set_set]
theorem go_name {vs : List Nat} {i : Nat} {x : Str} (hN : X.N.Nodup) (hi : X.N[i]? = some x) (hx : Loc X.env.scope x) (hv : i ∈ vs := by decide) (hf : X.fn x = true ∨ X.env.scope.names.lookup x = some .local := by first | exact .inl rfl | exact .inr rfl | assumption) :
    DGo X vs (.Name x pos) (gN i) :=
  pg_wk (pg_name hN hi hx hf) fun v σ H Q ⟨d, env, M, Qd, hr, hs, hm, hw, hl⟩ => hl _ _ _ _ hw (hs.set hr) .refl hm (wipe_set hv)
theorem gos_nil {vs : List Nat} : DGos X vs [] gsNil := pgs_wk pgs_nil fun vs σ H Q ⟨ds, env, M, Qd, hr, hs, hm, hw, hl⟩ => by
  obtain ⟨rfl, q⟩ := hw
  cases hr
  exact ⟨rfl, hl _ _ _ _ q hs .refl hm rfl⟩
theorem gos_cons {vs : List Nat} {es : List Expr} {gs : WGs} (h1 : DGo X vs e wg) (h2 : DGos X vs es gs) (hs : (assignEach (e :: es) X.env).map (·.2) = assign e X.env :: (assignEach es X.env).map (·.2) := by rfl) : DGos X vs (e :: es) (gsCons wg gs) :=
  pgs_wk (pgs_cons h1 h2 hs) fun us σ H Q ⟨ds, env, M, Qd, hr, hs, hm, hw, hl⟩ => by
    cases ds with
    | nil => exact hw.elim
    | cons d r =>
      obtain ⟨v, vr, rfl, rv, rr⟩ := hr
      exact ⟨v, vr, rfl, d, env, M, _, rv, hs, hm, hw, fun env1 M1 σ1 H1 q r1 k m1 e1 => ⟨r, env1, M1, Qd, rr.keep k, r1, m1, q, fun env2 M2 σ2 H2 q2 r2 k2 m2 e2 => hl _ _ _ _ q2 r2 (k.trans k2) m2 (e2.trans e1)⟩⟩
theorem go_tup {vs : List Nat} {es : List Expr} {k : Nat} {gs : WGs} {n : Nat} (hc : X.calm = true) (h : DGos X vs es gs) (hn : (assignEach es X.env).length = n := by rfl) (hst : (assignEach es X.env).findIdx? (·.1) = none := by rfl) :
    DGo X vs (.Tuple es k pos) (gTu n gs) := pg_wk (pg_tup hc h hn hst) fun v σ H Q ⟨d, env, M, Qd, hr, hs, hm, hw, hl⟩ => by
  cases d with
  | tup ds =>
    obtain ⟨a, vs, rfl, t, rs⟩ := hr
    exact ⟨a, vs, rfl, t.sq, by rw [← rs.len]; exact hw.1, ds, env, M, Qd, rs, hs, hm, hw.2, hl⟩
  | _ => exact hw.elim
def DTs (X : Cx) (ifs : List Expr) (w : WT) : Prop := PTs X ifs (tT X.K w)
theorem pts_wk {ifs : List Expr} {t t' : TT} (h : PTs X ifs t) (k : ∀ σ H Q, t' σ H Q → t σ H Q) : PTs X ifs t' := ⟨fun pins s σ H Q I q => h.run pins s σ H Q I (k σ H Q q)⟩
def wYes : WT | _, M, Q => Q true M
theorem ts_nil : DTs X [] wYes := pts_wk pts_nil fun σ H Q ⟨env, M, Qd, hs, hm, hw, hl⟩ => hl _ _ _ hw .refl hm
theorem ts_one (h : DT X c wt) : DTs X [c] wt := pts_one h
def runLc (ok : Mp → Prop) (g : WG) (wt : WT) (we : WE) (env0 : Ev) (p : Addr) (Q : DQ) : List D → Mp → Prop
  | [], M => ok M ∧ Q (.ref p) M
  | d :: r, M => ok M ∧ g d env0 M fun env2 M2 => wt env2 M2 fun k M3 => if k = true then we env2 M3 fun y M4 => ∃ acc, M4 p = some (.lst acc) ∧ acc.length < sizeLine ∧ Put M4 p (.lst (acc ++ [y])) fun M5 => runLc ok g wt we env0 p Q r M5
    else runLc ok g wt we env0 p Q r M3
def wLc (wi : WI) (g : WG) (wt : WT) (we : WE) (vs : List Nat) : WE | env, M, Q => wi env M fun ok items M1 => New M1 (.lst []) fun p M2 => runLc ok g wt we (ewipe env vs) p Q items M2
theorem tLc_of {K : PySem.W.Frag} {vs : List Nat} {σ : St} {H : Hp} {Q : VK} (h : tD K (wLc wi wg wt we vs) σ H Q) : tLc (tI K wi) (tGo K vs wg) (tT K wt) (tD K we) vs σ H Q := by
  obtain ⟨env, M, Qd, hs, hm, hw, hl⟩ := h
  refine ⟨env, M, _, hs, hm, hw, fun ok items M1 H1 J q k1 m1 D p hp => ?_⟩
  have hq := q.at (m1.free hp)
  have kp : Keep H1 (upd H1 p (.lst [])) := .fresh hp
  have mp : RelM K (upd H1 p (.lst [])) (mup M1 p (.lst [])) := m1.new hp ⟨[], upd_same, .nil⟩
  refine ⟨fun i m H2 => ∃ M2, Keep H1 H2 ∧ RelM K H2 M2 ∧ i + m = items.length ∧ runLc ok wg wt we (ewipe env vs) p Qd (items.drop i) M2, ⟨items.length, _, kp, mp, Nat.zero_add _, hq⟩, fun i m H2 hW => ?_⟩
  obtain ⟨M2, k2, m2, hi, hr⟩ := hW
  by_cases h : i < items.length
  · rw [List.drop_eq_getElem_cons h] at hr
    obtain ⟨ho, hr⟩ := hr
    refine .inr ⟨D.go i H2 M2 k2 m2 ho h, fun H' => ∃ M', Keep H1 H' ∧ RelM K H' M' ∧ runLc ok wg wt we (ewipe env vs) p Qd (items.drop (i + 1)) M', fun H' hN => ?_, fun x H' hy => ?_⟩
    · obtain ⟨M', k', m', r'⟩ := hN
      exact ⟨m - 1, by omega, M', k', m', by omega, r'⟩
    · obtain ⟨rd, k3, m3⟩ := D.yld i H2 M2 x H' _ k2 m2 ho hy (List.getElem?_eq_getElem h)
      refine ⟨_, ewipe env vs, M2, _, rd, (((hs.keep k1).keep k2).keep k3).wipe vs, m3, hr, fun env4 M4 σ4 H4 q4 s4 k4 m4 e4 => ⟨?_, env4, M4, _, s4, m4, q4, fun b M5 H5 q5 k5 m5 => ?_⟩⟩
      · exact e4.trans (wipe_idem vs σ)
      have kk : Keep H1 H5 := ((k2.trans k3).trans k4).trans k5
      cases b with
      | true =>
        refine ⟨env4, M5, _, s4.keep k5, m5, q5, fun y M6 u H6 q6 ru k6 m6 => ?_⟩
        obtain ⟨acc, ea, hz, hn⟩ := q6
        obtain ⟨us, eu, rs⟩ := m6 _ _ ea
        have kw : Keep H6 (upd H6 p (.lst (us ++ [u]))) := .write eu trivial
        exact ⟨us, eu, by rw [← rs.len]; exact hz, _, (kk.trans k6).trans kw, RelM.write (o := .lst (acc ++ [y])) m6 eu trivial ⟨_, upd_same, (rs.keep kw).app (.cons (ru.keep kw) .nil)⟩, hn.at⟩
      | false => exact ⟨M5, kk, m5, q5⟩
  · rw [List.drop_of_length_le (by omega)] at hr
    exact .inl ⟨D.stop i H2 M2 k2 m2 hr.1 (by omega), hl _ _ _ _ hr.2 rfl (k1.trans k2) m2⟩
theorem d_lc {elt : Expr} {ifs : List Expr} {scope : Scope} {own : List (Str × Nat)} (hc : X.calm = true) (hN : X.N.Nodup) (hi : DI X tg it wi) (ok : BlkOk X.N X.env.scope scope own)
    (hg : ∀ (s : Shared) (H : Hp) (C : Addr) (cl : List (Str × Addr)) (fp : List Addr), DGo (X.blk s H scope (compEnvC scope cl C X.env) fp) (own.map (·.2)) tg wg) (ht : ∀ (s : Shared) (H : Hp) (C : Addr) (cl : List (Str × Addr)) (fp : List Addr), DTs (X.blk s H scope (compEnvC scope cl C X.env) fp) ifs wt)
    (he : ∀ (s : Shared) (H : Hp) (C : Addr) (cl : List (Str × Addr)) (fp : List Addr), DE (X.blk s H scope (compEnvC scope cl C X.env) fp) elt we) (hs : ∀ x, foldedSetIterable it X.env x = pure x := by intro _; rfl) :
    DE X (.ListComp elt [⟨tg, it, ifs, 0⟩] scope pos) (wLc wi wg wt we (own.map (·.2))) := pe_wk (pe_lc (g := tGo X.K (List.map (fun (p : Str × Nat) => p.2) own) wg) (tt := tT X.K wt) (te := tD X.K we) hc hN hi ok hg ht he hs) fun _ _ _ h => tLc_of h
theorem s_setLc {i : Nat} {y : Str} {py spos : Pos} {elt : Expr} {ifs : List Expr} {scope : Scope} {own : List (Str × Nat)} (hc : X.calm = true) (hN : X.N.Nodup) (hy : X.N[i]? = some y) (hyl : X.env.scope.names.lookup y = some .local)
    (hsw : swapsWith (.ListComp elt [⟨tg, it, ifs, 0⟩] scope pos) (some (.Name y py)) spos.line X.env = pure true) (hi : DI X tg it wi) (ok : BlkOk X.N X.env.scope scope own)
    (hg : ∀ (s : Shared) (H : Hp) (C : Addr) (cl : List (Str × Addr)) (fp : List Addr), DGo (X.blk s H scope (compEnvC scope cl C X.env) fp) (own.map (·.2)) tg wg) (ht : ∀ (s : Shared) (H : Hp) (C : Addr) (cl : List (Str × Addr)) (fp : List Addr), DTs (X.blk s H scope (compEnvC scope cl C X.env) fp) ifs wt)
    (he : ∀ (s : Shared) (H : Hp) (C : Addr) (cl : List (Str × Addr)) (fp : List Addr), DE (X.blk s H scope (compEnvC scope cl C X.env) fp) elt we) (hs : ∀ x, foldedSetIterable it X.env x = pure x := by intro _; rfl) :
    DS X (.Assign [.Name y py] (.ListComp elt [⟨tg, it, ifs, 0⟩] scope pos) spos) (wAsg (wLc wi wg wt we (own.map (·.2))) (gN i)) :=
  ps_wk (ps_setLc (g := tGo X.K (List.map (fun (p : Str × Nat) => p.2) own) wg) (tt := tT X.K wt) (te := tD X.K we) hc hN hy hyl hsw hi ok hg ht he hs) fun E σ H ⟨env, M, Ed, hs, hm, hw, hl⟩ => tLc_of ⟨env, M, _, hs, hm, hw, fun d M1 v H1 q r k m1 => hl.nx _ _ _ _ q ((hs.keep k).set r) k m1⟩

/-! ### iterators -/
/-- a list: one that stays as it is while it is walked, or one that never changes -/
def iSeq (d : D) (M : Mp) (R : (Mp → Prop) → List D → Prop) : Prop := match d with
  | .tup ds => R (fun _ => True) ds
  | .clst ds => R (fun _ => True) ds
  | .ref a => ∃ ds, M a = some (.lst ds) ∧ R (fun M' => M' a = some (.lst ds)) ds
  | .str x => R (fun _ => True) (x.cps.toList.map fun c => .str ⟨#[c]⟩)
  | _ => False
def itS (we : WE) (p : D → Bool) : WI | env, M, R => we env M fun d M1 => p d = true ∧ iSeq d M1 fun ok ds => R ok ds M1
def isTup : D → Bool
  | .tup _ => true
  | _ => false
def isStr : D → Bool
  | .str _ => true
  | _ => false
def isLst : D → Bool
  | .clst _ => true
  | .ref _ => true
  | _ => false
theorem itl_ok {K : PySem.W.Frag} {H0 : Hp} {a : Addr} {ds : List D} {ok : Mp → Prop} (h : ∀ H M, Keep H0 H → RelM K H M → ok M → ∃ vs, SqL K H a vs ∧ RelDs K H ds vs) : ItD K H0 (Itl K a) ok ds where
  go := fun i H M k m o hi => by
    obtain ⟨vs, hq, rs⟩ := h H M k m o
    have hl := rs.len
    exact ⟨vs, vs[i]'(by omega), hq, List.getElem?_eq_getElem (by omega)⟩
  yld := fun i H M x H' d k m o hy hd => by
    obtain ⟨rfl, hx⟩ := hy
    obtain ⟨vs, hq, rs⟩ := h _ M k m o
    obtain ⟨v, e, r⟩ := rs.get hd
    have := hx vs hq
    rw [e] at this
    cases this
    exact ⟨r, .refl, m⟩
  stop := fun i H M k m o hi => by
    obtain ⟨vs, hq, rs⟩ := h H M k m o
    exact ⟨vs, hq, by rw [← rs.len]; exact hi⟩
theorem itt_ok {K : PySem.W.Frag} {H0 : Hp} {a : Addr} {ds : List D} {ok : Mp → Prop} (h : ∀ H M, Keep H0 H → RelM K H M → ok M → ∃ vs, SqT K H a vs ∧ RelDs K H ds vs) : ItD K H0 (Itt K a) ok ds where
  go := fun i H M k m o hi => by
    obtain ⟨vs, hq, rs⟩ := h H M k m o
    have hl := rs.len
    exact ⟨vs, vs[i]'(by omega), hq, List.getElem?_eq_getElem (by omega)⟩
  yld := fun i H M x H' d k m o hy hd => by
    obtain ⟨rfl, hx⟩ := hy
    obtain ⟨vs, hq, rs⟩ := h _ M k m o
    obtain ⟨v, e, r⟩ := rs.get hd
    have := hx vs hq
    rw [e] at this
    cases this
    exact ⟨r, .refl, m⟩
  stop := fun i H M k m o hi => by
    obtain ⟨vs, hq, rs⟩ := h H M k m o
    exact ⟨vs, hq, by rw [← rs.len]; exact hi⟩
theorem i_lst (he : DE X e we) : DI X tg e (itS we isLst) := pi_wk (pi_list he) fun σ H R ⟨env, M, Rd, hs, hm, hw, hl⟩ => by
  refine ⟨env, M, _, hs, hm, hw, fun d M1 v H1 q r k m1 => ?_⟩
  cases d with
  | clst ds =>
    obtain ⟨a, vs, rfl, t, rs⟩ := r
    exact ⟨a, rfl, ⟨vs, t.sq⟩, hl _ _ _ _ _ q.2 k m1 (itl_ok fun H2 M2 k2 m2 _ => ⟨vs, (t.keep k2).sq, rs.keep k2⟩)⟩
  | ref a =>
    cases (show v = _ from r)
    obtain ⟨ds, e, q⟩ := q.2
    obtain ⟨vs, e1, rs⟩ := m1 _ _ e
    exact ⟨a, rfl, ⟨vs, .of e1⟩, hl _ _ _ _ _ q k m1 (itl_ok fun H2 M2 k2 m2 o => by
      obtain ⟨us, e2, r2⟩ := m2 _ _ o
      exact ⟨us, .of e2, r2⟩)⟩
  | _ => exact Bool.noConfusion q.1
theorem i_tup (he : DE X e we) : DI X tg e (itS we isTup) := pi_wk (pi_tup he) fun σ H R ⟨env, M, Rd, hs, hm, hw, hl⟩ => by
  refine ⟨env, M, _, hs, hm, hw, fun d M1 v H1 q r k m1 => ?_⟩
  cases d with
  | tup ds =>
    obtain ⟨a, vs, rfl, t, rs⟩ := r
    exact ⟨a, rfl, ⟨vs, t.sq⟩, hl _ _ _ _ _ q.2 k m1 (itt_ok fun H2 M2 k2 m2 _ => ⟨vs, (t.keep k2).sq, rs.keep k2⟩)⟩
  | _ => exact Bool.noConfusion q.1
theorem i_str (he : DE X e we) : DI X tg e (itS we isStr) := pi_wk (pi_str he) fun σ H R ⟨env, M, Rd, hs, hm, hw, hl⟩ => by
  refine ⟨env, M, _, hs, hm, hw, fun d M1 v H1 q r k m1 => ?_⟩
  cases d with
  | str x =>
    cases (show v = _ from r)
    have hz : (x.cps.toList.map fun c => D.str ⟨#[c]⟩).length = x.cps.size := by rw [List.length_map, Array.length_toList]
    refine ⟨x, rfl, hl _ _ _ _ _ q.2 k m1 ⟨fun i H2 M2 k2 m2 o hi => by rw [hz] at hi; exact hi, fun i H2 M2 x' H3 d k2 m2 o hy hd => ?_, fun i H2 M2 k2 m2 o hi => by rw [hz] at hi; exact hi⟩⟩
    obtain ⟨rfl, c, ec, rfl⟩ := hy
    rw [List.getElem?_map, Array.getElem?_toList, ec] at hd
    cases hd
    exact ⟨rfl, .refl, m2⟩
  | _ => exact Bool.noConfusion q.1
def rngD (lo : Int) (n : Nat) : List D := (List.range n).map fun i => .int (lo + (i : Nat))
theorem itr_ok {K : PySem.W.Frag} {H0 : Hp} {lo : Int} {n : Nat} : ItD K H0 (Itr lo n) (fun _ => True) (rngD lo n) where
  go := fun i H M k m o hi => by
    show i < n
    simpa [rngD] using hi
  yld := fun i H M x H' d k m o hy hd => by
    obtain ⟨rfl, rfl⟩ := hy
    unfold rngD at hd
    rw [List.getElem?_map] at hd
    cases q : (List.range n)[i]? with
    | none => rw [q] at hd; cases hd
    | some j =>
      rw [q] at hd
      cases hd
      have := List.getElem?_eq_some_iff.mp q
      obtain ⟨h1, h2⟩ := this
      rw [List.getElem_range] at h2
      subst h2
      exact ⟨rfl, .refl, m⟩
  stop := fun i H M k m o hi => by
    show n ≤ i
    simpa [rngD] using hi
def itRng1 (wx : WA) : WI | env, M, R => wx env M fun ds M1 => match ds with
  | [.int j] => -(2 ^ 62) ≤ j ∧ j < 2 ^ 62 ∧ R (fun _ => True) (rngD 0 j.toNat) M1
  | _ => False
def itRng2 (wx : WA) : WI | env, M, R => wx env M fun ds M1 => match ds with
  | [.int i, .int j] => (-(2 ^ 62) ≤ i ∧ i < 2 ^ 62 ∧ -(2 ^ 62) ≤ j ∧ j < 2 ^ 62) ∧ R (fun _ => True) (rngD i (j - i).toNat) M1
  | _ => False
theorem i_rng1 {a : Expr} {wx : WA} {p : Pos} (hg : Gl X "range") (hm : X.mg "range" = none) (ha : DA X [a] wx) (hs : starEach [a] X.env = [(false, eval a X.env)] := by rfl) : DI X tg (.Call (.Name "range" p) [a] [] pos) (itRng1 wx) :=
  pi_wk (pi_range1 hg hm ha hs) fun σ H R ⟨env, M, Rd, hs, hm, hw, hl⟩ => ⟨env, M, _, hs, hm, hw, fun ds M1 vs H1 q r k m1 => by
    split at q
    · rename_i j
      obtain ⟨v, r1, rfl, hv, e2⟩ := r
      cases (show v = _ from hv)
      cases e2
      exact ⟨j, rfl, q.1, q.2.1, hl _ _ _ _ _ q.2.2 k m1 itr_ok⟩
    · exact q.elim⟩
theorem i_rng2 {a b : Expr} {wx : WA} {p : Pos} (hg : Gl X "range") (hm : X.mg "range" = none) (ha : DA X [a, b] wx) (hs : starEach [a, b] X.env = [(false, eval a X.env), (false, eval b X.env)] := by rfl) (hs2 : starEach [b] X.env = [(false, eval b X.env)] := by rfl) :
    DI X tg (.Call (.Name "range" p) [a, b] [] pos) (itRng2 wx) :=
  pi_wk (pi_range2 hg hm ha hs hs2) fun σ H R ⟨env, M, Rd, hs, hm, hw, hl⟩ => ⟨env, M, _, hs, hm, hw, fun ds M1 vs H1 q r k m1 => by
    split at q
    · rename_i i j
      obtain ⟨v, r1, rfl, hv, u, r2, rfl, hu, e2⟩ := r
      cases (show v = _ from hv)
      cases (show u = _ from hu)
      cases e2
      exact ⟨i, j, rfl, q.1, hl _ _ _ _ _ q.2 k m1 itr_ok⟩
    · exact q.elim⟩
end

/-! ### defs -/
def Rm (k : Nat) (A : Around) : Prop := Room k A ∧ A.guards = some []
theorem Rm.mono {j k : Nat} {A : Around} (r : Rm k A) (h : j ≤ k) : Rm j A := ⟨r.1.mono h, r.2⟩
theorem Rm.deeper {k : Nat} {A : Around} (r : Rm (k + 1) A) (env : Env) : Rm k (A.deeper env) := ⟨r.1.deeper env, r.2⟩
/-- a def's promise over trees -/
structure FnG (P : Program) (w : World) (K : PySem.W.Frag) (mg : Str → Option Value) (base : Heap) (k : Nat) (f : Addr) (fd : FuncData) (ps : List Str) (W : WC) : Prop where
  len : ∀ ds M Q, W ds M Q → ds.length = ps.length
  run : ∀ (A : Around) (outer : List Env) (s : Shared) (H : Hp) (args : Args) (us : List Value) (vs : List V) (Q : VK), Rm k A → Env0 P w K mg base A outer s H → BindsTo s fd args (ps.zip us) → Vals vs us → rDs K W vs H Q →
    codeAny (model P w) A (.call (.ref f) args) (CR CX0 outer P w H s Q E0) s
theorem FnG.mono {P : Program} {w : World} {K : PySem.W.Frag} {mg : Str → Option Value} {base : Heap} {j k : Nat} {f : Addr} {fd : FuncData} {ps : List Str} {W : WC} (F : FnG P w K mg base j f fd ps W) (h : j ≤ k) : FnG P w K mg base k f fd ps W :=
  ⟨F.len, fun A outer s H args us vs Q hr => F.run A outer s H args us vs Q (hr.mono h)⟩
/-- a def of n slots and np parameters -/
def wDef (n np : Nat) (body : WS) : WC | ds, M, Q => ds.length = np ∧ body { nx := fun _ M' => Q .non M', rt := Q } (ds.map some ++ List.replicate (n - ds.length) none) M
theorem fn_g {P : Program} {w : World} {K : PySem.W.Frag} {mg : Str → Option Value} {base : Heap} {k : Nat} {x qual : Str} {st : Stmt} {f : Addr} {fd : FuncData} {N ps : List Str} {body : WS} (F : Fun K x qual st f fd) (S : FnScope N ps (defScope st))
    (hb : ∀ (cdv : Value) (A : Around) (outer : List Env) (s : Shared) (H : Hp), Rm k (A.deeper (envOfC qual (defScope st) s.heap.objs.size f cdv)) →
      DSs (cxOf CX0 P w K mg base N qual (defScope st) f cdv A outer s H E0).nox (defBody st) body) : FnG P w K mg base (k + 1) f fd ps (wDef N.length ps.length body) := by
  obtain ⟨oc, od, kV, doc, pm, an, cdv, ct, osl, rfl, lk, hcd⟩ := F.ex
  refine ⟨fun ds M Q h => h.1, fun A outer s H args us vs Q hr e0 hbd rv hW => ?_⟩
  obtain ⟨ds, M, Qd, rd, rm, ⟨hl, hw⟩, lf⟩ := hW
  have hlen : vs.length = ps.length := by rw [← rd.len]; exact hl
  have KX : K.In s.heap := e0.mod.kin.keeps fun b o e => (e0.bs b o e).1
  have lim : s.heap.NoLimit := e0.mod.nolimit.keeps fun b o e => (e0.bs b o e).1
  have hk : ∀ y ∈ ps.zip us, (defScope st).names.lookup y.1 = some .local ∨ ((defScope st).names.lookup y.1 = some .cell ∧ ((cellsFrom (s.heap.objs.size + 1) (defScope st).names []).lookup y.1).isSome = true) := fun y hy =>
    (S.par y.1 (List.of_mem_zip (show (y.1, y.2) ∈ ps.zip us from hy)).1).imp id fun q => ⟨q, PySem.W.cellsFrom_some _ _ _ (.inl q)⟩
  refine codeAny_call_function hr.1.depth (KX _ _ lk) rfl S.co S.gen rfl (PySem.W.codeRec_of KX hcd) (hbd _ _ _ _ (wpAny_newFunctionEnv_cells S.kind hk fun env he s1 x => ?_))
  subst he
  refine ⟨lim.keeps x.toInCall.keep, codeAny_func ?_⟩
  have I : Inv (cxOf CX0 P w K mg base N qual (defScope st) f cdv A outer s H E0) [] (L2.start N vs) H s1 := inv_start S hr.1.hd e0 hlen rv x
  have B : DSs (cxOf CX0 P w K mg base N qual (defScope st) f cdv A outer s H E0) (defBody st) body := PSs.nox (hb cdv A outer s H (hr.deeper _))
  have goal : ∀ {σ' : St} {H' : Hp} {v : V} {u : Value} {s' : Shared}, Inv (cxOf CX0 P w K mg base N qual (defScope st) f cdv A outer s H E0) [] σ' H' s' → RelV v u → Q v H' → CE outer P w H s Q u s' :=
    fun J r q => ⟨_, _, J.os, J.bare, J.base, J.hok, r, q⟩
  refine wpAny_mono (B.run [] s1 (L2.start N vs) H { nx := fun _ H' => Q .non H', rt := Q } I ⟨_, M, _, .start rd, rm, hw, ⟨fun _ M' _ H' q _ k m => lf _ M' _ H' q rfl k m, lf, fun _ _ _ _ q => q.elim, fun _ _ _ _ q => q.elim⟩⟩) (fun fl s' hs => ?_) fun e s' hs => hs
  cases fl with
  | ret u =>
    obtain ⟨v, σ', H', J, r, q⟩ := hs
    exact goal J r q
  | next =>
    obtain ⟨σ', H', J, q⟩ := hs
    exact goal (v := V.non) (u := Value.none) J rfl q
  | brk =>
    obtain ⟨_, _, _, q⟩ := hs
    exact q.elim
  | cont =>
    obtain ⟨_, _, _, q⟩ := hs
    exact q.elim
section
variable {X : Cx} {k : Nat} {f : Addr} {fd : FuncData} {ps : List Str} {W : WC} {x : Str} {p pos : Pos} {e : Expr} {es : List Expr} {wx wk : WA}
/-- how positional values bind -/
def PB (K : PySem.W.Frag) (fd : FuncData) (ps : List Str) : Prop := ∀ (s : Shared) (us : List Value), K.In s.heap → us.length = ps.length → BindsTo s fd ⟨us, []⟩ (ps.zip us)
theorem run_g {args : Args} {pins : List (Addr × Obj)} {σ : St} {H : Hp} {s : Shared} {Q : VK} {us : List Value} {vs : List V} {kw : List (Str × Value)} {a : List Value} (F : FnG X.prog X.w X.K X.mg X.base k f fd ps W) (hr : Rm k X.A)
    (hb : BindsTo s fd ⟨a, kw⟩ (ps.zip us)) (I : Inv X pins σ H s) (r : Vals vs us) (h : rDs X.K W vs H Q) : wpAny (model X.prog X.w) X.A (call (.ref f) a kw) (EP X pins σ Q) X.xe s := by
  refine wpAny_call (codeAny_mono (F.run X.A X.stack s H ⟨a, kw⟩ us vs Q hr I.env0 hb r h) fun r s' hq => ?_)
  cases r with
  | error e => exact False.elim hq
  | ok fl =>
    cases fl with
    | ret u => exact I.after hq
    | _ => exact False.elim hq
theorem d_call (F : FnG X.prog X.w X.K X.mg X.base k f fd ps W) (hr : Rm k X.A) (hg : Gl X x) (hm : X.mg x = some (.ref f)) (hk : PySem.W.keepIn X.K (.ref f) = true) (hb : PB X.K fd ps) (ha : DA X (e :: es) wx)
    (hdb : (x == ("__debug__" : Str)) = false := by decide) (he : starEach (e :: es) X.env = (false, eval e X.env) :: starEach es X.env := by rfl) (hpl : (backTo pos (starEach es X.env)).any (·.1) = false := by rfl) :
    DE X (.Call (.Name x p) (e :: es) [] pos) (wCall W wx) := by
  refine ⟨fun pins s σ H Q I h => wpAny_Call_Name_kw (ld_glob I hg hm ?_ hdb)⟩
  refine PySem.W.callWith_K (h₀ := X.base) I.ok.mod.kin hk (thn (ha.run pos pins s σ H _ I (tCall_of h)) fun us s1 ⟨vs, H1, I1, r, q⟩ => ⟨I1.kIn, ?_⟩) he hpl
  obtain ⟨ds, M, Qd, rd, rm, hW, lf⟩ := id q
  exact run_g (args := ⟨us, []⟩) F hr (hb s1 us I1.kIn (by rw [← r.length, ← rd.len]; exact F.len _ _ _ hW)) I1 r q
theorem d_call0 (F : FnG X.prog X.w X.K X.mg X.base k f fd ps W) (hr : Rm k X.A) (hg : Gl X x) (hm : X.mg x = some (.ref f)) (hk : PySem.W.keepIn X.K (.ref f) = true) (hb : PB X.K fd ps) (hdb : (x == ("__debug__" : Str)) = false := by decide) :
    DE X (.Call (.Name x p) [] [] pos) (wCall W wNil) := by
  refine ⟨fun pins s σ H Q I h => wpAny_Call_Name_kw (ld_glob I hg hm ?_ hdb)⟩
  obtain ⟨env, M, Qd, hs, rm, hW, lf⟩ := h
  refine PySem.W.callWith_K0 I.kIn hk (run_g (args := ⟨[], []⟩) (us := []) (vs := []) F hr (hb s [] I.kIn ?_) I .nil ⟨[], M, Qd, .nil, rm, hW, lf⟩)
  exact F.len _ _ _ hW
/-- keywords -/
def DK (X : Cx) (kws : List Keyword) (w : WA) : Prop := PK X kws (tA X.K w)
theorem k_nil : DK X [] wNil := ⟨fun pos pins s σ H Q I ⟨env, M, Qd, hs, hm, hw, hl⟩ => pk_nil.run pos pins s σ H Q I (hl _ _ _ _ hw .nil .refl hm)⟩
theorem k_cons {nm : Option Str} {kpos : Pos} {kws : List Keyword} {wa : WE} (ha : DE X e wa) (hr : DK X kws wx) : DK X (⟨nm, e, kpos⟩ :: kws) (wCons wa wx) :=
  ⟨fun pos pins s σ H Q I ⟨env, M, Qd, hs, hm, hw, hl⟩ => (pk_cons ha hr).run pos pins s σ H Q I ⟨env, M, _, hs, hm, hw, fun d M1 v H1 q r k m1 => ⟨env, M1, _, hs.keep k, m1, q, fun ds M2 vs H2 q2 rs k2 m2 => hl _ _ _ _ q2 (.cons (r.keep k2) rs) (k.trans k2) m2⟩⟩⟩
/-- where a parameter's value comes from -/
inductive Src where
  | p (i : Nat) | k (j : Nat) | c (d : D) (v : V) (u : Value)
def Src.D (us ws : List Dl.D) : Src → Dl.D
  | .p i => us.getD i .non
  | .k j => ws.getD j .non
  | .c d _ _ => d
def Src.V (us ws : List L2.V) : Src → L2.V
  | .p i => us.getD i .non
  | .k j => ws.getD j .non
  | .c _ v _ => v
def Src.U (us ws : List Value) : Src → Value
  | .p i => us.getD i .none
  | .k j => ws.getD j .none
  | .c _ _ u => u
structure KB (K : PySem.W.Frag) (fd : FuncData) (ps : List Str) (n : Nat) (ks : List Str) (sel : List Src) : Prop where
  to : ∀ (s : Shared) (us ws : List Value), K.In s.heap → us.length = n → ws.length = ks.length → BindsTo s fd ⟨us, ks.zip ws⟩ (ps.zip (sel.map (Src.U us ws)))
  ok : ∀ d v u, Src.c d v u ∈ sel → RelV v u ∧ RelD K (fun _ => none) d v
theorem getD_rel {K : PySem.W.Frag} {H : Hp} : ∀ {ds : List D} {vs : List V} (i : Nat), RelDs K H ds vs → RelD K H (ds.getD i .non) (vs.getD i .non)
  | [], _, i, h => by cases h; exact rfl
  | d :: ds, _, 0, h => by
    obtain ⟨v, r, rfl, h1, h2⟩ := h
    exact h1
  | d :: ds, _, i + 1, h => by
    obtain ⟨v, r, rfl, h1, h2⟩ := h
    exact getD_rel i h2
theorem getD_val : ∀ {vs : List V} {us : List Value} (i : Nat), Vals vs us → RelV (vs.getD i .non) (us.getD i .none)
  | _, _, _, .nil => rfl
  | _, _, 0, .cons h _ => h
  | _, _, i + 1, .cons _ t => getD_val (vs := _) i t
theorem sel_rel {K : PySem.W.Frag} {H : Hp} {ds zs : List D} {vs us : List V} (r : RelDs K H ds vs) (q : RelDs K H zs us) : ∀ {sel : List Src}, (∀ d v u, Src.c d v u ∈ sel → RelV v u ∧ RelD K (fun _ => none) d v) → RelDs K H (sel.map (Src.D ds zs)) (sel.map (Src.V vs us))
  | [], _ => .nil
  | x :: sel, h => .cons (by
      cases x with
      | p i => exact getD_rel i r
      | k i => exact getD_rel i q
      | c d v u => exact (h d v u List.mem_cons_self).2.keep keep_none) (sel_rel r q fun d v u z => h d v u (List.mem_cons_of_mem _ z))
theorem sel_val {K : PySem.W.Frag} {vs zs : List V} {us ws : List Value} (r : Vals vs us) (q : Vals zs ws) : ∀ {sel : List Src}, (∀ d v u, Src.c d v u ∈ sel → RelV v u ∧ RelD K (fun _ => none) d v) → Vals (sel.map (Src.V vs zs)) (sel.map (Src.U us ws))
  | [], _ => .nil
  | x :: sel, h => .cons (by
      cases x with
      | p i => exact getD_val i r
      | k i => exact getD_val i q
      | c d v u => exact (h d v u List.mem_cons_self).1) (sel_val r q fun d v u z => h d v u (List.mem_cons_of_mem _ z))
def wCallK (W : WC) (n m : Nat) (sel : List Src) (wx wk : WA) : WE | env, M, Q => wx env M fun ds M1 => wk env M1 fun zs M2 => ds.length = n ∧ zs.length = m ∧ W (sel.map (Src.D ds zs)) M2 Q
theorem d_callK {n m : Nat} {ks : List Str} {sel : List Src} {kws : List Keyword} (F : FnG X.prog X.w X.K X.mg X.base k f fd ps W) (hr : Rm k X.A) (hg : Gl X x) (hm : X.mg x = some (.ref f)) (hk : PySem.W.keepIn X.K (.ref f) = true) (hb : KB X.K fd ps n ks sel)
    (ha : DA X (e :: es) wx) (hkw : DK X kws wk) (hm' : ks.length = m := by rfl) (hall : (backToKw pos (keywordEach kws X.env)).all (·.1.isSome) = true := by rfl) (hks : (backToKw pos (keywordEach kws X.env)).filterMap (·.1) = ks := by rfl)
    (hdb : (x == ("__debug__" : Str)) = false := by decide) (he : starEach (e :: es) X.env = (false, eval e X.env) :: starEach es X.env := by rfl)
    (hpl : ((backTo pos (starEach (e :: es) X.env)).any (·.1) || (backToKw pos (keywordEach kws X.env)).any (·.1.isNone)) = false := by rfl) :
    DE X (.Call (.Name x p) (e :: es) kws pos) (wCallK W n m sel wx wk) := by
  subst hm'
  refine ⟨fun pins s σ H Q I ⟨env, M, Qd, hs, rm, hW, lf⟩ => wpAny_Call_Name_kw (ld_glob I hg hm ?_ hdb)⟩
  refine PySem.W.callWith_KW (h₀ := X.base) I.ok.mod.kin hk hall (thn (ha.run pos pins s σ H (fun vs H1 => ∃ ds M1, RelDs X.K H1 ds vs ∧ RelM X.K H1 M1 ∧ Keep H H1 ∧ wk env M1 fun zs M2 => ds.length = n ∧ zs.length = ks.length ∧ W (sel.map (Src.D ds zs)) M2 Qd) I
    ⟨env, M, _, hs, rm, hW, fun ds M1 vs H1 q r k m1 => ⟨ds, M1, r, m1, k, q⟩⟩) fun us s1 ⟨vs, H1, I1, r, ds, M1, rd, m1, k1, q⟩ => ?_) hpl he
  refine thn (hkw.run pos pins s1 σ H1 (fun zs H2 => ∃ es M2, RelDs X.K H2 es zs ∧ RelM X.K H2 M2 ∧ Keep H1 H2 ∧ ds.length = n ∧ es.length = ks.length ∧ W (sel.map (Src.D ds es)) M2 Qd) I1
    ⟨env, M1, _, hs.keep k1, m1, q, fun es M2 vs H1 q r k m1 => ⟨es, M2, r, m1, k, q⟩⟩) fun ws s2 ⟨zs, H2, I2, rz, es, M2, re, m2, k2, l1, l2, q2⟩ => ⟨I2.kIn, ?_⟩
  rw [hks]
  have hl1 : us.length = n := by rw [← r.length, ← rd.len]; exact l1
  have hl2 : ws.length = ks.length := by rw [← rz.length, ← re.len]; exact l2
  exact run_g (args := ⟨us, ks.zip ws⟩) F hr (hb.to s2 us ws I2.kIn hl1 hl2) I2 (sel_val (K := X.K) r rz hb.ok) ⟨_, M2, Qd, sel_rel (rd.keep k2) re hb.ok, m2, q2, (lf.at k1).at k2⟩
theorem d_callK0 {m : Nat} {ks : List Str} {sel : List Src} {kws : List Keyword} (F : FnG X.prog X.w X.K X.mg X.base k f fd ps W) (hr : Rm k X.A) (hg : Gl X x) (hm : X.mg x = some (.ref f)) (hk : PySem.W.keepIn X.K (.ref f) = true) (hb : KB X.K fd ps 0 ks sel)
    (hkw : DK X kws wk) (hm' : ks.length = m := by rfl) (hall : (backToKw pos (keywordEach kws X.env)).all (·.1.isSome) = true := by rfl) (hks : (backToKw pos (keywordEach kws X.env)).filterMap (·.1) = ks := by rfl)
    (hdb : (x == ("__debug__" : Str)) = false := by decide)
    (hpl : ((backTo pos (starEach [] X.env)).any (·.1) || (backToKw pos (keywordEach kws X.env)).any (·.1.isNone)) = false := by rfl) :
    DE X (.Call (.Name x p) [] kws pos) (wCallK W 0 m sel wNil wk) := by
  subst hm'
  refine ⟨fun pins s σ H Q I ⟨env, M, Qd, hs, rm, hW, lf⟩ => wpAny_Call_Name_kw (ld_glob I hg hm ?_ hdb)⟩
  refine PySem.W.callWith_KW0 (h₀ := X.base) I.ok.mod.kin hk hall ?_ hpl
  refine thn (hkw.run pos pins s σ H (fun zs H2 => ∃ es M2, RelDs X.K H2 es zs ∧ RelM X.K H2 M2 ∧ Keep H H2 ∧ es.length = ks.length ∧ W (sel.map (Src.D [] es)) M2 Qd) I
    ⟨env, M, _, hs, rm, hW, fun es M2 vs H1 q r k m1 => ⟨es, M2, r, m1, k, q.2⟩⟩) fun ws s2 ⟨zs, H2, I2, rz, es, M2, re, m2, k2, l2, q2⟩ => ⟨I2.kIn, ?_⟩
  rw [hks]
  have hl2 : ws.length = ks.length := by rw [← rz.length, ← re.len]; exact l2
  exact run_g (args := ⟨[], ks.zip ws⟩) F hr (hb.to s2 [] ws I2.kIn rfl hl2) I2 (sel_val (K := X.K) .nil rz hb.ok) ⟨_, M2, Qd, sel_rel .nil re hb.ok, m2, q2, lf.at k2⟩
end
end L2.Dl

/-! DOps: operators, comparisons, built-ins by values. -/
namespace L2.Dl
open PySem PySem.Spec PyProof.Rows

section
variable {K : PySem.W.Frag} {H : Hp} {M : Mp} {Qd : DQ} {Q : VK} {pins : List (Addr × Obj)} {s : Shared}
theorem Lift.val (l : Lift K H Qd Q) (m : RelM K H M) {d : D} {v : V} (q : Qd d M) (r : RelD K H d v) : Q v H := l d M v H q r .refl m
theorem Lift.newT (l : Lift K H Qd Q) {ds : List D} {vs : List V} (rs : RelDs K H ds vs) (m : RelM K H M) (q : Qd (.tup ds) M) : ∀ p, H p = none → Q (.ref p) (upd H p (.tup vs)) := fun p hp => by
  have kk : Keep H (upd H p (.tup vs)) := .fresh hp
  exact l _ M _ _ q ⟨p, vs, rfl, .inl upd_same, rs.keep kk⟩ kk (m.skip hp)
end

/-! ### arithmetic -/
def bAdd : W2 | d, e, M, Q => match d, e with
  | .int i, .int j => Q (.int (i + j)) M
  | .str x, .str y => x.length + y.length ≤ sizeLine ∧ Q (.str (x ++ y)) M
  | .tup xs, .tup ys => xs.length + ys.length ≤ sizeLine ∧ Q (.tup (xs ++ ys)) M
  | .ref a, .ref b => ∃ xs ys, M a = some (.lst xs) ∧ M b = some (.lst ys) ∧ xs.length + ys.length ≤ sizeLine ∧ New M (.lst (xs ++ ys)) fun p M2 => Q (.ref p) M2
  | _, _ => False
def bInt (C : Int → Int → Prop) (f : Int → Int → Int) : W2 | d, e, M, Q => match d, e with
  | .int i, .int j => C i j ∧ Q (.int (f i j)) M
  | _, _ => False
def bSub : W2 := bInt (fun _ _ => True) fun i j => i - j
def bMul : W2 := bInt CMulW fun i j => i * j
def bMod : W2 := bInt (fun _ j => 0 < j) fun i j => i % j
def bDiv : W2 := bInt CDivW fun i j => i / j
def bPow : W2 := bInt CPow fun i j => i ^ j.toNat
section
variable {X : Cx}
theorem o_int {f : Value → Value → Sem Value} {C : Int → Int → Prop} {g : Int → Int → Int} (h : OpR X f (rI C fun i j => .int (g i j))) : OpD X f (bInt C g) := by
  intro pins s σ H x y v u Q I rx ry ⟨d, e, M, Qd, hd, he, hm, hr, hl⟩
  cases d with
  | int i =>
    cases e with
    | int j => exact h pins s σ H x y v u Q I rx ry ⟨i, j, hd, he, hr.1, hl.val hm hr.2 rfl⟩
    | _ => exact hr.elim
  | _ => exact hr.elim
theorem o_sub : OpD X (binaryOp .Sub) bSub := o_int fun pins s σ H x y v u Q I rx ry ⟨i, j, h1, h2, _, q⟩ => op_sub pins s σ H x y v u Q I rx ry ⟨i, j, h1, h2, q⟩
theorem o_mul : OpD X (binaryOp .Mult) bMul := o_int op_mulW
theorem o_mod : OpD X (binaryOp .Mod) bMod := o_int op_mod
theorem o_div : OpD X (binaryOp .FloorDiv) bDiv := o_int op_fdivW
theorem o_pow : OpD X (binaryOp .Pow) bPow := o_int op_pow
theorem o_add : OpD X (binaryOp .Add) bAdd := by
  intro pins s σ H x y v u Q I rx ry ⟨d, e, M, Qd, hd, he, hm, hr, hl⟩
  cases d with
  | int i =>
    cases e with
    | int j => exact op_add pins s σ H x y v u Q I rx ry ⟨i, j, hd, he, hl.val hm hr rfl⟩
    | _ => exact hr.elim
  | str i =>
    cases e with
    | str j => exact op_add_str pins s σ H x y v u Q I rx ry ⟨i, j, hd, he, hr.1, hl.val hm hr.2 rfl⟩
    | _ => exact hr.elim
  | tup xs =>
    cases e with
    | tup ys =>
      obtain ⟨a, vs, rfl, ta, ra⟩ := hd
      obtain ⟨b, us, rfl, tb, rb⟩ := he
      refine op_catA pins s σ H _ _ v u Q I rx ry ⟨a, b, vs, us, rfl, rfl, ta.sq, tb.sq, by rw [← ra.len, ← rb.len]; exact hr.1, fun e => ?_, fun e1 e2 => ?_, fun _ _ => hl.newT (ra.app rb) hm hr.2⟩
      · have : xs = [] := List.length_eq_zero_iff.mp (by rw [ra.len, e]; rfl)
        subst this
        exact hl.val hm hr.2 ⟨b, us, rfl, tb, rb⟩
      · have : ys = [] := List.length_eq_zero_iff.mp (by rw [rb.len, e2]; rfl)
        subst this
        have q := hr.2
        rw [List.append_nil] at q
        exact hl.val hm q ⟨a, vs, rfl, ta, ra⟩
    | _ => exact hr.elim
  | ref a =>
    cases e with
    | ref b =>
      obtain ⟨xs, ys, e1, e2, hz, q⟩ := hr
      obtain ⟨vs, h1, r1⟩ := hm _ _ e1
      obtain ⟨us, h2, r2⟩ := hm _ _ e2
      exact op_cat pins s σ H _ _ v u Q I rx ry ⟨a, b, vs, us, hd, he, h1, h2, by rw [← r1.len, ← r2.len]; exact hz, hl.newL (r1.app r2) hm q⟩
    | _ => exact hr.elim
  | _ => exact hr.elim
def bNeg : D → Mp → DQ → Prop := fun d M Q => match d with
  | .int i => Q (.int (-i)) M
  | _ => False
theorem o_neg : UnD X (unaryOp .USub) bNeg := by
  intro pins s σ H x v Q I rx ⟨d, M, Qd, hd, hm, hr, hl⟩
  cases d with
  | int i => exact un_neg pins s σ H x v Q I rx ⟨i, hd, hl.val hm hr rfl⟩
  | _ => exact hr.elim

/-! ### equality -/
mutual
/-- a tree as plain data; lists by f -/
def datW (f : Addr → Option PyData) : D → Option PyData
  | .non => some .none
  | .bl b => some (.bool b)
  | .int i => some (.int i)
  | .str x => some (.str x)
  | .tup ds => (datWs f ds).map .tuple
  | .clst ds => (datWs f ds).map .list
  | .ref a => f a
  | _ => none
def datWs (f : Addr → Option PyData) : List D → Option (List PyData)
  | [] => some []
  | d :: ds => match datW f d with
    | some p => (datWs f ds).map (p :: ·)
    | none => none
end
def datL (M : Mp) : Nat → Addr → Option PyData
  | 0, _ => none
  | n + 1, a => match M a with
    | some (.lst ds) => (datWs (datL M n) ds).map .list
    | _ => none
def dat (M : Mp) (d : D) : Option PyData := datW (datL M 8) d
def dats (M : Mp) (d : List D) : Option (List PyData) := datWs (datL M 8) d
mutual
theorem datW_dp {K : PySem.W.Frag} {H : Hp} {f : Addr → Option PyData} (hf : ∀ a p, f a = some p → Dp K H (.ref a) p) : ∀ {d : D} {v : V} {p : PyData}, RelD K H d v → datW f d = some p → Dp K H v p
  | .non, v, p, r, e => by cases (show v = _ from r); cases e; exact .non
  | .bl b, v, p, r, e => by cases (show v = _ from r); cases e; exact .bl b
  | .int i, v, p, r, e => by cases (show v = _ from r); cases e; exact .int i
  | .str x, v, p, r, e => by cases (show v = _ from r); cases e; exact .str x
  | .tup ds, v, p, r, e => by
    obtain ⟨a, vs, rfl, t, rs⟩ := r
    unfold datW at e
    cases q : datWs f ds with
    | none => rw [q] at e; cases e
    | some ps =>
      rw [q] at e
      cases e
      exact .tup t.sq (datWs_dp hf rs q)
  | .clst ds, v, p, r, e => by
    obtain ⟨a, vs, rfl, t, rs⟩ := r
    unfold datW at e
    cases q : datWs f ds with
    | none => rw [q] at e; cases e
    | some ps =>
      rw [q] at e
      cases e
      exact .lst t.sq (datWs_dp hf rs q)
  | .ref a, v, p, r, e => by cases (show v = _ from r); exact hf a p e
  | .cdic _ _, _, _, _, e => by unfold datW at e; cases e
  | .ty _, _, _, _, e => by unfold datW at e; cases e
theorem datWs_dp {K : PySem.W.Frag} {H : Hp} {f : Addr → Option PyData} (hf : ∀ a p, f a = some p → Dp K H (.ref a) p) : ∀ {ds : List D} {vs : List V} {ps : List PyData}, RelDs K H ds vs → datWs f ds = some ps → DpAll K H vs ps
  | [], _, _, r, e => by cases r; cases e; exact .nil
  | d :: ds, _, _, r, e => by
    obtain ⟨v, w, rfl, h1, h2⟩ := r
    unfold datWs at e
    cases q : datW f d with
    | none => rw [q] at e; cases e
    | some p =>
      rw [q] at e
      cases q2 : datWs f ds with
      | none => rw [q2] at e; cases e
      | some ps =>
        rw [q2] at e
        cases e
        exact .cons (datW_dp hf h1 q) (datWs_dp hf h2 q2)
end
theorem datL_dp {K : PySem.W.Frag} {H : Hp} {M : Mp} (m : RelM K H M) : ∀ (n : Nat) (a : Addr) (p : PyData), datL M n a = some p → Dp K H (.ref a) p
  | 0, _, _, e => by cases e
  | n + 1, a, p, e => by
    unfold datL at e
    split at e
    · rename_i ds q
      cases q2 : datWs (datL M n) ds with
      | none => rw [q2] at e; cases e
      | some ps =>
        rw [q2] at e
        cases e
        obtain ⟨vs, h1, rs⟩ := m _ _ q
        exact .lst (.of h1) (datWs_dp (datL_dp m n) rs q2)
    · cases e
theorem dat_dp {K : PySem.W.Frag} {H : Hp} {M : Mp} {d : D} {v : V} {p : PyData} (m : RelM K H M) (r : RelD K H d v) (e : dat M d = some p) : Dp K H v p := datW_dp (datL_dp m 8) r e
/-- a flat tree as a value -/
def flv : D → V
  | .non => .non
  | .bl b => .bl b
  | .int i => .int i
  | .str x => .str x
  | _ => .ty "-"
theorem flv_scal {K : PySem.W.Frag} {H : Hp} {d e : D} {x y : V} (h : scal (flv d) (flv e) = true) (r1 : RelD K H d x) (r2 : RelD K H e y) : x = flv d ∧ y = flv e := by
  cases d <;> cases e <;> first
    | exact ⟨r1, r2⟩
    | exact Bool.noConfusion h
def eqR (d e : D) (M : Mp) (Q : Bool → Prop) : Prop := if scal (flv d) (flv e) = true then Q (decide (flv d = flv e))
  else ∃ p q, dat M d = some p ∧ dat M e = some q ∧ SeqAt.shaped p = true ∧ SeqAt.shaped q = true ∧ Q (PyData.eqv p q)
def cEq : W2 | d, e, M, Q => match d, e with
  | .tup ds, .tup [] => Q (.bl ds.isEmpty) M
  | d, e => eqR d e M fun k => Q (.bl k) M
def cNe : W2 | d, e, M, Q => eqR d e M fun k => Q (.bl (!k)) M
theorem o_eqR (hu : X.A.units + 64 < cLine) : OpD X (compareOp .Eq) (fun d e M Q => eqR d e M fun k => Q (.bl k) M) := by
  intro pins s σ H x y v u Q I rx ry ⟨d, e, M, Qd, hd, he, hm, hr, hl⟩
  simp only [eqR] at hr
  by_cases h : scal (flv d) (flv e) = true
  · rw [if_pos h] at hr
    obtain ⟨rfl, rfl⟩ := flv_scal h hd he
    exact op_eq pins s σ H _ _ v u Q I rx ry ⟨h, hl.val hm hr rfl⟩
  · rw [if_neg h] at hr
    obtain ⟨p, q, e1, e2, s1, s2, z⟩ := hr
    exact op_eqD hu pins s σ H x y v u Q I rx ry ⟨p, q, dat_dp hm hd e1, dat_dp hm he e2, s1, s2, hl.val hm z rfl⟩
theorem o_eq (hu : X.A.units + 64 < cLine) : OpD X (compareOp .Eq) cEq := by
  intro pins s σ H x y v u Q I rx ry ⟨d, e, M, Qd, hd, he, hm, hr, hl⟩
  cases d with
  | tup ds =>
    cases e with
    | tup es =>
      cases es with
      | nil =>
        obtain ⟨a, vs, rfl, t, rs⟩ := hd
        obtain ⟨b, us, rfl, t2, rs2⟩ := he
        cases rs2
        cases (show v = _ from rx)
        cases (show u = _ from ry)
        obtain ⟨its, rv, p1, _⟩ := I.tuple t.sq
        obtain ⟨its2, rv2, p2, _⟩ := I.tuple t2.sq
        cases rv2
        have hE : ds.isEmpty = (its.toArray.size == 0) := by
          rw [emp_rel rs]
          cases rv <;> simp
        refine SeqAt.eq_tupleAt (e := fun _ => true) (show s.heap.IsTuple a its.toArray from p1) (show s.heap.IsTuple b #[] from p2) (by omega) (fun j h1 h2 => absurd h2 (by simp)) ⟨.bl ds.isEmpty, H, I, ?_, hl.val hm hr rfl⟩
        show _ = _
        rw [hE]
        simp
      | cons z zs => exact o_eqR hu pins s σ H x y v u Q I rx ry ⟨_, _, M, Qd, hd, he, hm, hr, hl⟩
    | _ => exact o_eqR hu pins s σ H x y v u Q I rx ry ⟨_, _, M, Qd, hd, he, hm, hr, hl⟩
  | _ => exact o_eqR hu pins s σ H x y v u Q I rx ry ⟨_, _, M, Qd, hd, he, hm, hr, hl⟩
theorem o_ne (hu : X.A.units + 64 < cLine) : OpD X (compareOp .NotEq) cNe := by
  intro pins s σ H x y v u Q I rx ry ⟨d, e, M, Qd, hd, he, hm, hr, hl⟩
  simp only [cNe, eqR] at hr
  by_cases h : scal (flv d) (flv e) = true
  · rw [if_pos h] at hr
    obtain ⟨rfl, rfl⟩ := flv_scal h hd he
    exact op_ne pins s σ H _ _ v u Q I rx ry ⟨h, hl.val hm hr rfl⟩
  · rw [if_neg h] at hr
    obtain ⟨p, q, e1, e2, s1, s2, z⟩ := hr
    exact op_neD hu pins s σ H x y v u Q I rx ry ⟨p, q, dat_dp hm hd e1, dat_dp hm he e2, s1, s2, hl.val hm z rfl⟩
/-! ### order -/
def cInt (f : Int → Int → Bool) : W2 | d, e, M, Q => match d, e with
  | .int i, .int j => Q (.bl (f i j)) M
  | _, _ => False
def cLe : W2 := cInt fun i j => decide (i ≤ j)
def cGt : W2 := cInt fun i j => decide (j < i)
def cGe : W2 := cInt fun i j => decide (j ≤ i)
theorem o_cint {f : Value → Value → Sem Value} {g : Int → Int → Bool} (h : OpR X f (rI0 fun i j => .bl (g i j))) : OpD X f (cInt g) := by
  intro pins s σ H x y v u Q I rx ry ⟨d, e, M, Qd, hd, he, hm, hr, hl⟩
  cases d with
  | int i =>
    cases e with
    | int j => exact h pins s σ H x y v u Q I rx ry ⟨i, j, hd, he, hl.val hm hr rfl⟩
    | _ => exact hr.elim
  | _ => exact hr.elim
theorem o_le : OpD X (compareOp .LtE) cLe := o_cint op_le
theorem o_gt : OpD X (compareOp .Gt) cGt := o_cint op_gt
theorem o_ge : OpD X (compareOp .GtE) cGe := o_cint op_ge
def cIsN : W2 | d, e, M, Q => match e with
  | .non => match d with
    | .non => Q (.bl true) M
    | _ => Q (.bl false) M
  | _ => False
def cNotN : W2 | d, e, M, Q => match e with
  | .non => match d with
    | .non => Q (.bl false) M
    | _ => Q (.bl true) M
  | _ => False
theorem non_iff {K : PySem.W.Frag} {H : Hp} {d : D} {x : V} (r : RelD K H d x) : (d = .non ∧ x = .non) ∨ (d ≠ .non ∧ x ≠ .non) := by
  cases d with
  | non => exact .inl ⟨rfl, r⟩
  | tup ds => obtain ⟨a, vs, rfl, _⟩ := r; exact .inr ⟨(fun z => nomatch z), fun z => nomatch z⟩
  | clst ds => obtain ⟨a, vs, rfl, _⟩ := r; exact .inr ⟨(fun z => nomatch z), fun z => nomatch z⟩
  | cdic ks ds => obtain ⟨a, vs, rfl, _⟩ := r; exact .inr ⟨(fun z => nomatch z), fun z => nomatch z⟩
  | _ => cases (show x = _ from r); exact .inr ⟨(fun z => nomatch z), fun z => nomatch z⟩
theorem o_isn : OpD X (compareOp .Is) cIsN := by
  intro pins s σ H x y v u Q I rx ry ⟨d, e, M, Qd, hd, he, hm, hr, hl⟩
  cases e with
  | non =>
    refine op_isN pins s σ H x y v u Q I rx ry ⟨he, ?_⟩
    rcases non_iff hd with ⟨rfl, rfl⟩ | ⟨h1, h2⟩
    · exact hl.val hm hr rfl
    · rw [decide_eq_false h2]
      refine hl.val (d := .bl false) hm ?_ rfl
      cases d <;> first | exact absurd rfl h1 | exact hr
  | _ => exact hr.elim
theorem o_notn : OpD X (compareOp .IsNot) cNotN := by
  intro pins s σ H x y v u Q I rx ry ⟨d, e, M, Qd, hd, he, hm, hr, hl⟩
  cases e with
  | non =>
    refine op_notN pins s σ H x y v u Q I rx ry ⟨he, ?_⟩
    rcases non_iff hd with ⟨rfl, rfl⟩ | ⟨h1, h2⟩
    · exact hl.val hm hr rfl
    · rw [decide_eq_false h2]
      refine hl.val (d := .bl true) hm ?_ rfl
      cases d <;> first | exact absurd rfl h1 | exact hr
  | _ => exact hr.elim
/-! ### in -/
def strIn (x y : Str) : Bool := !(Builtin.Str.occurrences y x 0 y.length 1).isEmpty
def flats (ds : List D) : Bool := ds.all fun d => flatV (flv d)
def inR (d e : D) (M : Mp) (Q : Bool → Prop) : Prop := match e with
  | .str y => match d with
    | .str x => Q (strIn x y)
    | _ => False
  | .tup ds => flatV (flv d) = true ∧ flats ds = true ∧ Q (inV (flv d) (ds.map flv))
  | .clst ds => flatV (flv d) = true ∧ flats ds = true ∧ Q (inV (flv d) (ds.map flv))
  | .ref a => match M a with
    | some (.lst ds) => flatV (flv d) = true ∧ flats ds = true ∧ Q (inV (flv d) (ds.map flv))
    | _ => False
  | _ => False
def cIn : W2 | d, e, M, Q => inR d e M fun k => Q (.bl k) M
def cNotIn : W2 | d, e, M, Q => inR d e M fun k => Q (.bl (!k)) M
theorem flat_val {K : PySem.W.Frag} {H : Hp} {d : D} {x : V} (h : flatV (flv d) = true) (r : RelD K H d x) : x = flv d := by
  cases d <;> first
    | exact r
    | exact Bool.noConfusion h
theorem flats_val {K : PySem.W.Frag} {H : Hp} : ∀ {ds : List D} {xs : List V}, flats ds = true → RelDs K H ds xs → xs = ds.map flv ∧ xs.all flatV = true
  | [], _, _, r => by cases r; exact ⟨rfl, rfl⟩
  | d :: ds, _, h, r => by
    obtain ⟨v, w, rfl, h1, h2⟩ := r
    have h' : (flatV (flv d) && flats ds) = true := h
    rw [Bool.and_eq_true] at h'
    obtain ⟨e1, e2⟩ := flats_val h'.2 h2
    have e3 := flat_val h'.1 h1
    subst e1 e3
    refine ⟨rfl, ?_⟩
    rw [List.all_cons, h'.1, e2]
    rfl
theorem o_in : OpD X (compareOp .In) cIn := by
  intro pins s σ H x y v u Q I rx ry ⟨d, e, M, Qd, hd, he, hm, hr, hl⟩
  cases e with
  | str z =>
    cases d with
    | str w => exact op_in_str pins s σ H x y v u Q I rx ry ⟨w, z, hd, he, hl.val hm hr rfl⟩
    | _ => exact hr.elim
  | tup ds =>
    obtain ⟨a, vs, rfl, t, rs⟩ := he
    obtain ⟨h1, h2, q⟩ := hr
    obtain ⟨e1, e2⟩ := flats_val h2 rs
    have e3 := flat_val h1 hd
    refine op_in_seq pins s σ H x _ v u Q I rx ry ⟨a, vs, rfl, .inr t.sq, by rw [e3]; exact h1, e2, ?_⟩
    rw [e1, e3]
    exact hl.val hm q rfl
  | clst ds =>
    obtain ⟨a, vs, rfl, t, rs⟩ := he
    obtain ⟨h1, h2, q⟩ := hr
    obtain ⟨e1, e2⟩ := flats_val h2 rs
    have e3 := flat_val h1 hd
    refine op_in_seq pins s σ H x _ v u Q I rx ry ⟨a, vs, rfl, .inl t.sq, by rw [e3]; exact h1, e2, ?_⟩
    rw [e1, e3]
    exact hl.val hm q rfl
  | ref a =>
    simp only [cIn, inR] at hr
    split at hr
    · rename_i ds e
      obtain ⟨vs, h3, rs⟩ := hm _ _ e
      obtain ⟨h1, h2, q⟩ := hr
      obtain ⟨e1, e2⟩ := flats_val h2 rs
      have e3 := flat_val h1 hd
      refine op_in_seq pins s σ H x _ v u Q I rx ry ⟨a, vs, he, .inl (.of h3), by rw [e3]; exact h1, e2, ?_⟩
      rw [e1, e3]
      exact hl.val hm q rfl
    · exact hr.elim
  | _ => exact hr.elim
theorem o_notin : OpD X (compareOp .NotIn) cNotIn := by
  intro pins s σ H x y v u Q I rx ry ⟨d, e, M, Qd, hd, he, hm, hr, hl⟩
  cases e with
  | str z =>
    cases d with
    | str w => exact op_notin_str pins s σ H x y v u Q I rx ry ⟨w, z, hd, he, hl.val (d := .bl (!strIn w z)) hm hr rfl⟩
    | _ => exact hr.elim
  | tup ds =>
    obtain ⟨a, vs, rfl, t, rs⟩ := he
    obtain ⟨h1, h2, q⟩ := hr
    obtain ⟨e1, e2⟩ := flats_val h2 rs
    have e3 := flat_val h1 hd
    refine op_notIn_seq pins s σ H x _ v u Q I rx ry ⟨a, vs, rfl, .inr t.sq, by rw [e3]; exact h1, e2, ?_⟩
    rw [e1, e3]
    exact hl.val hm q rfl
  | clst ds =>
    obtain ⟨a, vs, rfl, t, rs⟩ := he
    obtain ⟨h1, h2, q⟩ := hr
    obtain ⟨e1, e2⟩ := flats_val h2 rs
    have e3 := flat_val h1 hd
    refine op_notIn_seq pins s σ H x _ v u Q I rx ry ⟨a, vs, rfl, .inl t.sq, by rw [e3]; exact h1, e2, ?_⟩
    rw [e1, e3]
    exact hl.val hm q rfl
  | ref a =>
    simp only [cNotIn, inR] at hr
    split at hr
    · rename_i ds e
      obtain ⟨vs, h3, rs⟩ := hm _ _ e
      obtain ⟨h1, h2, q⟩ := hr
      obtain ⟨e1, e2⟩ := flats_val h2 rs
      have e3 := flat_val h1 hd
      refine op_notIn_seq pins s σ H x _ v u Q I rx ry ⟨a, vs, he, .inl (.of h3), by rw [e3]; exact h1, e2, ?_⟩
      rw [e1, e3]
      exact hl.val hm q rfl
    · exact hr.elim
  | _ => exact hr.elim
/-! ### built-ins -/
def fLen : WC | ds, M, Q => match ds with
  | [.str x] => x.length ≤ sizeLine ∧ Q (.int x.length) M
  | [.tup ds] => Q (.int ds.length) M
  | [.clst ds] => Q (.int ds.length) M
  | [.ref a] => match M a with
    | some (.lst ds) => Q (.int ds.length) M
    | some (.dK kvs) => Q (.int kvs.length) M
    | _ => False
  | _ => False
theorem paired_len {α β : Type} {F : α → β → Prop} : ∀ {l : List α} {m : List β}, Paired F l m → l.length = m.length
  | _, _, .nil => rfl
  | _, _, .cons _ t => congrArg (· + 1) (paired_len t)
theorem c_len : CallD X (.builtin "len") fLen := by
  intro pins s σ H xs us Q I r ⟨ds, M, Qd, rd, hm, hr, hl⟩
  match ds, hr with
  | [.str x], hr =>
    obtain ⟨v, r1, rfl, hv, e⟩ := rd
    cases e
    exact call_len_str pins s σ H _ us Q I r ⟨x, by rw [show v = _ from hv], hr.1, hl.val hm hr.2 rfl⟩
  | [.tup ds], hr =>
    obtain ⟨v, r1, rfl, ⟨a, vs, rfl, t, rs⟩, e⟩ := rd
    cases e
    exact call_len_seq pins s σ H _ us Q I r ⟨a, vs, rfl, .inr t.sq, by rw [← rs.len]; exact hl.val hm hr rfl⟩
  | [.clst ds], hr =>
    obtain ⟨v, r1, rfl, ⟨a, vs, rfl, t, rs⟩, e⟩ := rd
    cases e
    exact call_len_seq pins s σ H _ us Q I r ⟨a, vs, rfl, .inl t.sq, by rw [← rs.len]; exact hl.val hm hr rfl⟩
  | [.ref a], hr =>
    obtain ⟨v, r1, rfl, hv, e⟩ := rd
    cases (show v = _ from hv)
    cases e
    simp only [fLen] at hr
    split at hr
    · rename_i ds e
      obtain ⟨vs, h3, rs⟩ := hm _ _ e
      exact call_len_seq pins s σ H _ us Q I r ⟨a, vs, rfl, .inl (.of h3), by rw [← rs.len]; exact hl.val hm hr rfl⟩
    · rename_i ds e
      obtain ⟨vs, h3, rs⟩ := hm _ _ e
      exact call_lenD pins s σ H _ us Q I r ⟨a, vs, rfl, h3, by rw [← paired_len rs]; exact hl.val hm hr rfl⟩
    · exact hr.elim
def fI1 (g : Int → D) : WC | ds, M, Q => match ds with
  | [.int i] => Q (g i) M
  | _ => False
def fI2 (g : Int → Int → D) : WC | ds, M, Q => match ds with
  | [.int i, .int j] => Q (g i j) M
  | _ => False
def fAbs : WC := fI1 fun i => .int (if i < 0 then -i else i)
def fMax2 : WC := fI2 fun i j => .int (if j > i then j else i)
def fMin2 : WC := fI2 fun i j => .int (if j < i then j else i)
theorem rel1 {K : PySem.W.Frag} {H : Hp} {d : D} {xs : List V} (r : RelDs K H [d] xs) : ∃ v, xs = [v] ∧ RelD K H d v := by
  obtain ⟨v, r1, rfl, hv, e⟩ := r
  cases e
  exact ⟨v, rfl, hv⟩
theorem rel2 {K : PySem.W.Frag} {H : Hp} {d e : D} {xs : List V} (r : RelDs K H [d, e] xs) : ∃ v u, xs = [v, u] ∧ RelD K H d v ∧ RelD K H e u := by
  obtain ⟨v, r1, rfl, hv, u, r2, rfl, hu, e⟩ := r
  cases e
  exact ⟨v, u, rfl, hv, hu⟩
theorem c_abs : CallD X (.builtin "abs") fAbs := by
  intro pins s σ H xs us Q I r ⟨ds, M, Qd, rd, hm, hr, hl⟩
  match ds, hr with
  | [.int i], hr =>
    obtain ⟨v, rfl, hv⟩ := rel1 rd
    exact call_abs pins s σ H _ us Q I r ⟨i, by rw [show v = _ from hv], hl.val hm hr rfl⟩
theorem c_max2 (hc : X.calm = true) : CallD X (.builtin "max") fMax2 := by
  intro pins s σ H xs us Q I r ⟨ds, M, Qd, rd, hm, hr, hl⟩
  match ds, hr with
  | [.int i, .int j], hr =>
    obtain ⟨v, u, rfl, hv, hu⟩ := rel2 rd
    exact call_max2 hc pins s σ H _ us Q I r ⟨i, j, by rw [show v = _ from hv, show u = _ from hu], hl.val hm hr rfl⟩
theorem c_min2 (hc : X.calm = true) : CallD X (.builtin "min") fMin2 := by
  intro pins s σ H xs us Q I r ⟨ds, M, Qd, rd, hm, hr, hl⟩
  match ds, hr with
  | [.int i, .int j], hr =>
    obtain ⟨v, u, rfl, hv, hu⟩ := rel2 rd
    exact call_min2 hc pins s σ H _ us Q I r ⟨i, j, by rw [show v = _ from hv, show u = _ from hu], hl.val hm hr rfl⟩
def fStr : WC | ds, M, Q => match ds with
  | [.int i] => i.natAbs.log2 < 1920 ∧ Q (.str (toString i)) M
  | [.str x] => Q (.str x) M
  | _ => False
theorem c_str : CallD X (.type "str") fStr := by
  intro pins s σ H xs us Q I r ⟨ds, M, Qd, rd, hm, hr, hl⟩
  match ds, hr with
  | [.int i], hr =>
    obtain ⟨v, rfl, hv⟩ := rel1 rd
    exact call_str_int pins s σ H _ us Q I r ⟨i, by rw [show v = _ from hv], hr.1, hl.val hm hr.2 rfl⟩
  | [.str i], hr =>
    obtain ⟨v, rfl, hv⟩ := rel1 rd
    exact _root_.SkE.call_str_str pins s σ H _ us Q I r ⟨i, by rw [show v = _ from hv], hl.val hm hr rfl⟩
def fInt : WC | ds, M, Q => match ds with
  | [.int i] => Q (.int i) M
  | [.bl b] => Q (.int (if b then 1 else 0)) M
  | [.str x] => ∃ n, PySem.intText? x = some n ∧ x.length ≤ 640 ∧ Q (.int n) M
  | _ => False
theorem c_int : CallD X (.type "int") fInt := by
  intro pins s σ H xs us Q I r ⟨ds, M, Qd, rd, hm, hr, hl⟩
  match ds, hr with
  | [.int i], hr =>
    obtain ⟨v, rfl, hv⟩ := rel1 rd
    exact call_int1 pins s σ H _ us Q I r (.inl ⟨i, by rw [show v = _ from hv], hl.val hm hr rfl⟩)
  | [.bl i], hr =>
    obtain ⟨v, rfl, hv⟩ := rel1 rd
    exact call_int1 pins s σ H _ us Q I r (.inr ⟨i, by rw [show v = _ from hv], hl.val hm hr rfl⟩)
  | [.str i], hr =>
    obtain ⟨v, rfl, hv⟩ := rel1 rd
    obtain ⟨n, h1, h2, q⟩ := hr
    exact call_int_str pins s σ H _ us Q I r ⟨i, n, by rw [show v = _ from hv], h1, h2, hl.val hm q rfl⟩
/-- what a list tells -/
def lstOf (d : D) (M : Mp) : Option (List D) := match d with
  | .clst ds => some ds
  | .ref a => match M a with
    | some (.lst ds) => some ds
    | _ => none
  | _ => none
theorem lst_of {K : PySem.W.Frag} {H : Hp} {M : Mp} {d : D} {v : V} {ds : List D} (m : RelM K H M) (r : RelD K H d v) (h : lstOf d M = some ds) : ∃ a vs, v = .ref a ∧ SqL K H a vs ∧ RelDs K H ds vs := by
  cases d with
  | clst es =>
    cases h
    obtain ⟨a, vs, rfl, t, rs⟩ := r
    exact ⟨a, vs, rfl, t.sq, rs⟩
  | ref a =>
    cases (show v = _ from r)
    unfold lstOf at h
    simp only at h
    split at h
    · rename_i es e
      cases h
      obtain ⟨vs, h3, rs⟩ := m _ _ e
      exact ⟨a, vs, rfl, .of h3, rs⟩
    · cases h
  | _ => cases h
def fAll : WC | ds, M, Q => match ds with
  | [d] => ∃ bs : List Bool, lstOf d M = some (bs.map .bl) ∧ Q (.bl (bs.all id)) M
  | _ => False
def fAny : WC | ds, M, Q => match ds with
  | [d] => ∃ bs : List Bool, lstOf d M = some (bs.map .bl) ∧ Q (.bl (bs.any id)) M
  | _ => False
theorem c_all (hc : X.calm = true) : CallD X (.builtin "all") fAll := by
  intro pins s σ H xs us Q I r ⟨ds, M, Qd, rd, hm, hr, hl⟩
  match ds, hr with
  | [d], ⟨bs, h, q⟩ =>
    obtain ⟨v, rfl, hv⟩ := rel1 rd
    obtain ⟨a, vs, rfl, hq, rs⟩ := lst_of hm hv h
    cases rs.bls_of
    exact cr_all hc pins s σ H _ us Q I r ⟨a, bs, rfl, hq, hl.val hm q rfl⟩
theorem c_any (hc : X.calm = true) : CallD X (.builtin "any") fAny := by
  intro pins s σ H xs us Q I r ⟨ds, M, Qd, rd, hm, hr, hl⟩
  match ds, hr with
  | [d], ⟨bs, h, q⟩ =>
    obtain ⟨v, rfl, hv⟩ := rel1 rd
    obtain ⟨a, vs, rfl, hq, rs⟩ := lst_of hm hv h
    cases rs.bls_of
    exact cr_any hc pins s σ H _ us Q I r ⟨a, bs, rfl, hq, hl.val hm q rfl⟩
def seqOf (d : D) (M : Mp) : Option (List D) := match d with
  | .tup ds => some ds
  | _ => lstOf d M
theorem seq_of {K : PySem.W.Frag} {H : Hp} {M : Mp} {d : D} {v : V} {ds : List D} (m : RelM K H M) (r : RelD K H d v) (h : seqOf d M = some ds) : ∃ a vs, v = .ref a ∧ (SqL K H a vs ∨ SqT K H a vs) ∧ RelDs K H ds vs := by
  cases d with
  | tup es =>
    cases h
    obtain ⟨a, vs, rfl, t, rs⟩ := r
    exact ⟨a, vs, rfl, .inr t.sq, rs⟩
  | _ =>
    obtain ⟨a, vs, h1, h2, h3⟩ := lst_of m r h
    exact ⟨a, vs, h1, .inl h2, h3⟩
def fList : WC | ds, M, Q => match ds with
  | [d] => ∃ es, seqOf d M = some es ∧ New M (.lst es) fun p M2 => Q (.ref p) M2
  | _ => False
theorem c_list : CallD X (.type "list") fList := by
  intro pins s σ H xs us Q I r ⟨ds, M, Qd, rd, hm, hr, hl⟩
  match ds, hr with
  | [d], ⟨es, h, q⟩ =>
    obtain ⟨v, rfl, hv⟩ := rel1 rd
    obtain ⟨a, vs, rfl, hq, rs⟩ := seq_of hm hv h
    exact call_list_of pins s σ H _ us Q I r ⟨a, vs, rfl, hq, hl.newL rs hm q⟩
/-! ### isinstance -/
def tyD (d : D) (M : Mp) : Option String := match d with
  | .non => some "NoneType"
  | .bl _ => some "bool"
  | .int _ => some "int"
  | .str _ => some "str"
  | .tup _ => some "tuple"
  | .clst _ => some "list"
  | .ref a => match M a with
    | some (.lst _) => some "list"
    | some (.dK _) => some "dict"
    | _ => none
  | _ => none
def fIsi : WC | ds, M, Q => match ds with
  | [d, .ty n] => ∃ t b, tyD d M = some t ∧ kitB t n = some b ∧ Q (.bl b) M
  | _ => False
theorem tyx_of {K : PySem.W.Frag} {H : Hp} {M : Mp} {d : D} {v : V} {t : String} (m : RelM K H M) (r : RelD K H d v) (h : tyD d M = some t) : TyX K H v (.type t) := by
  cases d with
  | non => cases (show v = _ from r); cases h; exact .base .non
  | bl b => cases (show v = _ from r); cases h; exact .base (.bl b)
  | int b => cases (show v = _ from r); cases h; exact .base (.int b)
  | str b => cases (show v = _ from r); cases h; exact .base (.str b)
  | tup ds =>
    cases h
    obtain ⟨a, vs, rfl, ta | ta, rs⟩ := r
    · exact .base (.tup ta)
    · rcases ta with (z | ⟨_, z⟩) | ⟨o, its, n, h1, h2, _⟩
      · cases z
      · cases z
      · exact .kTuple h1 h2
  | clst ds =>
    cases h
    obtain ⟨a, vs, rfl, ⟨o, ta⟩ | ta, rs⟩ := r
    · exact .base (.frz ta)
    · rcases ta with (z | ⟨_, z⟩) | ⟨o, its, n, h1, h2, _⟩
      · cases z
      · cases z
      · exact .kList h1 h2
  | ref a =>
    cases (show v = _ from r)
    unfold tyD at h
    simp only at h
    split at h
    · rename_i ds e
      cases h
      obtain ⟨vs, h1, _⟩ := m _ _ e
      exact .base (.lst h1)
    · rename_i ds e
      cases h
      obtain ⟨vs, h1, _⟩ := m _ _ e
      exact .base (.dK h1)
    · cases h
  | _ => cases h
theorem c_isi : CallD X (.builtin "isinstance") fIsi := by
  intro pins s σ H xs us Q I r ⟨ds, M, Qd, rd, hm, hr, hl⟩
  match ds, hr with
  | [d, .ty n], ⟨t, b, h1, h2, q⟩ =>
    obtain ⟨v, u, rfl, hv, hu⟩ := rel2 rd
    cases (show u = _ from hu)
    exact call_isi pins s σ H _ us Q I r ⟨v, .ty n, .type t, .type n, b, rfl, .ty n, tyx_of hm hv h1, kit_ty h2, hl.val hm q rfl⟩
end
end L2.Dl

/-! DOps2: places, slices, stores, methods, displays of dicts, repr, f-strings. -/
namespace L2.Dl
open PySem PySem.Spec PyProof.Rows

section
variable {X : Cx} {a b e : Expr} {es : List Expr} {wa wb we : WE} {wx : WA} {pos : Pos}
theorem RelDs.atI {K : PySem.W.Frag} {H : Hp} {ds : List D} {vs : List V} {i : Int} {d : D} (r : RelDs K H ds vs) (h : L2.atI ds i = some d) : ∃ v, L2.atI vs i = some v ∧ RelD K H d v := by
  unfold L2.atI at h ⊢
  rw [← r.len]
  cases q : ixN ds.length i with
  | none => rw [q] at h; cases h
  | some j =>
    rw [q] at h
    exact r.get (i := j) h
/-- x[i] -/
def bIx : W2 | d, e, M, Q => match e with
  | .int i => match d with
    | .str z => z.length ≤ sizeLine ∧ ∃ c, L2.atI z.cps.toList i = some c ∧ Q (.str ⟨#[c]⟩) M
    | _ => ∃ ds x, seqOf d M = some ds ∧ L2.atI ds i = some x ∧ Q x M
  | _ => False
theorem d_ix (ha : DE X a wa) (hb : DE X b wb) (hs : PlainIx b) : DE X (.Subscript a b pos) (wOp bIx wa wb) := by
  have hr : IxR X (rD X.K bIx) := by
    intro value slice pins s σ H x y v u Q I rx ry ⟨d, e, M, Qd, hd, he, hm, hr, hl⟩ hsub
    cases e with
    | int i =>
      have seq : (∃ ds x, seqOf d M = some ds ∧ L2.atI ds i = some x ∧ Qd x M) → wpAny (model X.prog X.w) X.A (subscriptTail value slice v u) (EP X pins σ Q) X.xe s := fun ⟨ds, z, h1, h2, q⟩ => by
        obtain ⟨p, vs, rfl, hq, rs⟩ := seq_of hm hd h1
        obtain ⟨w, h3, rw⟩ := rs.atI h2
        rcases hq with hq | hq
        · exact ix_list value slice pins s σ H _ y v u Q I rx ry ⟨p, vs, i, w, rfl, he, hq, h3, hl.val hm q rw⟩ hsub
        · exact ix_tup value slice pins s σ H _ y v u Q I rx ry ⟨p, vs, i, w, rfl, he, hq, h3, hl.val hm q rw⟩ hsub
      cases d with
      | str z =>
        obtain ⟨hz, c, hc, q⟩ := hr
        exact ix_str value slice pins s σ H _ y v u Q I rx ry ⟨z, i, c, hd, he, hz, hc, hl.val hm q rfl⟩ hsub
      | _ => exact seq hr
    | _ => exact hr.elim
  exact pe_wk (pe_ix hr ha hb hs) fun _ _ _ h => tOp_of h
/-! slices -/
abbrev WO := Ev → Mp → (Option Int → Mp → Prop) → Prop
def LiftO (K : PySem.W.Frag) (H : Hp) (Qd : Option Int → Mp → Prop) (Q : Option Int → Hp → Prop) : Prop := ∀ b M H', Qd b M → Keep H H' → RelM K H' M → Q b H'
def tO (K : PySem.W.Frag) (w : WO) : TO := fun σ H Q => ∃ env M Qd, RelS K H env σ ∧ RelM K H M ∧ w env M Qd ∧ LiftO K H Qd Q
def DO (X : Cx) (e : Option Expr) (w : WO) : Prop := PO X e (tO X.K w)
theorem po_wk {e : Option Expr} {t t' : TO} (h : PO X e t) (k : ∀ σ H Q, t' σ H Q → t σ H Q) : PO X e t' := ⟨fun pins s σ H Q I q => h.run pins s σ H Q I (k σ H Q q)⟩
def wNoPart : WO | _, M, Q => Q none M
def wPart (w : WE) : WO | env, M, Q => w env M fun d M1 => match d with
  | .int i => Q (some i) M1
  | _ => False
theorem o_none : DO X none wNoPart := po_wk po_none fun σ H Q ⟨env, M, Qd, hs, hm, hw, hl⟩ => hl _ _ _ hw .refl hm
theorem o_some (h : DE X e we) : DO X (some e) (wPart we) := po_wk (po_some h) fun σ H Q ⟨env, M, Qd, hs, hm, hw, hl⟩ => ⟨env, M, _, hs, hm, hw, fun d M1 v H1 q r k m1 => by
  cases d with
  | int i => exact ⟨i, r, hl _ _ _ q k m1⟩
  | _ => exact q.elim⟩
def cutL {α : Type} (xs : List α) (lo hi : Option Int) : List α := (xs.drop (HT.sIx xs.length 0 lo)).take (HT.sIx xs.length xs.length hi - HT.sIx xs.length 0 lo)
theorem RelDs.cut {K : PySem.W.Frag} {H : Hp} {ds : List D} {vs : List V} (lo hi : Option Int) (r : RelDs K H ds vs) : RelDs K H (cutL ds lo hi) (cutV vs lo hi) := by
  unfold cutL cutV
  rw [← r.len]
  exact (r.drop _).take _
def slR (d : D) (lo hi : Option Int) (M : Mp) (Q : DQ) : Prop := match d with
  | .str z => z.length ≤ sizeLine ∧ Q (.str (cutS z lo hi)) M
  | .tup ds => Q (.tup (cutL ds lo hi)) M
  | _ => ∃ ds, lstOf d M = some ds ∧ New M (.lst (cutL ds lo hi)) fun p M2 => Q (.ref p) M2
def wSl (we : WE) (wl wh : WO) : WE | env, M, Q => we env M fun d M1 => wl env M1 fun lo M2 => wh env M2 fun hi M3 => slR d lo hi M3 Q
theorem d_slice {lo hi : Option Expr} {p2 : Pos} {wl wh : WO} (he : DE X e we) (hl : DO X lo wl) (hh : DO X hi wh) : DE X (.Subscript e (.Slice lo hi none p2) pos) (wSl we wl wh) := by
  have hr : SlR X (fun x lo hi H Q => ∃ d M Qd, RelD X.K H d x ∧ RelM X.K H M ∧ slR d lo hi M Qd ∧ Lift X.K H Qd Q) := by
    intro pins s σ H x v vl vu lo hi sl Q I rx hsl pl pu ⟨d, M, Qd, hd, hm, hr, hl⟩
    have lst : (∃ ds, lstOf d M = some ds ∧ New M (.lst (cutL ds lo hi)) fun p M2 => Qd (.ref p) M2) → ∃ T id, typeLookup (.type T) "__getitem__" = pure (some (.builtin id)) ∧ s.TypeIs v T ∧ wpAny (model X.prog X.w) X.A (getItem v (.ref sl)) (EP X pins σ Q) X.xe s := fun ⟨ds, h1, q⟩ => by
      obtain ⟨p, vs, rfl, hq, rs⟩ := lst_of hm hd h1
      exact sl_list pins s σ H _ v vl vu lo hi sl Q I rx hsl pl pu ⟨p, vs, rfl, hq, hl.newL (rs.cut lo hi) hm q⟩
    cases d with
    | str z => exact sl_str pins s σ H _ v vl vu lo hi sl Q I rx hsl pl pu ⟨z, hd, hr.1, hl.val hm hr.2 rfl⟩
    | tup ds =>
      obtain ⟨p, vs, rfl, t, rs⟩ := hd
      refine sl_tupA pins s σ H _ v vl vu lo hi sl Q I rx hsl pl pu ⟨p, vs, rfl, t.sq, fun ⟨h1, h2⟩ => ?_, fun _ => hl.newT (rs.cut lo hi) hm hr⟩
      have e : cutL ds lo hi = ds := by
        unfold cutL
        rw [rs.len, h1, h2, ← rs.len]
        exact List.take_of_length_le (Nat.le_refl _)
      have q : Qd (.tup (cutL ds lo hi)) M := hr
      rw [e] at q
      exact hl.val hm q ⟨p, vs, rfl, t, rs⟩
    | _ => exact lst hr
  exact pe_wk (pe_slice hr he hl hh) fun σ H Q ⟨env, M, Qd, hs, hm, hw, lf⟩ => ⟨env, M, _, hs, hm, hw, fun d M1 v H1 q r k m1 => ⟨env, M1, _, hs.keep k, m1, q, fun l M2 H2 q2 k2 m2 =>
    ⟨env, M2, _, (hs.keep k).keep k2, m2, q2, fun h M3 H3 q3 k3 m3 => ⟨d, M3, Qd, (r.keep k2).keep k3, m3, q3, ((lf.at k).at k2).at k3⟩⟩⟩⟩
/-! o[i] = v -/
abbrev W3 := D → D → D → Mp → (Mp → Prop) → Prop
def LiftM (K : PySem.W.Frag) (H : Hp) (Qd : Mp → Prop) (Q : Hp → Prop) : Prop := ∀ M H', Qd M → Keep H H' → RelM K H' M → Q H'
def SetD (X : Cx) (r : W3) : Prop := PSet X (fun o i v H Q => ∃ d e x M Qd, RelD X.K H d o ∧ RelD X.K H e i ∧ RelD X.K H x v ∧ RelM X.K H M ∧ r d e x M Qd ∧ LiftM X.K H Qd Q)
def gSt (r : W3) (wa wb : WE) : WG | x, env, M, Q => wa env M fun d M1 => wb env M1 fun e M2 => r d e x M2 fun M3 => Q env M3
theorem g_sub {r : W3} (ha : DE X a wa) (hb : DE X b wb) (hs : SetD X r)
    (h : ∀ v, assign (.Subscript a b pos) X.env v = (do
      let ov ← holding [v] (eval a X.env)
      let iv ← holding [v, ov] (eval b X.env)
      standAt pos
      holding [v, ov, iv] (setItem ov iv v)
      release [v, ov, iv] []) := by intro _; rfl) : DG X (.Subscript a b pos) (gSt r wa wb) :=
  pg_wk (pg_sub ha hb hs h) fun v σ H Q ⟨x, env, M, Qd, hr, hs, hm, hw, hl⟩ => ⟨env, M, _, hs, hm, hw, fun d M1 o H1 q ro k m1 => ⟨env, M1, _, hs.keep k, m1, q, fun e M2 i H2 q2 ri k2 m2 =>
    ⟨d, e, x, M2, _, ro.keep k2, ri, (hr.keep k).keep k2, m2, q2, fun M3 H3 q3 k3 m3 => hl _ _ _ _ q3 (((hs.keep k).keep k2).keep k3) ((k.trans k2).trans k3) m3⟩⟩⟩
def stIx : W3 | d, e, x, M, Q => match d, e with
  | .ref a, .int i => ∃ ds j, M a = some (.lst ds) ∧ ixN ds.length i = some j ∧ Put M a (.lst (ds.set j x)) Q
  | _, _ => False
theorem st_ix : SetD X stIx := by
  intro pins s σ H o i v ov iv u Q I r1 r2 r3 ⟨d, e, x, M, Qd, hd, he, hx, hm, hr, hl⟩
  cases d with
  | ref a =>
    cases e with
    | int n =>
      obtain ⟨ds, j, h1, h2, q⟩ := hr
      cases (show o = _ from hd)
      cases (show i = _ from he)
      obtain ⟨vs, h3, rs⟩ := hm _ _ h1
      have kw : Keep H (upd H a (.lst (vs.set j v))) := .write h3 trivial
      exact set_list pins s σ H _ _ v ov iv u Q I r1 r2 r3 ⟨a, vs, n, j, rfl, rfl, h3, by rw [← rs.len]; exact h2, hl _ _ q.at kw (RelM.write (o := .lst (ds.set j x)) hm h3 trivial ⟨_, upd_same, (rs.keep kw).set j (hx.keep kw)⟩)⟩
    | _ => exact hr.elim
  | _ => exact hr.elim
/-! methods of built-in types -/
def tyM (T : String) (d : D) (M : Mp) : Prop := match d with
  | .str _ => T = "str"
  | .clst _ => T = "list"
  | .ref a => match M a with
    | some (.lst _) => T = "list"
    | some (.dK _) => T = "dict"
    | some (.dT _) => T = "dict"
    | _ => False
  | _ => False
theorem tyM_v {K : PySem.W.Frag} {H : Hp} {M : Mp} {T : String} {d : D} {v : V} (m : RelM K H M) (r : RelD K H d v) (h : tyM T d M) : tyV K T v H := by
  cases d with
  | str x => cases (show v = _ from r); exact h
  | clst ds =>
    obtain ⟨a, vs, rfl, t, rs⟩ := r
    exact .inl ⟨h, vs, t.sq⟩
  | ref a =>
    cases (show v = _ from r)
    unfold tyM at h
    simp only at h
    split at h
    · rename_i ds e
      obtain ⟨vs, h3, rs⟩ := m _ _ e
      exact .inl ⟨h, vs, .of h3⟩
    · rename_i ds e
      obtain ⟨vs, h3, rs⟩ := m _ _ e
      exact .inr (.inr (.inl ⟨h, .inl ⟨vs, h3⟩⟩))
    · rename_i ds e
      obtain ⟨vs, h3, rs⟩ := m _ _ e
      exact .inr (.inr (.inl ⟨h, .inr ⟨vs, h3⟩⟩))
    · exact h.elim
  | _ => exact h.elim
abbrev WM := D → List D → Mp → DQ → Prop
def MtD (X : Cx) (id : String) (r : WM) : Prop := MtR X id (fun x xs H Q => ∃ d ds M Qd, RelD X.K H d x ∧ RelDs X.K H ds xs ∧ RelM X.K H M ∧ r d ds M Qd ∧ Lift X.K H Qd Q)
def wMt (T : String) (r : WM) (wa : WE) (wx : WA) : WE | env, M, Q => wa env M fun d M1 => tyM T d M1 ∧ wx env M1 fun ds M2 => r d ds M2 Q
theorem d_bm {name : Str} {apos : Pos} {T id : String} {r : WM} (pa : PlainAttrs T) (slot : Slot T name id) (hty : typeOf (.builtin id) = pure (.type "method_descriptor")) (hm : MtD X id r) (ho : DE X a wa) (ha : DA X (e :: es) wx)
    (hbase : attributeBase a name X.env (eval a X.env) = eval a X.env := by rfl)
    (hfew : ((backTo pos (starEach (e :: es) X.env)).all (fun x => !x.1) && (backToKw pos (keywordEach [] X.env)).all (fun x => x.1.isSome)
      && decide ((e :: es).length + ([] : List Keyword).length + (if ([] : List Keyword).isEmpty then 0 else 1) < 30)) = true := by rfl)
    (hline : (apos.endLine == pos.line) = true := by rfl) (hs : starEach (e :: es) X.env = (false, eval e X.env) :: starEach es X.env := by rfl) (hplain : (backTo pos (starEach es X.env)).any (·.1) = false := by rfl) :
    DE X (.Call (.Attribute a name apos) (e :: es) [] pos) (wMt T r wa wx) :=
  pe_wk (pe_bm pa slot hty hm ho ha hbase hfew hline hs hplain) fun σ H Q ⟨env, M, Qd, hs, hm, hw, hl⟩ => ⟨env, M, _, hs, hm, hw, fun d M1 v H1 q r1 k m1 => ⟨tyM_v m1 r1 q.1, env, M1, _, hs.keep k, m1, q.2, fun ds M2 vs H2 q2 r2 k2 m2 =>
    ⟨d, ds, M2, Qd, r1.keep k2, r2, m2, q2, (hl.at k).at k2⟩⟩⟩
theorem d_bm0 {name : Str} {apos : Pos} {T id : String} {r : WM} (pa : PlainAttrs T) (slot : Slot T name id) (hty : typeOf (.builtin id) = pure (.type "method_descriptor")) (hm : MtD X id r) (ho : DE X a wa)
    (hbase : attributeBase a name X.env (eval a X.env) = eval a X.env := by rfl) (hline : (apos.endLine == pos.line) = true := by rfl) : DE X (.Call (.Attribute a name apos) [] [] pos) (wMt T r wa wNil) :=
  pe_wk (pe_bm0 pa slot hty hm ho hbase hline) fun σ H Q ⟨env, M, Qd, hs, hm, hw, hl⟩ => ⟨env, M, _, hs, hm, hw, fun d M1 v H1 q r1 k m1 => ⟨tyM_v m1 r1 q.1, d, [], M1, Qd, r1, .nil, m1, q.2, hl.at k⟩⟩
def mJoin : WM | d, ds, M, Q => match d, ds with
  | .str x, [l] => ∃ ys : List Str, seqOf l M = some (ys.map .str) ∧ (ys.map (·.length)).sum + ys.length * x.length ≤ 16777216 ∧ Q (.str (Txt.join x ys)) M
  | _, _ => False
theorem m_join : MtD X "str.join" mJoin := by
  intro pins s σ H x xs v us Q I rx rs ⟨d, ds, M, Qd, hd, hds, hm, hr, hl⟩
  match d, ds, hr with
  | .str z, [l], ⟨ys, h1, h2, q⟩ =>
    obtain ⟨w, rfl, hw⟩ := rel1 hds
    obtain ⟨p, vs, rfl, hq, rs2⟩ := seq_of hm hw h1
    cases rs2.strs_of
    exact mt_join pins s σ H _ _ v us Q I rx rs ⟨z, p, ys, hd, rfl, hq, h2, hl.val hm q rfl⟩
def mAppend : WM | d, ds, M, Q => match d, ds with
  | .ref a, [y] => ∃ es, M a = some (.lst es) ∧ es.length < sizeLine ∧ Put M a (.lst (es ++ [y])) fun M2 => Q .non M2
  | _, _ => False
theorem m_append : MtD X "list.append" mAppend := by
  intro pins s σ H x xs v us Q I rx rs ⟨d, ds, M, Qd, hd, hds, hm, hr, hl⟩
  match d, ds, hr with
  | .ref a, [y], ⟨es, h1, h2, q⟩ =>
    obtain ⟨w, rfl, hw⟩ := rel1 hds
    obtain ⟨vs, h3, r3⟩ := hm _ _ h1
    have kw : Keep H (upd H a (.lst (vs ++ [w]))) := .write h3 trivial
    exact mt_append pins s σ H _ _ v us Q I rx rs ⟨a, vs, w, hd, rfl, h3, by rw [← r3.len]; exact h2, hl _ _ _ _ q.at rfl kw (RelM.write (o := .lst (es ++ [y])) hm h3 trivial ⟨_, upd_same, (r3.keep kw).app (.cons (hw.keep kw) .nil)⟩)⟩
/-! displays of dicts -/
def wDict0 : WE | _, M, Q => New M (.dK []) fun p M2 => Q (.ref p) M2
theorem d_dict0 : DE X (.Dict [] [] pos) wDict0 := pe_wk pe_dnewK fun σ H Q ⟨env, M, Qd, hs, hm, hw, hl⟩ p hp => by
  have kk : Keep H (upd H p (.dK [])) := .fresh hp
  exact hl _ _ _ _ (New.at hw (hm.free hp)) rfl kk (hm.new hp ⟨[], upd_same, .nil⟩)
def keyD : D → Option Key
  | .int i => some (.inl i)
  | .str x => some (.inr x)
  | _ => none
section
variable {κ : Type} [DecidableEq κ]
def valD (kvs : List (κ × D)) (k : κ) : Option D := (kvs.find? fun kv => decide (kv.1 = k)).map (·.2)
def putD (kvs : List (κ × D)) (k : κ) (v : D) : List (κ × D) := if (kvs.any fun kv => decide (kv.1 = k)) = true then kvs.map (fun kv => if kv.1 = k then (kv.1, v) else kv) else kvs ++ [(k, v)]
theorem RelKv.any {K : PySem.W.Frag} {H : Hp} {k : κ} : ∀ {ds : List (κ × D)} {vs : List (κ × V)}, RelKv K H ds vs → (ds.any fun kv => decide (kv.1 = k)) = vs.any fun kv => decide (kv.1 = k)
  | _, _, .nil => rfl
  | _, _, .cons h t => by rw [List.any_cons, List.any_cons, h.1, RelKv.any t]
theorem RelKv.val {K : PySem.W.Frag} {H : Hp} {k : κ} : ∀ {ds : List (κ × D)} {vs : List (κ × V)}, RelKv K H ds vs → (valD ds k = none ∧ valV vs k = none) ∨ ∃ d v, valD ds k = some d ∧ valV vs k = some v ∧ RelD K H d v
  | _, _, .nil => .inl ⟨rfl, rfl⟩
  | _, _, .cons (a := p) (b := q) h t => by
    by_cases e : p.1 = k
    · refine .inr ⟨p.2, q.2, ?_, valV_pos (h.1 ▸ e), h.2⟩
      unfold valD
      rw [List.find?_cons, decide_eq_true e]
      rfl
    · rw [valV_neg (by rw [← h.1]; exact e)]
      have e2 : ∀ r : List (κ × D), valD (p :: r) k = valD r k := fun r => by
        unfold valD
        rw [List.find?_cons, decide_eq_false e]
      rw [e2]
      exact RelKv.val t
theorem RelKv.putAll {K : PySem.W.Frag} {H : Hp} {k : κ} {d : D} {v : V} (r : RelD K H d v) : ∀ {ds : List (κ × D)} {vs : List (κ × V)}, RelKv K H ds vs → RelKv K H (ds.map fun kv => if kv.1 = k then (kv.1, d) else kv) (vs.map fun kv => if kv.1 = k then (kv.1, v) else kv)
  | _, _, .nil => .nil
  | _, _, .cons (a := p) (b := q) h t => by
    refine .cons ?_ (RelKv.putAll r t)
    dsimp only
    by_cases e : p.1 = k
    · rw [if_pos e, if_pos (h.1 ▸ e)]
      exact ⟨h.1, r⟩
    · rw [if_neg e, if_neg (by rw [← h.1]; exact e)]
      exact h
theorem RelKv.app {K : PySem.W.Frag} {H : Hp} {es : List (κ × D)} {us : List (κ × V)} (q : RelKv K H es us) : ∀ {ds : List (κ × D)} {vs : List (κ × V)}, RelKv K H ds vs → RelKv K H (ds ++ es) (vs ++ us)
  | _, _, .nil => q
  | _, _, .cons h t => .cons h (RelKv.app q t)
theorem RelKv.put {K : PySem.W.Frag} {H : Hp} {k : κ} {d : D} {v : V} {ds : List (κ × D)} {vs : List (κ × V)} (r : RelKv K H ds vs) (h : RelD K H d v) : RelKv K H (putD ds k d) (putK vs k v) := by
  unfold putD putK
  rw [r.any]
  split
  · exact r.putAll h
  · exact RelKv.app (.cons ⟨rfl, h⟩ .nil) r
end
theorem keyD_v {K : PySem.W.Frag} {H : Hp} {d : D} {v : V} {k : Key} (h : keyD d = some k) (r : RelD K H d v) : v = kV k := by
  cases d <;> first
    | (cases h; exact r)
    | cases h
abbrev WP := Ev → Mp → (List (D × D) → Mp → Prop) → Prop
def wpNil : WP | _, M, Q => Q [] M
def wpCons (wk wv : WE) (wp : WP) : WP | env, M, Q => wk env M fun k M1 => wv env M1 fun v M2 => wp env M2 fun ps M3 => Q ((k, v) :: ps) M3
def keysOfD : List (D × D) → Option (List (Key × D))
  | [] => some []
  | (k, v) :: r => match keyD k with
    | some x => (keysOfD r).map ((x, v) :: ·)
    | none => none
def mergeD (kvs : List (Key × D)) : List (Key × D) := kvs.foldl (fun acc kv => putD acc kv.1 kv.2) []
/-- {k: v, ..}: the parts leave what stands -/
def wDict (wp : WP) : WE | env, M, Q => New M (.dK []) fun p M0 => wp env M0 fun ps M1 => M1 p = some (.dK []) ∧ ∃ kvs, keysOfD ps = some kvs ∧ kvs.length ≤ 15 ∧ Put M1 p (.dK (mergeD kvs)) fun M2 => Q (.ref p) M2
def RelPs (K : PySem.W.Frag) (H : Hp) (ps : List (D × D)) (qs : List (V × V)) : Prop := Paired (fun (p : D × D) (q : V × V) => RelD K H p.1 q.1 ∧ RelD K H p.2 q.2) ps qs
def tPs (K : PySem.W.Frag) (wp : WP) (trs : List (TE × TE)) : Prop := ∀ σ H env M (Qd : List (D × D) → Mp → Prop) (Q : List (V × V) → Hp → Prop), RelS K H env σ → RelM K H M → wp env M Qd →
  (∀ ps M' qs H', Qd ps M' → RelPs K H' ps qs → Keep H H' → RelM K H' M' → Q qs H') → tPairs trs σ H Q
structure DPs (X : Cx) (pos : Pos) (ks : List (Option Expr)) (vs : List Expr) (wp : WP) : Prop where
  ex : ∃ trs, PPs X pos ks vs trs ∧ tPs X.K wp trs
theorem p_nil : DPs X pos [] [] wpNil := ⟨[], pps_nil, fun σ H env M Qd Q hs hm hw k => k _ _ _ _ hw .nil .refl hm⟩
theorem p_cons {k v : Expr} {ks : List (Option Expr)} {vs : List Expr} {wk wv : WE} {wp : WP} (hk : DE X k wk) (hv : DE X v wv) (hr : DPs X pos ks vs wp) : DPs X pos (some k :: ks) (v :: vs) (wpCons wk wv wp) := by
  obtain ⟨trs, h1, h2⟩ := hr.ex
  refine ⟨_, pps_cons hk hv h1, fun σ H env M Qd Q hs hm hw kk => ⟨env, M, _, hs, hm, hw, fun x M1 u H1 q r k1 m1 => ⟨env, M1, _, hs.keep k1, m1, q, fun y M2 w H2 q2 r2 k2 m2 => ?_⟩⟩⟩
  exact h2 σ H2 env M2 _ _ ((hs.keep k1).keep k2) m2 q2 fun ps M3 qs H3 q3 r3 k3 m3 => kk _ _ _ _ q3 (.cons ⟨(r.keep k2).keep k3, r2.keep k3⟩ r3) ((k1.trans k2).trans k3) m3
theorem keysOf_v {K : PySem.W.Frag} {H : Hp} : ∀ {ps : List (D × D)} {qs : List (V × V)} {kvs : List (Key × D)}, keysOfD ps = some kvs → RelPs K H ps qs → ∃ us : List (Key × V), qs = us.map (fun kv => (kV kv.1, kv.2)) ∧ RelKv K H kvs us
  | [], _, _, h, .nil => by cases h; exact ⟨[], rfl, .nil⟩
  | (k, v) :: r, _, _, h, .cons (b := q) hq t => by
    unfold keysOfD at h
    cases e : keyD k with
    | none => rw [e] at h; cases h
    | some x =>
      rw [e] at h
      cases e2 : keysOfD r with
      | none => rw [e2] at h; cases h
      | some xs =>
        rw [e2] at h
        cases h
        obtain ⟨us, rfl, rr⟩ := keysOf_v e2 t
        have ek := keyD_v e hq.1
        refine ⟨(x, q.2) :: us, ?_, .cons ⟨rfl, hq.2⟩ rr⟩
        rw [List.map_cons, ← ek]
theorem merge_rel {K : PySem.W.Frag} {H : Hp} : ∀ {kvs : List (Key × D)} {us : List (Key × V)} {as : List (Key × D)} {bs : List (Key × V)}, RelKv K H kvs us → RelKv K H as bs →
    RelKv K H (kvs.foldl (fun acc kv => putD acc kv.1 kv.2) as) (us.foldl (fun acc kv => putK acc kv.1 kv.2) bs)
  | _, _, _, _, .nil, r => r
  | _, _, _, _, .cons (a := p) (b := q) h t, r => by
    rw [List.foldl_cons, List.foldl_cons, h.1]
    exact merge_rel t (r.put h.2)
theorem d_dict {ks : List (Option Expr)} {vs : List Expr} {wp : WP} (h : DPs X pos ks vs wp) (hall : ks.all (·.isSome) = true := by rfl) (hl : ks.length = vs.length := by rfl) (h0 : ks ≠ [] := by exact fun z => nomatch z) (h15 : ks.length ≤ 15 := by decide) :
    DE X (.Dict ks vs pos) (wDict wp) := by
  obtain ⟨trs, h1, h2⟩ := h.ex
  refine pe_wk (pe_disp h1 hall hl h0 h15) fun σ H Q ⟨env, M, Qd, hs, hm, hw, lf⟩ p hp => ?_
  have kp : Keep H (upd H p (.dK [])) := .fresh hp
  refine h2 σ _ env _ _ _ (hs.keep kp) (RelM.new (o := .dK []) hm hp ⟨[], upd_same, .nil⟩) (New.at hw (hm.free hp)) fun ps M1 qs H1 q r k1 m1 => ?_
  obtain ⟨e1, kvs, e2, hz, q⟩ := q
  obtain ⟨us, rfl, rk⟩ := keysOf_v e2 r
  obtain ⟨ws, e3, rw⟩ := m1 _ _ e1
  cases rw
  have kw : Keep H1 (upd H1 p (.dK (mergeK [] us))) := .write e3 trivial
  exact ⟨e3, us, rfl, by rw [← paired_len rk]; exact hz, lf _ _ _ _ q.at rfl ((kp.trans k1).trans kw) (RelM.write (o := .dK (mergeD kvs)) m1 e3 trivial ⟨_, upd_same, merge_rel (rk.keep kw) .nil⟩)⟩
/-! f-strings -/
def fmtD (d : D) (M : Mp) (Q : DQ) : Prop := match d with
  | .str y => y.length ≤ sizeLine ∧ Q (.str y) M
  | .int i => i.natAbs.log2 < 1920 ∧ Q (.str (toString i)) M
  | _ => False
def wFmt (we : WE) : WE | env, M, Q => we env M fun d M1 => fmtD d M1 Q
theorem d_fmt (he : DE X e we) : DE X (.FormattedValue e (-1) none pos) (wFmt we) := pe_wk (pe_fmt he) fun σ H Q ⟨env, M, Qd, hs, hm, hw, hl⟩ => ⟨env, M, _, hs, hm, hw, fun d M1 v H1 q r k m1 => by
  cases d with
  | str y => exact .inl ⟨y, r, q.1, hl _ _ _ _ q.2 rfl k m1⟩
  | int i => exact .inr ⟨i, r, q.1, hl _ _ _ _ q.2 rfl k m1⟩
  | _ => exact q.elim⟩
def wJs : List WE → Str → WE
  | [], acc, _, M, Q => Q (.str acc) M
  | w :: ws, acc, env, M, Q => w env M fun d M1 => match d with
    | .str y => (acc ++ y).length ≤ sizeLine ∧ wJs ws (acc ++ y) env M1 Q
    | _ => False
inductive DJ (X : Cx) : List Expr → List WE → Prop where
  | nil : DJ X [] []
  | cons {e : Expr} {w : WE} {es : List Expr} {ws : List WE} (h : DE X e w) (r : DJ X es ws) : DJ X (e :: es) (w :: ws)
theorem dj_pj {es : List Expr} {ws : List WE} (h : DJ X es ws) : PJ X es (ws.map (tD X.K)) := by
  induction h with
  | nil => exact .nil
  | cons h r ih => exact .cons h ih
theorem tJs_of {K : PySem.W.Frag} : ∀ (ws : List WE) (acc : Str) (σ : St) (H : Hp) (env : Ev) (M : Mp) (Qd : DQ) (Q : VK), RelS K H env σ → RelM K H M → wJs ws acc env M Qd → Lift K H Qd Q → tJs (ws.map (tD K)) acc σ H fun out H1 => Q (.str out) H1
  | [], acc, σ, H, env, M, Qd, Q, hs, hm, hw, hl => hl.val hm hw rfl
  | w :: ws, acc, σ, H, env, M, Qd, Q, hs, hm, hw, hl => ⟨env, M, _, hs, hm, hw, fun d M1 v H1 q r k m1 => by
    cases d with
    | str y => exact ⟨y, r, q.1, tJs_of ws (acc ++ y) σ H1 env M1 Qd Q (hs.keep k) m1 q.2 (hl.at k)⟩
    | _ => exact q.elim⟩
theorem d_joined {v1 v2 : Expr} {rest : List Expr} {ws : List WE} (h : DJ X (v1 :: v2 :: rest) ws) : DE X (.JoinedStr (v1 :: v2 :: rest) pos) (wJs ws Str.empty) :=
  pe_wk (pe_joined (dj_pj h)) fun σ H Q ⟨env, M, Qd, hs, hm, hw, hl⟩ => tJs_of ws _ σ H env M Qd Q hs hm hw hl
end

/-! ### repr -/
mutual
/-- a tree as data to be shown -/
def repW (f : Addr → Option PyData) : D → Option PyData
  | .non => some .none
  | .bl b => some (.bool b)
  | .int i => some (.int i)
  | .str x => some (.str x)
  | .tup ds => (repWs f ds).map .tuple
  | .ref a => f a
  | _ => none
def repWs (f : Addr → Option PyData) : List D → Option (List PyData)
  | [] => some []
  | d :: ds => match repW f d with
    | some p => (repWs f ds).map (p :: ·)
    | none => none
end
def keyP : Key → PyData
  | .inl i => .int i
  | .inr x => .str x
def repL (M : Mp) : Nat → Addr → Option PyData
  | 0, _ => none
  | n + 1, a => match M a with
    | some (.lst ds) => (repWs (repL M n) ds).map .list
    | some (.dK kvs) => (repWs (repL M n) (kvs.map (·.2))).map fun ps => .dict ((kvs.map fun kv => keyP kv.1).zip ps)
    | _ => none
def repD (M : Mp) (d : D) : Option PyData := repW (repL M 8) d
mutual
def noList : PyData → Bool
  | .list _ => false
  | .tuple xs => noLists xs
  | .dict kvs => noListKv kvs
  | _ => true
def noLists : List PyData → Bool
  | [] => true
  | x :: xs => noList x && noLists xs
def noListKv : List (PyData × PyData) → Bool
  | [] => true
  | (_, v) :: r => noList v && noListKv r
end
section
variable {X : Cx} {pins : List (Addr × Obj)} {σ : St} {H : Hp} {s : Shared}
def Shw (h : Heap) (u : Value) (p : PyData) : Prop := ∃ as, Reads h u p as ∧ (noList p = true → sysModules ∉ as)
def Shws (h : Heap) (us : List Value) (ps : List PyData) : Prop := ∃ as, ReadsAll h us ps as ∧ (noLists ps = true → sysModules ∉ as)
mutual
theorem repW_reads (I : Inv X pins σ H s) {f : Addr → Option PyData} (hf : ∀ a p, f a = some p → Shw s.heap (.ref a) p) : ∀ {d : D} {v : V} {u : Value} {p : PyData}, RelD X.K H d v → RelV v u → repW f d = some p → Shw s.heap u p
  | .non, _, _, _, r, q, e => by cases (show _ = _ from r); cases (show _ = _ from q); cases e; exact ⟨_, .none, fun _ z => nomatch z⟩
  | .bl b, _, _, _, r, q, e => by cases (show _ = _ from r); cases (show _ = _ from q); cases e; exact ⟨_, .bool b, fun _ z => nomatch z⟩
  | .int i, _, _, _, r, q, e => by cases (show _ = _ from r); obtain ⟨t, rfl⟩ := q; cases e; exact ⟨_, .int i t, fun _ z => nomatch z⟩
  | .str x, _, _, _, r, q, e => by cases (show _ = _ from r); obtain ⟨t, rfl⟩ := q; cases e; exact ⟨_, .str x t, fun _ z => nomatch z⟩
  | .tup ds, _, _, _, r, q, e => by
    obtain ⟨a, vs, rfl, t, rs⟩ := r
    cases (show _ = _ from q)
    unfold repW at e
    cases e2 : repWs f ds with
    | none => rw [e2] at e; cases e
    | some ps =>
      rw [e2] at e
      cases e
      obtain ⟨its, rv, ⟨o, h1, h2, n, h3⟩, _⟩ := I.tuple t.sq
      obtain ⟨as, h4, h5⟩ := repWs_reads I hf rs rv e2
      exact ⟨as, .tuple h1 h2 h3 (by simpa using h4), h5⟩
  | .ref a, _, _, _, r, q, e => by cases (show _ = _ from r); cases (show _ = _ from q); exact hf a _ e
  | .clst _, _, _, _, _, _, e => by unfold repW at e; cases e
  | .cdic _ _, _, _, _, _, _, e => by unfold repW at e; cases e
  | .ty _, _, _, _, _, _, e => by unfold repW at e; cases e
theorem repWs_reads (I : Inv X pins σ H s) {f : Addr → Option PyData} (hf : ∀ a p, f a = some p → Shw s.heap (.ref a) p) : ∀ {ds : List D} {vs : List V} {us : List Value} {ps : List PyData}, RelDs X.K H ds vs → Vals vs us → repWs f ds = some ps → Shws s.heap us ps
  | [], _, _, _, r, q, e => by cases r; cases q; cases e; exact ⟨_, .nil, fun _ z => nomatch z⟩
  | d :: ds, _, _, _, r, q, e => by
    obtain ⟨v, w, rfl, h1, h2⟩ := r
    cases q with
    | cons q1 q2 =>
      unfold repWs at e
      cases e1 : repW f d with
      | none => rw [e1] at e; cases e
      | some p =>
        rw [e1] at e
        cases e2 : repWs f ds with
        | none => rw [e2] at e; cases e
        | some ps =>
          rw [e2] at e
          cases e
          obtain ⟨as, r1, n1⟩ := repW_reads I hf h1 q1 e1
          obtain ⟨bs, r2, n2⟩ := repWs_reads I hf h2 q2 e2
          refine ⟨as ++ bs, .cons r1 r2, fun hn z => ?_⟩
          have hn' : (noList p && noLists ps) = true := hn
          rw [Bool.and_eq_true] at hn'
          rcases List.mem_append.mp z with z | z
          · exact n1 hn'.1 z
          · exact n2 hn'.2 z
end
theorem keyP_reads {h : Heap} : ∀ {kvs : List (Key × D)} {vs : List (Key × V)} {us : List (Key × Value)} {es : List DictEntry} {P : Program} {w : World} {K : PySem.W.Frag}, RelKv K H kvs vs → KV vs us → Pairs (mixKind P w) es us → ∃ as, ReadsAll h (es.map (·.key)) (kvs.map fun kv => keyP kv.1) as ∧ as = [] ∧
    Vals (vs.map (·.2)) (es.map (·.val)) ∧ RelDs K H (kvs.map (·.2)) (vs.map (·.2))
  | _, _, _, _, _, _, _, .nil, .nil, .nil => ⟨[], .nil, rfl, .nil, .nil⟩
  | _, _, _, _, _, _, _, .cons (a := p) h1 t1, .cons h2 t2, .cons (e := e) h3 h4 t3 => by
    obtain ⟨as, r, rfl, hv, hd⟩ := keyP_reads (h := h) t1 t2 t3
    have hk : Reads h e.key (keyP p.1) [] := by
      have h5 : keyIs _ e.key = true := h3
      rw [← h2.1, ← h1.1] at h5
      rcases keyIs_shape h5 with ⟨i, t, e1, e2⟩ | ⟨x, t, e1, e2⟩
      · rw [e1, e2]; exact .int i t
      · rw [e1, e2]; exact .str x t
    exact ⟨[] ++ [], .cons hk r, rfl, .cons (by dsimp only; rw [h4]; exact h2.2) hv, .cons h1.2 hd⟩
theorem zip_fst {α β : Type} : ∀ {l : List α} {m : List β}, l.length = m.length → (l.zip m).map (·.1) = l
  | [], _, _ => rfl
  | a :: l, [], h => by cases h
  | a :: l, b :: m, h => by rw [List.zip_cons_cons, List.map_cons, zip_fst (Nat.succ.inj h)]
theorem zip_snd {α β : Type} : ∀ {l : List α} {m : List β}, l.length = m.length → (l.zip m).map (·.2) = m
  | [], [], _ => rfl
  | [], b :: m, h => by cases h
  | a :: l, [], h => by cases h
  | a :: l, b :: m, h => by rw [List.zip_cons_cons, List.map_cons, zip_snd (Nat.succ.inj h)]
theorem noKv_zip : ∀ {ks ps : List PyData}, ks.length = ps.length → noListKv (ks.zip ps) = noLists ps
  | [], [], _ => rfl
  | [], _ :: _, h => by cases h
  | _ :: _, [], h => by cases h
  | k :: ks, p :: ps, h => by rw [List.zip_cons_cons, noListKv, noLists, noKv_zip (Nat.succ.inj h)]
theorem repWs_len {f : Addr → Option PyData} : ∀ {ds : List D} {ps : List PyData}, repWs f ds = some ps → ds.length = ps.length
  | [], _, e => by cases e; rfl
  | d :: ds, _, e => by
    unfold repWs at e
    cases e1 : repW f d with
    | none => rw [e1] at e; cases e
    | some p =>
      rw [e1] at e
      cases e2 : repWs f ds with
      | none => rw [e2] at e; cases e
      | some ps =>
        rw [e2] at e
        cases e
        exact congrArg (· + 1) (repWs_len e2)
theorem repL_reads (I : Inv X pins σ H s) {M : Mp} (m : RelM X.K H M) : ∀ (n : Nat) (a : Addr) (p : PyData), repL M n a = some p → Shw s.heap (.ref a) p
  | 0, _, _, e => by cases e
  | n + 1, a, p, e => by
    unfold repL at e
    split at e
    · rename_i ds q
      cases e2 : repWs (repL M n) ds with
      | none => rw [e2] at e; cases e
      | some ps =>
        rw [e2] at e
        cases e
        obtain ⟨vs, h1, rs⟩ := m _ _ q
        obtain ⟨its, rv, ⟨o, n', h2, h3, h4, h5⟩, _⟩ := I.list (SqL.of h1)
        obtain ⟨as, h6, h7⟩ := repWs_reads I (repL_reads I m n) rs rv e2
        exact ⟨a :: as, .list h2 h3 h5 (by simpa using h6), fun z => Bool.noConfusion z⟩
    · rename_i kvs q
      cases e2 : repWs (repL M n) (kvs.map (·.2)) with
      | none => rw [e2] at e; cases e
      | some ps =>
        rw [e2] at e
        cases e
        obtain ⟨vs, h1, rs⟩ := m _ _ q
        obtain ⟨_, hsys, us, hkv, o, es, ep, h2, h3, h4, _, h6, _⟩ := I.hok a _ h1
        obtain ⟨as, r1, rfl, hv, hd⟩ := keyP_reads (h := s.heap) rs hkv h6
        obtain ⟨bs, r2, n2⟩ := repWs_reads I (repL_reads I m n) hd hv e2
        have hz : (kvs.map fun kv => keyP kv.1).length = ps.length := by rw [List.length_map, ← repWs_len e2, List.length_map]
        refine ⟨a :: [] ++ bs, .dict h2 h3.1 h4 (by rw [zip_fst hz]; exact r1) (by rw [zip_snd hz]; exact r2), fun hn z => ?_⟩
        have hn' : noListKv ((kvs.map fun kv => keyP kv.1).zip ps) = true := hn
        rw [noKv_zip hz] at hn'
        rcases List.mem_append.mp z with z | z
        · have : sysModules = a := by simpa using z
          rw [← this] at hsys
          simp at hsys
        · exact n2 hn' z
    · cases e
def fRepr : WC | ds, M, Q => match ds with
  | [d] => ∃ p, repD M d = some p ∧ p.showable = true ∧ (p.hasDict = false ∨ noList p = true) ∧ p.depth ≤ 60 ∧ p.shown.length ≤ sizeLine ∧ Q (.str p.shown) M
  | _ => False
theorem c_repr (hg : X.A.guards = some []) (hu : X.A.units + 64 < cLine) : CallD X (.builtin "repr") fRepr := by
  intro pins s σ H xs us Q I r ⟨ds, M, Qd, rd, hm, hr, hl⟩
  match ds, hr with
  | [d], ⟨p, h1, h2, h3, h4, h5, q⟩ =>
    obtain ⟨v, rfl, hv⟩ := rel1 rd
    obtain ⟨u, rfl, ru⟩ := Vals.one r
    obtain ⟨as, R, ns⟩ := repW_reads I (repL_reads I hm 8) hv ru h1
    have dn : p.hasDict = true → sysModules ∉ as := fun z => by
      rcases h3 with h3 | h3
      · rw [h3] at z; cases z
      · exact ns h3
    have fin : ∀ tk, EP X pins σ Q (.str p.shown tk) { s with toks := s.toks + 1 } := fun tk => ⟨.str p.shown, H, I.tok _, ⟨_, rfl⟩, hl.val hm q rfl⟩
    cases u with
    | ref a => exact repr_of_reads' R h2 dn hg (by omega) (fun _ _ e => e) (fun h' u tk hk => ⟨.str p.shown, H, I.kept hk, ⟨_, rfl⟩, hl.val hm q rfl⟩) h5
    | none =>
      cases R
      exact PySem.P.repr_of_none (fin _)
    | bool b =>
      cases R
      exact PySem.P.repr_of_bool (fin _)
    | int i t =>
      cases R
      exact PySem.P.repr_of_int (by simpa [PyData.showable] using h2) (fin _)
    | str x t =>
      cases R
      exact PySem.P.repr_of_str (fin _) (by simpa only [PyData.shown] using h5)
    | _ => cases R
end
end L2.Dl

/-! DLt: t < u of tuples of ints and texts; < in all. -/
namespace L2.Dl
open PySem PySem.Spec PyProof.Rows

def lt1 : V → V → Option Bool
  | .int i, .int j => some (decide (i < j))
  | .str x, .str y => some (decide (x.cps.toList < y.cps.toList))
  | _, _ => none
def ltF : List V → List V → Option Bool
  | [], [] => some false
  | [], _ :: _ => some true
  | _ :: _, [] => some false
  | x :: xs, y :: ys => if flatV x = true ∧ flatV y = true then (if eqV x y = true then ltF xs ys else lt1 x y) else none
theorem ltF_cons {x y : V} {xs ys : List V} {b : Bool} (h : ltF (x :: xs) (y :: ys) = some b) : (flatV x = true ∧ flatV y = true) ∧ ((eqV x y = true ∧ ltF xs ys = some b) ∨ (eqV x y = false ∧ lt1 x y = some b)) := by
  unfold ltF at h
  by_cases hf : flatV x = true ∧ flatV y = true
  · rw [if_pos hf] at h
    refine ⟨hf, ?_⟩
    by_cases he : eqV x y = true
    · rw [if_pos he] at h; exact .inl ⟨he, h⟩
    · rw [if_neg he] at h; exact .inr ⟨by simpa using he, h⟩
  · rw [if_neg hf] at h; cases h
theorem rc_lt1 {A : Around} {s : Shared} {x y : V} {u v : Value} {b : Bool} (h : lt1 x y = some b) (r1 : RelV x u) (r2 : RelV y v) (prog : Program) (w : World) (E : Value → Shared → Prop) (Q : Value → Shared → Prop) (q : Q (.bool b) s) :
    wpAny (model prog w) A (richCompare .Lt u v) Q E s := by
  cases x <;> cases y <;> first
    | cases h
    | skip
  · obtain ⟨t, rfl⟩ := r1
    obtain ⟨t', rfl⟩ := r2
    exact (lt_int q : wpAny (model prog w) A (compareOp .Lt (.int _ t) (.int _ t')) Q E s)
  · obtain ⟨t, rfl⟩ := r1
    obtain ⟨t', rfl⟩ := r2
    exact (lt_str q : wpAny (model prog w) A (compareOp .Lt (.str _ t) (.str _ t')) Q E s)
section
open PySem.SeqAt
open PySem.AutoSeq1 (wpAny_loadPart')
open PySem.MeetsSeq PySem.MeetsSeq2 PySem.MeetsSeq3
theorem meets_lt (l b : Addr) (items items2 : Array Value) (n n2 : Nat) (dd dd2 : Option Addr) (sl sl2 : Array (Option Value)) (xs ys : List V) (b0 : Bool) (hi : Vals xs items.toList) (hj : Vals ys items2.toList) (hb0 : ltF xs ys = some b0) :
    Meets (Builtin.«tuple.__lt__» ⟨[.ref l, .ref b], []⟩)
      (fun _ R s => (s.heap.get? l = some { cls := .type "tuple", dict := dd, data := .seq items n, slots := sl }) ∧ (s.heap.get? b = some { cls := .type "tuple", dict := dd2, data := .seq items2 n2, slots := sl2 }) ∧ R (.ok (.ret (.bool b0))) s) :=
  .of_wp fun prog w A R s h => by
    obtain ⟨hp, g, d, tk, os⟩ := s
    obtain ⟨hl, hb, h⟩ := h
    have sub := AutoSeq1.sub_tuple_tuple
    have z1 : items.size = xs.length := by rw [hi.length]; simp
    have z2 : items2.size = ys.length := by rw [hj.length]; simp
    wp_walk using wpAny_loadPart' hl, wpAny_loadPart' hb, wpAny_forIn_list _ (fun rest c s' => c.1 = none ∧ s' = ⟨hp, g, d, tk, os⟩ ∧ ∃ (us ws : List Value) (xs' ys' : List V), rest = us.zip ws ∧
      Vals xs' us ∧ Vals ys' ws ∧ xs'.length + items2.size = ys'.length + items.size ∧ ltF xs' ys' = some b0) _
    case turn =>
      rintro ⟨y, x⟩ rest c s' ⟨hc, rfl, us, ws, xs', ys', hz, r1, r2, hlen, hb1⟩
      cases r1 with
      | nil => rw [List.zip_nil_left] at hz; cases hz
      | cons q1 t1 =>
        cases r2 with
        | nil => rw [List.zip_nil_right] at hz; cases hz
        | cons q2 t2 =>
          rw [List.zip_cons_cons] at hz
          injection hz with hyx hrest
          injection hyx with hy hx
          subst hy hx
          simp only [List.length_cons] at hlen
          obtain ⟨⟨f1, f2⟩, hb1⟩ := ltF_cons hb1
          have he := eqAt_V (A := A.in1) (s := ⟨hp, g, d, tk, os⟩) q1 q2 f1 f2
          refine wpAny_bind (he prog w _ _ ?_)
          rcases hb1 with ⟨e1, e2⟩ | ⟨e1, e2⟩
          · rw [e1]
            wp_walk
            exact ⟨rfl, rfl, _, _, _, _, hrest, t1, t2, by omega, e2⟩
          · rw [e1]
            have hri := rc_lt1 (A := A.in1) (s := ⟨hp, g, d, tk, os⟩) e2 q1 q2 prog w
            wp_walk using hri
            exact ⟨_, rfl, by simpa using h⟩
    case fin =>
      rintro ⟨c1, c2⟩ s' ⟨hc, rfl, us, ws, xs', ys', hz, r1, r2, hlen, hb1⟩
      simp only at hc
      subst hc
      have hv : b0 = decide (items.size < items2.size) := by
        cases r1 with
        | nil =>
          cases r2 with
          | nil =>
            simp only [List.length_nil] at hlen
            have e : some false = some b0 := hb1
            cases e
            exact (decide_eq_false (by omega)).symm
          | cons q2 t2 =>
            simp only [List.length_nil, List.length_cons] at hlen
            have e : some true = some b0 := hb1
            cases e
            exact (decide_eq_true (by omega)).symm
        | cons q1 t1 =>
          cases r2 with
          | nil =>
            simp only [List.length_nil, List.length_cons] at hlen
            have e : some false = some b0 := hb1
            cases e
            exact (decide_eq_false (by omega)).symm
          | cons q2 t2 =>
            rw [List.zip_cons_cons] at hz
            cases hz
      rw [hv] at h
      wp_walk
      exact ⟨_, rfl, by simpa [Builtin.Tuple.tupleCompareSizes] using h⟩
    case h =>
      exact ⟨rfl, rfl, items.toList, items2.toList, xs, ys, rfl, hi, hj, by omega, hb0⟩
end
section
variable {prog : Program} {w : World} {A : Around} {E : Value → Shared → Prop} {s : Shared} {X : Cx}
theorem lt_tups {l b : Addr} {items items2 : Array Value} {xs ys : List V} {b0 : Bool} {Q : Value → Shared → Prop} (hl : IsTup s.heap l items) (hb : IsTup s.heap b items2) (hi : Vals xs items.toList) (hj : Vals ys items2.toList) (hb0 : ltF xs ys = some b0)
    (hu : A.units < cLine) (h : Q (.bool b0) s) : wpAny (model prog w) A (compareOp .Lt (.ref l) (.ref b)) Q E s := by
  obtain ⟨⟨c1, d1, t1, s1⟩, ho, hc, n, hd⟩ := id hl
  obtain ⟨⟨c2, d2, t2, s2⟩, ho2, hc2, n2, hd2⟩ := id hb
  simp only at hc hd hc2 hd2
  subst hc hd hc2 hd2
  refine richCompare_meets_room (op := .Lt) ⟨_, ho, rfl⟩ ⟨_, ho2, rfl⟩ PySem.F.slot_tuple_lt PySem.F.entry_tuple_lt (PySem.F.args_tuple_lt_2 _ _) (meets_lt l b items items2 n n2 d1 d2 s1 s2 xs ys b0 hi hj hb0) ?_ hu
  exact ⟨ho, ho2, show Value.bool b0 ≠ Value.notImplemented ∧ Q (.bool b0) s from ⟨(fun x => nomatch x), h⟩⟩
theorem flv_rel {K : PySem.W.Frag} {H : Hp} : ∀ {ds : List D} {vs : List V} {es : List D} {us : List V} {b : Bool}, ltF (ds.map flv) (es.map flv) = some b → RelDs K H ds vs → RelDs K H es us → ltF vs us = some b
  | [], _, [], _, _, h, r1, r2 => by cases r1; cases r2; exact h
  | [], _, _ :: _, _, _, h, r1, r2 => by
    cases r1
    obtain ⟨v, r, rfl, _, _⟩ := r2
    exact h
  | _ :: _, _, [], _, _, h, r1, r2 => by
    cases r2
    obtain ⟨v, r, rfl, _, _⟩ := r1
    exact h
  | d :: ds, _, e :: es, _, b, h, r1, r2 => by
    obtain ⟨v, r, rfl, h1, h2⟩ := r1
    obtain ⟨u, r', rfl, h3, h4⟩ := r2
    obtain ⟨⟨f1, f2⟩, hb⟩ := ltF_cons (show ltF (flv d :: ds.map flv) (flv e :: es.map flv) = some b from h)
    have e1 := flat_val f1 h1
    have e2 := flat_val f2 h3
    subst e1 e2
    unfold ltF
    rw [if_pos ⟨f1, f2⟩]
    rcases hb with ⟨e3, e4⟩ | ⟨e3, e4⟩
    · rw [if_pos e3]; exact flv_rel e4 h2 h4
    · rw [if_neg (by rw [e3]; simp)]; exact e4
def cLt : W2 | d, e, M, Q => match d, e with
  | .int i, .int j => Q (.bl (decide (i < j))) M
  | .str x, .str y => Q (.bl (decide (x.cps.toList < y.cps.toList))) M
  | .tup xs, .tup ys => ∃ b, ltF (xs.map flv) (ys.map flv) = some b ∧ Q (.bl b) M
  | _, _ => False
theorem o_lt (hu : X.A.units + 64 < cLine) : OpD X (compareOp .Lt) cLt := by
  intro pins s σ H x y v u Q I rx ry ⟨d, e, M, Qd, hd, he, hm, hr, hl⟩
  match d, e, hr with
  | .int i, .int j, hr => exact op_lt pins s σ H x y v u Q I rx ry ⟨i, j, hd, he, hl.val hm hr rfl⟩
  | .str i, .str j, hr => exact op_lt_str pins s σ H x y v u Q I rx ry ⟨i, j, hd, he, hl.val hm hr rfl⟩
  | .tup xs, .tup ys, ⟨b, hb, hr⟩ =>
    obtain ⟨p, vs, rfl, t1, r1⟩ := hd
    obtain ⟨q, us, rfl, t2, r2⟩ := he
    cases (show v = _ from rx)
    cases (show u = _ from ry)
    obtain ⟨i1, v1, p1, _⟩ := I.tuple t1.sq
    obtain ⟨i2, v2, p2, _⟩ := I.tuple t2.sq
    exact lt_tups p1 p2 (by simpa using v1) (by simpa using v2) (flv_rel hb r1 r2) (by omega) ⟨.bl b, H, I, rfl, hl.val hm hr rfl⟩
end
end L2.Dl

/-! DEnd: the end of a law row, from the law's promise over trees; short words for the generated terms. -/
namespace L2.Dl
open PySem PySem.Spec PyProof.Rows

/-- what is known of a def of the text -/
structure Fx (K : PySem.W.Frag) (mg : Str → Option Value) (x : Str) (st : Stmt) (ps : List Str) where
  f : Addr
  fd : FuncData
  F : Fun K x x st f fd
  g : mg x = some (.ref f)
  b : PB K fd ps
theorem pb_of {K : PySem.W.Frag} {x : Str} {st : Stmt} {f : Addr} {fd : FuncData} {ps : List Str} (F : Fun K x x st f fd)
    (h : ∀ (kV doc pm : Value) (an : Option Addr) (cdv ct : Value) (us : List Value), us.length = ps.length → bindArgs (PySem.W.fnOf x x (defArgs st) (defBody st) (defScope st) .none kV doc pm an cdv ct) ⟨us, []⟩ = pure (ps.zip us)) : PB K fd ps := by
  obtain ⟨oc, od, kV, doc, pm, an, cdv, ct, osl, rfl, lk, hcd⟩ := F.ex
  exact fun s us _ hl => .of_eq (h kV doc pm an cdv ct us hl)
theorem kb_of {K : PySem.W.Frag} {x : Str} {st : Stmt} {f : Addr} {fd : FuncData} {ps ks : List Str} {n : Nat} {sel : List Src} (F : Fun K x x st f fd) (ok : ∀ d v u, Src.c d v u ∈ sel → RelV v u ∧ RelD K (fun _ => none) d v)
    (h : ∀ (kV doc pm : Value) (an : Option Addr) (cdv ct : Value) (us ws : List Value), us.length = n → ws.length = ks.length → bindArgs (PySem.W.fnOf x x (defArgs st) (defBody st) (defScope st) .none kV doc pm an cdv ct) ⟨us, ks.zip ws⟩ = pure (ps.zip (sel.map (Src.U us ws)))) : KB K fd ps n ks sel := by
  obtain ⟨oc, od, kV, doc, pm, an, cdv, ct, osl, rfl, lk, hcd⟩ := F.ex
  exact ⟨fun s us ws _ h1 h2 => .of_eq (h kV doc pm an cdv ct us ws h1 h2), ok⟩
section
variable {X : Cx}
theorem dv (i : Nat) {x : Str} {pos : Pos} (hN : X.N[i]? = some x := by rfl) (hv : Vis X.env.scope x := by first | exact Or.inl rfl | exact Or.inr (Or.inl rfl) | exact Or.inr (Or.inr rfl)) (hd : (x == ("__debug__" : Str)) = false := by decide)
    (hcd : (x == ("__classdict__" : Str)) = false := by decide) : DE X (.Name x pos) (wVar i) := d_var hN hv hd hcd
theorem ss (i : Nat) {x : Str} {e : Expr} {we : WE} {pos pos' : Pos} (hN : X.N.Nodup) (he : DE X e we) (hi : X.N[i]? = some x := by rfl) (hx : Loc X.env.scope x := by first | exact Or.inl rfl | exact Or.inr rfl)
    (hs : swapsWith e (some (.Name x pos')) pos.line X.env = pure false := by rfl) (hf : X.fn x = true ∨ X.env.scope.names.lookup x = some .local := by first | exact .inl rfl | exact .inr rfl) : DS X (.Assign [.Name x pos'] e pos) (wAsg we (gN i)) := s_set hN hi hx he hs hf
theorem gn (i : Nat) {x : Str} {pos : Pos} (hN : X.N.Nodup) (hi : X.N[i]? = some x := by rfl) (hx : Loc X.env.scope x := by first | exact Or.inl rfl | exact Or.inr rfl) (hf : X.fn x = true ∨ X.env.scope.names.lookup x = some .local := by first | exact .inl rfl | exact .inr rfl) : DG X (.Name x pos) (gN i) := g_name hN hi hx hf
theorem gon (i : Nat) {vs : List Nat} {x : Str} {pos : Pos} (hN : X.N.Nodup) (hi : X.N[i]? = some x := by rfl) (hx : Loc X.env.scope x := by first | exact Or.inl rfl | exact Or.inr rfl) (hv : i ∈ vs := by decide) (hf : X.fn x = true ∨ X.env.scope.names.lookup x = some .local := by first | exact .inl rfl | exact .inr rfl) : DGo X vs (.Name x pos) (gN i) := go_name hN hi hx hv hf
end

/-- the law's end: from its promise over trees, at the script as a list that never changes -/
theorem walk_g {l : PySem.W.OpenLaw} {n k : Nat} {q : Program} {loose : List Str} {XP : (Str → Option Value) → Heap → Prop} {YP : World → Heap → Prop} {d : DefRec} {K : Params → PySem.W.Frag} {W : WC} {x : Str}
    (hn : l.most = some n) (hn2 : n ≤ sizeLine) (hdf : d.params.defaults = []) (hr : Room k callerA) (hY : ∀ (w : World) (h : Heap), YP w h → (K w.params).In h)
    (F : ∀ (w : World) (mg : Str → Option Value) (fa : Addr) (h : Heap), (K w.params).In h → h.Ns mainGlobals mg → mg d.name = some (.ref fa) →
      ∃ fd : FuncData, PB (K w.params) fd [x] ∧ ∀ base : Heap, FnG l.prog w (K w.params) mg base k fa fd [x] W)
    (hW : ∀ ns : List Int, ns.length ≤ n → (∀ z ∈ ns, Builtin.Int.intBits z ≤ 1048576) → W [.clst (ns.map .int)] (fun _ => none) fun v _ => v = .bl true) :
    PySem.W.WalkO q loose XP YP l.row.toRowW d [] (fun f vs => PySem.call f vs) := by
  refine Att.attach_callB hn hdf fun w s₀ s₁ mg mb fa o pm cd doc a vs ns G Y ho hd hcd hmg hobj hints hlen hbits hg => ?_
  have KX := hY w _ Y
  obtain ⟨fd, hb, hF⟩ := F w mg fa _ KX G.T.g hmg
  have rv := vals_ints hints
  have lv := hints.length
  generalize K w.params = K at *
  -- the script: locked, or one of the written part
  obtain ⟨H, hc, hok, hA⟩ : ∃ H : Hp, ClsAt K H a (ns.map V.int) ∧ HOk l.prog w H s₁.heap ∧ ∀ b u, H b = some u → b = a ∧ K.lookup a = none ∧ u = .frz { cls := .type "list", data := .seq vs.toArray } (.lst (ns.map V.int)) := by
    cases hk : K.lookup a with
    | some o =>
      have e := KX a o hk
      rw [hobj] at e
      cases e
      exact ⟨fun _ => none, .inr (.inr ⟨_, vs.toArray, _, hk, rfl, rfl, rfl, by rw [List.size_toArray, lv]; exact Nat.le_trans hlen hn2, by simpa using rv⟩), fun _ _ z => (nomatch z), fun _ _ z => (nomatch z)⟩
    | none =>
      refine ⟨fun b => if b = a then some (.frz { cls := .type "list", data := .seq vs.toArray } (.lst (ns.map V.int))) else none, .inl ⟨_, if_pos rfl⟩, fun b u z => ?_, fun b u z => ?_⟩
      · dsimp only at z
        by_cases hb : b = a
        · subst hb
          rw [if_pos rfl] at z
          cases z
          exact ⟨hobj, by rw [List.length_map]; exact Nat.le_trans hlen hn2, vs, _, rv, hobj⟩
        · rw [if_neg hb] at z; cases z
      · dsimp only at z
        by_cases hb : b = a
        · rw [if_pos hb] at z
          cases z
          exact ⟨hb, rfl, rfl⟩
        · rw [if_neg hb] at z; cases z
  have nd : ∀ {b : Addr} {o : Obj} {es : Array DictEntry} {ep : Nat}, s₁.heap.get? b = some o → o.data = .dict es ep → H b = none := fun {b o es ep} e dd => by
    cases z : H b with
    | none => rfl
    | some u =>
      have e2 := (hA b u z).1
      subst e2
      rw [hobj] at e
      cases e
      cases (show Data.seq vs.toArray _ = Data.dict es ep from dd)
  have ns' : ∀ {b : Addr} {m : Str → Option Value}, s₁.heap.Ns b m → (hidT s₁.heap H).Ns b m := fun ⟨o, es, ep, e, dd, r⟩ => ⟨o, es, ep, hidT_get e (nd e dd), dd, r⟩
  have kin : K.In (hidT s₁.heap H) := fun b o e => hidT_get (KX b o e) (by
    cases z : H b with
    | none => rfl
    | some u =>
      obtain ⟨e2, e3, _⟩ := hA b u z
      subst e2
      rw [e3] at e; cases e)
  have e0 : Env0 l.prog w K mg (hidT s₁.heap H) callerA [] s₁ H := ⟨rfl, ⟨kin, ns' G.T.g, ⟨mb, ns' G.T.b, G.T.builtins⟩, let ⟨mc, z1, z2⟩ := G.T.nolimit; ⟨mc, ns' z1, z2⟩⟩, fun b o e => of_hidT e, Nat.le_of_eq (hidT_size _ _), trivial, fun b hb => absurd (show b ∈ ([] : List Addr) from hb) (by simp), hok, .of_eq hg⟩
  have rW : rDs K W [.ref a] H fun v _ => v = .bl true := ⟨[.clst (ns.map .int)], fun _ => none, _, .cons ⟨a, _, rfl, hc, .ints⟩ .nil, fun _ _ z => (nomatch z), hW ns hlen hbits, fun d M v H' q r _ _ => by
    have q' : d = .bl true := q
    subst q'
    exact r⟩
  refine codeAny_mono ((hF _).run callerA [] s₁ H ⟨[.ref a], []⟩ [.ref a] [.ref a] _ ⟨hr, rfl⟩ e0 (hb s₁ [.ref a] KX rfl) (.cons rfl .nil) rW) fun r s' h => ?_
  cases r with
  | error e => exact False.elim h
  | ok fl =>
    cases fl with
    | ret u =>
      obtain ⟨v, H', os, bare, un, hok', r', q'⟩ := h
      cases (show v = .bl true from q')
      cases (show u = Value.bool true from r')
      refine ⟨rfl, OldK.of_keep fun b o e => ?_, os, bare⟩
      cases z : H b with
      | none => exact un.keep b o e z (fun y => absurd (show b ∈ ([] : List Addr) from y) (by simp)) (by simp)
      | some u =>
        obtain ⟨_, _, rfl⟩ := hA b u z
        obtain ⟨e1, _⟩ := hok b _ z
        obtain ⟨e2, _⟩ := hok' b _ (un.frzs b _ _ z)
        rw [e] at e1
        cases e1
        exact e2
    | _ => exact False.elim h
end L2.Dl

/-! DMath: what the proofs over trees share: frames, loops by an invariant, pure comprehensions, texts. -/
namespace L2.Dl
open PySem PySem.Spec PyProof.Rows

theorem Fr.refl {S : List Addr} {M : Mp} : Fr S M M := fun _ _ _ h => h
theorem Fr.trans {S : List Addr} {M M1 M2 : Mp} (a : Fr S M M1) (b : Fr S M1 M2) : Fr S M M2 := fun x o h e => b x o h (a x o h e)
theorem Fr.mono {S T : List Addr} {M M1 : Mp} (a : Fr S M M1) (h : ∀ x ∈ S, x ∈ T) : Fr T M M1 := fun x o n e => a x o (fun z => n (h x z)) e
theorem Fr.nil {T : List Addr} {M M1 : Mp} (a : Fr [] M M1) : Fr T M M1 := a.mono fun _ h => nomatch h
theorem Fr.new {S : List Addr} {M : Mp} {p : Addr} {o : MO} (h : M p = none) : Fr S M (mup M p o) := fun a x _ e => by
  by_cases ea : a = p
  · subst ea; rw [h] at e; cases e
  · rw [mup_ne ea]; exact e
theorem Fr.put {S : List Addr} {M : Mp} {p : Addr} {o : MO} (h : p ∈ S) : Fr S M (mup M p o) := fun a x n e => by
  rw [mup_ne (fun z : a = p => n (by rw [z]; exact h))]; exact e
/-- a new object is forgotten: what was told ahead of it -/
theorem Fr.drop {S : List Addr} {M M1 M' : Mp} {p : Addr} (h : M p = none) (g : Fr [] M M1) (f : Fr (p :: S) M1 M') : Fr S M M' := fun a x n e => by
  refine f a x (fun z => ?_) (g a x (by simp) e)
  rcases List.mem_cons.mp z with z | z
  · rw [z, h] at e; cases e
  · exact n z
theorem mup_mup {M : Mp} {p : Addr} {o u : MO} : mup (mup M p o) p u = mup M p u := by
  funext b; unfold mup; split <;> rfl

/-! ### a block, its ends written out -/
theorem wSeq_eq {w u : WS} {n : Ev → Mp → Prop} {r : DQ} {b c : Ev → Mp → Prop} {env : Ev} {M : Mp} : wSeq w u { nx := n, rt := r, bk := b, ct := c } env M = w { nx := fun env' M' => u { nx := n, rt := r, bk := b, ct := c } env' M', rt := r, bk := b, ct := c } env M := rfl
/-! ### loops -/
section
variable {ok : Mp → Prop} {g : WG} {w : WS} {E : DEnds} {wt : WT} {we : WE} {env env0 : Ev} {p : Addr} {Q : DQ} {items : List D} {M : Mp}
theorem run_for (P : Nat → Ev → Mp → Prop) (h0 : P 0 env M)
    (step : ∀ i d r env M, items.drop i = d :: r → P i env M → (∀ env' M', P (i + 1) env' M' → runFor ok g w E r env' M') →
      ok M ∧ g d env M fun env1 M1 => w { nx := runFor ok g w E r, rt := E.rt, bk := E.nx, ct := runFor ok g w E r } env1 M1)
    (fin : ∀ env M, P items.length env M → ok M ∧ E.nx env M) : runFor ok g w E items env M := by
  have key : ∀ n i env M, i + n = items.length → P i env M → runFor ok g w E (items.drop i) env M := by
    intro n
    induction n with
    | zero =>
      intro i env M hi hp
      have hi' : i = items.length := by omega
      subst hi'
      rw [List.drop_length]
      exact fin env M hp
    | succ n ih =>
      intro i env M hi hp
      have h : i < items.length := by omega
      rw [List.drop_eq_getElem_cons h]
      exact step i _ _ env M (List.drop_eq_getElem_cons h) hp fun env' M' hp' => ih (i + 1) env' M' (by omega) hp'
  exact key items.length 0 env M (by omega) h0
theorem run_lc (P : Nat → Mp → Prop) (h0 : P 0 M)
    (step : ∀ i d r M, items.drop i = d :: r → P i M → (∀ M', P (i + 1) M' → runLc ok g wt we env0 p Q r M') →
      ok M ∧ g d env0 M fun env2 M2 => wt env2 M2 fun k M3 => if k = true then we env2 M3 fun y M4 => ∃ acc, M4 p = some (.lst acc) ∧ acc.length < sizeLine ∧ Put M4 p (.lst (acc ++ [y])) fun M5 => runLc ok g wt we env0 p Q r M5
        else runLc ok g wt we env0 p Q r M3)
    (fin : ∀ M, P items.length M → ok M ∧ Q (.ref p) M) : runLc ok g wt we env0 p Q items M := by
  have key : ∀ n i M, i + n = items.length → P i M → runLc ok g wt we env0 p Q (items.drop i) M := by
    intro n
    induction n with
    | zero =>
      intro i M hi hp
      have hi' : i = items.length := by omega
      subst hi'
      rw [List.drop_length]
      exact fin M hp
    | succ n ih =>
      intro i M hi hp
      have h : i < items.length := by omega
      rw [List.drop_eq_getElem_cons h]
      exact step i _ _ M (List.drop_eq_getElem_cons h) hp fun M' hp' => ih (i + 1) M' (by omega) hp'
  exact key items.length 0 M (by omega) h0
/-- a comprehension whose item is a plain function of the thing walked -/
theorem lc_plain {i : Nat} (f : D → D) (hw : ∀ (d : D) (M : Mp) (R : DQ), d ∈ items → R (f d) M → we (env0.set i (some d)) M R) :
    ∀ (acc : List D) (M : Mp), M p = some (.lst acc) → acc.length + items.length ≤ sizeLine → (∀ M', M' p = some (.lst (acc ++ items.map f)) → Fr [p] M M' → Q (.ref p) M') → runLc (fun _ => True) (gN i) wYes we env0 p Q items M := by
  induction items with
  | nil => intro acc M e _ h; exact ⟨trivial, h M (by simpa using e) .refl⟩
  | cons d r ih =>
    intro acc M e hz h
    simp only [List.length_cons] at hz
    refine ⟨trivial, hw d _ _ List.mem_cons_self ⟨acc, e, by omega, fun M5 e5 f5 => ?_⟩⟩
    refine ih (fun d M R hd => hw d M R (List.mem_cons_of_mem _ hd)) (acc ++ [f d]) M5 e5 (by rw [List.length_append]; simp only [List.length_cons, List.length_nil]; omega) fun M' e' f' => h M' ?_ (f5.trans f')
    rw [List.append_assoc] at e'
    exact e'
/-- .. with a test -/
theorem lc_sift {i : Nat} (c : D → Bool) (f : D → D) (ht : ∀ (d : D) (M : Mp) (R : Bool → Mp → Prop), d ∈ items → R (c d) M → wt (env0.set i (some d)) M R) (hw : ∀ (d : D) (M : Mp) (R : DQ), d ∈ items → c d = true → R (f d) M → we (env0.set i (some d)) M R) :
    ∀ (acc : List D) (M : Mp), M p = some (.lst acc) → acc.length + items.length ≤ sizeLine → (∀ M', M' p = some (.lst (acc ++ (items.filter c).map f)) → Fr [p] M M' → Q (.ref p) M') → runLc (fun _ => True) (gN i) wt we env0 p Q items M := by
  induction items with
  | nil => intro acc M e _ h; exact ⟨trivial, h M (by simpa using e) .refl⟩
  | cons d r ih =>
    intro acc M e hz h
    simp only [List.length_cons] at hz
    refine ⟨trivial, ht d _ _ List.mem_cons_self ?_⟩
    have ih' := ih (fun d M R hd => ht d M R (List.mem_cons_of_mem _ hd)) (fun d M R hd => hw d M R (List.mem_cons_of_mem _ hd))
    by_cases hc : c d = true
    · rw [if_pos hc]
      refine hw d _ _ List.mem_cons_self hc ⟨acc, e, by omega, fun M5 e5 f5 => ?_⟩
      refine ih' (acc ++ [f d]) M5 e5 (by rw [List.length_append]; simp only [List.length_cons, List.length_nil]; omega) fun M' e' f' => h M' ?_ (f5.trans f')
      rw [List.filter_cons_of_pos hc]
      rw [List.append_assoc] at e'
      exact e'
    · rw [if_neg hc]
      refine ih' acc M e (by omega) fun M' e' f' => h M' ?_ f'
      rw [List.filter_cons_of_neg hc]
      exact e'
end
theorem rng_at {lo : Int} {n i : Nat} {d : D} {r : List D} (h : (rngD lo n).drop i = d :: r) : i < n ∧ d = .int (lo + (i : Nat)) := by
  have hl : i < (rngD lo n).length := by
    by_cases q : i < (rngD lo n).length
    · exact q
    · rw [List.drop_of_length_le (by omega)] at h; cases h
  have hl' : i < n := by simpa [rngD] using hl
  refine ⟨hl', ?_⟩
  rw [List.drop_eq_getElem_cons hl] at h
  cases h
  simp [rngD]
@[simp] theorem rng_len {lo : Int} {n : Nat} : (rngD lo n).length = n := by simp [rngD]

/-! ### what is told stays told -/
mutual
theorem repW_mono {f g : Addr → Option PyData} (h : ∀ a p, f a = some p → g a = some p) : ∀ {d : D} {p : PyData}, repW f d = some p → repW g d = some p
  | .non, _, e => e
  | .bl _, _, e => e
  | .int _, _, e => e
  | .str _, _, e => e
  | .tup ds, _, e => by
    unfold repW at e ⊢
    cases q : repWs f ds with
    | none => rw [q] at e; cases e
    | some ps => rw [q] at e; rw [repWs_mono h q]; exact e
  | .ref a, _, e => h a _ e
  | .clst _, _, e => by unfold repW at e; cases e
  | .cdic _ _, _, e => by unfold repW at e; cases e
  | .ty _, _, e => by unfold repW at e; cases e
theorem repWs_mono {f g : Addr → Option PyData} (h : ∀ a p, f a = some p → g a = some p) : ∀ {ds : List D} {ps : List PyData}, repWs f ds = some ps → repWs g ds = some ps
  | [], _, e => e
  | d :: ds, _, e => by
    unfold repWs at e ⊢
    cases q : repW f d with
    | none => rw [q] at e; cases e
    | some p =>
      rw [q] at e
      rw [repW_mono h q]
      cases q2 : repWs f ds with
      | none => rw [q2] at e; cases e
      | some ps => rw [q2] at e; rw [repWs_mono h q2]; exact e
end
theorem repL_mono {M M' : Mp} (h : Fr [] M M') : ∀ (n : Nat) (a : Addr) (p : PyData), repL M n a = some p → repL M' n a = some p
  | 0, _, _, e => e
  | n + 1, a, p, e => by
    unfold repL at e ⊢
    cases q : M a with
    | none => rw [q] at e; cases e
    | some o =>
      rw [h a o (by simp) q]
      rw [q] at e
      cases o with
      | lst ds =>
        dsimp only at e ⊢
        cases q2 : repWs (repL M n) ds with
        | none => rw [q2] at e; cases e
        | some ps => rw [q2] at e; rw [repWs_mono (repL_mono h n) q2]; exact e
      | dK kvs =>
        dsimp only at e ⊢
        cases q2 : repWs (repL M n) (kvs.map (·.2)) with
        | none => rw [q2] at e; cases e
        | some ps => rw [q2] at e; rw [repWs_mono (repL_mono h n) q2]; exact e
      | _ => cases e
theorem repD_mono {M M' : Mp} (h : Fr [] M M') {d : D} {p : PyData} (e : repD M d = some p) : repD M' d = some p := repW_mono (repL_mono h 8) e
/-- may be asked of repr -/
structure Rep (M : Mp) (d : D) (p : PyData) : Prop where
  is : repD M d = some p
  ok : p.showable = true
  nd : p.hasDict = false ∨ noList p = true
  dp : p.depth ≤ 60
  sz : p.shown.length ≤ sizeLine
theorem Rep.mono {M M' : Mp} {d : D} {p : PyData} (r : Rep M d p) (h : Fr [] M M') : Rep M' d p := ⟨repD_mono h r.is, r.ok, r.nd, r.dp, r.sz⟩
theorem Rep.ask {M : Mp} {d : D} {p : PyData} {Q : DQ} (r : Rep M d p) (q : Q (.str p.shown) M) : fRepr [d] M Q := ⟨p, r.is, r.ok, r.nd, r.dp, r.sz, q⟩
theorem tyD_mono {M M' : Mp} (h : Fr [] M M') {d : D} {t : String} (e : tyD d M = some t) : tyD d M' = some t := by
  cases d with
  | ref a =>
    unfold tyD at e ⊢
    dsimp only at e ⊢
    cases q : M a with
    | none => rw [q] at e; cases e
    | some o => rw [h a o (by simp) q]; rw [q] at e; exact e
  | _ => exact e
/-! ### texts -/
theorem strIn_sign (c : Nat) (z : Str) : strIn ⟨#[c]⟩ z = decide (c ∈ z.cps.toList) := by
  exact PySem.StrLaws.found_one z c
end L2.Dl
namespace L2.Dl
open PySem PySem.Spec PyProof.Rows
theorem bIx_ref {M : Mp} {a : Addr} {ds : List D} {i : Int} {Q : DQ} (h : M a = some (.lst ds)) : bIx (.ref a) (.int i) M Q = ∃ x, L2.atI ds i = some x ∧ Q x M := by
  unfold bIx
  dsimp only
  refine propext ⟨fun ⟨es, x, h1, h2, q⟩ => ?_, fun ⟨x, h2, q⟩ => ⟨ds, x, ?_, h2, q⟩⟩
  · unfold seqOf lstOf at h1
    dsimp only at h1
    rw [h] at h1
    cases h1
    exact ⟨x, h2, q⟩
  · unfold seqOf lstOf
    dsimp only
    rw [h]
theorem bIx_tup {M : Mp} {ds : List D} {i : Int} {Q : DQ} : bIx (.tup ds) (.int i) M Q = ∃ x, L2.atI ds i = some x ∧ Q x M := by
  unfold bIx
  dsimp only
  refine propext ⟨fun ⟨es, x, h1, h2, q⟩ => ?_, fun ⟨x, h2, q⟩ => ⟨ds, x, rfl, h2, q⟩⟩
  cases h1
  exact ⟨x, h2, q⟩
theorem bIx_clst {M : Mp} {ds : List D} {i : Int} {Q : DQ} : bIx (.clst ds) (.int i) M Q = ∃ x, L2.atI ds i = some x ∧ Q x M := by
  unfold bIx
  dsimp only
  refine propext ⟨fun ⟨es, x, h1, h2, q⟩ => ?_, fun ⟨x, h2, q⟩ => ⟨ds, x, rfl, h2, q⟩⟩
  cases h1
  exact ⟨x, h2, q⟩
theorem bIx_str {M : Mp} {z : Str} {i : Int} {Q : DQ} : bIx (.str z) (.int i) M Q = (z.length ≤ sizeLine ∧ ∃ c, L2.atI z.cps.toList i = some c ∧ Q (.str ⟨#[c]⟩) M) := rfl
theorem atI_0 {α : Type} {x : α} {xs : List α} : L2.atI (x :: xs) 0 = some x := by
  have := L2.atI_nat (xs := x :: xs) (j := 0) (v := x) rfl
  simpa using this
theorem atI_1 {α : Type} {x y : α} {xs : List α} : L2.atI (x :: y :: xs) 1 = some y := by
  have := L2.atI_nat (xs := x :: y :: xs) (j := 1) (v := y) rfl
  simpa using this
theorem atI_get {α : Type} {xs : List α} {i : Int} (h0 : 0 ≤ i) (h1 : i < xs.length) : ∃ h : i.toNat < xs.length, L2.atI xs i = some xs[i.toNat] := by
  have h : i.toNat < xs.length := by omega
  refine ⟨h, ?_⟩
  have := L2.atI_nat (xs := xs) (j := i.toNat) (v := xs[i.toNat]) (List.getElem?_eq_getElem h)
  rwa [Int.toNat_of_nonneg h0] at this
theorem atI_mem {α : Type} {xs : List α} {i : Int} (h0 : 0 ≤ i) (h1 : i < xs.length) : ∃ x, x ∈ xs ∧ L2.atI xs i = some x := by
  obtain ⟨h, e⟩ := atI_get h0 h1
  exact ⟨_, List.getElem_mem h, e⟩
theorem ex_some {α : Type} {x : α} {P : α → Prop} : (∃ y, some x = some y ∧ P y) = P x := by simp
theorem mul_small {i j : Int} (h1 : 0 ≤ i) (h2 : i < 2 ^ 64) (h3 : 0 ≤ j) (h4 : j < 2 ^ 64) : CMulW i j := wide_mul (a := 64) (b := 64) (by omega) (by omega) (by decide) (by decide) (by decide)
theorem div_small {i j : Int} (h3 : 0 < j) (h4 : j < 2 ^ 64) : CDivW i j := wide_div (b := 64) h3 (by omega) (by decide) (by decide)
theorem ixN_0 {n : Nat} : ixN (n + 1) 0 = some 0 := by
  unfold ixN; rw [if_pos (by omega), if_pos (by omega)]; rfl
theorem ixN_1 {n : Nat} : ixN (n + 2) 1 = some 1 := by
  unfold ixN; rw [if_pos (by omega), if_pos (by omega)]; rfl
end L2.Dl
namespace L2.Dl
open PySem PySem.Spec PyProof.Rows
/-! ### isinstance -/
def kit (t n : String) : Bool := t == n || (t == "bool" && n == "int")
def tys : List String := ["NoneType", "bool", "int", "str", "tuple", "list", "dict"]
theorem kit_all : (tys.all fun t => tys.all fun n => n == "NoneType" || kitB t n == some (kit t n)) = true := by decide +kernel
theorem kit_eq {t n : String} (ht : t ∈ tys) (hn : n ∈ tys) (h0 : n ≠ "NoneType") : kitB t n = some (kit t n) := by
  have h := List.all_eq_true.mp (List.all_eq_true.mp kit_all t ht) n hn
  rcases (Bool.or_eq_true _ _).mp h with h | h
  · exact absurd (by simpa using h) h0
  · simpa using h
theorem tyD_mem {d : D} {M : Mp} {t : String} (h : tyD d M = some t) : t ∈ tys := by
  cases d with
  | ref a =>
    unfold tyD at h
    dsimp only at h
    split at h <;> cases h <;> decide
  | _ => cases h; try decide
theorem isi_eq {d : D} {M : Mp} {t n : String} {Q : DQ} (h : tyD d M = some t) (hn : n ∈ tys := by decide) (h0 : n ≠ "NoneType" := by decide) : fIsi [d, .ty n] M Q = Q (.bl (kit t n)) M := by
  have e := kit_eq (tyD_mem h) hn h0
  refine propext ⟨fun ⟨t', b, h1, h2, q⟩ => ?_, fun q => ⟨t, _, h, e, q⟩⟩
  rw [h] at h1
  cases h1
  rw [e] at h2
  cases h2
  exact q
theorem isi_str {x : Str} {M : Mp} {n : String} {Q : DQ} (hn : n ∈ tys := by decide) (h0 : n ≠ "NoneType" := by decide) : fIsi [.str x, .ty n] M Q = Q (.bl (kit "str" n)) M := isi_eq rfl hn h0
theorem isi_int {x : Int} {M : Mp} {n : String} {Q : DQ} (hn : n ∈ tys := by decide) (h0 : n ≠ "NoneType" := by decide) : fIsi [.int x, .ty n] M Q = Q (.bl (kit "int" n)) M := isi_eq rfl hn h0
theorem isi_bl {x : Bool} {M : Mp} {n : String} {Q : DQ} (hn : n ∈ tys := by decide) (h0 : n ≠ "NoneType" := by decide) : fIsi [.bl x, .ty n] M Q = Q (.bl (kit "bool" n)) M := isi_eq rfl hn h0
theorem isi_non {M : Mp} {n : String} {Q : DQ} (hn : n ∈ tys := by decide) (h0 : n ≠ "NoneType" := by decide) : fIsi [.non, .ty n] M Q = Q (.bl (kit "NoneType" n)) M := isi_eq rfl hn h0
theorem isi_tup {x : List D} {M : Mp} {n : String} {Q : DQ} (hn : n ∈ tys := by decide) (h0 : n ≠ "NoneType" := by decide) : fIsi [.tup x, .ty n] M Q = Q (.bl (kit "tuple" n)) M := isi_eq rfl hn h0
/-- what a thing is, told -/
theorem kit_str {t : String} (h : t ≠ "str") : kit t "str" = false := by
  unfold kit
  rw [beq_false_of_ne h]
  simp
theorem kit_tup {t : String} (h : t ≠ "tuple") : kit t "tuple" = false := by
  unfold kit
  rw [beq_false_of_ne h]
  simp
theorem ty_str {d : D} {M : Mp} (h : tyD d M = some "str") : ∃ x, d = .str x := by
  cases d with
  | str x => exact ⟨x, rfl⟩
  | ref a =>
    unfold tyD at h
    dsimp only at h
    split at h <;> simp at h
  | _ => simp [tyD] at h
theorem ty_tup {d : D} {M : Mp} (h : tyD d M = some "tuple") : ∃ x, d = .tup x := by
  cases d with
  | tup x => exact ⟨x, rfl⟩
  | ref a =>
    unfold tyD at h
    dsimp only at h
    split at h <;> simp at h
  | _ => simp [tyD] at h
theorem ty_int {d : D} {M : Mp} {t : String} (h : tyD d M = some t) (hk : kit t "int" = true) : (∃ i, d = .int i) ∨ ∃ b, d = .bl b := by
  cases d with
  | int x => exact .inl ⟨x, rfl⟩
  | bl x => exact .inr ⟨x, rfl⟩
  | ref a =>
    unfold tyD at h
    dsimp only at h
    split at h <;> simp at h <;> (subst h; simp [kit] at hk)
  | _ => simp [tyD] at h <;> (subst h; simp [kit] at hk)
/-! ### all([.. for sign in a text]) -/
def signs (x : Str) : List D := x.cps.toList.map fun c => .str ⟨#[c]⟩
theorem all_signs {i : Nat} {we : WE} {env0 : Ev} {Q : DQ} {x : Str} {M : Mp} (f : Nat → Bool) (hz : x.length ≤ sizeLine) (hw : ∀ c (M : Mp) (R : DQ), c ∈ x.cps.toList → R (.bl (f c)) M → we (env0.set i (some (.str ⟨#[c]⟩))) M R)
    (q : ∀ M', Fr [] M M' → Q (.bl (x.cps.toList.all f)) M') : New M (.lst []) fun p M1 => runLc (fun _ => True) (gN i) wYes we env0 p (fun d M2 => fAll [d] M2 Q) (signs x) M1 := by
  intro p M1 hp e1 f1
  let F : D → D := fun d => match d with
    | .str z => .bl (f (z.cps.toList.headD 0))
    | _ => .non
  refine lc_plain F (fun d M R hd hR => ?_) [] M1 e1 ?_ fun M2 e2 f2 => ⟨x.cps.toList.map f, ?_, ?_⟩
  · obtain ⟨c, hc, rfl⟩ := List.mem_map.mp hd
    exact hw c M R hc hR
  · show 0 + (signs x).length ≤ sizeLine
    unfold signs
    rw [List.length_map, Array.length_toList]
    have : x.length = x.cps.size := rfl
    omega
  · unfold lstOf
    dsimp only
    rw [e2]
    show some ([] ++ (signs x).map F) = _
    unfold signs
    rw [List.nil_append, List.map_map, List.map_map]
    rfl
  · have e : (x.cps.toList.map f).all id = x.cps.toList.all f := by rw [List.all_map]; rfl
    rw [e]
    exact q _ (.drop hp f1 f2)
end L2.Dl
namespace L2.Dl
open PySem PySem.Spec PyProof.Rows
theorem eq_int {i j : Int} {M : Mp} {Q : Bool → Prop} : eqR (.int i) (.int j) M Q = Q (decide (i = j)) := by
  unfold eqR
  rw [if_pos (show scal (flv (.int i)) (flv (.int j)) = true from rfl)]
  have : decide (flv (.int i) = flv (.int j)) = decide (i = j) := by simp [flv]
  rw [this]
theorem eq_str {i j : Str} {M : Mp} {Q : Bool → Prop} : eqR (.str i) (.str j) M Q = Q (decide (i = j)) := by
  unfold eqR
  rw [if_pos (show scal (flv (.str i)) (flv (.str j)) = true from rfl)]
  have : decide (flv (.str i) = flv (.str j)) = decide (i = j) := by simp [flv]
  rw [this]
end L2.Dl

/-! DRep: how long a shown text may be; lists of texts compared. -/
namespace L2.Dl
open PySem PySem.Spec PyProof.Rows

mutual
def cost : PyData → Nat
  | .int i => ((toString i : String) : Str).length
  | .str x => 10 * x.length + 2
  | .list xs => costs xs + 3
  | .tuple xs => costs xs + 3
  | .dict kvs => costKv kvs + 3
  | _ => 5
def costs : List PyData → Nat
  | [] => 0
  | x :: xs => cost x + 2 + costs xs
def costKv : List (PyData × PyData) → Nat
  | [] => 0
  | (k, v) :: r => cost k + cost v + 4 + costKv r
end
mutual
def asc : PyData → Bool
  | .str x => x.cps.toList.all fun c => decide (c < 16 ^ 8)
  | .list xs => ascs xs
  | .tuple xs => ascs xs
  | .dict kvs => ascKv kvs
  | _ => true
def ascs : List PyData → Bool
  | [] => true
  | x :: xs => asc x && ascs xs
def ascKv : List (PyData × PyData) → Bool
  | [] => true
  | (k, v) :: r => asc k && asc v && ascKv r
end
theorem len_app (a b : Str) : (a ++ b).length = a.length + b.length := strLen_append a b
mutual
theorem shown_cost : ∀ p : PyData, asc p = true → p.shown.length ≤ cost p
  | .none, _ => by simp only [PyData.shown, cost]; decide
  | .bool b, _ => by cases b <;> (simp only [PyData.shown, cost]; decide)
  | .int i, _ => by simp only [PyData.shown, cost]; exact Nat.le_refl _
  | .str x, h => by
    simp only [PyData.shown, cost]
    exact StrLaws.reprText_len x fun c hc => of_decide_eq_true (List.all_eq_true.mp h c hc)
  | .list xs, h => by
    simp only [PyData.shown, cost]
    have h1 := listText_len_le (PyData.shownAll xs)
    have h2 := shown_costs xs h
    have h3 := PyData.shownAll_length xs
    omega
  | .tuple xs, h => by
    simp only [PyData.shown, cost]
    have h1 := tupleText_len_le (PyData.shownAll xs)
    have h2 := shown_costs xs h
    have h3 := PyData.shownAll_length xs
    omega
  | .dict kvs, h => by
    simp only [PyData.shown, cost]
    have h1 := dictText_len_le (PyData.shownKv kvs)
    have h2 := shown_costKv kvs h
    have h3 := PyData.shownKv_length kvs
    omega
theorem shown_costs : ∀ xs : List PyData, ascs xs = true → ((PyData.shownAll xs).map (·.length)).sum + 2 * xs.length ≤ costs xs
  | [], _ => by simp [PyData.shownAll, costs]
  | x :: xs, h => by
    simp only [ascs, Bool.and_eq_true] at h
    have h1 := shown_cost x h.1
    have h2 := shown_costs xs h.2
    simp only [PyData.shownAll, costs, List.map_cons, List.sum_cons, List.length_cons]
    omega
theorem shown_costKv : ∀ xs : List (PyData × PyData), ascKv xs = true → ((PyData.shownKv xs).map (·.length)).sum + 2 * xs.length ≤ costKv xs
  | [], _ => by simp [PyData.shownKv, costKv]
  | (k, v) :: xs, h => by
    simp only [ascKv, Bool.and_eq_true] at h
    have h1 := shown_cost k h.1.1
    have h3 := shown_cost v h.1.2
    have h2 := shown_costKv xs h.2
    have h4 : ((": " : String) : Str).length = 2 := by decide +kernel
    simp only [PyData.shownKv, costKv, List.map_cons, List.sum_cons, List.length_cons, len_app, h4]
    omega
end
theorem int_len {i : Int} {k : Nat} (hk : 0 < k) (h : i.natAbs < 10 ^ k) : ((toString i : String) : Str).length ≤ k + 1 := by
  rw [PySem.ofString_length]
  exact int_text_length_le10 hk h
theorem Rep.mk' {M : Mp} {d : D} {p : PyData} (h1 : repD M d = some p) (h2 : p.showable = true) (h3 : p.hasDict = false ∨ noList p = true) (h4 : p.depth ≤ 60) (h5 : asc p = true) (h6 : cost p ≤ 100000) : Rep M d p :=
  ⟨h1, h2, h3, h4, Nat.le_trans (shown_cost p h5) (Nat.le_trans h6 (by decide))⟩
/-- a list of texts and an empty list -/
theorem eq_strs_nil {M : Mp} {p q : Addr} {cs : List Nat} {Q : Bool → Prop} (h1 : M p = some (.lst (cs.map fun c => .str ⟨#[c]⟩))) (h2 : M q = some (.lst [])) (hc : ∀ c ∈ cs, c < 128) (hQ : Q cs.isEmpty) : eqR (.ref p) (.ref q) M Q := by
  unfold eqR
  rw [if_neg (show ¬ scal (flv (.ref p)) (flv (.ref q)) = true from fun z => Bool.noConfusion z)]
  have e1 : ∀ f : Addr → Option PyData, datWs f (cs.map fun c => .str ⟨#[c]⟩) = some (cs.map fun c => .str ⟨#[c]⟩) := by
    intro f
    clear h1 hc hQ
    induction cs with
    | nil => rfl
    | cons c cs ih => simp only [List.map_cons, datWs, datW, ih, Option.map_some]
  have s1 : ∀ l : List Nat, (∀ c ∈ l, c < 128) → PyData.canLayAll0 (l.map fun c => PyData.str ⟨#[c]⟩) = true ∧ PyData.depthAll (l.map fun c => PyData.str ⟨#[c]⟩) = 0 := by
    intro l
    induction l with
    | nil => intro _; exact ⟨rfl, rfl⟩
    | cons c l ih =>
      intro h
      obtain ⟨i1, i2⟩ := ih fun x hx => h x (List.mem_cons_of_mem _ hx)
      have hc := h c List.mem_cons_self
      refine ⟨?_, ?_⟩
      · simp only [List.map_cons, PyData.canLayAll0, PyData.canLay0, i1, Bool.and_true]
        simp [PySem.PyData.strOk]
        omega
      · simp only [List.map_cons, PyData.depthAll, PyData.depth, i2]
        rfl
  obtain ⟨s2, s3⟩ := s1 cs hc
  refine ⟨.list (cs.map fun c => .str ⟨#[c]⟩), .list [], ?_, ?_, ?_, by decide, ?_⟩
  · simp only [dat, datW, datL, h1, e1, Option.map_some]
  · simp only [dat, datW, datL, h2, datWs, Option.map_some]
  · simp only [SeqAt.shaped, PyData.canLay0, PyData.depth, s2, s3]
    decide
  · cases cs with
    | nil => exact hQ
    | cons c cs => exact hQ
end L2.Dl

/-! DThing: drawn texts and drawn things. -/
namespace L2.Dl
open PySem PySem.Spec PyProof.Rows TL

/-! ### texts put together -/
def sg (c : Nat) : Str := ⟨#[c]⟩
theorem joinL_nil : ∀ cs : List Nat, joinL [] (cs.map fun c => [c]) = cs
  | [] => rfl
  | [c] => rfl
  | c :: d :: r => by
    have ih := joinL_nil (d :: r)
    simp only [List.map_cons, joinL, List.nil_append] at ih ⊢
    rw [ih]
    rfl
theorem join_signs (cs : List Nat) : Txt.join (("" : String) : Str) (cs.map sg) = ⟨cs.toArray⟩ := by
  have e : tl (Txt.join (("" : String) : Str) (cs.map sg)) = cs := by
    rw [join_eq, tl_join, List.map_map]
    have e0 : tl (("" : String) : Str) = [] := by decide +kernel
    have e1 : (cs.map (tl ∘ sg)) = cs.map fun c => [c] := rfl
    rw [e0, e1, joinL_nil]
  generalize Txt.join (("" : String) : Str) (cs.map sg) = y at e
  obtain ⟨a⟩ := y
  have e2 : a.toList = cs := e
  subst e2
  simp
theorem sum_signs : ∀ cs : List Nat, ((cs.map sg).map (·.length)).sum = cs.length
  | [] => rfl
  | c :: r => by
    simp only [List.map_cons, List.sum_cons, List.length_cons]
    rw [sum_signs r]
    have : (sg c).length = 1 := rfl
    omega
theorem join_ok {M : Mp} {l : Addr} {cs : List Nat} {Q : DQ} (h : M l = some (.lst (cs.map fun c => .str (sg c)))) (hz : cs.length ≤ 1000) (q : Q (.str ⟨cs.toArray⟩) M) : mJoin (.str "") [.ref l] M Q := by
  refine ⟨cs.map sg, ?_, ?_, ?_⟩
  · unfold seqOf lstOf
    dsimp only
    rw [h, List.map_map]
    rfl
  · rw [sum_signs]
    have : (("" : String) : Str).length = 0 := by decide +kernel
    rw [this]
    omega
  · rw [join_signs]
    exact q
/-- a comprehension that draws signs -/
theorem lc_signs {I : Mp → Prop} {S : List Addr} {C : Nat → Prop} {items : List D} {i : Nat} {we : WE} {env0 : Ev} {Q : DQ} {M1 : Mp} {l : Addr} (e1 : M1 l = some (.lst [])) (hi : I M1) (hst : ∀ M M', Fr [l] M M' → I M → I M') (hS : l ∉ S) (hz : items.length ≤ 1000)
    (hw : ∀ d M (R : DQ), d ∈ items → I M → (∀ c M', C c → I M' → Fr S M M' → R (.str (sg c)) M') → we (env0.set i (some d)) M R)
    (q : ∀ (cs : List Nat) M', cs.length = items.length → (∀ c ∈ cs, C c) → M' l = some (.lst (cs.map fun c => .str (sg c))) → I M' → Fr (l :: S) M1 M' → Q (.ref l) M') : runLc (fun _ => True) (gN i) wYes we env0 l Q items M1 := by
  refine run_lc (fun k M => I M ∧ (∃ cs : List Nat, cs.length = k ∧ (∀ c ∈ cs, C c) ∧ M l = some (.lst (cs.map fun c => .str (sg c)))) ∧ Fr (l :: S) M1 M) ⟨hi, ⟨[], rfl, (fun _ h => nomatch h), e1⟩, .refl⟩ (fun k d r M hd hP next => ⟨trivial, ?_⟩) fun M hP => ⟨trivial, ?_⟩
  · obtain ⟨hI, ⟨cs, hc1, hc2, hc3⟩, hf⟩ := hP
    have hmem : d ∈ items := List.mem_of_mem_drop (by rw [hd]; exact List.mem_cons_self)
    have hk : k < items.length := by
      by_cases z : k < items.length
      · exact z
      · rw [List.drop_of_length_le (by omega)] at hd; cases hd
    refine hw d M _ hmem hI fun c M' hc hI' hf' => ?_
    have e := hf' l _ hS hc3
    refine ⟨_, e, by rw [List.length_map, hc1]; exact Nat.lt_of_lt_of_le (Nat.lt_of_lt_of_le hk hz) (by decide), fun M5 e5 f5 => next _ ⟨hst _ _ f5 hI', ⟨cs ++ [c], by rw [List.length_append, hc1]; rfl, fun x hx => ?_, ?_⟩, ?_⟩⟩
    · rcases List.mem_append.mp hx with z | z
      · exact hc2 x z
      · rw [List.mem_singleton.mp z]; exact hc
    · rw [e5, List.map_append]; rfl
    · exact (hf.trans (hf'.mono fun x hx => List.mem_cons_of_mem _ hx)).trans (f5.mono fun x hx => by rw [List.mem_singleton.mp hx]; exact List.mem_cons_self)
  · obtain ⟨hI, ⟨cs, hc1, hc2, hc3⟩, hf⟩ := hP
    exact q cs M hc1 hc2 hc3 hI hf
theorem repL_lst {M : Mp} {a : Addr} {ds : List D} {n : Nat} (e : M a = some (.lst ds)) : repL M (n + 1) a = (repWs (repL M n) ds).map PyData.list := by
  unfold repL
  rw [e]
theorem repL_dK {M : Mp} {a : Addr} {kvs : List (Key × D)} {n : Nat} (e : M a = some (.dK kvs)) : repL M (n + 1) a = (repWs (repL M n) (kvs.map fun kv => kv.2)).map fun ps => PyData.dict ((kvs.map fun kv => keyP kv.1).zip ps) := by
  unfold repL
  rw [e]
theorem repD_ref {M : Mp} {a : Addr} : repD M (.ref a) = repL M 8 a := rfl
/-! ### drawn things -/
/-- a number, a truth, None, a short text -/
structure FO (d : D) : Prop where
  ty : ∃ t, ∀ M, tyD d M = some t
  tx : ∀ x, d = .str x → x.length ≤ 40 ∧ ∀ c ∈ x.cps.toList, c < 128
  rp : ∃ p, (∀ f, repW f d = some p) ∧ p.showable = true ∧ p.hasDict = false ∧ noList p = true ∧ p.depth = 0 ∧ asc p = true ∧ cost p ≤ 500
theorem FO.non : FO .non := ⟨⟨_, fun _ => rfl⟩, fun _ h => (nomatch h), .none, fun _ => rfl, rfl, rfl, rfl, rfl, rfl, by decide⟩
theorem FO.bl (b : Bool) : FO (.bl b) := ⟨⟨_, fun _ => rfl⟩, fun _ h => (nomatch h), .bool b, fun _ => rfl, rfl, rfl, rfl, rfl, rfl, by simp [cost]⟩
theorem FO.int {i : Int} (h : i.natAbs < 10 ^ 40) : FO (.int i) := by
  refine ⟨⟨_, fun _ => rfl⟩, fun _ h => (nomatch h), .int i, fun _ => rfl, ?_, rfl, rfl, rfl, rfl, ?_⟩
  · simp only [PyData.showable, decide_eq_true_eq]
    have h1 : i.natAbs < 2 ^ 140 := Nat.lt_trans h (by decide)
    exact Nat.lt_of_lt_of_le (PySem.Flt.log2_lt_of (by decide) h1) (by decide)
  · show (_ : Nat) ≤ 500
    exact Nat.le_trans (int_len (k := 40) (by decide) h) (by decide)
theorem FO.str {x : Str} (h1 : x.length ≤ 40) (h2 : ∀ c ∈ x.cps.toList, c < 128) : FO (.str x) := by
  refine ⟨⟨_, fun _ => rfl⟩, fun y e => by cases e; exact ⟨h1, h2⟩, .str x, fun _ => rfl, rfl, rfl, rfl, rfl, ?_, ?_⟩
  · simp only [asc, List.all_eq_true, decide_eq_true_eq]
    exact fun c hc => Nat.lt_trans (h2 c hc) (by decide)
  · show 10 * x.length + 2 ≤ 500
    omega
theorem FOs.rep {f : Addr → Option PyData} : ∀ {ds : List D}, (∀ d ∈ ds, FO d) → ∃ ps, repWs f ds = some ps ∧ PyData.showableAll ps = true ∧ PyData.hasDictAll ps = false ∧ noLists ps = true ∧ PyData.depthAll ps = 0 ∧ ascs ps = true ∧ costs ps ≤ 502 * ds.length
  | [], _ => ⟨[], rfl, rfl, rfl, rfl, rfl, rfl, Nat.zero_le _⟩
  | d :: ds, h => by
    obtain ⟨p, h1, h2, h3, h4, h5, h6, h7⟩ := (h d List.mem_cons_self).rp
    obtain ⟨ps, g1, g2, g3, g4, g5, g6, g7⟩ := FOs.rep (f := f) fun x hx => h x (List.mem_cons_of_mem _ hx)
    refine ⟨p :: ps, ?_, ?_, ?_, ?_, ?_, ?_, ?_⟩
    · unfold repWs; rw [h1 f, g1]; rfl
    · simp only [PyData.showableAll, h2, g2]; rfl
    · simp only [PyData.hasDictAll, h3, g3]; rfl
    · simp only [noLists, h4, g4]; rfl
    · simp only [PyData.depthAll, h5, g5]; rfl
    · simp only [ascs, h6, g6]; rfl
    · simp only [costs, List.length_cons]; omega
theorem FO.Rep {d : D} {M : Mp} (h : FO d) : ∃ p, Rep M d p := by
  obtain ⟨p, h1, h2, h3, h4, h5, h6, h7⟩ := h.rp
  exact ⟨p, .mk' (h1 _) h2 (.inl h3) (by omega) h6 (by omega)⟩
theorem FOs.tup {ds : List D} {M : Mp} (h : ∀ d ∈ ds, FO d) (hz : ds.length ≤ 100) : ∃ p, Dl.Rep M (.tup ds) p := by
  obtain ⟨ps, g1, g2, g3, g4, g5, g6, g7⟩ := FOs.rep (f := repL M 8) h
  refine ⟨.tuple ps, .mk' ?_ ?_ (.inl ?_) ?_ ?_ ?_⟩
  · simp only [repD, repW, g1, Option.map_some]
  · simp only [PyData.showable, g2]
  · simp only [PyData.hasDict, g3]
  · simp only [PyData.depth, g5]; decide
  · simp only [asc, g6]
  · simp only [cost]; omega
theorem FOs.lst {ds : List D} {M : Mp} {a : Addr} (e : M a = some (.lst ds)) (h : ∀ d ∈ ds, FO d) (hz : ds.length ≤ 100) : ∃ p, Dl.Rep M (.ref a) p := by
  obtain ⟨ps, g1, g2, g3, g4, g5, g6, g7⟩ := FOs.rep (f := repL M 7) h
  refine ⟨.list ps, .mk' ?_ ?_ (.inl ?_) ?_ ?_ ?_⟩
  · rw [repD_ref, repL_lst e, g1]; rfl
  · simp only [PyData.showable, g2]
  · simp only [PyData.hasDict, g3]
  · simp only [PyData.depth, g5]; decide
  · simp only [asc, g6]
  · simp only [cost]; omega
/-- a tuple of such, the last one a list of such -/
theorem FOs.tupL {d : D} {ds : List D} {M : Mp} {a : Addr} (e : M a = some (.lst ds)) (h0 : FO d) (h : ∀ d ∈ ds, FO d) (hz : ds.length ≤ 100) : ∃ p, Dl.Rep M (.tup [d, .ref a]) p := by
  obtain ⟨ps, g1, g2, g3, g4, g5, g6, g7⟩ := FOs.rep (f := repL M 7) h
  obtain ⟨p, h1, h2, h3, h4, h5, h6, h7⟩ := h0.rp
  refine ⟨.tuple [p, .list ps], .mk' ?_ ?_ (.inl ?_) ?_ ?_ ?_⟩
  · unfold repD; simp only [repW, repWs, h1]; rw [repL_lst e, g1]; rfl
  · simp only [PyData.showable, PyData.showableAll, h2, g2]; rfl
  · simp only [PyData.hasDict, PyData.hasDictAll, h3, g3]; rfl
  · simp only [PyData.depth, PyData.depthAll, h5, g5]; decide
  · simp only [asc, ascs, h6, g6]; rfl
  · simp only [cost, costs]; omega
theorem dict_rep {M : Mp} {a : Addr} (e : M a = some (.dK [])) : ∃ p, Rep M (.ref a) p := by
  refine ⟨.dict [], .mk' ?_ rfl (.inr rfl) (by decide) rfl (by decide)⟩
  rw [repD_ref, repL_dK e]; rfl
theorem dict_rep1 {M : Mp} {a : Addr} {x : Str} {d : D} (e : M a = some (.dK [(.inr x, d)])) (hx : FO (.str x)) (hd : FO d) : ∃ p, Rep M (.ref a) p := by
  obtain ⟨p, h1, h2, h3, h4, h5, h6, h7⟩ := hd.rp
  obtain ⟨q, g1, g2, g3, g4, g5, g6, g7⟩ := hx.rp
  have eq : q = .str x := by
    have := g1 fun _ => none
    cases this
    rfl
  subst eq
  refine ⟨.dict [(.str x, p)], .mk' ?_ ?_ (.inr ?_) ?_ ?_ ?_⟩
  · rw [repD_ref, repL_dK e]; simp only [List.map_cons, List.map_nil, repWs, h1, Option.map_some, List.zip_cons_cons, List.zip_nil_left, keyP]
  · simp only [PyData.showable, PyData.showableKv, h2]; rfl
  · simp only [noList, noListKv, h4]; rfl
  · simp only [PyData.depth, PyData.depthKv, h5]; decide
  · simp only [asc, ascKv, h6] at g6 ⊢; rw [g6]; rfl
  · simp only [cost, costKv] at g7 ⊢; omega
/-! ### things that may be asked -/
/-- a text that may be asked -/
def TX (x : Str) : Prop := x.length ≤ 100 ∧ ∀ c ∈ x.cps.toList, c < 128
theorem TX.line {x : Str} (h : TX x) : x.length ≤ sizeLine := Nat.le_trans h.1 (by decide)
/-- a thing of a known type -/
def Ask (d : D) (M : Mp) : Prop := (∃ t, tyD d M = some t) ∧ ∀ x, d = .str x → TX x
theorem Ask.mono {d : D} {M M' : Mp} (f : Fr [] M M') (h : Ask d M) : Ask d M' := ⟨let ⟨t, e⟩ := h.1; ⟨t, tyD_mono f e⟩, h.2⟩
mutual
/-- .. and so are the parts of a tuple, at any depth -/
def AskA (M : Mp) : D → Prop
  | .tup ds => AskAs M ds
  | d => Ask d M
def AskAs (M : Mp) : List D → Prop
  | [] => True
  | d :: ds => AskA M d ∧ AskAs M ds
end
mutual
theorem AskA.mono {M M' : Mp} (f : Fr [] M M') : ∀ {d : D}, AskA M d → AskA M' d
  | .tup ds, h => by unfold AskA at h ⊢; exact AskAs.mono f h
  | .non, h => Ask.mono f h
  | .bl _, h => Ask.mono f h
  | .int _, h => Ask.mono f h
  | .str _, h => Ask.mono f h
  | .clst _, h => Ask.mono f h
  | .cdic _ _, h => Ask.mono f h
  | .ref _, h => Ask.mono f h
  | .ty _, h => Ask.mono f h
theorem AskAs.mono {M M' : Mp} (f : Fr [] M M') : ∀ {ds : List D}, AskAs M ds → AskAs M' ds
  | [], _ => trivial
  | d :: ds, h => by unfold AskAs at h ⊢; exact ⟨AskA.mono f h.1, AskAs.mono f h.2⟩
end
theorem AskA.ask {M : Mp} {d : D} (h : AskA M d) : Ask d M := by
  cases d with
  | tup ds => exact ⟨⟨_, rfl⟩, fun _ e => (nomatch e)⟩
  | _ => exact h
theorem AskAs.mem {M : Mp} : ∀ {ds : List D}, AskAs M ds → ∀ d ∈ ds, AskA M d
  | [], _, _, h => nomatch h
  | d :: ds, h, x, hx => by
    rcases List.mem_cons.mp hx with rfl | hx
    · exact h.1
    · exact AskAs.mem h.2 x hx
theorem AskAs.of {M : Mp} : ∀ {ds : List D}, (∀ d ∈ ds, AskA M d) → AskAs M ds
  | [], _ => trivial
  | d :: ds, h => ⟨h d List.mem_cons_self, AskAs.of fun x hx => h x (List.mem_cons_of_mem _ hx)⟩
theorem FO.ask {d : D} {M : Mp} (h : FO d) : Ask d M := ⟨let ⟨t, e⟩ := h.ty; ⟨t, e M⟩, fun x e => let ⟨h1, h2⟩ := h.tx x e; ⟨by omega, h2⟩⟩
theorem FO.askA {d : D} {M : Mp} (h : FO d) : AskA M d := by
  cases d with
  | tup ds =>
    obtain ⟨p, h1, _, _, _, h5, _⟩ := h.rp
    have := h1 fun _ => none
    simp only [repW] at this
    cases e : repWs (fun _ => none) ds with
    | none => rw [e] at this; cases this
    | some ps =>
      rw [e] at this
      cases this
      simp [PyData.depth] at h5
  | _ => exact FO.ask h
/-- it may be shown: side true: no list within, false: no dict within -/
structure Sh (s : Bool) (c k : Nat) (M : Mp) (d : D) : Prop where
  ask : AskA M d
  rp : ∃ p, repW (repL M 8) d = some p ∧ p.showable = true ∧ (if s = true then noList p = true else p.hasDict = false) ∧ p.depth ≤ k ∧ asc p = true ∧ cost p ≤ c
theorem FO.sh {s : Bool} {M : Mp} {d : D} (h : FO d) : Sh s 500 0 M d := by
  obtain ⟨p, h1, h2, h3, h4, h5, h6, h7⟩ := h.rp
  refine ⟨h.askA, p, h1 _, h2, ?_, by omega, h6, h7⟩
  cases s
  · exact h3
  · exact h4
theorem Sh.mono {s : Bool} {c k : Nat} {M M' : Mp} {d : D} (h : Sh s c k M d) (f : Fr [] M M') : Sh s c k M' d := by
  obtain ⟨p, h1, h2⟩ := h.rp
  exact ⟨h.ask.mono f, p, repW_mono (repL_mono f 8) h1, h2⟩
theorem Sh.le {s : Bool} {c k c' k' : Nat} {M : Mp} {d : D} (h : Sh s c k M d) (hc : c ≤ c') (hk : k ≤ k') : Sh s c' k' M d := by
  obtain ⟨p, h1, h2, h3, h4, h5, h6⟩ := h.rp
  exact ⟨h.ask, p, h1, h2, h3, by omega, h5, by omega⟩
theorem Shs {s : Bool} {c k : Nat} {M : Mp} : ∀ {ds : List D}, (∀ d ∈ ds, Sh s c k M d) → ∃ ps, repWs (repL M 8) ds = some ps ∧ PyData.showableAll ps = true ∧ (if s = true then noLists ps = true else PyData.hasDictAll ps = false) ∧ PyData.depthAll ps ≤ k ∧ ascs ps = true ∧ costs ps ≤ (c + 2) * ds.length
  | [], _ => ⟨[], rfl, rfl, by cases s <;> rfl, Nat.zero_le _, rfl, Nat.zero_le _⟩
  | d :: ds, h => by
    obtain ⟨p, h1, h2, h3, h4, h5, h6⟩ := (h d List.mem_cons_self).rp
    obtain ⟨ps, g1, g2, g3, g4, g5, g6⟩ := Shs fun x hx => h x (List.mem_cons_of_mem _ hx)
    refine ⟨p :: ps, ?_, ?_, ?_, ?_, ?_, ?_⟩
    · unfold repWs; rw [h1, g1]; rfl
    · simp only [PyData.showableAll, h2, g2]; rfl
    · cases s with
      | true => simp only [if_true] at h3 g3 ⊢; simp only [noLists, h3, g3]; rfl
      | false => simp only [Bool.false_eq_true, if_false] at h3 g3 ⊢; simp only [PyData.hasDictAll, h3, g3]; rfl
    · simp only [PyData.depthAll]; omega
    · simp only [ascs, h5, g5]; rfl
    · simp only [costs, List.length_cons, Nat.mul_add, Nat.mul_one]; omega
theorem Sh.tup {s : Bool} {c k n : Nat} {M : Mp} {ds : List D} (h : ∀ d ∈ ds, Sh s c k M d) (hn : ds.length ≤ n) : Sh s ((c + 2) * n + 3) (k + 1) M (.tup ds) := by
  obtain ⟨ps, g1, g2, g3, g4, g5, g6⟩ := Shs h
  refine ⟨AskAs.of fun d hd => (h d hd).ask, .tuple ps, ?_, ?_, ?_, ?_, ?_, ?_⟩
  · simp only [repW, g1, Option.map_some]
  · simp only [PyData.showable, g2]
  · cases s with
    | true => simpa only [noList, if_true] using g3
    | false => simpa only [PyData.hasDict, Bool.false_eq_true, if_false] using g3
  · simp only [PyData.depth]; omega
  · simp only [asc, g5]
  · simp only [cost]
    have := Nat.mul_le_mul_left (c + 2) hn
    omega
theorem Sh.rep {s : Bool} {c k : Nat} {M : Mp} {d : D} (h : Sh s c k M d) (hc : c ≤ 100000 := by decide) (hk : k ≤ 60 := by decide) : ∃ p, Rep M d p := by
  obtain ⟨p, h1, h2, h3, h4, h5, h6⟩ := h.rp
  refine ⟨p, .mk' h1 h2 ?_ (by omega) h5 (by omega)⟩
  cases s
  · exact .inl h3
  · exact .inr h3
theorem ref_ask {a : Addr} {M : Mp} {o : MO} (e : M a = some o) (ho : (∃ ds, o = .lst ds) ∨ ∃ kvs, o = .dK kvs) : Ask (.ref a) M := by
  refine ⟨?_, fun _ e => (nomatch e)⟩
  unfold tyD
  dsimp only
  rw [e]
  rcases ho with ⟨_, rfl⟩ | ⟨_, rfl⟩
  · exact ⟨_, rfl⟩
  · exact ⟨_, rfl⟩
/-- a list of flat things -/
theorem Sh.lst {M : Mp} {a : Addr} {ds : List D} (e : M a = some (.lst ds)) (h : ∀ d ∈ ds, FO d) (hz : ds.length ≤ 20) : Sh false 11000 1 M (.ref a) := by
  obtain ⟨ps, g1, g2, g3, g4, g5, g6, g7⟩ := FOs.rep (f := repL M 7) h
  refine ⟨ref_ask e (.inl ⟨_, rfl⟩), .list ps, ?_, ?_, ?_, ?_, ?_, ?_⟩
  · show repL M 8 a = _
    rw [repL_lst e, g1]; rfl
  · simp only [PyData.showable, g2]
  · show PyData.hasDict _ = false
    simp only [PyData.hasDict, g3]
  · simp only [PyData.depth, g5]; decide
  · simp only [asc, g6]
  · simp only [cost]; omega
theorem Sh.dict0 {M : Mp} {a : Addr} (e : M a = some (.dK [])) : Sh true 11000 1 M (.ref a) := by
  refine ⟨ref_ask e (.inr ⟨_, rfl⟩), .dict [], ?_, rfl, rfl, by decide, rfl, by decide⟩
  show repL M 8 a = _
  rw [repL_dK e]; rfl
theorem len_lst {M : Mp} {a : Addr} {ds : List D} {Q : DQ} (e : M a = some (.lst ds)) : fLen [.ref a] M Q = Q (.int ds.length) M := by
  unfold fLen
  dsimp only
  rw [e]
theorem len_ask {M : Mp} {a : Addr} {ds : List D} {Q : DQ} (e : M a = some (.lst ds)) (q : Q (.int ds.length) M) : fLen [.ref a] M Q := by
  rw [len_lst e]; exact q
theorem len_askN {M : Mp} {a : Addr} {ds : List D} {n : Int} {Q : DQ} (e : M a = some (.lst ds)) (hn : (ds.length : Int) = n) (q : Q (.int n) M) : fLen [.ref a] M Q := by
  rw [len_lst e, hn]; exact q
/-- an odd thing -/
def Odd (M : Mp) (d : D) : Prop := ∃ s, Sh s 11000 1 M d
theorem FO.odd {d : D} {M : Mp} (h : FO d) : Odd M d := ⟨true, h.sh.le (by decide) (by decide)⟩
theorem odd_str {M : Mp} {x : Str} (h : (x.length ≤ 40 && x.cps.toList.all fun c => decide (c < 128)) = true) : Odd M (.str x) := by
  rw [Bool.and_eq_true, decide_eq_true_eq, List.all_eq_true] at h
  exact (FO.str h.1 fun c hc => by simpa using h.2 c hc).odd
theorem fo_str {x : Str} (h : (x.length ≤ 40 && x.cps.toList.all fun c => decide (c < 128)) = true) : FO (.str x) := by
  rw [Bool.and_eq_true, decide_eq_true_eq, List.all_eq_true] at h
  exact FO.str h.1 fun c hc => by simpa using h.2 c hc
/-- a thing that may be asked and shown -/
def Thing (d : D) (M : Mp) : Prop := AskA M d ∧ ∃ p, Rep M d p
theorem Sh.thing {s : Bool} {c k : Nat} {M : Mp} {d : D} (h : Sh s c k M d) (hc : c ≤ 100000 := by decide) (hk : k ≤ 60 := by decide) : Thing d M := ⟨h.ask, h.rep hc hk⟩
theorem fos_sh {s : Bool} {M : Mp} {ds : List D} (h : ∀ d ∈ ds, FO d) : ∀ d ∈ ds, Sh s 11000 1 M d := fun d hd => (h d hd).sh.le (by decide) (by decide)
theorem all_cons {P : D → Prop} {d : D} {ds : List D} (h1 : P d) (h2 : ∀ x ∈ ds, P x) : ∀ x ∈ d :: ds, P x := List.forall_mem_cons.mpr ⟨h1, h2⟩
theorem all_nil {P : D → Prop} : ∀ x ∈ ([] : List D), P x := fun _ h => nomatch h
theorem all_app {P : D → Prop} {ds es : List D} (h1 : ∀ x ∈ ds, P x) (h2 : ∀ x ∈ es, P x) : ∀ x ∈ ds ++ es, P x := fun x hx => (List.mem_append.mp hx).elim (h1 x) (h2 x)
theorem odd_tup0 {M : Mp} : Odd M (.tup []) := ⟨true, (Sh.tup (c := 0) (k := 0) (n := 0) (all_nil) (Nat.le_refl _)).le (by decide) (by decide)⟩
theorem odd_tup1 {M : Mp} {d : D} (h : FO d) : Odd M (.tup [d]) := ⟨true, (Sh.tup (n := 1) (all_cons h.sh all_nil) (Nat.le_refl _)).le (by decide) (by decide)⟩
theorem odd_lst {M : Mp} {a : Addr} {ds : List D} (e : M a = some (.lst ds)) (h : ∀ d ∈ ds, FO d) (hz : ds.length ≤ 20) : Odd M (.ref a) := ⟨false, Sh.lst e h hz⟩
theorem odd_dict {M : Mp} {a : Addr} (e : M a = some (.dK [])) : Odd M (.ref a) := ⟨true, Sh.dict0 e⟩
/-- a map with one object hidden: what is known without the pot stays when the pot is drawn from -/
def hid (p : Addr) (M : Mp) : Mp := fun a => if a = p then none else M a
theorem hid_at {p a : Addr} {M : Mp} {o : MO} (h : M a = some o) (n : a ≠ p) : hid p M a = some o := by
  unfold hid; rw [if_neg n]; exact h
theorem hid_le {p : Addr} {M : Mp} : Fr [] (hid p M) M := fun a o _ e => by
  unfold hid at e
  by_cases h : a = p
  · rw [if_pos h] at e; cases e
  · rw [if_neg h] at e; exact e
theorem Fr.hid {p : Addr} {S : List Addr} {M M' : Mp} (f : Fr S M M') (hS : ∀ x ∈ S, x = p) : Fr [] (hid p M) (hid p M') := fun a o _ e => by
  unfold Dl.hid at e ⊢
  by_cases h : a = p
  · rw [if_pos h] at e; cases e
  · rw [if_neg h] at e ⊢; exact f a o (fun z => h (hS a z)) e
theorem Fr.hid1 {p : Addr} {M M' : Mp} (f : Fr [p] M M') : Fr [] (Dl.hid p M) (Dl.hid p M') := f.hid fun x hx => List.mem_singleton.mp hx
theorem Fr.hid0 {p : Addr} {M M' : Mp} (f : Fr [] M M') : Fr [] (Dl.hid p M) (Dl.hid p M') := f.hid fun x hx => nomatch hx
theorem pick_lst {P : D → Prop} {ds : List D} {M : Mp} {a : Addr} {i : Int} {Q : DQ} (e : M a = some (.lst ds)) (h0 : 0 ≤ i) (h1 : i < ds.length) (hP : ∀ d ∈ ds, P d) (q : ∀ d, P d → Q d M) : bIx (.ref a) (.int i) M Q := by
  rw [bIx_ref e]
  obtain ⟨x, hx, e2⟩ := atI_mem h0 h1
  exact ⟨x, e2, q x (hP x hx)⟩
theorem pick_int {ns : List Int} {i : Int} (h0 : 0 ≤ i) (h1 : i < ns.length) : ∃ n, n ∈ ns ∧ L2.atI (ns.map D.int) i = some (.int n) := by
  obtain ⟨h, e⟩ := atI_get (xs := ns.map D.int) h0 (by rw [List.length_map]; exact h1)
  rw [List.getElem_map] at e
  exact ⟨_, List.getElem_mem _, e⟩
end L2.Dl

/-! DSeq: a list or a tuple walked by one rule; zip of the two kinds in any mixture; first, *rest = .. -/
namespace L2.Dl
open PySem PySem.Spec PyProof.Rows

/-! ### a list or a tuple, and where it is being walked -/
def sqN (b : Bool) : String := if b then "tuple" else "list"
def itN (b : Bool) : String := if b then "tuple_iterator" else "list_iterator"
def SqIs (b : Bool) (h : Heap) (a : Addr) (xs : Array Value) : Prop := ∃ o, h.get? a = some o ∧ o.cls = .type (sqN b) ∧ ∃ n, o.data = .seq xs n
def ItIs (b : Bool) (h : Heap) (a l : Addr) (i : Nat) : Prop := ∃ o, h.get? a = some o ∧ o.cls = .type (itN b) ∧ o.data = .fields #[.ref l, .int i 0]
theorem SqIs.at {b : Bool} {h h' : Heap} {a : Addr} {xs : Array Value} (x : SqIs b h a xs) (k : ∀ o, h.get? a = some o → h'.get? a = some o) : SqIs b h' a xs := by
  obtain ⟨o, e, r⟩ := x
  exact ⟨o, k o e, r⟩
theorem ItIs.at {b : Bool} {h h' : Heap} {a l : Addr} {i : Nat} (x : ItIs b h a l i) (k : ∀ o, h.get? a = some o → h'.get? a = some o) : ItIs b h' a l i := by
  obtain ⟨o, e, r⟩ := x
  exact ⟨o, k o e, r⟩
theorem SqIs.lt {b : Bool} {h : Heap} {a : Addr} {xs : Array Value} (x : SqIs b h a xs) : a < h.objs.size := by
  obtain ⟨o, e, r⟩ := x
  exact Heap.lt_size e
theorem ItIs.lt {b : Bool} {h : Heap} {a l : Addr} {i : Nat} (x : ItIs b h a l i) : a < h.objs.size := by
  obtain ⟨o, e, r⟩ := x
  exact Heap.lt_size e
section
variable {prog : Program} {w : World} {A : Around} {E : Value → Shared → Prop} {s : Shared} {b : Bool} {l it : Addr} {i : Nat} {xs : Array Value} {x : Value}
theorem sq_iter {Q : Value → Shared → Prop} (h : SqIs b s.heap l xs)
    (q : ItIs b (s.heap.push { cls := .type (itN b), data := .fields #[.ref l, .int 0 0] }) s.heap.objs.size l 0 → Q (.ref s.heap.objs.size) { s with heap := s.heap.push { cls := .type (itN b), data := .fields #[.ref l, .int 0 0] } }) :
    wpAny (model prog w) A (pyIter (.ref l)) Q E s := by
  have k : ItIs b (s.heap.push { cls := .type (itN b), data := .fields #[.ref l, .int 0 0] }) s.heap.objs.size l 0 := ⟨_, Heap.get?_push_size _ rfl, rfl, rfl⟩
  cases b with
  | true => exact wpAny_pyIter_tuple (show s.heap.IsTuple l xs from h) (q k)
  | false => exact wpAny_pyIter_list (show s.heap.IsList l xs from h) (q k)
theorem sq_next {Q : Option Value → Shared → Prop} (h : ItIs b s.heap it l i) (h2 : SqIs b s.heap l xs) (hx : xs[i]? = some x)
    (q : ∀ h', ItIs b h' it l (i + 1) → Heap.SameBut it s.heap h' → Q (some x) { s with heap := h' }) : wpAny (model prog w) A (pyNext (.ref it)) Q E s := by
  cases b with
  | true => exact wpAny_pyNext_tuple_item h h2 hx q
  | false => exact wpAny_pyNext_list_item h h2 hx q
theorem sq_stop {Q : Option Value → Shared → Prop} (hh : A.handled = none) (h : ItIs b s.heap it l i) (h2 : SqIs b s.heap l xs) (hx : xs[i]? = none)
    (q : ∀ h', Heap.ExtBut it s.heap h' → Q none { s with heap := h' }) : wpAny (model prog w) A (pyNext (.ref it)) Q E s := by
  cases b with
  | true => exact wpAny_pyNext_tuple_end hh h h2 hx q
  | false => exact wpAny_pyNext_list_end hh h h2 hx q
theorem sq_of {Q : Value → Shared → Prop} (h : ItIs b s.heap it l i) (h2 : SqIs b s.heap l xs) (hx : xs[i]? = some x)
    (q : ∀ h', ItIs b h' it l (i + 1) → Heap.SameBut it s.heap h' → Q x { s with heap := h' }) : wpAny (model prog w) A (Builtin.SmallTypes.nextOf (.ref it)) Q E s := by
  cases b with
  | true => exact RZ.nextOf_tuple_item h h2 hx q
  | false => exact wpAny_nextOf_list_item h h2 hx q
theorem sq_ofEnd {Q : Value → Shared → Prop} (hh : A.handled = none) (h : ItIs b s.heap it l i) (h2 : SqIs b s.heap l xs) (hx : xs[i]? = none)
    (q : ∀ h' e, Heap.ExtBut it s.heap h' → (∃ o, h'.get? e = some o ∧ o.cls = .type "StopIteration") → E (.ref e) { s with heap := h' }) : wpAny (model prog w) A (Builtin.SmallTypes.nextOf (.ref it)) Q E s := by
  cases b with
  | true => exact RZ.nextOf_tuple_end hh h h2 hx q
  | false => exact wpAny_nextOf_list_end hh h h2 hx q
theorem sq_self {Q : Value → Shared → Prop} (h : ItIs b s.heap it l i) (q : Q (.ref it) s) : wpAny (model prog w) A (pyIter (.ref it)) Q E s := by
  cases b with
  | true => exact wpAny_pyIter_tupleiter h q
  | false => exact wpAny_pyIter_listiter h q

/-! ### zip: one turn -/
variable {b1 b2 : Bool} {z TI TO i1 i2 l1 l2 : Addr} {k1 k2 : Nat} {ys : Array Value} {y u v : Value}
/-- what lies about a zip: its own tuples, the two walks -/
structure ZAt (b1 b2 : Bool) (h : Heap) (z TI TO i1 i2 l1 l2 : Addr) (k1 k2 : Nat) : Prop where
  z : IsZip h z TI TO .none
  ti : IsPair h TI (.ref i1) (.ref i2)
  to : ∃ x y, IsPair h TO x y
  a : ItIs b1 h i1 l1 k1
  b : ItIs b2 h i2 l2 k2
theorem zip_turn {Q : Value → Shared → Prop} (D : ZipApart z TI TO i1 i2 l1 l2) (hz : IsZip s.heap z TI TO .none) (hTI : IsPair s.heap TI (.ref i1) (.ref i2)) (hTO : IsPair s.heap TO u v)
    (h1 : ItIs b1 s.heap i1 l1 k1) (h2 : ItIs b2 s.heap i2 l2 k2) (hl1 : SqIs b1 s.heap l1 xs) (hl2 : SqIs b2 s.heap l2 ys) (hx : xs[k1]? = some x) (hy : ys[k2]? = some y)
    (hQ : ∀ h', IsZip h' z TI TO (rawInt s.heap.objs.size) → IsPair h' TO x y → ItIs b1 h' i1 l1 (k1 + 1) → ItIs b2 h' i2 l2 (k2 + 1) → IsPair h' s.heap.objs.size x y → h'.objs.size = s.heap.objs.size + 1 →
      (∀ c o, c ≠ z → c ≠ TO → c ≠ i1 → c ≠ i2 → s.heap.get? c = some o → h'.get? c = some o) → Q (.ref s.heap.objs.size) { s with heap := h' }) :
    wpAny (model prog w) A (Builtin.«zip.__next__» ⟨[.ref z], []⟩) (fun fin s' => ∃ v, fin = .done (.ret v) ∧ Q v s') E s := by
  show wpAny _ _ (field (.ref z) 2 >>= _) _ _ _
  refine wpAny_bind (wpAny_field hz rfl (x := .bool false) rfl ?_)
  show wpAny _ _ (field (.ref z) 3 >>= _) _ _ _
  refine wpAny_bind (wpAny_field hz rfl (x := .ref TI) rfl (wpAny_bind (wpAny_seqItems hTI rfl ?_)))
  show wpAny _ _ (Builtin.SmallTypes.ownedTupleIsFree (.ref z) >>= _) _ _ _
  refine wpAny_bind ?_
  unfold Builtin.SmallTypes.ownedTupleIsFree
  refine wpAny_bind (wpAny_field hz rfl (x := .none) rfl (wpAny_pure ?_))
  simp only [if_true]
  refine wpAny_bind (wpAny_rule (wpAny_bind (wpAny_field hz rfl (x := .ref TO) rfl (wpAny_bind (wpAny_setField_rec hz (by simp) fun g1 z1 s1 => ?_)))))
  replace z1 : IsZip g1 z TI TO .ellipsis := z1
  refine wpAny_bind ?_
  simp only [List.zipIdx_cons, List.zipIdx_nil, List.forIn_cons, List.forIn_nil]
  -- the first walk
  refine wpAny_bind (wpAny_bind (wpAny_onRaise ?_))
  show wpAny _ _ (Builtin.SmallTypes.nextOf (.ref i1) >>= _) _ _ _
  refine wpAny_bind (sq_of (h1.at fun o e => s1.extBut _ _ D.i1z e) (hl1.at fun o e => s1.extBut _ _ D.l1z e) hx fun g2 a2 s2 => wpAny_pure ?_)
  have t2 : IsPair g2 TO u v := s2.extBut _ _ D.TOi1 (s1.extBut _ _ D.TOz hTO)
  refine wpAny_bind (wpAny_seqItems t2 rfl (wpAny_bind (wpAny_updateSeq_pair t2 fun g3 t3 s3 => ?_)))
  replace t3 : IsPair g3 TO x v := t3
  refine wpAny_bind (wpAny_letGo (wpAny_pure ?_))
  -- the second
  refine wpAny_bind (wpAny_bind (wpAny_onRaise ?_))
  show wpAny _ _ (Builtin.SmallTypes.nextOf (.ref i2) >>= _) _ _ _
  refine wpAny_bind (sq_of (h2.at fun o e => s3.extBut _ _ D.TOi2.symm (s2.extBut _ _ D.i12.symm (s1.extBut _ _ D.i2z e))) (hl2.at fun o e => s3.extBut _ _ D.l2TO (s2.extBut _ _ D.l2i1 (s1.extBut _ _ D.l2z e))) hy fun g4 b4 s4 => wpAny_pure ?_)
  have t4 : IsPair g4 TO x v := s4.extBut _ _ D.TOi2 t3
  refine wpAny_bind (wpAny_seqItems t4 rfl (wpAny_bind (wpAny_updateSeq_pair t4 fun g5 t5 s5 => ?_)))
  replace t5 : IsPair g5 TO x y := t5
  refine wpAny_bind (wpAny_letGo (wpAny_pure (wpAny_pure ?_)))
  -- the pair is handed out
  refine wpAny_bind (wpAny_seqItems t5 rfl (wpAny_bind (wpAny_newTuple ?_)))
  have sz : g5.objs.size = s.heap.objs.size := by rw [s5.1, s4.1, s3.1, s2.1, s1.1]
  have z5 : IsZip g5 z TI TO .ellipsis := s5.extBut _ _ D.TOz.symm (s4.extBut _ _ D.i2z.symm (s3.extBut _ _ D.TOz.symm (s2.extBut _ _ D.i1z.symm z1)))
  have k5 : ∀ c o, c ≠ z → c ≠ TO → c ≠ i1 → c ≠ i2 → s.heap.get? c = some o → g5.get? c = some o := fun c o c1 c2 c3 c4 e =>
    s5.extBut _ _ c2 (s4.extBut _ _ c4 (s3.extBut _ _ c2 (s2.extBut _ _ c3 (s1.extBut _ _ c1 e))))
  have a5 : ItIs b1 g5 i1 l1 (k1 + 1) := a2.at fun o e => s5.extBut _ _ D.TOi1.symm (s4.extBut _ _ D.i12 (s3.extBut _ _ D.TOi1.symm e))
  have b5 : ItIs b2 g5 i2 l2 (k2 + 1) := b4.at fun o e => s5.extBut _ _ D.TOi2.symm e
  have zl : z < g5.objs.size := Heap.lt_size z5
  show wpAny _ _ (Builtin.SmallTypes.ownedTupleHandOut (.ref z) (.ref g5.objs.size) >>= _) _ _ _
  refine wpAny_bind ?_
  unfold Builtin.SmallTypes.ownedTupleHandOut
  have z6 : IsZip (g5.push { cls := .type "tuple", data := .seq #[x, y] }) z TI TO .ellipsis := Heap.get?_push_of_some _ z5
  refine wpAny_bind (wpAny_setField_rec z6 (by simp) fun g7 z7 s7 => ?_)
  replace z7 : IsZip g7 z TI TO (rawInt g5.objs.size) := z7
  refine wpAny_setField_rec z7 (by simp) fun g8 z8 s8 => ?_
  replace z8 : IsZip g8 z TI TO (rawInt g5.objs.size) := z8
  have up : ∀ c o, c ≠ z → g5.get? c = some o → g8.get? c = some o := fun c o c1 e => s8.extBut _ _ c1 (s7.extBut _ _ c1 (Heap.get?_push_of_some _ e))
  have p8 : IsPair g8 g5.objs.size x y := s8.extBut _ _ (Nat.ne_of_gt zl) (s7.extBut _ _ (Nat.ne_of_gt zl) (Heap.get?_push_size _ rfl))
  have n8 : g8.objs.size = g5.objs.size + 1 := by rw [s8.1, s7.1, Heap.size_push]
  rw [sz] at z8 p8 n8
  refine wpAny_pure ⟨_, rfl, ?_⟩
  show Q (.ref g5.objs.size) _
  rw [sz]
  exact hQ g8 z8 (up _ _ D.TOz t5) (a5.at fun o e => up _ o D.i1z e) (b5.at fun o e => up _ o D.i2z e) p8 n8 fun c o c1 c2 c3 c4 e => up c o c1 (k5 c o c1 c2 c3 c4 e)
theorem zip_last {Q : Fin → Shared → Prop} (hh : A.handled = none) (D : ZipApart z TI TO i1 i2 l1 l2) (hz : IsZip s.heap z TI TO .none) (hTI : IsPair s.heap TI (.ref i1) (.ref i2)) (hTO : IsPair s.heap TO u v)
    (h1 : ItIs b1 s.heap i1 l1 k1) (h2 : ItIs b2 s.heap i2 l2 k2) (hl1 : SqIs b1 s.heap l1 xs) (hl2 : SqIs b2 s.heap l2 ys) (hend : xs[k1]? = none ∨ ys[k2]? = none)
    (hE : ∀ h' e, (∀ c o, c ≠ z → c ≠ TO → c ≠ i1 → c ≠ i2 → s.heap.get? c = some o → h'.get? c = some o) → (∃ o, h'.get? e = some o ∧ o.cls = .type "StopIteration") → E (.ref e) { s with heap := h' }) :
    wpAny (model prog w) A (Builtin.«zip.__next__» ⟨[.ref z], []⟩) Q E s := by
  show wpAny _ _ (field (.ref z) 2 >>= _) _ _ _
  refine wpAny_bind (wpAny_field hz rfl (x := .bool false) rfl ?_)
  show wpAny _ _ (field (.ref z) 3 >>= _) _ _ _
  refine wpAny_bind (wpAny_field hz rfl (x := .ref TI) rfl (wpAny_bind (wpAny_seqItems hTI rfl ?_)))
  show wpAny _ _ (Builtin.SmallTypes.ownedTupleIsFree (.ref z) >>= _) _ _ _
  refine wpAny_bind ?_
  unfold Builtin.SmallTypes.ownedTupleIsFree
  refine wpAny_bind (wpAny_field hz rfl (x := .none) rfl (wpAny_pure ?_))
  simp only [if_true]
  refine wpAny_bind (wpAny_rule (wpAny_bind (wpAny_field hz rfl (x := .ref TO) rfl (wpAny_bind (wpAny_setField_rec hz (by simp) fun g1 z1 s1 => ?_)))))
  replace z1 : IsZip g1 z TI TO .ellipsis := z1
  refine wpAny_bind ?_
  simp only [List.zipIdx_cons, List.zipIdx_nil, List.forIn_cons, List.forIn_nil]
  refine wpAny_bind (wpAny_bind (wpAny_onRaise ?_))
  show wpAny _ _ (Builtin.SmallTypes.nextOf (.ref i1) >>= _) _ _ _
  have a1 : ItIs b1 g1 i1 l1 k1 := h1.at fun o e => s1.extBut _ _ D.i1z e
  have c1 : SqIs b1 g1 l1 xs := hl1.at fun o e => s1.extBut _ _ D.l1z e
  cases hx : xs[k1]? with
  | none =>
    refine wpAny_bind (sq_ofEnd hh a1 c1 hx fun g2 e s2 ⟨oe, he, hc⟩ => ?_)
    have z2 : IsZip g2 z TI TO .ellipsis := s2 _ _ D.i1z.symm z1
    have ez : e ≠ z := fun q => by subst q; rw [z2] at he; cases he; simp at hc
    exact wpAny_setField_rec z2 (by simp) fun g3 _ s3 => hE g3 e (fun c o c1 _ c3 _ q => s3.extBut _ _ c1 (s2 _ _ c3 (s1.extBut _ _ c1 q))) ⟨oe, s3.extBut _ _ ez he, hc⟩
  | some x =>
    have hy : ys[k2]? = none := by rcases hend with h | h; rw [hx] at h; cases h; exact h
    refine wpAny_bind (sq_of a1 c1 hx fun g2 a2 s2 => wpAny_pure ?_)
    have t2 : IsPair g2 TO u v := s2.extBut _ _ D.TOi1 (s1.extBut _ _ D.TOz hTO)
    refine wpAny_bind (wpAny_seqItems t2 rfl (wpAny_bind (wpAny_updateSeq_pair t2 fun g3 t3 s3 => ?_)))
    refine wpAny_bind (wpAny_letGo (wpAny_pure ?_))
    refine wpAny_bind (wpAny_bind (wpAny_onRaise ?_))
    show wpAny _ _ (Builtin.SmallTypes.nextOf (.ref i2) >>= _) _ _ _
    refine wpAny_bind (sq_ofEnd hh (h2.at fun o e => s3.extBut _ _ D.TOi2.symm (s2.extBut _ _ D.i12.symm (s1.extBut _ _ D.i2z e))) (hl2.at fun o e => s3.extBut _ _ D.l2TO (s2.extBut _ _ D.l2i1 (s1.extBut _ _ D.l2z e))) hy fun g4 e s4 ⟨oe, he, hc⟩ => ?_)
    have z4 : IsZip g4 z TI TO .ellipsis := s4 _ _ D.i2z.symm (s3.extBut _ _ D.TOz.symm (s2.extBut _ _ D.i1z.symm z1))
    have ez : e ≠ z := fun q => by subst q; rw [z4] at he; cases he; simp at hc
    exact wpAny_setField_rec z4 (by simp) fun g5 _ s5 => hE g5 e (fun c o c1 c2 c3 c4 q => s5.extBut _ _ c1 (s4 _ _ c4 (s3.extBut _ _ c2 (s2.extBut _ _ c3 (s1.extBut _ _ c1 q))))) ⟨oe, s5.extBut _ _ ez he, hc⟩
theorem zip_nextItem {Q : Option Value → Shared → Prop} (D : ZipApart z TI TO i1 i2 l1 l2) (hz : ZAt b1 b2 s.heap z TI TO i1 i2 l1 l2 k1 k2) (hl1 : SqIs b1 s.heap l1 xs) (hl2 : SqIs b2 s.heap l2 ys) (hx : xs[k1]? = some x) (hy : ys[k2]? = some y)
    (hQ : ∀ h', IsZip h' z TI TO (rawInt s.heap.objs.size) → IsPair h' TO x y → ItIs b1 h' i1 l1 (k1 + 1) → ItIs b2 h' i2 l2 (k2 + 1) → IsPair h' s.heap.objs.size x y → h'.objs.size = s.heap.objs.size + 1 →
      (∀ c o, c ≠ z → c ≠ TO → c ≠ i1 → c ≠ i2 → s.heap.get? c = some o → h'.get? c = some o) → Q (some (.ref s.heap.objs.size)) { s with heap := h' }) :
    wpAny (model prog w) A (pyNext (.ref z)) Q E s := by
  have hT : s.TypeIs (.ref z) "zip" := ⟨_, hz.z, rfl⟩
  obtain ⟨u, v, hTO⟩ := hz.to
  unfold pyNext
  exact wpAny_bind (wpAny_attempt (wpAny_callSpecial?_slot (name := Str.ofString "__next__") hT F.slot_zip_next (wpAny_call_entry F.slot_zip_next hT F.entry_zip_next
    (zip_turn D hz.z hz.ti hTO hz.a hz.b hl1 hl2 hx hy fun h' a1 a2 a3 a4 a5 a6 a7 => wpAny_pure (hQ h' a1 a2 a3 a4 a5 a6 a7)) (F.args_zip_next_1 _))))
theorem zip_nextEnd {Q : Option Value → Shared → Prop} (hh : A.handled = none) (D : ZipApart z TI TO i1 i2 l1 l2) (hz : ZAt b1 b2 s.heap z TI TO i1 i2 l1 l2 k1 k2) (hl1 : SqIs b1 s.heap l1 xs) (hl2 : SqIs b2 s.heap l2 ys) (hend : xs[k1]? = none ∨ ys[k2]? = none)
    (hQ : ∀ h', (∀ c o, c ≠ z → c ≠ TO → c ≠ i1 → c ≠ i2 → s.heap.get? c = some o → h'.get? c = some o) → Q none { s with heap := h' }) : wpAny (model prog w) A (pyNext (.ref z)) Q E s := by
  have hT : s.TypeIs (.ref z) "zip" := ⟨_, hz.z, rfl⟩
  obtain ⟨u, v, hTO⟩ := hz.to
  unfold pyNext
  refine wpAny_bind (wpAny_attempt (wpAny_callSpecial?_slot (name := Str.ofString "__next__") hT F.slot_zip_next (wpAny_call_entry F.slot_zip_next hT F.entry_zip_next
    (zip_last hh D hz.z hz.ti hTO hz.a hz.b hl1 hl2 hend fun h' e hk ⟨o, ho, hc⟩ => ?_) (F.args_zip_next_1 _))))
  exact wpAny_bind (wpAny_isInstance (T := "StopIteration") (b := true) ⟨o, ho, hc⟩ isSubtype_stop (wpAny_pure (hQ _ hk)))
end

/-! ### zip: made -/
section
variable {prog : Program} {w : World} {A : Around} {E : Value → Shared → Prop} {s : Shared}
theorem sq_iter2 {b : Bool} {l : Addr} {xs : Array Value} {Q : Value → Shared → Prop} (h : SqIs b s.heap l xs)
    (q : Q (.ref s.heap.objs.size) { s with heap := s.heap.push { cls := .type (itN b), data := .fields #[.ref l, .int 0 0] } }) : wpAny (model prog w) A (pyIter (.ref l)) Q E s := sq_iter h fun _ => q
abbrev zh1 (b1 : Bool) (h : Heap) (l1 : Addr) : Heap := h.push { cls := .type (itN b1), data := .fields #[.ref l1, .int 0 0] }
abbrev zh2 (b1 b2 : Bool) (h : Heap) (l1 l2 : Addr) : Heap := (zh1 b1 h l1).push { cls := .type (itN b2), data := .fields #[.ref l2, .int 0 0] }
abbrev zh3 (b1 b2 : Bool) (h : Heap) (l1 l2 : Addr) : Heap := (zh2 b1 b2 h l1 l2).push { cls := .type "tuple", data := .seq #[.ref h.objs.size, .ref (zh1 b1 h l1).objs.size] }
abbrev zh4 (b1 b2 : Bool) (h : Heap) (l1 l2 : Addr) : Heap := (zh3 b1 b2 h l1 l2).push { cls := .type "tuple", data := .seq #[.none, .none] }
abbrev zh5 (b1 b2 : Bool) (h : Heap) (l1 l2 : Addr) : Heap := (zh4 b1 b2 h l1 l2).push { cls := .type "zip", data := .fields #[.none, .bool false, .bool false, .ref (zh2 b1 b2 h l1 l2).objs.size, .ref (zh3 b1 b2 h l1 l2).objs.size] }
theorem meets_zip (b1 b2 : Bool) (l1 l2 : Addr) (xs ys : Array Value) :
    Meets (Builtin.«zip.__new__» ⟨[.type "zip", .ref l1, .ref l2], []⟩) (fun _ R s => SqIs b1 s.heap l1 xs ∧ SqIs b2 s.heap l2 ys ∧ R (.ok (.ret (.ref (zh4 b1 b2 s.heap l1 l2).objs.size))) { s with heap := zh5 b1 b2 s.heap l1 l2 }) :=
  .of_wp fun prog w A R s h => by
    obtain ⟨hp, g, d, tk, os⟩ := s; obtain ⟨h1, h2, h⟩ := h
    have hsub := sub_zip
    have e1 : SqIs b1 (Shared.heap ⟨hp, g, d, tk, os⟩) l1 xs := h1
    have e2 : SqIs b2 (Shared.heap ⟨zh1 b1 hp l1, g, d, tk, os⟩) l2 ys := h2.at fun o e => Heap.get?_push_of_some _ e
    wp_walk using sq_iter2 e1, sq_iter2 e2
    exact ⟨_, rfl, h⟩
theorem call_zipB {b1 b2 : Bool} {l1 l2 : Addr} {xs ys : Array Value} {Q : Value → Shared → Prop} (h1 : SqIs b1 s.heap l1 xs) (h2 : SqIs b2 s.heap l2 ys)
    (h : ∀ h', ZAt b1 b2 h' (s.heap.objs.size + 4) (s.heap.objs.size + 2) (s.heap.objs.size + 3) s.heap.objs.size (s.heap.objs.size + 1) l1 l2 0 0 → (∀ c o, s.heap.get? c = some o → h'.get? c = some o) → Q (.ref (s.heap.objs.size + 4)) { s with heap := h' }) :
    wpAny (model prog w) A (call (.type "zip") [.ref l1, .ref l2]) Q E s := by
  refine callType_new F.called_zip (by decide) (F.typeCall_zip_2 _ _) (F.newCall_zip_2 _ _) (fun obj => F.args_object_init_3 obj _ _) F.entry_zip_new (meets_zip b1 b2 l1 l2 xs ys) ⟨h1, h2, ?_⟩
  have z1 : (zh1 b1 s.heap l1).objs.size = s.heap.objs.size + 1 := Heap.size_push ..
  have z2 : (zh2 b1 b2 s.heap l1 l2).objs.size = s.heap.objs.size + 2 := by rw [Heap.size_push, z1]
  have z3 : (zh3 b1 b2 s.heap l1 l2).objs.size = s.heap.objs.size + 3 := by rw [Heap.size_push, z2]
  have z4 : (zh4 b1 b2 s.heap l1 l2).objs.size = s.heap.objs.size + 4 := by rw [Heap.size_push, z3]
  have g5 : (zh5 b1 b2 s.heap l1 l2).get? (zh4 b1 b2 s.heap l1 l2).objs.size = some _ := Heap.get?_push_size _ rfl
  have g4 : (zh5 b1 b2 s.heap l1 l2).get? (zh3 b1 b2 s.heap l1 l2).objs.size = some _ := Heap.get?_push_of_some _ (Heap.get?_push_size _ rfl)
  have g3 : (zh5 b1 b2 s.heap l1 l2).get? (zh2 b1 b2 s.heap l1 l2).objs.size = some _ := Heap.get?_push_of_some _ (Heap.get?_push_of_some _ (Heap.get?_push_size _ rfl))
  have g2 : (zh5 b1 b2 s.heap l1 l2).get? (zh1 b1 s.heap l1).objs.size = some _ := Heap.get?_push_of_some _ (Heap.get?_push_of_some _ (Heap.get?_push_of_some _ (Heap.get?_push_size _ rfl)))
  have g1 : (zh5 b1 b2 s.heap l1 l2).get? s.heap.objs.size = some _ := Heap.get?_push_of_some _ (Heap.get?_push_of_some _ (Heap.get?_push_of_some _ (Heap.get?_push_of_some _ (Heap.get?_push_size _ rfl))))
  show _ ∧ _
  rw [z2, z3, z4] at g5
  rw [z1, z2] at g3
  rw [z3] at g4
  rw [z1] at g2
  rw [z4]
  exact ⟨⟨_, g5, rfl⟩, h _ ⟨g5, g3, ⟨_, _, g4⟩, ⟨_, g1, rfl, rfl⟩, ⟨_, g2, rfl, rfl⟩⟩ fun c o x => Heap.get?_push_of_some _ (Heap.get?_push_of_some _ (Heap.get?_push_of_some _ (Heap.get?_push_of_some _ (Heap.get?_push_of_some _ x))))⟩
end

/-! ### zip: walked -/
def SqV (b : Bool) (K : PySem.W.Frag) (H : Hp) (a : Addr) (xs : List V) : Prop := if b = true then SqT K H a xs else SqL K H a xs
def ItzB (K : PySem.W.Frag) (b1 b2 : Bool) (a b : Addr) : It :=
  ⟨fun i H => ∃ (xs ys : List V) (x y : V), SqV b1 K H a xs ∧ SqV b2 K H b ys ∧ xs[i]? = some x ∧ ys[i]? = some y,
    fun i H v H' => ∃ T x y, v = .ref T ∧ H T = none ∧ H' = upd H T (.tup [x, y]) ∧ (∀ xs, SqV b1 K H a xs → xs[i]? = some x) ∧ ∀ ys, SqV b2 K H b ys → ys[i]? = some y,
    fun i H => ∃ xs ys : List V, SqV b1 K H a xs ∧ SqV b2 K H b ys ∧ (xs.length ≤ i ∨ ys.length ≤ i)⟩
theorem sqv_at {X : Cx} {pins : List (Addr × Obj)} {σ : L2.St} {H : Hp} {s : Shared} {b : Bool} {a : Addr} {xs : List V} (I : Inv X pins σ H s) (h : SqV b X.K H a xs) : ∃ its : List Value, Vals xs its ∧ SqIs b s.heap a its.toArray := by
  cases b with
  | true =>
    obtain ⟨its, rv, p, _⟩ := I.tuple h
    exact ⟨its, rv, p⟩
  | false =>
    obtain ⟨its, rv, p, _⟩ := I.list h
    exact ⟨its, rv, p.isList⟩
theorem sqv_inj {X : Cx} {pins : List (Addr × Obj)} {σ : L2.St} {H : Hp} {s : Shared} {b : Bool} {a : Addr} {xs ys : List V} (I : Inv X pins σ H s) (h : SqV b X.K H a xs) (h2 : SqV b X.K H a ys) : xs = ys := by
  cases b with
  | true => exact I.tuple_inj h h2
  | false => exact I.list_inj h h2
theorem turn_zipB {P : Program} {w : World} {K : PySem.W.Frag} {elts : List Expr} {kk : Nat} {tpos : Pos} {b1 b2 : Bool} {a b z TI TO i1 i2 : Addr} (D : ZipApart z TI TO i1 i2 a b) :
    Turn P w K (.Tuple elts kk tpos) (ItzB K b1 b2 a b) [z, TI, TO, i1, i2] z (fun i h => ZAt b1 b2 h z TI TO i1 i2 a b i i) where
  mem := by simp
  obj := fun i h st c hc => by
    obtain ⟨hz, hTI, ⟨x, y, hTO⟩, ⟨o1, e1, _, d1⟩, ⟨o2, e2, _, d2⟩⟩ := st
    simp only [List.mem_cons, List.not_mem_nil, or_false] at hc
    rcases hc with rfl | rfl | rfl | rfl | rfl
    · exact ⟨_, hz, fun v q => nomatch q⟩
    · exact ⟨_, hTI, fun v q => nomatch q⟩
    · exact ⟨_, hTO, fun v q => nomatch q⟩
    · exact ⟨o1, e1, fun v q => by rw [d1] at q; cases q⟩
    · exact ⟨o2, e2, fun v q => by rw [d2] at q; cases q⟩
  keep := fun i h h' st k => by
    obtain ⟨hz, hTI, ⟨x, y, hTO⟩, h1, h2⟩ := st
    exact ⟨k z (by simp) _ hz, k TI (by simp) _ hTI, ⟨x, y, k TO (by simp) _ hTO⟩, h1.at fun o q => k i1 (by simp) o q, h2.at fun o q => k i2 (by simp) o q⟩
  item := by
    intro X hP hw hK hc i pins s σ H E I hf st hg
    subst hP hw hK
    obtain ⟨xs, ys, x, y, qx, qy, hx, hy⟩ := hg
    obtain ⟨its, rv, p⟩ := sqv_at I qx
    obtain ⟨its2, rv2, p2⟩ := sqv_at I qy
    obtain ⟨u, hu, ru⟩ := rv.get hx
    obtain ⟨u2, hu2, ru2⟩ := rv2.get hy
    have zl : z < s.heap.objs.size := Heap.lt_size st.z
    refine zip_nextItem D st p p2 (x := u) (y := u2) (by simpa using hu) (by simpa using hu2) fun h' z' TO' h1' h2' hT hsz hk => ?_
    refine ⟨_, rfl, wpAny_letOwnedTupleGo_zip (s := { s with heap := h' }) z' fun g zz sb => ?_⟩
    have hT2 : g.get? s.heap.objs.size = some { cls := .type "tuple", data := .seq #[u, u2] } := (sb.2 _ (Nat.ne_of_gt zl)).trans hT
    have new : ObjOk X.prog X.w (upd H s.heap.objs.size (.tup [x, y])) g s.heap.objs.size (.tup [x, y]) := ⟨by show 2 ≤ sizeLine; decide, [u, u2], .cons ru (.cons ru2 .nil), ⟨_, hT2, rfl, _, rfl⟩⟩
    have up : ∀ c o, c ∉ [z, TI, TO, i1, i2] → s.heap.get? c = some o → g.get? c = some o := fun c o hb q => by
      simp only [List.mem_cons, List.not_mem_nil, or_false, not_or] at hb
      exact (sb.2 c hb.1).trans (hk c o hb.1 hb.2.2.1 hb.2.2.2.1 hb.2.2.2.2 q)
    have I1 : Inv X pins σ (upd H s.heap.objs.size (.tup [x, y])) { s with heap := g } := I.turnedNew (t' := s.toks) (ch := [z, TI, TO, i1, i2]) up hf (Nat.le_refl _) new
    refine ⟨.ref s.heap.objs.size, _, I1, rfl, ⟨_, x, y, rfl, I.hok.fresh (Nat.le_refl _), rfl, fun l hl => by rw [sqv_inj I hl qx]; exact hx, fun l hl => by rw [sqv_inj I hl qy]; exact hy⟩, ⟨zz, ?_, ⟨u, u2, ?_⟩, ?_, ?_⟩, fun c hcm => ?_⟩
    · exact (sb.2 _ D.TIz).trans (hk _ _ D.TIz D.TITO D.TIi1 D.TIi2 st.ti)
    · exact (sb.2 _ D.TOz).trans TO'
    · exact h1'.at fun o q => (sb.2 _ D.i1z).trans q
    · exact h2'.at fun o q => (sb.2 _ D.i2z).trans q
    · have lt : c < s.heap.objs.size := by
        obtain ⟨_, _, ⟨x, y, hTO⟩, _, _⟩ := id st
        simp only [List.mem_cons, List.not_mem_nil, or_false] at hcm
        rcases hcm with rfl | rfl | rfl | rfl | rfl
        · exact zl
        · exact Heap.lt_size st.ti
        · exact Heap.lt_size hTO
        · exact st.a.lt
        · exact st.b.lt
      rw [upd_ne (Nat.ne_of_lt lt)]
      exact (hf c hcm).1
  done := by
    intro X hP hw hK hc i pins s σ H E I hf st hg
    subst hP hw hK
    obtain ⟨xs, ys, qx, qy, hend⟩ := hg
    obtain ⟨its, rv, p⟩ := sqv_at I qx
    obtain ⟨its2, rv2, p2⟩ := sqv_at I qy
    have l1 := rv.length
    have l2 := rv2.length
    have he : its.toArray[i]? = none ∨ its2.toArray[i]? = none := by
      rcases hend with q | q
      · exact .inl (by simp; omega)
      · exact .inr (by simp; omega)
    refine zip_nextEnd (I.ok.hd hc) D st p p2 he fun h' hk => ⟨rfl, I.turnedL (t' := s.toks) (ch := [z, TI, TO, i1, i2]) (fun c o hb q => ?_) hf⟩
    simp only [List.mem_cons, List.not_mem_nil, or_false, not_or] at hb
    exact hk c o hb.1 hb.2.2.1 hb.2.2.2.1 hb.2.2.2.2 q
  self := fun A i s Q E st h => wpAny_pyIter_zip st.z h
def iZipB (K : PySem.W.Frag) (ta : TA) : TI := fun σ H R => ta σ H fun vs H1 => ∃ a b xs ys b1 b2, vs = [.ref a, .ref b] ∧ SqV b1 K H1 a xs ∧ SqV b2 K H1 b ys ∧ R (ItzB K b1 b2 a b) H1
theorem pi_zipB {X : Cx} {e e2 : Expr} {ta : TA} {p pos tpos : Pos} {elts : List Expr} {kk : Nat} (hg : Gl X "zip") (hm : X.mg "zip" = none) (ha : PA X [e, e2] ta)
    (hs : starEach [e, e2] X.env = (false, eval e X.env) :: starEach [e2] X.env := by rfl) (hpl : (backTo pos (starEach [e2] X.env)).any (·.1) = false := by rfl) :
    PI X (.Tuple elts kk tpos) (.Call (.Name "zip" p) [e, e2] [] pos) (iZipB X.K ta) := by
  refine ⟨fun pins s σ H R I h => ?_⟩
  refine Call_ (ld_blt I hg hm PyProof.Rows.boot_zip (PyProof.Rows.callWith_type1 (thn (ha.run pos pins s σ H _ I h) fun us s1 ⟨vs, H1, I1, r1, q1⟩ => ?_) hs hpl))
  obtain ⟨a, b, xs, ys, b1, b2, rfl, qx, qy, q⟩ := q1
  cases r1 with
  | cons r rr =>
    cases rr with
    | cons r' rr =>
      cases rr
      cases r
      cases r'
      obtain ⟨its, rv, p1⟩ := sqv_at I1 qx
      obtain ⟨its2, rv2, p2⟩ := sqv_at I1 qy
      refine call_zipB p1 p2 fun h' hz hk => wpAny_pyIter_zip hz.z ?_
      have I2 : Inv X pins σ H1 { s1 with heap := h' } := I1.kept (t' := s1.toks) hk
      refine ⟨s1.heap.objs.size + 4, [s1.heap.objs.size + 4, s1.heap.objs.size + 2, s1.heap.objs.size + 3, s1.heap.objs.size, s1.heap.objs.size + 1], _, _, H1, rfl, I2, turn_zipB (PySem.W.ktu_apart s1.heap.objs.size a b p1.lt p2.lt), hz, fun c hcm => ?_, q⟩
      have hle : s1.heap.objs.size ≤ c := by
        simp only [List.mem_cons, List.not_mem_nil, or_false] at hcm
        rcases hcm with rfl | rfl | rfl | rfl | rfl <;> first | exact Nat.le_add_right _ _ | exact Nat.le_refl _
      exact I1.fpOk hle (I1.hok.fresh hle)
end L2.Dl

/-! DSeq2: zip and starred targets over trees -/
namespace L2.Dl
open PySem PySem.Spec PyProof.Rows

theorem seq_at {K : PySem.W.Frag} {H : Hp} {M : Mp} {d : D} {v : V} {ds : List D} (m : RelM K H M) (r : RelD K H d v) (h : seqOf d M = some ds) : ∃ a vs, v = .ref a ∧ SqV (isTup d) K H a vs ∧ RelDs K H ds vs := by
  cases d with
  | tup es =>
    cases h
    obtain ⟨a, vs, rfl, t, rs⟩ := r
    exact ⟨a, vs, rfl, t.sq, rs⟩
  | _ =>
    obtain ⟨a, vs, h1, h2, h3⟩ := lst_of m r h
    exact ⟨a, vs, h1, h2, h3⟩
def zipD (xs ys : List D) : List D := List.zipWith (fun x y => .tup [x, y]) xs ys
def itZip (wx : WA) : WI | env, M, R => wx env M fun ds M1 => match ds with
  | [d, e] => ∃ xs ys, seqOf d M1 = some xs ∧ seqOf e M1 = some ys ∧ R (fun M' => seqOf d M' = some xs ∧ seqOf e M' = some ys) (zipD xs ys) M1
  | _ => False
theorem itz_ok {K : PySem.W.Frag} {H0 : Hp} {a b : Addr} {d e : D} {xs ys : List D} (rd : RelD K H0 d (.ref a)) (re : RelD K H0 e (.ref b)) : ItD K H0 (ItzB K (isTup d) (isTup e) a b) (fun M' => seqOf d M' = some xs ∧ seqOf e M' = some ys) (zipD xs ys) where
  go := fun i H M k m o hi => by
    obtain ⟨a', vs, e1, q1, rs⟩ := seq_at m (rd.keep k) o.1
    obtain ⟨b', us, e2, q2, rs2⟩ := seq_at m (re.keep k) o.2
    cases e1
    cases e2
    simp only [zipD, List.length_zipWith] at hi
    have l1 := rs.len
    have l2 := rs2.len
    exact ⟨vs, us, vs[i]'(by omega), us[i]'(by omega), q1, q2, List.getElem?_eq_getElem (by omega), List.getElem?_eq_getElem (by omega)⟩
  yld := fun i H M x H' t k m o hy hd => by
    obtain ⟨T, v, u, rfl, hT, rfl, f1, f2⟩ := hy
    obtain ⟨a', vs, e1, q1, rs⟩ := seq_at m (rd.keep k) o.1
    obtain ⟨b', us, e2, q2, rs2⟩ := seq_at m (re.keep k) o.2
    cases e1
    cases e2
    have kk : Keep H (upd H T (.tup [v, u])) := .fresh hT
    unfold zipD at hd
    rw [List.getElem?_zipWith] at hd
    cases hx : xs[i]? with
    | none => rw [hx] at hd; cases hd
    | some dx =>
      cases hy2 : ys[i]? with
      | none => rw [hx, hy2] at hd; cases hd
      | some dy =>
        rw [hx, hy2] at hd
        cases hd
        obtain ⟨v', g1, r1⟩ := rs.get hx
        obtain ⟨u', g2, r2⟩ := rs2.get hy2
        have h1 := f1 _ q1
        have h2 := f2 _ q2
        rw [g1] at h1
        rw [g2] at h2
        cases h1
        cases h2
        exact ⟨⟨T, _, rfl, .inl upd_same, (RelDs.cons r1 (.cons r2 .nil)).keep kk⟩, kk, m.skip hT⟩
  stop := fun i H M k m o hi => by
    obtain ⟨a', vs, e1, q1, rs⟩ := seq_at m (rd.keep k) o.1
    obtain ⟨b', us, e2, q2, rs2⟩ := seq_at m (re.keep k) o.2
    cases e1
    cases e2
    simp only [zipD, List.length_zipWith] at hi
    have l1 := rs.len
    have l2 := rs2.len
    exact ⟨vs, us, q1, q2, by omega⟩
section
variable {X : Cx} {tg e e2 : Expr} {pos : Pos}
theorem i_zip {wx : WA} {p tpos : Pos} {elts : List Expr} {kk : Nat} (hg : Gl X "zip") (hm : X.mg "zip" = none) (ha : DA X [e, e2] wx)
    (hs : starEach [e, e2] X.env = (false, eval e X.env) :: starEach [e2] X.env := by rfl) (hpl : (backTo pos (starEach [e2] X.env)).any (·.1) = false := by rfl) :
    DI X (.Tuple elts kk tpos) (.Call (.Name "zip" p) [e, e2] [] pos) (itZip wx) := pi_wk (pi_zipB hg hm ha hs hpl) fun σ H R ⟨env, M, Rd, hs, hm, hw, hl⟩ => by
  refine ⟨env, M, _, hs, hm, hw, fun ds M1 vs H1 q rs k m1 => ?_⟩
  match ds, q with
  | [d, e], ⟨xs, ys, h1, h2, q⟩ =>
    obtain ⟨v, u, rfl, r1, r2⟩ := rel2 rs
    obtain ⟨a, vs, rfl, q1, rs1⟩ := seq_at m1 r1 h1
    obtain ⟨b, us, rfl, q2, rs2⟩ := seq_at m1 r2 h2
    exact ⟨a, b, vs, us, _, _, rfl, q1, q2, hl _ _ _ _ _ q k m1 (itz_ok r1 r2)⟩
end

/-! ### a, b, *rest = .. -/
section
variable {prog : Program} {w : World} {A : Around} {E : Value → Shared → Prop} {b : Bool} {l it : Addr} {xs : Array Value}
theorem sq_draw (hne : l ≠ it) : ∀ (n i : Nat) (s : Shared) (Q : List Value → Shared → Prop), ItIs b s.heap it l i → SqIs b s.heap l xs → i + n ≤ xs.size →
    (∀ h', ItIs b h' it l (i + n) → Heap.SameBut it s.heap h' → Q ((xs.toList.drop i).take n) { s with heap := h' }) → wpAny (model prog w) A (draw (.ref it) n) Q E s
  | 0, i, s, Q, hit, _, _, hQ => by
    show wpAny _ _ (pure []) Q E s
    exact wpAny_pure (by simpa using hQ s.heap hit (Heap.SameBut.refl ..))
  | n + 1, i, s, Q, hit, hl, hle, hQ => by
    have hlt : i < xs.size := by omega
    show wpAny _ _ (pyNext (.ref it) >>= _) Q E s
    refine wpAny_bind (sq_next hit hl (x := xs[i]) (by simp [hlt]) fun h1 i1 s1 => ?_)
    refine wpAny_bind (wpAny_holding (sq_draw hne n (i + 1) _ _ i1 (hl.at fun o e => s1.extBut _ _ hne e) (by omega) fun h2 i2 s2 => wpAny_pure ?_))
    have hd : xs.toList.drop i = xs[i] :: xs.toList.drop (i + 1) := by simp [List.drop_eq_getElem_cons, hlt]
    have := hQ h2 (by rw [show i + (n + 1) = i + 1 + n by omega]; exact i2) (s1.trans s2)
    rw [hd, List.take_succ_cons] at this
    exact this
theorem sq_walks (hh : A.handled = none) (hne : l ≠ it) (k : Nat) (hk : k ≤ xs.size) :
    WalksS prog w A it [it, l] [it] (fun a b => b = a) (xs.size - k) (fun i v => xs[k + i]? = some v) (fun i s => ItIs b s.heap it l (k + i) ∧ SqIs b s.heap l xs) where
  sub := fun x h => by simp only [List.mem_singleton] at h; subst h; simp
  grefl := fun _ => rfl
  gtrans := fun a b c h1 h2 => h2.trans h1
  frame := fun i s h' tk ⟨h1, h2⟩ _ kp => ⟨h1.at fun o e => kp it (by simp) o e, h2.at fun o e => kp l (by simp) o e⟩
  item := fun i s Q E hi ⟨h1, h2⟩ hQ => by
    have hlt : k + i < xs.size := by omega
    refine sq_next h1 h2 (x := xs[k + i]) (by simp [hlt]) fun h' i' s' => hQ _ _ (by simp [hlt]) ⟨i', h2.at fun o e => s'.extBut _ _ hne e⟩ ⟨fun c o hc e => s'.extBut _ _ (by simpa using hc) e, rfl, rfl, rfl, Nat.le_refl _⟩
  done := fun s Q E ⟨h1, h2⟩ hQ => by
    refine sq_stop hh h1 h2 (by simp; omega) fun h' s' => hQ _ ⟨fun c o hc e => s' _ _ (by simpa using hc) e, rfl, rfl, rfl, Nat.le_refl _⟩
  self := fun i s Q E ⟨h1, h2⟩ hQ => sq_self h1 hQ
theorem itN_ty {s : Shared} {i : Nat} (h : ItIs b s.heap it l i) : s.TypeIs (.ref it) (itN b) := by
  obtain ⟨o, e, c, d⟩ := h
  exact ⟨o, e, c⟩
theorem sq_iterable {s : Shared} {Q : Bool → Shared → Prop} (h : SqIs b s.heap l xs) (q : Q false s) : wpAny (model prog w) A (notIterableAtAll (.ref l)) Q E s := by
  unfold notIterableAtAll
  cases b with
  | true => exact wpAny_bind (wpAny_specialOf (show s.heap.IsTuple l xs from h).typeIs F.slot_tuple_iter.lookup (wpAny_pure q))
  | false => exact wpAny_bind (wpAny_specialOf (show s.heap.IsList l xs from h).typeIs slot_list_iter.lookup (wpAny_pure q))
theorem star_items {s : Shared} {n : Nat} {Q : List Value → Shared → Prop} (hh : A.handled = none) (hl : SqIs b s.heap l xs) (hn : n ≤ xs.size) (hz : xs.size ≤ sizeLine)
    (hQ : ∀ (h' : Heap) (tk : Nat), (∀ c o, s.heap.get? c = some o → h'.get? c = some o) → Q (xs.toList.take n ++ [.ref h'.objs.size]) { s with heap := h'.push { cls := .type "list", data := .seq (xs.toList.drop n).toArray }, toks := tk }) :
    wpAny (model prog w) A (unpackItems (.ref l) (n + 1) (some n)) Q E s := by
  have hne : l ≠ s.heap.objs.size := Nat.ne_of_lt hl.lt
  unfold unpackItems
  refine wpAny_bind (sq_iterable hl ?_)
  simp only [Bool.false_eq_true, if_false]
  refine wpAny_bind (wpAny_holding (sq_iter hl fun i0 => ?_))
  refine wpAny_bind (wpAny_holding (sq_draw hne n 0 _ _ i0 (hl.at fun o e => Heap.get?_push_of_some _ e) (by omega) fun g1 i1 s1 => ?_))
  have l1 : SqIs b g1 l xs := hl.at fun o e => s1.extBut _ _ hne (Heap.get?_push_of_some _ e)
  rw [List.drop_zero]
  have hlen : (xs.toList.take n).length = n := by rw [List.length_take, Array.length_toList]; omega
  rw [if_neg (by rw [hlen]; omega)]
  have hbt : itN b = "str_ascii_iterator" ∨ itN b = "str_iterator" ∨ itN b = "list_iterator" ∨ itN b = "tuple_iterator" := by cases b <;> simp [itN]
  refine wpAny_bind (wpAny_holding (wpAny_collect_iter (A := A) hbt (sq_walks (b := b) (l := l) (it := s.heap.objs.size) (xs := xs) (prog := prog) (w := w) (A := A.in1) hh hne n hn) (fun i s h => itN_ty h.1) ⟨by simpa using i1, l1⟩ (fun c hc => ?_) (by simp) (fun s' acc hm ha => ?_) (by omega)))
  · simp only [List.mem_cons, List.not_mem_nil, or_false] at hc
    rcases hc with rfl | rfl
    · exact i1.lt
    · exact l1.lt
  have hacc : acc.toList = xs.toList.drop n := by
    apply List.ext_getElem?
    intro j
    rw [List.getElem?_drop]
    by_cases hj : j < acc.size
    · have e1 : acc[j]? = some acc[j] := by simp [hj]
      have := ha.2 j _ e1
      rw [Array.getElem?_toList, Array.getElem?_toList, e1, this]
    · have h1 := ha.1
      rw [List.getElem?_eq_none (by simp; omega), List.getElem?_eq_none (by simp; omega)]
  rw [hacc]
  have e0 : n + 1 - 1 - n = 0 := by omega
  simp only [e0, Nat.sub_zero, List.take_length, List.drop_length, List.append_nil]
  rw [if_neg (Nat.not_lt_zero _)]
  rw [hm.eq_with]
  refine wpAny_bind (wpAny_newObj_type ?_ (by
    show (xs.toList.drop n).toArray.size ≤ _
    simp only [List.size_toArray, List.length_drop, Array.length_toList]
    omega))
  refine wpAny_pure (hQ s'.heap s'.toks fun c o e => hm.heap c o ?_ (s1.extBut _ _ (Nat.ne_of_lt (Heap.lt_size e)) (Heap.get?_push_of_some _ e)))
  simp only [List.mem_singleton]
  exact Nat.ne_of_lt (Heap.lt_size e)
end
section
variable {X : Cx} {pos : Pos}
theorem pgs_star {e : Expr} {es : List Expr} {t : TG} {u : TGs} {p : Pos} (h1 : PG X e t) (h2 : PGs X es u)
    (hs : (assignEach (.Starred e p :: es) X.env).map (·.2) = assign e X.env :: (assignEach es X.env).map (·.2) := by rfl) : PGs X (.Starred e p :: es) (gCons t u) := by
  refine ⟨fun pins s σ H vs us Q I r h => ?_⟩
  obtain ⟨v, vr, rfl, h⟩ := h
  cases r with
  | cons r rr =>
    rw [hs]
    exact assignInOrder_cons (thn (h1.run pins s σ H _ _ _ I r h) fun _ s1 ⟨σ1, H1, I1, q1⟩ => h2.run pins s1 σ1 H1 _ _ Q I1 rr q1)
/-- (a, .., *rest) = a tuple or a list -/
def gStarV (K : PySem.W.Frag) (n : Nat) (t : TGs) : TG := fun v σ H Q => ∃ a xs b, v = .ref a ∧ SqV b K H a xs ∧ n ≤ xs.length ∧ xs.length ≤ sizeLine ∧ ∀ p, H p = none → t (xs.take n ++ [.ref p]) σ (upd H p (.lst (xs.drop n))) Q
theorem vals_take {xs : List V} {us : List Value} (n : Nat) (h : Vals xs us) : Vals (xs.take n) (us.take n) := by
  induction h generalizing n with
  | nil => cases n <;> exact .nil
  | cons r rr ih =>
    cases n with
    | zero => exact .nil
    | succ n => exact .cons r (ih n)
theorem vals_drop {xs : List V} {us : List Value} (n : Nat) (h : Vals xs us) : Vals (xs.drop n) (us.drop n) := by
  induction h generalizing n with
  | nil => cases n <;> exact .nil
  | cons r rr ih =>
    cases n with
    | zero => exact .cons r rr
    | succ n => exact ih n
theorem vals_app {xs ys : List V} {us vs : List Value} (h : Vals xs us) (h2 : Vals ys vs) : Vals (xs ++ ys) (us ++ vs) := by
  induction h with
  | nil => exact h2
  | cons r rr ih => exact .cons r ih
theorem pg_star {es : List Expr} {k : Nat} {t : TGs} {n : Nat} (hc : X.calm = true) (h : PGs X es t)
    (hn : (assignEach es X.env).length = n + 1 := by rfl) (hst : (assignEach es X.env).findIdx? (·.1) = some n := by rfl) : PG X (.Tuple es k pos) (gStarV X.K n t) := by
  refine ⟨fun pins s σ H v u Q I r hw => ?_⟩
  obtain ⟨a, xs, b, rfl, hq, hl, hz, hw⟩ := hw
  cases r
  obtain ⟨its, rv, p⟩ := sqv_at I hq
  have len := rv.length
  rw [assign_Tuple]
  refine wpAny_bind (wpAny_standAt ?_)
  unfold unpack
  rw [hn, hst]
  refine wpAny_bind (wpAny_holding (star_items (I.ok.hd hc) p (by simp; omega) (by simp; omega) fun h' tk kp => ?_))
  have I1 : Inv X pins σ H { s with heap := h', toks := tk } := I.kept (t' := tk) kp
  have fr : H h'.objs.size = none := I1.hok.fresh (Nat.le_refl _)
  have I2 : Inv X pins σ (upd H h'.objs.size (.lst (xs.drop n))) { s with heap := h'.push { cls := .type "list", data := .seq (its.drop n).toArray }, toks := tk } :=
    I1.laid (t' := tk) (fun b u e => Heap.get?_push_of_some _ e) (Nat.le_refl _) ⟨by rw [List.length_drop]; omega, its.drop n, 0, vals_drop n rv, Heap.get?_push_size _ rfl⟩
  exact h.run pins _ σ _ _ _ Q I2 (vals_app (vals_take n rv) (Paired.cons (show RelV (.ref h'.objs.size) (.ref h'.objs.size) from rfl) .nil)) (hw _ fr)
def gStar (n : Nat) (gs : WGs) : WG | d, env, M, Q => ∃ ds, seqOf d M = some ds ∧ n ≤ ds.length ∧ ds.length ≤ sizeLine ∧ New M (.lst (ds.drop n)) fun p M2 => gs (ds.take n ++ [.ref p]) env M2 Q
theorem gs_star {e : Expr} {es : List Expr} {wg : WG} {gs : WGs} {p : Pos} (h1 : DG X e wg) (h2 : DGs X es gs) (hs : (assignEach (.Starred e p :: es) X.env).map (·.2) = assign e X.env :: (assignEach es X.env).map (·.2) := by rfl) : DGs X (.Starred e p :: es) (gsCons wg gs) :=
  pgs_wk (pgs_star h1 h2 hs) fun vs σ H Q ⟨ds, env, M, Qd, hr, hs, hm, hw, hl⟩ => by
    cases ds with
    | nil => exact hw.elim
    | cons d r =>
      obtain ⟨v, vr, rfl, rv, rr⟩ := hr
      exact ⟨v, vr, rfl, d, env, M, _, rv, hs, hm, hw, fun env1 M1 σ1 H1 q r1 k m1 => ⟨r, env1, M1, Qd, rr.keep k, r1, m1, q, hl.at k⟩⟩
theorem g_star {es : List Expr} {k : Nat} {gs : WGs} {n : Nat} (hc : X.calm = true) (h : DGs X es gs) (hn : (assignEach es X.env).length = n + 1 := by rfl) (hst : (assignEach es X.env).findIdx? (·.1) = some n := by rfl) :
    DG X (.Tuple es k pos) (gStar n gs) := pg_wk (pg_star hc h hn hst) fun v σ H Q ⟨d, env, M, Qd, hr, hs, hm, hw, hl⟩ => by
  obtain ⟨ds, h1, h2, h3, q⟩ := hw
  obtain ⟨a, vs, rfl, hq, rs⟩ := seq_at hm hr h1
  refine ⟨a, vs, _, rfl, hq, by rw [← rs.len]; exact h2, by rw [← rs.len]; exact h3, fun p hp => ?_⟩
  have kk : Keep H (upd H p (.lst (vs.drop n))) := .fresh hp
  have m2 : RelM X.K (upd H p (.lst (vs.drop n))) (mup M p (.lst (ds.drop n))) := hm.new hp ⟨_, upd_same, (rs.drop n).keep kk⟩
  exact ⟨ds.take n ++ [.ref p], env, _, Qd, ((rs.take n).keep kk).app (RelDs.cons (show RelD X.K _ (.ref p) (.ref p) from rfl) .nil), hs.keep kk, m2, q.at (hm.free hp), hl.at kk⟩
end
end L2.Dl

/-! DCon: dicts of the module with text keys, read; reverse; x is True -/
namespace L2.Dl
open PySem PySem.Spec PyProof.Rows

/-- the module's name x holds a dict of the written part with these text keys -/
structure KD (K : PySem.W.Frag) (P : Params) (mg : Str → Option Value) (x : Str) (kvs : List (Str × D)) : Prop where
  ex : ∃ (a : Addr) (es : Array DictEntry) (n : Nat), mg x = some (.ref a) ∧ K.lookup a = some ⟨.type "dict", none, .dict es n, #[]⟩ ∧ PySem.W.KeysLit P es.toList ∧ (a == sysModules) = false ∧
    Paired (fun (p : Str × D) (e : DictEntry) => (∃ t, e.key = .str p.1 t) ∧ ∃ v, RelV v e.val ∧ RelD K (fun _ => none) p.2 v) kvs es.toList
def kvGet (kvs : List (Str × D)) (x : Str) : Option D := (kvs.find? fun kv => decide (kv.1 = x)).map (·.2)
def wKGet (kvs : List (Str × D)) (we : WE) : WE | env, M, Q => we env M fun d M1 => match d with
  | .str x => Q ((kvGet kvs x).getD .non) M1
  | _ => False
theorem find_kv {K : PySem.W.Frag} {kvs : List (Str × D)} {es : List DictEntry} (h : Paired (fun (p : Str × D) (e : DictEntry) => (∃ t, e.key = .str p.1 t) ∧ ∃ v, RelV v e.val ∧ RelD K (fun _ => none) p.2 v) kvs es) (x : Str) :
    (kvGet kvs x = none ∧ es.find? (fun d => Value.isStrOf x d.key) = none) ∨ ∃ d e v, kvGet kvs x = some d ∧ es.find? (fun d => Value.isStrOf x d.key) = some e ∧ RelV v e.val ∧ RelD K (fun _ => none) d v := by
  induction h with
  | nil => exact .inl ⟨rfl, rfl⟩
  | @cons p e kvs es h1 h2 ih =>
    obtain ⟨⟨t, hk⟩, v, rv, rd⟩ := h1
    unfold kvGet at ih ⊢
    by_cases hx : p.1 = x
    · refine .inr ⟨p.2, e, v, ?_, ?_, rv, rd⟩
      · rw [List.find?_cons_of_pos (by simpa using hx)]; rfl
      · rw [List.find?_cons_of_pos (by rw [hk]; simp [Value.isStrOf, hx])]
    · rw [List.find?_cons_of_neg (by simpa using hx), List.find?_cons_of_neg (by rw [hk]; simpa [Value.isStrOf] using hx)]
      exact ih
section
variable {X : Cx} {e : Expr} {we : WE} {pos : Pos}
theorem d_kget {x : Str} {kvs : List (Str × D)} {p apos : Pos} (hg : Gl X x) (h : KD X.K X.w.params X.mg x kvs) (he : DE X e we) (m : M1 X (.Name x p) "get" apos e pos := by exact ⟨rfl, rfl, rfl, rfl⟩) (hd : (x == ("__debug__" : Str)) = false := by decide) :
    DE X (.Call (.Attribute (.Name x p) "get" apos) [e] [] pos) (wKGet kvs we) := by
  obtain ⟨a, es, n, h1, hl, hk, hs, pr⟩ := h.ex
  refine ⟨fun pins s σ H Q I ⟨env, M, Qd, hs1, hm, hw, hlift⟩ => ?_⟩
  have ho : PE X (.Name x p) (tC (.ref a)) := pe_glob hg h1 rfl hd
  refine wpAny_Call_method m.base m.few m.line PySem.F.plainAttrs_dict PySem.F.slot_dict_get PySem.F.type_dict_get (thn (ho.run pins s σ H (fun v H' => v = .ref a ∧ H' = H) I ⟨rfl, rfl⟩) fun u s1 ⟨x1, H1, I1, rx, ex, eH⟩ => ?_)
  subst ex
  subst eH
  obtain rfl : u = Value.ref a := rx
  have mo := PySem.W.mapOf_K (prog := X.prog) (w := X.w) I1.kIn hl hk
  refine ⟨mo.typeIs, fun b eb => ?_, ?_⟩
  · cases eb
    exact ⟨_, I1.kIn _ _ hl, rfl⟩
  rw [m.trees]
  refine Calls.callWith_builtin rfl (Calls.evalArgs_plain (Calls.spliced_cons (thn (he.run pins s1 σ H1 (fun y H2 => ∃ z : Str, y = .str z ∧ ∃ d M2, (kvGet kvs z).getD .non = d ∧ Qd d M2 ∧ Keep H1 H2 ∧ RelM X.K H2 M2) I1 ⟨env, M, _, hs1, hm, hw, fun d M1 v H' q r k m1 => ?_⟩) fun iv s2 ⟨y, H2, I2, ry, z, ey, d, M2, ed, qd, k2, m2⟩ => Calls.spliced_nil ?_)))
  · cases d with
    | str z => exact ⟨z, r, _, M1, rfl, q, k, m1⟩
    | _ => exact q.elim
  · subst ey
    obtain ⟨t, rfl⟩ := (show ∃ t, iv = Value.str z t from ry)
    have mo2 := PySem.W.mapOf_K (prog := X.prog) (w := X.w) I2.kIn hl hk
    refine call_meetsIn PySem.F.slot_dict_get mo2.typeIs PySem.F.entry_dict_get (PySem.F.args_dict_get_2 _ _) (meets_dict_get (strKind X.prog X.w) a (strKind_is X.prog X.w z t) hs) ⟨_, mo2, ?_⟩
    have fb : findBy Value.isStrOf es z = (es.toList.find? fun d => Value.isStrOf z d.key).map (·.val) := by
      obtain ⟨l⟩ := es
      unfold findBy
      rw [List.find?_toArray]
    rw [fb]
    rcases find_kv pr z with ⟨g1, g2⟩ | ⟨d', e', v', g1, g2, rv, rd⟩
    · rw [g2]
      rw [g1] at ed
      subst ed
      exact ⟨.non, H2, I2.tok _, rfl, hlift _ M2 _ _ qd rfl k2 m2⟩
    · rw [g2]
      rw [g1] at ed
      subst ed
      exact ⟨v', H2, I2.tok _, rv, hlift _ M2 _ _ qd (rd.keep keep_none) k2 m2⟩
end
/-! ### list.reverse -/
def mReverse : WM | d, ds, M, Q => match d, ds with
  | .ref a, [] => ∃ es, M a = some (.lst es) ∧ Put M a (.lst es.reverse) fun M2 => Q .non M2
  | _, _ => False
theorem m_reverse {X : Cx} : MtD X "list.reverse" mReverse := by
  intro pins s σ H x xs v us Q I rx rs ⟨d, ds, M, Qd, hd, hds, hm, hr, hl⟩
  match d, ds, hr with
  | .ref a, [], ⟨es, h1, q⟩ =>
    cases hds
    obtain ⟨vs, h3, r3⟩ := hm _ _ h1
    have kw : Keep H (upd H a (.lst vs.reverse)) := .write h3 trivial
    exact mt_reverse pins s σ H _ _ v us Q I rx rs ⟨a, vs, hd, rfl, h3, hl _ _ _ _ q.at rfl kw (RelM.write (o := .lst es.reverse) hm h3 trivial ⟨_, upd_same, (r3.keep kw).rev⟩)⟩
/-! ### x is True -/
def cIsB : W2 | d, e, M, Q => match d, e with
  | .bl a, .bl b => Q (.bl (decide (a = b))) M
  | _, _ => False
def cNotB : W2 | d, e, M, Q => match d, e with
  | .bl a, .bl b => Q (.bl (!decide (a = b))) M
  | _, _ => False
theorem o_isb {X : Cx} : OpD X (compareOp .Is) cIsB := by
  intro pins s σ H x y v u Q I rx ry ⟨d, e, M, Qd, hd, he, hm, hr, hl⟩
  cases d with
  | bl a =>
    cases e with
    | bl b => exact op_isBl pins s σ H x y v u Q I rx ry ⟨a, b, hd, he, hl.val hm hr rfl⟩
    | _ => exact hr.elim
  | _ => exact hr.elim
theorem o_notb {X : Cx} : OpD X (compareOp .IsNot) cNotB := by
  intro pins s σ H x y v u Q I rx ry ⟨d, e, M, Qd, hd, he, hm, hr, hl⟩
  cases d with
  | bl a =>
    cases e with
    | bl b => exact op_notBl pins s σ H x y v u Q I rx ry ⟨a, b, hd, he, hl.val hm hr rfl⟩
    | _ => exact hr.elim
  | _ => exact hr.elim
/-! ### comprehensions of truths -/
theorem all_map {f : D → Bool} : ∀ {ds : List D}, (ds.map f).all id = ds.all f
  | [] => rfl
  | d :: ds => by simp only [List.map_cons, List.all_cons, id, all_map]
theorem lc_bools {ok : Mp → Prop} {g : WG} {we : WE} {env0 : Ev} {Q : DQ} {items : List D} {M1 M2 : Mp} {l : Addr} (hl : M1 l = none) (e1 : M2 l = some (.lst [])) (f12 : Fr [] M1 M2) (hz : items.length ≤ 1000) (hok : ∀ M, Fr [] M1 M → ok M) (f : D → Bool)
    (hw : ∀ d M (R : DQ), d ∈ items → Fr [] M1 M → (∀ M', Fr [] M M' → R (.bl (f d)) M') → g d env0 M fun env2 M2 => we env2 M2 R)
    (q : ∀ M', Fr [] M1 M' → M' l = some (.lst ((items.map f).map .bl)) → Q (.ref l) M') : runLc ok g wYes we env0 l Q items M2 := by
  refine run_lc (fun k M => Fr [l] M2 M ∧ M l = some (.lst (((items.take k).map f).map .bl))) ⟨.refl, e1⟩ (fun k d r M hd hP next => ⟨hok M (Fr.drop hl f12 hP.1), ?_⟩) fun M hP => ?_
  · obtain ⟨fr, e⟩ := hP
    have hmem : d ∈ items := List.mem_of_mem_drop (by rw [hd]; exact List.mem_cons_self)
    have hk : k < items.length := by
      by_cases z : k < items.length
      · exact z
      · rw [List.drop_of_length_le (by omega)] at hd; cases hd
    have hget : items[k]? = some d := by
      have := congrArg (fun z => z[0]?) hd
      simpa using this
    have key := hw d M (fun y M4 => ∃ acc, M4 l = some (.lst acc) ∧ acc.length < sizeLine ∧ Put M4 l (.lst (acc ++ [y])) fun M5 => runLc ok g wYes we env0 l Q r M5) hmem (Fr.drop hl f12 fr) fun M4 f4 => ?_
    · exact key
    · refine ⟨_, f4 _ _ (by simp) e, ?_, fun M5 e5 f5 => next _ ⟨(fr.trans f4.nil).trans f5, ?_⟩⟩
      · rw [List.length_map, List.length_map, List.length_take]
        exact Nat.lt_of_lt_of_le (Nat.lt_of_le_of_lt (Nat.min_le_left _ _) (Nat.lt_of_lt_of_le hk hz)) (by decide)
      · rw [e5, List.take_add_one, hget]
        simp
  · obtain ⟨fr, e⟩ := hP
    rw [List.take_length] at e
    exact ⟨hok M (Fr.drop hl f12 fr), q M (Fr.drop hl f12 fr) e⟩
theorem all_bools {M : Mp} {l : Addr} {bs : List Bool} {Q : DQ} (e : M l = some (.lst (bs.map .bl))) (q : Q (.bl (bs.all id)) M) : fAll [.ref l] M Q := by
  refine ⟨bs, ?_, q⟩
  unfold lstOf
  dsimp only
  rw [e]
/-! ### tuples of a number and a text -/
def ltS (i : Int) (x : Str) (c : Int) (n : Str) : Bool := decide (i < c) || (decide (i = c) && decide (x.cps.toList < n.cps.toList))
theorem lt_irr (x : Str) : decide (x.cps.toList < x.cps.toList) = false := decide_eq_false (List.lt_irrefl _)
theorem ltF_stamps {i c : Int} {x n : Str} : ltF [.int i, .str x] [.int c, .str n] = some (ltS i x c n) := by
  unfold ltS
  by_cases h : i = c
  · subst h
    by_cases h2 : x = n
    · subst h2
      simp [ltF, flatV, eqV, lt_irr]
    · simp [ltF, flatV, eqV, h2, lt1]
  · simp [ltF, flatV, eqV, h, lt1]
def flatD : D → Bool
  | .non => true
  | .bl _ => true
  | .int _ => true
  | .str x => x.cps.all (· < 0x110000)
  | _ => false
def rootD : D → Bool
  | .tup [.int i, .str x] => decide (i = 0) && decide (x = "")
  | _ => false
theorem eq_root {i : Int} {y : D} {M : Mp} {Q : Bool → Prop} (h : flatD y = true) (q : Q (rootD (.tup [.int i, y]))) : eqR (.tup [.int i, y]) (.tup [.int 0, .str ""]) M Q := by
  unfold eqR
  rw [if_neg (show ¬ scal (flv (.tup [.int i, y])) (flv (.tup [.int 0, .str ""])) = true from fun z => Bool.noConfusion z)]
  have e2 : dat M (.tup [.int 0, .str ""]) = some (.tuple [.int 0, .str ""]) := rfl
  cases y with
  | non => exact ⟨.tuple [.int i, .none], _, rfl, e2, rfl, by decide +kernel, by simpa [PyData.eqv, PyData.eqvAll, rootD] using q⟩
  | bl b => exact ⟨.tuple [.int i, .bool b], _, rfl, e2, rfl, by decide +kernel, by simpa [PyData.eqv, PyData.eqvAll, rootD] using q⟩
  | int j => exact ⟨.tuple [.int i, .int j], _, rfl, e2, rfl, by decide +kernel, by simpa [PyData.eqv, PyData.eqvAll, rootD] using q⟩
  | str x =>
    refine ⟨.tuple [.int i, .str x], _, rfl, e2, ?_, by decide +kernel, ?_⟩
    · have h' : PySem.PyData.strOk x = true := h
      simp [SeqAt.shaped, PyData.canLay0, PyData.canLayAll0, h', PyData.depth, PyData.depthAll]
    · have e : PyData.eqv (.tuple [.int i, .str x]) (.tuple [.int 0, .str ""]) = rootD (.tup [.int i, .str x]) := by
        simp [PyData.eqv, PyData.eqvAll, rootD, Bool.beq_eq_decide_eq]
      rw [e]; exact q
  | _ => exact Bool.noConfusion h
/-! truth of a known tree; truD itself stays closed (opened at an unknown tree it copies what comes behind) -/
theorem truD_bl {b : Bool} {M : Mp} {Q : Bool → Prop} : truD (.bl b) M Q = Q b := rfl
theorem truD_non {M : Mp} {Q : Bool → Prop} : truD .non M Q = Q false := rfl
theorem truD_int {i : Int} {M : Mp} {Q : Bool → Prop} : truD (.int i) M Q = Q (i != 0) := rfl
theorem truD_tup {ds : List D} {M : Mp} {Q : Bool → Prop} : truD (.tup ds) M Q = Q (!ds.isEmpty) := rfl
theorem truD_str {x : Str} {M : Mp} {Q : Bool → Prop} : truD (.str x) M Q = (x.length ≤ sizeLine ∧ Q (decide (x.length ≠ 0))) := rfl
/-! targets of known trees (gsCons itself stays closed: opened at an unknown list the kernel doesn't come to an end) -/
theorem gsC {g : WG} {gs : WGs} {d : D} {r : List D} {env : Ev} {M : Mp} {Q : Ev → Mp → Prop} : gsCons g gs (d :: r) env M Q = g d env M fun env1 M1 => gs r env1 M1 Q := rfl
theorem gsN {env : Ev} {M : Mp} {Q : Ev → Mp → Prop} : gsNil [] env M Q = Q env M := by simp [gsNil]
/-- a, b = x, y (wPar itself stays closed, for the same reason) -/
theorem wPar2 {i j : Nat} {wa wb : WE} {E : DEnds} {env : Ev} {M : Mp} : wPar i j (wCons wa (wCons wb wNil)) E env M = wa env M fun d M1 => wb env M1 fun e M2 => E.nx ((env.set i (some d)).set j (some e)) M2 := rfl
end L2.Dl

/-! DStep: one lemma for each construct's weakest end, to be laid on step by step (no simp over whole ends). -/
namespace L2.Dl
open PySem PySem.Spec PyProof.Rows
section
variable {env : Ev} {M : Mp} {Q : DQ} {QT : Bool → Mp → Prop} {QA : List D → Mp → Prop} {nx bk ct : Ev → Mp → Prop} {rt : DQ} {wa wb wc : WE} {wt wu : WT} {wx : WA} {w u : WS} {g : WG} {gs : WGs} {r r' : W2} {d x y z : D} {ds es : List D} {a b c : Option D} {A B : Prop} {i j : Int} {k : Bool}
def tstD (d : D) (M : Mp) (Q : Bool → Mp → Prop) : Prop := match d with
  | .bl k => Q k M
  | _ => False
/-! statements -/
theorem z_seq (h : w ⟨fun e m => u ⟨nx, rt, bk, ct⟩ e m, rt, bk, ct⟩ env M) : wSeq w u ⟨nx, rt, bk, ct⟩ env M := h
theorem z_ifs (h : wt env M fun k m => if k = true then w ⟨nx, rt, bk, ct⟩ env m else u ⟨nx, rt, bk, ct⟩ env m) : wIfS wt w u ⟨nx, rt, bk, ct⟩ env M := h
theorem z_ret (h : wa env M rt) : wRet wa ⟨nx, rt, bk, ct⟩ env M := h
theorem z_retN (h : rt .non M) : wRetN ⟨nx, rt, bk, ct⟩ env M := h
theorem z_next (h : nx env M) : wNext ⟨nx, rt, bk, ct⟩ env M := h
theorem z_break (h : bk env M) : wBreak ⟨nx, rt, bk, ct⟩ env M := h
theorem z_cont (h : ct env M) : wCont ⟨nx, rt, bk, ct⟩ env M := h
theorem z_drop (h : wa env M fun _ m => nx env m) : wDrop wa ⟨nx, rt, bk, ct⟩ env M := h
theorem z_asg (h : wa env M fun d m => g d env m nx) : wAsg wa g ⟨nx, rt, bk, ct⟩ env M := h
theorem z_par {i j : Nat} (h : wa env M fun d m => wb env m fun e m2 => gN i d env m2 fun env1 m3 => gN j e env1 m3 nx) : wPar i j (wCons wa (wCons wb wNil)) ⟨nx, rt, bk, ct⟩ env M := h
theorem z_for {wi : WI} (h : wi env M fun ok items m => runFor ok g w ⟨nx, rt, bk, ct⟩ items env m) : wFor wi g w ⟨nx, rt, bk, ct⟩ env M := h
/-! targets -/
variable {Qe : Ev → Mp → Prop} {e0 e1 e2 e3 e4 e5 e6 e7 e8 e9 e10 e11 e12 : Option D}
theorem z_g0 (h : Qe (some d :: env) M) : gN 0 d (e0 :: env) M Qe := h
theorem z_g1 (h : Qe (e0 :: some d :: env) M) : gN 1 d (e0 :: e1 :: env) M Qe := h
theorem z_g2 (h : Qe (e0 :: e1 :: some d :: env) M) : gN 2 d (e0 :: e1 :: e2 :: env) M Qe := h
theorem z_g3 (h : Qe (e0 :: e1 :: e2 :: some d :: env) M) : gN 3 d (e0 :: e1 :: e2 :: e3 :: env) M Qe := h
theorem z_g4 (h : Qe (e0 :: e1 :: e2 :: e3 :: some d :: env) M) : gN 4 d (e0 :: e1 :: e2 :: e3 :: e4 :: env) M Qe := h
theorem z_g5 (h : Qe (e0 :: e1 :: e2 :: e3 :: e4 :: some d :: env) M) : gN 5 d (e0 :: e1 :: e2 :: e3 :: e4 :: e5 :: env) M Qe := h
theorem z_g6 (h : Qe (e0 :: e1 :: e2 :: e3 :: e4 :: e5 :: some d :: env) M) : gN 6 d (e0 :: e1 :: e2 :: e3 :: e4 :: e5 :: e6 :: env) M Qe := h
theorem z_g7 (h : Qe (e0 :: e1 :: e2 :: e3 :: e4 :: e5 :: e6 :: some d :: env) M) : gN 7 d (e0 :: e1 :: e2 :: e3 :: e4 :: e5 :: e6 :: e7 :: env) M Qe := h
theorem z_g8 (h : Qe (e0 :: e1 :: e2 :: e3 :: e4 :: e5 :: e6 :: e7 :: some d :: env) M) : gN 8 d (e0 :: e1 :: e2 :: e3 :: e4 :: e5 :: e6 :: e7 :: e8 :: env) M Qe := h
theorem z_g9 (h : Qe (e0 :: e1 :: e2 :: e3 :: e4 :: e5 :: e6 :: e7 :: e8 :: some d :: env) M) : gN 9 d (e0 :: e1 :: e2 :: e3 :: e4 :: e5 :: e6 :: e7 :: e8 :: e9 :: env) M Qe := h
theorem z_g10 (h : Qe (e0 :: e1 :: e2 :: e3 :: e4 :: e5 :: e6 :: e7 :: e8 :: e9 :: some d :: env) M) : gN 10 d (e0 :: e1 :: e2 :: e3 :: e4 :: e5 :: e6 :: e7 :: e8 :: e9 :: e10 :: env) M Qe := h
theorem z_gt {n : Nat} (hn : ds.length = n) (h : gs ds env M Qe) : gTu n gs (.tup ds) env M Qe := ⟨hn, h⟩
theorem z_gc (h : g d env M fun env1 m => gs ds env1 m Qe) : gsCons g gs (d :: ds) env M Qe := h
theorem z_gn (h : Qe env M) : gsNil [] env M Qe := ⟨rfl, h⟩
theorem z_gst {r : W3} (h : wa env M fun d m => wb env m fun e m2 => r d e x m2 fun m3 => Qe env m3) : gSt r wa wb x env M Qe := h
/-! expressions -/
theorem z_var {n : Nat} (e : env[n]? = some (some d)) (h : Q d M) : wVar n env M Q := by
  show (match env[n]? with | some (some d) => Q d M | _ => False)
  rw [e]; exact h
theorem z_v0 (h : Q d M) : wVar 0 (some d :: env) M Q := h
theorem z_v1 (h : Q d M) : wVar 1 (e0 :: some d :: env) M Q := h
theorem z_v2 (h : Q d M) : wVar 2 (e0 :: e1 :: some d :: env) M Q := h
theorem z_v3 (h : Q d M) : wVar 3 (e0 :: e1 :: e2 :: some d :: env) M Q := h
theorem z_v4 (h : Q d M) : wVar 4 (e0 :: e1 :: e2 :: e3 :: some d :: env) M Q := h
theorem z_v5 (h : Q d M) : wVar 5 (e0 :: e1 :: e2 :: e3 :: e4 :: some d :: env) M Q := h
theorem z_v6 (h : Q d M) : wVar 6 (e0 :: e1 :: e2 :: e3 :: e4 :: e5 :: some d :: env) M Q := h
theorem z_v7 (h : Q d M) : wVar 7 (e0 :: e1 :: e2 :: e3 :: e4 :: e5 :: e6 :: some d :: env) M Q := h
theorem z_v8 (h : Q d M) : wVar 8 (e0 :: e1 :: e2 :: e3 :: e4 :: e5 :: e6 :: e7 :: some d :: env) M Q := h
theorem z_v9 (h : Q d M) : wVar 9 (e0 :: e1 :: e2 :: e3 :: e4 :: e5 :: e6 :: e7 :: e8 :: some d :: env) M Q := h
theorem z_v10 (h : Q d M) : wVar 10 (e0 :: e1 :: e2 :: e3 :: e4 :: e5 :: e6 :: e7 :: e8 :: e9 :: some d :: env) M Q := h
theorem z_c (h : Q d M) : wC d env M Q := h
theorem z_op (h : wa env M fun x m => wb env m fun y m2 => r x y m2 Q) : wOp r wa wb env M Q := h
theorem z_un {r : D → Mp → DQ → Prop} (h : wa env M fun x m => r x m Q) : wUn r wa env M Q := h
theorem z_call {f : WC} (h : wx env M fun xs m => f xs m Q) : wCall f wx env M Q := h
theorem z_callK {W : WC} {n m : Nat} {sel : List Src} {wk : WA} (h : wx env M fun ds M1 => wk env M1 fun zs M2 => ds.length = n ∧ zs.length = m ∧ W (sel.map (Src.D ds zs)) M2 Q) : wCallK W n m sel wx wk env M Q := h
theorem z_nil (h : QA [] M) : wNil env M QA := h
theorem z_cons (h : wa env M fun d m => wx env m fun xs m2 => QA (d :: xs) m2) : wCons wa wx env M QA := h
theorem z_tup (h : wx env M fun xs m => xs.length ≤ sizeLine ∧ Q (.tup xs) m) : wTup wx env M Q := h
theorem z_lst (h : wx env M fun xs m => xs.length ≤ sizeLine ∧ New m (.lst xs) fun p m2 => Q (.ref p) m2) : wLst wx env M Q := h
theorem z_sz (hz : Nat.ble ds.length 100 = true) (h : A) : ds.length ≤ sizeLine ∧ A := ⟨Nat.le_trans (Nat.le_of_ble_eq_true hz) (by decide), h⟩
theorem z_and (h : wa env M fun x m => truD x m fun k => if k = true then wb env m Q else Q x m) : wAnd wa wb env M Q := h
theorem z_or (h : wa env M fun x m => truD x m fun k => if k = true then Q x m else wb env m Q) : wOr wa wb env M Q := h
theorem z_not (h : wa env M fun x m => truD x m fun k => Q (.bl (!k)) m) : wNot wa env M Q := h
theorem z_if (h : wt env M fun k m => if k = true then wa env m Q else wb env m Q) : wIf wt wa wb env M Q := h
theorem z_chain (h : wa env M fun x m => wb env m fun y m2 => r x y m2 fun z m3 => tstD z m3 fun k m4 => if k = true then wc env m4 fun w m5 => r' y w m5 Q else Q (.bl false) m4) : wChain r r' wa wb wc env M Q := h
theorem z_sl {wl wh : WO} (h : wa env M fun d m => wl env m fun lo m2 => wh env m2 fun hi m3 => slR d lo hi m3 Q) : wSl wa wl wh env M Q := h
theorem z_nop {QO : Option Int → Mp → Prop} (h : QO none M) : wNoPart env M QO := h
def prtD (d : D) (M : Mp) (Q : Option Int → Mp → Prop) : Prop := match d with
  | .int i => Q (some i) M
  | _ => False
theorem z_prt {QO : Option Int → Mp → Prop} (h : wa env M fun d m => prtD d m QO) : wPart wa env M QO := h
theorem z_prti {QO : Option Int → Mp → Prop} (h : QO (some i) M) : prtD (.int i) M QO := h
theorem z_mt {T : String} {f : WM} (h : wa env M fun d m => tyM T d m ∧ wx env m fun xs m2 => f d xs m2 Q) : wMt T f wa wx env M Q := h
theorem z_mstr {x : Str} (h : A) : tyM "str" (.str x) M ∧ A := ⟨rfl, h⟩
theorem z_ml {a : Addr} (e : M a = some (.lst ds)) (h : A) : tyM "list" (.ref a) M ∧ A := ⟨by unfold tyM; dsimp only; rw [e], h⟩
theorem z_lc {wi : WI} {vs : List Nat} (h : wi env M fun ok items m => New m (.lst []) fun p m2 => runLc ok g wt wa (ewipe env vs) p Q items m2) : wLc wi g wt wa vs env M Q := h
/-! tests -/
theorem z_tst (h : wa env M fun d m => tstD d m QT) : wTst wa env M QT := h
theorem z_tb (h : QT k M) : tstD (.bl k) M QT := h
theorem z_tru (h : wa env M fun d m => truD d m fun k => QT k m) : wTru wa env M QT := h
theorem z_tand (h : wt env M fun k m => if k = true then wu env m QT else QT false m) : wtAnd wt wu env M QT := h
theorem z_tor (h : wt env M fun k m => if k = true then QT true m else wu env m QT) : wtOr wt wu env M QT := h
theorem z_tnot (h : wt env M fun k m => QT (!k) m) : wtNot wt env M QT := h
theorem z_yes (h : QT true M) : wYes env M QT := h
variable {Qb : Bool → Prop}
theorem z_trb (h : Qb k) : truD (.bl k) M Qb := h
theorem z_tri (h : Qb (i != 0)) : truD (.int i) M Qb := h
theorem z_trn (h : Qb false) : truD .non M Qb := h
theorem z_trt (h : Qb (!ds.isEmpty)) : truD (.tup ds) M Qb := h
theorem z_trl {a : Addr} (e : M a = some (.lst ds)) (h : Qb (!ds.isEmpty)) : truD (.ref a) M Qb := by
  unfold truD; dsimp only; rw [e]; exact h
theorem z_T (h : A) : if true = true then A else B := h
theorem z_F (h : B) : if false = true then A else B := h
theorem z_NF (h : A) : if (!false) = true then A else B := h
theorem z_NT (h : B) : if (!true) = true then A else B := h
theorem z_ite (h1 : k = true → A) (h2 : k = false → B) : if k = true then A else B := by
  cases k
  · exact h2 rfl
  · exact h1 rfl
theorem z_iteN (h1 : k = false → A) (h2 : k = true → B) : if (!k) = true then A else B := by
  cases k
  · exact h1 rfl
  · exact h2 rfl
theorem z_dec {p : Prop} [Decidable p] (h1 : p → A) (h2 : ¬p → B) : if decide p = true then A else B := by
  by_cases h : p
  · rw [decide_eq_true h]; exact h1 h
  · rw [decide_eq_false h]; exact h2 h
theorem z_decN {p : Prop} [Decidable p] (h1 : ¬p → A) (h2 : p → B) : if (!decide p) = true then A else B := by
  by_cases h : p
  · rw [decide_eq_true h]; exact h2 h
  · rw [decide_eq_false h]; exact h1 h
theorem z_yes' (hk : k = true) (h : A) : if k = true then A else B := by rw [hk]; exact h
theorem z_no' (hk : k = false) (h : B) : if k = true then A else B := by rw [hk]; exact h
/-! operations on known values -/
variable {s t : Str}
theorem z_eqi (h : Q (.bl (decide (i = j))) M) : cEq (.int i) (.int j) M Q := (eq_int (Q := fun k => Q (.bl k) M)).mpr h
theorem z_eqs (h : Q (.bl (decide (s = t))) M) : cEq (.str s) (.str t) M Q := (eq_str (Q := fun k => Q (.bl k) M)).mpr h
theorem z_nei (h : Q (.bl (!decide (i = j))) M) : cNe (.int i) (.int j) M Q := (eq_int (Q := fun k => Q (.bl (!k)) M)).mpr h
theorem z_nes (h : Q (.bl (!decide (s = t))) M) : cNe (.str s) (.str t) M Q := (eq_str (Q := fun k => Q (.bl (!k)) M)).mpr h
theorem z_le (h : Q (.bl (decide (i ≤ j))) M) : cLe (.int i) (.int j) M Q := h
theorem z_lt (h : Q (.bl (decide (i < j))) M) : cLt (.int i) (.int j) M Q := h
theorem z_gtt (h : Q (.bl (decide (j < i))) M) : cGt (.int i) (.int j) M Q := h
theorem z_ge (h : Q (.bl (decide (j ≤ i))) M) : cGe (.int i) (.int j) M Q := h
theorem z_lts (h : Q (.bl (decide (s.cps.toList < t.cps.toList))) M) : cLt (.str s) (.str t) M Q := h
theorem z_add (h : Q (.int (i + j)) M) : bAdd (.int i) (.int j) M Q := h
theorem z_adds (hz : s.length + t.length ≤ sizeLine) (h : Q (.str (s ++ t)) M) : bAdd (.str s) (.str t) M Q := ⟨hz, h⟩
theorem z_addt (hz : ds.length + es.length ≤ sizeLine) (h : Q (.tup (ds ++ es)) M) : bAdd (.tup ds) (.tup es) M Q := ⟨hz, h⟩
theorem z_addl {a b : Addr} (e1 : M a = some (.lst ds)) (e2 : M b = some (.lst es)) (hz : ds.length + es.length ≤ sizeLine) (h : New M (.lst (ds ++ es)) fun p m2 => Q (.ref p) m2) : bAdd (.ref a) (.ref b) M Q := ⟨ds, es, e1, e2, hz, h⟩
theorem z_sub (h : Q (.int (i - j)) M) : bSub (.int i) (.int j) M Q := ⟨trivial, h⟩
theorem z_mul (hc : CMulW i j) (h : Q (.int (i * j)) M) : bMul (.int i) (.int j) M Q := ⟨hc, h⟩
theorem z_mod (hc : 0 < j) (h : Q (.int (i % j)) M) : bMod (.int i) (.int j) M Q := ⟨hc, h⟩
theorem z_div (hc : CDivW i j) (h : Q (.int (i / j)) M) : bDiv (.int i) (.int j) M Q := ⟨hc, h⟩
theorem z_pow (hc : CPow i j) (h : Q (.int (i ^ j.toNat)) M) : bPow (.int i) (.int j) M Q := ⟨hc, h⟩
theorem p15 : (10 : Int) ^ (15 : Int).toNat = 1000000000000000 := by decide
theorem p30 : (10 : Int) ^ (30 : Int).toNat = 1000000000000000000000000000000 := by decide
theorem p18 : (10 : Int) ^ (18 : Int).toNat = 1000000000000000000 := by decide
theorem z_p15 (h : Q (.int 1000000000000000) M) : bPow (.int 10) (.int 15) M Q := ⟨⟨by decide, by decide, by decide⟩, by show Q (.int ((10 : Int) ^ (15 : Int).toNat)) M; rw [p15]; exact h⟩
theorem z_p30 (h : Q (.int 1000000000000000000000000000000) M) : bPow (.int 10) (.int 30) M Q := ⟨⟨by decide, by decide, by decide⟩, by show Q (.int ((10 : Int) ^ (30 : Int).toNat)) M; rw [p30]; exact h⟩
theorem z_p18 (h : Q (.int 1000000000000000000) M) : bPow (.int 10) (.int 18) M Q := ⟨⟨by decide, by decide, by decide⟩, by show Q (.int ((10 : Int) ^ (18 : Int).toNat)) M; rw [p18]; exact h⟩
theorem z_neg (h : Q (.int (-i)) M) : bNeg (.int i) M Q := h
theorem z_ix {n : Int} (e : L2.atI ds n = some d) (h : Q d M) : bIx (.tup ds) (.int n) M Q := by rw [bIx_tup]; exact ⟨d, e, h⟩
theorem z_ix0 (h : Q d M) : bIx (.tup (d :: ds)) (.int 0) M Q := z_ix (by rw [atI_0]) h
theorem z_ix1 (h : Q x M) : bIx (.tup (d :: x :: ds)) (.int 1) M Q := z_ix (by rw [atI_1]) h
theorem atI_2 {α : Type} {x y z : α} {xs : List α} : L2.atI (x :: y :: z :: xs) 2 = some z := by
  have := L2.atI_nat (xs := x :: y :: z :: xs) (j := 2) (v := z) rfl
  simpa using this
theorem atI_3 {α : Type} {w x y z : α} {xs : List α} : L2.atI (w :: x :: y :: z :: xs) 3 = some z := by
  have := L2.atI_nat (xs := w :: x :: y :: z :: xs) (j := 3) (v := z) rfl
  simpa using this
theorem z_ix2 (h : Q y M) : bIx (.tup (d :: x :: y :: ds)) (.int 2) M Q := z_ix (by rw [atI_2]) h
theorem z_ix3 (h : Q z M) : bIx (.tup (d :: x :: y :: z :: ds)) (.int 3) M Q := z_ix (by rw [atI_3]) h
theorem z_ixl {a : Addr} {n : Int} (e1 : M a = some (.lst ds)) (e : L2.atI ds n = some d) (h : Q d M) : bIx (.ref a) (.int n) M Q := by rw [bIx_ref e1]; exact ⟨d, e, h⟩
theorem z_lent (h : Q (.int ds.length) M) : fLen [.tup ds] M Q := h
theorem z_lens (hz : s.length ≤ sizeLine) (h : Q (.int s.length) M) : fLen [.str s] M Q := ⟨hz, h⟩
theorem z_sNP (h : Q (.tup (cutL ds none (some i))) M) : slR (.tup ds) none (some i) M Q := h
theorem z_slt {lo hi : Option Int} (h : Q (.tup (cutL ds lo hi)) M) : slR (.tup ds) lo hi M Q := h
theorem z_inb (h : Q (.int (if k = true then 1 else 0)) M) : fInt [.bl k] M Q := h
theorem z_min (h : Q (.int (if j < i then j else i)) M) : fMin2 [.int i, .int j] M Q := h
theorem z_max (h : Q (.int (if j > i then j else i)) M) : fMax2 [.int i, .int j] M Q := h
theorem z_list0 (h : New M (.lst ds) fun p m2 => Q (.ref p) m2) : fList [.tup ds] M Q := ⟨ds, rfl, h⟩
/-- a def -/
theorem z_d11 {x0 : D} {f : WS} (h : f ⟨fun _ m => Q .non m, Q, fun _ _ => False, fun _ _ => False⟩ [some x0] M) : wDef 1 1 f [x0] M Q := ⟨rfl, h⟩
end
theorem z_d00 {M : Mp} {Q : DQ} {f : WS} (h : f ⟨fun _ m => Q .non m, Q, fun _ _ => False, fun _ _ => False⟩ [] M) : wDef 0 0 f [] M Q := ⟨rfl, h⟩
theorem z_d10 {M : Mp} {Q : DQ} {f : WS} (h : f ⟨fun _ m => Q .non m, Q, fun _ _ => False, fun _ _ => False⟩ [none] M) : wDef 1 0 f [] M Q := ⟨rfl, h⟩
theorem z_d20 {M : Mp} {Q : DQ} {f : WS} (h : f ⟨fun _ m => Q .non m, Q, fun _ _ => False, fun _ _ => False⟩ [none, none] M) : wDef 2 0 f [] M Q := ⟨rfl, h⟩
theorem z_d30 {M : Mp} {Q : DQ} {f : WS} (h : f ⟨fun _ m => Q .non m, Q, fun _ _ => False, fun _ _ => False⟩ [none, none, none] M) : wDef 3 0 f [] M Q := ⟨rfl, h⟩
theorem z_d40 {M : Mp} {Q : DQ} {f : WS} (h : f ⟨fun _ m => Q .non m, Q, fun _ _ => False, fun _ _ => False⟩ [none, none, none, none] M) : wDef 4 0 f [] M Q := ⟨rfl, h⟩
theorem z_d50 {M : Mp} {Q : DQ} {f : WS} (h : f ⟨fun _ m => Q .non m, Q, fun _ _ => False, fun _ _ => False⟩ [none, none, none, none, none] M) : wDef 5 0 f [] M Q := ⟨rfl, h⟩
theorem z_d60 {M : Mp} {Q : DQ} {f : WS} (h : f ⟨fun _ m => Q .non m, Q, fun _ _ => False, fun _ _ => False⟩ [none, none, none, none, none, none] M) : wDef 6 0 f [] M Q := ⟨rfl, h⟩
theorem z_d70 {M : Mp} {Q : DQ} {f : WS} (h : f ⟨fun _ m => Q .non m, Q, fun _ _ => False, fun _ _ => False⟩ [none, none, none, none, none, none, none] M) : wDef 7 0 f [] M Q := ⟨rfl, h⟩
theorem z_d80 {M : Mp} {Q : DQ} {f : WS} (h : f ⟨fun _ m => Q .non m, Q, fun _ _ => False, fun _ _ => False⟩ [none, none, none, none, none, none, none, none] M) : wDef 8 0 f [] M Q := ⟨rfl, h⟩
theorem z_d90 {M : Mp} {Q : DQ} {f : WS} (h : f ⟨fun _ m => Q .non m, Q, fun _ _ => False, fun _ _ => False⟩ [none, none, none, none, none, none, none, none, none] M) : wDef 9 0 f [] M Q := ⟨rfl, h⟩
theorem z_d100 {M : Mp} {Q : DQ} {f : WS} (h : f ⟨fun _ m => Q .non m, Q, fun _ _ => False, fun _ _ => False⟩ [none, none, none, none, none, none, none, none, none, none] M) : wDef 10 0 f [] M Q := ⟨rfl, h⟩
theorem z_d110 {M : Mp} {Q : DQ} {f : WS} (h : f ⟨fun _ m => Q .non m, Q, fun _ _ => False, fun _ _ => False⟩ [none, none, none, none, none, none, none, none, none, none, none] M) : wDef 11 0 f [] M Q := ⟨rfl, h⟩
theorem z_d120 {M : Mp} {Q : DQ} {f : WS} (h : f ⟨fun _ m => Q .non m, Q, fun _ _ => False, fun _ _ => False⟩ [none, none, none, none, none, none, none, none, none, none, none, none] M) : wDef 12 0 f [] M Q := ⟨rfl, h⟩
theorem z_d21 {M : Mp} {Q : DQ} {x0 : D} {f : WS} (h : f ⟨fun _ m => Q .non m, Q, fun _ _ => False, fun _ _ => False⟩ [some x0, none] M) : wDef 2 1 f [x0] M Q := ⟨rfl, h⟩
theorem z_d31 {M : Mp} {Q : DQ} {x0 : D} {f : WS} (h : f ⟨fun _ m => Q .non m, Q, fun _ _ => False, fun _ _ => False⟩ [some x0, none, none] M) : wDef 3 1 f [x0] M Q := ⟨rfl, h⟩
theorem z_d41 {M : Mp} {Q : DQ} {x0 : D} {f : WS} (h : f ⟨fun _ m => Q .non m, Q, fun _ _ => False, fun _ _ => False⟩ [some x0, none, none, none] M) : wDef 4 1 f [x0] M Q := ⟨rfl, h⟩
theorem z_d51 {M : Mp} {Q : DQ} {x0 : D} {f : WS} (h : f ⟨fun _ m => Q .non m, Q, fun _ _ => False, fun _ _ => False⟩ [some x0, none, none, none, none] M) : wDef 5 1 f [x0] M Q := ⟨rfl, h⟩
theorem z_d61 {M : Mp} {Q : DQ} {x0 : D} {f : WS} (h : f ⟨fun _ m => Q .non m, Q, fun _ _ => False, fun _ _ => False⟩ [some x0, none, none, none, none, none] M) : wDef 6 1 f [x0] M Q := ⟨rfl, h⟩
theorem z_d71 {M : Mp} {Q : DQ} {x0 : D} {f : WS} (h : f ⟨fun _ m => Q .non m, Q, fun _ _ => False, fun _ _ => False⟩ [some x0, none, none, none, none, none, none] M) : wDef 7 1 f [x0] M Q := ⟨rfl, h⟩
theorem z_d81 {M : Mp} {Q : DQ} {x0 : D} {f : WS} (h : f ⟨fun _ m => Q .non m, Q, fun _ _ => False, fun _ _ => False⟩ [some x0, none, none, none, none, none, none, none] M) : wDef 8 1 f [x0] M Q := ⟨rfl, h⟩
theorem z_d91 {M : Mp} {Q : DQ} {x0 : D} {f : WS} (h : f ⟨fun _ m => Q .non m, Q, fun _ _ => False, fun _ _ => False⟩ [some x0, none, none, none, none, none, none, none, none] M) : wDef 9 1 f [x0] M Q := ⟨rfl, h⟩
theorem z_d101 {M : Mp} {Q : DQ} {x0 : D} {f : WS} (h : f ⟨fun _ m => Q .non m, Q, fun _ _ => False, fun _ _ => False⟩ [some x0, none, none, none, none, none, none, none, none, none] M) : wDef 10 1 f [x0] M Q := ⟨rfl, h⟩
theorem z_d111 {M : Mp} {Q : DQ} {x0 : D} {f : WS} (h : f ⟨fun _ m => Q .non m, Q, fun _ _ => False, fun _ _ => False⟩ [some x0, none, none, none, none, none, none, none, none, none, none] M) : wDef 11 1 f [x0] M Q := ⟨rfl, h⟩
theorem z_d121 {M : Mp} {Q : DQ} {x0 : D} {f : WS} (h : f ⟨fun _ m => Q .non m, Q, fun _ _ => False, fun _ _ => False⟩ [some x0, none, none, none, none, none, none, none, none, none, none, none] M) : wDef 12 1 f [x0] M Q := ⟨rfl, h⟩
theorem z_d22 {M : Mp} {Q : DQ} {x0 x1 : D} {f : WS} (h : f ⟨fun _ m => Q .non m, Q, fun _ _ => False, fun _ _ => False⟩ [some x0, some x1] M) : wDef 2 2 f [x0, x1] M Q := ⟨rfl, h⟩
theorem z_d32 {M : Mp} {Q : DQ} {x0 x1 : D} {f : WS} (h : f ⟨fun _ m => Q .non m, Q, fun _ _ => False, fun _ _ => False⟩ [some x0, some x1, none] M) : wDef 3 2 f [x0, x1] M Q := ⟨rfl, h⟩
theorem z_d42 {M : Mp} {Q : DQ} {x0 x1 : D} {f : WS} (h : f ⟨fun _ m => Q .non m, Q, fun _ _ => False, fun _ _ => False⟩ [some x0, some x1, none, none] M) : wDef 4 2 f [x0, x1] M Q := ⟨rfl, h⟩
theorem z_d52 {M : Mp} {Q : DQ} {x0 x1 : D} {f : WS} (h : f ⟨fun _ m => Q .non m, Q, fun _ _ => False, fun _ _ => False⟩ [some x0, some x1, none, none, none] M) : wDef 5 2 f [x0, x1] M Q := ⟨rfl, h⟩
theorem z_d62 {M : Mp} {Q : DQ} {x0 x1 : D} {f : WS} (h : f ⟨fun _ m => Q .non m, Q, fun _ _ => False, fun _ _ => False⟩ [some x0, some x1, none, none, none, none] M) : wDef 6 2 f [x0, x1] M Q := ⟨rfl, h⟩
theorem z_d72 {M : Mp} {Q : DQ} {x0 x1 : D} {f : WS} (h : f ⟨fun _ m => Q .non m, Q, fun _ _ => False, fun _ _ => False⟩ [some x0, some x1, none, none, none, none, none] M) : wDef 7 2 f [x0, x1] M Q := ⟨rfl, h⟩
theorem z_d82 {M : Mp} {Q : DQ} {x0 x1 : D} {f : WS} (h : f ⟨fun _ m => Q .non m, Q, fun _ _ => False, fun _ _ => False⟩ [some x0, some x1, none, none, none, none, none, none] M) : wDef 8 2 f [x0, x1] M Q := ⟨rfl, h⟩
theorem z_d92 {M : Mp} {Q : DQ} {x0 x1 : D} {f : WS} (h : f ⟨fun _ m => Q .non m, Q, fun _ _ => False, fun _ _ => False⟩ [some x0, some x1, none, none, none, none, none, none, none] M) : wDef 9 2 f [x0, x1] M Q := ⟨rfl, h⟩
theorem z_d102 {M : Mp} {Q : DQ} {x0 x1 : D} {f : WS} (h : f ⟨fun _ m => Q .non m, Q, fun _ _ => False, fun _ _ => False⟩ [some x0, some x1, none, none, none, none, none, none, none, none] M) : wDef 10 2 f [x0, x1] M Q := ⟨rfl, h⟩
theorem z_d112 {M : Mp} {Q : DQ} {x0 x1 : D} {f : WS} (h : f ⟨fun _ m => Q .non m, Q, fun _ _ => False, fun _ _ => False⟩ [some x0, some x1, none, none, none, none, none, none, none, none, none] M) : wDef 11 2 f [x0, x1] M Q := ⟨rfl, h⟩
theorem z_d122 {M : Mp} {Q : DQ} {x0 x1 : D} {f : WS} (h : f ⟨fun _ m => Q .non m, Q, fun _ _ => False, fun _ _ => False⟩ [some x0, some x1, none, none, none, none, none, none, none, none, none, none] M) : wDef 12 2 f [x0, x1] M Q := ⟨rfl, h⟩
theorem z_d33 {M : Mp} {Q : DQ} {x0 x1 x2 : D} {f : WS} (h : f ⟨fun _ m => Q .non m, Q, fun _ _ => False, fun _ _ => False⟩ [some x0, some x1, some x2] M) : wDef 3 3 f [x0, x1, x2] M Q := ⟨rfl, h⟩
theorem z_d43 {M : Mp} {Q : DQ} {x0 x1 x2 : D} {f : WS} (h : f ⟨fun _ m => Q .non m, Q, fun _ _ => False, fun _ _ => False⟩ [some x0, some x1, some x2, none] M) : wDef 4 3 f [x0, x1, x2] M Q := ⟨rfl, h⟩
theorem z_d53 {M : Mp} {Q : DQ} {x0 x1 x2 : D} {f : WS} (h : f ⟨fun _ m => Q .non m, Q, fun _ _ => False, fun _ _ => False⟩ [some x0, some x1, some x2, none, none] M) : wDef 5 3 f [x0, x1, x2] M Q := ⟨rfl, h⟩
theorem z_d63 {M : Mp} {Q : DQ} {x0 x1 x2 : D} {f : WS} (h : f ⟨fun _ m => Q .non m, Q, fun _ _ => False, fun _ _ => False⟩ [some x0, some x1, some x2, none, none, none] M) : wDef 6 3 f [x0, x1, x2] M Q := ⟨rfl, h⟩
theorem z_d73 {M : Mp} {Q : DQ} {x0 x1 x2 : D} {f : WS} (h : f ⟨fun _ m => Q .non m, Q, fun _ _ => False, fun _ _ => False⟩ [some x0, some x1, some x2, none, none, none, none] M) : wDef 7 3 f [x0, x1, x2] M Q := ⟨rfl, h⟩
theorem z_d83 {M : Mp} {Q : DQ} {x0 x1 x2 : D} {f : WS} (h : f ⟨fun _ m => Q .non m, Q, fun _ _ => False, fun _ _ => False⟩ [some x0, some x1, some x2, none, none, none, none, none] M) : wDef 8 3 f [x0, x1, x2] M Q := ⟨rfl, h⟩
theorem z_d93 {M : Mp} {Q : DQ} {x0 x1 x2 : D} {f : WS} (h : f ⟨fun _ m => Q .non m, Q, fun _ _ => False, fun _ _ => False⟩ [some x0, some x1, some x2, none, none, none, none, none, none] M) : wDef 9 3 f [x0, x1, x2] M Q := ⟨rfl, h⟩
theorem z_d103 {M : Mp} {Q : DQ} {x0 x1 x2 : D} {f : WS} (h : f ⟨fun _ m => Q .non m, Q, fun _ _ => False, fun _ _ => False⟩ [some x0, some x1, some x2, none, none, none, none, none, none, none] M) : wDef 10 3 f [x0, x1, x2] M Q := ⟨rfl, h⟩
theorem z_d113 {M : Mp} {Q : DQ} {x0 x1 x2 : D} {f : WS} (h : f ⟨fun _ m => Q .non m, Q, fun _ _ => False, fun _ _ => False⟩ [some x0, some x1, some x2, none, none, none, none, none, none, none, none] M) : wDef 11 3 f [x0, x1, x2] M Q := ⟨rfl, h⟩
theorem z_d123 {M : Mp} {Q : DQ} {x0 x1 x2 : D} {f : WS} (h : f ⟨fun _ m => Q .non m, Q, fun _ _ => False, fun _ _ => False⟩ [some x0, some x1, some x2, none, none, none, none, none, none, none, none, none] M) : wDef 12 3 f [x0, x1, x2] M Q := ⟨rfl, h⟩
theorem z_d44 {M : Mp} {Q : DQ} {x0 x1 x2 x3 : D} {f : WS} (h : f ⟨fun _ m => Q .non m, Q, fun _ _ => False, fun _ _ => False⟩ [some x0, some x1, some x2, some x3] M) : wDef 4 4 f [x0, x1, x2, x3] M Q := ⟨rfl, h⟩
theorem z_d54 {M : Mp} {Q : DQ} {x0 x1 x2 x3 : D} {f : WS} (h : f ⟨fun _ m => Q .non m, Q, fun _ _ => False, fun _ _ => False⟩ [some x0, some x1, some x2, some x3, none] M) : wDef 5 4 f [x0, x1, x2, x3] M Q := ⟨rfl, h⟩
theorem z_d64 {M : Mp} {Q : DQ} {x0 x1 x2 x3 : D} {f : WS} (h : f ⟨fun _ m => Q .non m, Q, fun _ _ => False, fun _ _ => False⟩ [some x0, some x1, some x2, some x3, none, none] M) : wDef 6 4 f [x0, x1, x2, x3] M Q := ⟨rfl, h⟩
theorem z_d74 {M : Mp} {Q : DQ} {x0 x1 x2 x3 : D} {f : WS} (h : f ⟨fun _ m => Q .non m, Q, fun _ _ => False, fun _ _ => False⟩ [some x0, some x1, some x2, some x3, none, none, none] M) : wDef 7 4 f [x0, x1, x2, x3] M Q := ⟨rfl, h⟩
theorem z_d84 {M : Mp} {Q : DQ} {x0 x1 x2 x3 : D} {f : WS} (h : f ⟨fun _ m => Q .non m, Q, fun _ _ => False, fun _ _ => False⟩ [some x0, some x1, some x2, some x3, none, none, none, none] M) : wDef 8 4 f [x0, x1, x2, x3] M Q := ⟨rfl, h⟩
theorem z_d94 {M : Mp} {Q : DQ} {x0 x1 x2 x3 : D} {f : WS} (h : f ⟨fun _ m => Q .non m, Q, fun _ _ => False, fun _ _ => False⟩ [some x0, some x1, some x2, some x3, none, none, none, none, none] M) : wDef 9 4 f [x0, x1, x2, x3] M Q := ⟨rfl, h⟩
theorem z_d104 {M : Mp} {Q : DQ} {x0 x1 x2 x3 : D} {f : WS} (h : f ⟨fun _ m => Q .non m, Q, fun _ _ => False, fun _ _ => False⟩ [some x0, some x1, some x2, some x3, none, none, none, none, none, none] M) : wDef 10 4 f [x0, x1, x2, x3] M Q := ⟨rfl, h⟩
theorem z_d114 {M : Mp} {Q : DQ} {x0 x1 x2 x3 : D} {f : WS} (h : f ⟨fun _ m => Q .non m, Q, fun _ _ => False, fun _ _ => False⟩ [some x0, some x1, some x2, some x3, none, none, none, none, none, none, none] M) : wDef 11 4 f [x0, x1, x2, x3] M Q := ⟨rfl, h⟩
theorem z_d124 {M : Mp} {Q : DQ} {x0 x1 x2 x3 : D} {f : WS} (h : f ⟨fun _ m => Q .non m, Q, fun _ _ => False, fun _ _ => False⟩ [some x0, some x1, some x2, some x3, none, none, none, none, none, none, none, none] M) : wDef 12 4 f [x0, x1, x2, x3] M Q := ⟨rfl, h⟩
end L2.Dl

/-! DPlain: things that look alike on every heap (numbers, truths, None, texts, tuples of such). -/
namespace L2.Dl
open PySem PySem.Spec PyProof.Rows TL
structure Pn (c k : Nat) (d : D) : Prop where
  ask : ∀ M, AskA M d
  rp : ∃ p, (∀ f, repW f d = some p) ∧ p.showable = true ∧ p.hasDict = false ∧ noList p = true ∧ p.depth ≤ k ∧ asc p = true ∧ cost p ≤ c
theorem FO.pn {d : D} (h : FO d) : Pn 500 0 d := by
  obtain ⟨p, h1, h2, h3, h4, h5, h6, h7⟩ := h.rp
  exact ⟨fun M => h.askA, p, h1, h2, h3, h4, by omega, h6, h7⟩
theorem Pn.le {c k c' k' : Nat} {d : D} (h : Pn c k d) (hc : c ≤ c') (hk : k ≤ k') : Pn c' k' d := by
  obtain ⟨p, h1, h2, h3, h4, h5, h6, h7⟩ := h.rp
  exact ⟨h.ask, p, h1, h2, h3, h4, by omega, h6, by omega⟩
theorem Pns {c k : Nat} : ∀ {ds : List D}, (∀ d ∈ ds, Pn c k d) → ∃ ps, (∀ f, repWs f ds = some ps) ∧ PyData.showableAll ps = true ∧ PyData.hasDictAll ps = false ∧ noLists ps = true ∧ PyData.depthAll ps ≤ k ∧ ascs ps = true ∧ costs ps ≤ (c + 2) * ds.length
  | [], _ => ⟨[], fun _ => rfl, rfl, rfl, rfl, Nat.zero_le _, rfl, Nat.zero_le _⟩
  | d :: ds, h => by
    obtain ⟨p, h1, h2, h3, h4, h5, h6, h7⟩ := (h d List.mem_cons_self).rp
    obtain ⟨ps, g1, g2, g3, g4, g5, g6, g7⟩ := Pns fun x hx => h x (List.mem_cons_of_mem _ hx)
    refine ⟨p :: ps, fun f => ?_, ?_, ?_, ?_, ?_, ?_, ?_⟩
    · unfold repWs; rw [h1 f, g1 f]; rfl
    · simp only [PyData.showableAll, h2, g2]; rfl
    · simp only [PyData.hasDictAll, h3, g3]; rfl
    · simp only [noLists, h4, g4]; rfl
    · simp only [PyData.depthAll]; omega
    · simp only [ascs, h6, g6]; rfl
    · simp only [costs, List.length_cons, Nat.mul_add, Nat.mul_one]; omega
theorem Pn.tup {c k n : Nat} {ds : List D} (h : ∀ d ∈ ds, Pn c k d) (hn : ds.length ≤ n) : Pn ((c + 2) * n + 3) (k + 1) (.tup ds) := by
  obtain ⟨ps, g1, g2, g3, g4, g5, g6, g7⟩ := Pns h
  refine ⟨fun M => AskAs.of fun d hd => (h d hd).ask M, .tuple ps, fun f => ?_, ?_, ?_, ?_, ?_, ?_, ?_⟩
  · simp only [repW, g1 f, Option.map_some]
  · simp only [PyData.showable, g2]
  · simp only [PyData.hasDict, g3]
  · simp only [noList, g4]
  · simp only [PyData.depth]; omega
  · simp only [asc, g6]
  · simp only [cost]
    have := Nat.mul_le_mul_left (c + 2) hn
    omega
theorem Pn.sh {s : Bool} {c k : Nat} {M : Mp} {d : D} (h : Pn c k d) : Sh s c k M d := by
  obtain ⟨p, h1, h2, h3, h4, h5, h6, h7⟩ := h.rp
  refine ⟨h.ask M, p, h1 _, h2, ?_, h5, h6, h7⟩
  cases s
  · exact h3
  · exact h4
theorem Pn.lst {c k n : Nat} {M : Mp} {a : Addr} {ds : List D} (e : M a = some (.lst ds)) (h : ∀ d ∈ ds, Pn c k d) (hn : ds.length ≤ n) : Sh false ((c + 2) * n + 3) (k + 1) M (.ref a) := by
  obtain ⟨ps, g1, g2, g3, g4, g5, g6, g7⟩ := Pns h
  refine ⟨ref_ask e (.inl ⟨_, rfl⟩), .list ps, ?_, ?_, ?_, ?_, ?_, ?_⟩
  · show repL M 8 a = _
    rw [repL_lst e, g1]; rfl
  · simp only [PyData.showable, g2]
  · show PyData.hasDict _ = false
    simp only [PyData.hasDict, g3]
  · simp only [PyData.depth]; omega
  · simp only [asc, g6]
  · simp only [cost]
    have := Nat.mul_le_mul_left (c + 2) hn
    omega
/-- what a flat thing can't be -/
theorem FO.notup {ds : List D} (h : FO (.tup ds)) : False := by
  obtain ⟨p, h1, _, _, _, h5, _⟩ := h.rp
  have := h1 fun _ => none
  simp only [repW] at this
  cases e : repWs (fun _ => none) ds with
  | none => rw [e] at this; cases this
  | some ps =>
    rw [e] at this
    cases this
    simp [PyData.depth] at h5
theorem FO.flat {d : D} (h : FO d) : flatD d = true := by
  cases d with
  | non => rfl
  | bl _ => rfl
  | int _ => rfl
  | str x =>
    obtain ⟨h1, h2⟩ := h.tx x rfl
    show x.cps.all (· < 0x110000) = true
    rw [Array.all_eq_true]
    intro i hi
    have : x.cps[i] ∈ x.cps.toList := by simp
    have := h2 _ this
    simp only [decide_eq_true_eq]; omega
  | tup ds => exact h.notup.elim
  | clst ds =>
    obtain ⟨p, h1, _⟩ := h.rp
    have := h1 fun _ => none
    unfold repW at this; cases this
  | cdic ks ds =>
    obtain ⟨t, ht⟩ := h.ty
    have := ht fun _ => none
    cases this
  | ref a =>
    obtain ⟨t, ht⟩ := h.ty
    have := ht fun _ => none
    cases this
  | ty n =>
    obtain ⟨t, ht⟩ := h.ty
    have := ht fun _ => none
    cases this
/-- two pairs of a number and a text, alike -/
theorem eq_pairs {i j : Int} {x y : Str} {M : Mp} {Q : Bool → Prop} (hx : flatD (.str x) = true) (hy : flatD (.str y) = true) (q : Q (decide (i = j) && decide (x = y))) : eqR (.tup [.int i, .str x]) (.tup [.int j, .str y]) M Q := by
  unfold eqR
  rw [if_neg (show ¬ scal (flv (.tup [.int i, .str x])) (flv (.tup [.int j, .str y])) = true from fun z => Bool.noConfusion z)]
  have hx' : PySem.PyData.strOk x = true := hx
  have hy' : PySem.PyData.strOk y = true := hy
  refine ⟨.tuple [.int i, .str x], .tuple [.int j, .str y], rfl, rfl, ?_, ?_, ?_⟩
  · simp [SeqAt.shaped, PyData.canLay0, PyData.canLayAll0, hx', PyData.depth, PyData.depthAll]
  · simp [SeqAt.shaped, PyData.canLay0, PyData.canLayAll0, hy', PyData.depth, PyData.depthAll]
  · have e : PyData.eqv (.tuple [.int i, .str x]) (.tuple [.int j, .str y]) = (decide (i = j) && decide (x = y)) := by
      simp [PyData.eqv, PyData.eqvAll, Bool.beq_eq_decide_eq]
    rw [e]; exact q
theorem z_eqp {i j : Int} {x y : Str} {M : Mp} {Q : DQ} (hx : flatD (.str x) = true) (hy : flatD (.str y) = true) (q : Q (.bl (decide (i = j) && decide (x = y))) M) : cEq (.tup [.int i, .str x]) (.tup [.int j, .str y]) M Q :=
  eq_pairs (Q := fun k => Q (.bl k) M) hx hy q
theorem z_nep {i j : Int} {x y : Str} {M : Mp} {Q : DQ} (hx : flatD (.str x) = true) (hy : flatD (.str y) = true) (q : Q (.bl (!(decide (i = j) && decide (x = y)))) M) : cNe (.tup [.int i, .str x]) (.tup [.int j, .str y]) M Q :=
  eq_pairs (Q := fun k => Q (.bl (!k)) M) hx hy q
end L2.Dl
namespace L2.Dl
open PySem PySem.Spec PyProof.Rows TL
theorem FO.num {i : Int} (h : i.natAbs < 10 ^ 38) : FO (.str (toString i : String)) := .str (Nat.le_trans (int_len (k := 38) (by decide) h) (by decide)) fun c hc => PySem.W.KSb.asc_num i c hc
theorem FO.app {x y : Str} (hx : FO (.str x)) (hy : FO (.str y)) (hl : x.length + y.length ≤ 40) : FO (.str (x ++ y)) := by
  refine .str (by rw [strLen_append]; exact hl) fun c hc => ?_
  have e : (x ++ y).cps.toList = x.cps.toList ++ y.cps.toList := by show (x.cps ++ y.cps).toList = _; simp
  rw [e] at hc
  rcases List.mem_append.mp hc with h | h
  · exact (hx.tx x rfl).2 c h
  · exact (hy.tx y rfl).2 c h
/-- a flat thing or a tuple of at most three such -/
def Plain (d : D) : Prop := FO d ∨ ∃ ds, d = .tup ds ∧ ds.length ≤ 3 ∧ ∀ x ∈ ds, FO x
theorem Plain.pn {d : D} (h : Plain d) : Pn 1509 1 d := by
  rcases h with h | ⟨ds, rfl, hl, h⟩
  · exact h.pn.le (by decide) (by decide)
  · exact (Pn.tup (c := 500) (k := 0) (n := 3) (fun d hd => (h d hd).pn) hl).le (by decide) (by decide)
theorem Plain.t0 : Plain (.tup []) := .inr ⟨_, rfl, by decide, all_nil⟩
theorem Plain.t1 {a : D} (ha : FO a) : Plain (.tup [a]) := .inr ⟨_, rfl, Nat.le_of_ble_eq_true rfl, all_cons ha all_nil⟩
theorem Plain.t2 {a b : D} (ha : FO a) (hb : FO b) : Plain (.tup [a, b]) := .inr ⟨_, rfl, Nat.le_of_ble_eq_true rfl, all_cons ha (all_cons hb all_nil)⟩
theorem Plain.t3 {a b c : D} (ha : FO a) (hb : FO b) (hc : FO c) : Plain (.tup [a, b, c]) := .inr ⟨_, rfl, Nat.le_of_ble_eq_true rfl, all_cons ha (all_cons hb (all_cons hc all_nil))⟩
theorem Sh.dict00 {s : Bool} (hs : s = true) {M : Mp} {a : Addr} (e : M a = some (.dK [])) : Sh s 1600 1 M (.ref a) := by
  subst hs
  refine ⟨ref_ask e (.inr ⟨_, rfl⟩), .dict [], ?_, rfl, rfl, by decide, rfl, by decide⟩
  show repL M 8 a = _
  rw [repL_dK e]; rfl
theorem Sh.dict11 {M : Mp} {a : Addr} {x : Str} {d : D} (e : M a = some (.dK [(.inr x, d)])) (hx : FO (.str x)) (hd : FO d) : Sh true 1600 1 M (.ref a) := by
  obtain ⟨p, h1, h2, h3, h4, h5, h6, h7⟩ := hd.rp
  obtain ⟨q, g1, g2, g3, g4, g5, g6, g7⟩ := hx.rp
  have eq : q = .str x := by
    have := g1 fun _ => none
    cases this
    rfl
  subst eq
  refine ⟨ref_ask e (.inr ⟨_, rfl⟩), .dict [(.str x, p)], ?_, ?_, ?_, ?_, ?_, ?_⟩
  · show repL M 8 a = _
    rw [repL_dK e]; simp only [List.map_cons, List.map_nil, repWs, h1, Option.map_some, List.zip_cons_cons, List.zip_nil_left, keyP]
  · simp only [PyData.showable, PyData.showableKv, h2]; rfl
  · show noList _ = true
    simp only [noList, noListKv, h4]; rfl
  · simp only [PyData.depth, PyData.depthKv, h5]; decide
  · simp only [asc, ascKv, h6] at g6 ⊢; rw [g6]; rfl
  · simp only [cost, costKv] at g7 ⊢; omega
section
variable {env : Ev} {M : Mp} {Q : DQ} {wa wb : WE} {wp : WP} {QP : List (D × D) → Mp → Prop}
theorem z_dict0 (h : New M (.dK []) fun p M2 => Q (.ref p) M2) : wDict0 env M Q := h
theorem z_dict (h : New M (.dK []) fun p M0 => wp env M0 fun ps M1 => M1 p = some (.dK []) ∧ ∃ kvs, keysOfD ps = some kvs ∧ kvs.length ≤ 15 ∧ Put M1 p (.dK (mergeD kvs)) fun M2 => Q (.ref p) M2) : wDict wp env M Q := h
theorem z_wpc (h : wa env M fun k m1 => wb env m1 fun v m2 => wp env m2 fun ps m3 => QP ((k, v) :: ps) m3) : wpCons wa wb wp env M QP := h
theorem z_wpn (h : QP [] M) : wpNil env M QP := h
theorem z_str {i : Int} (hz : i.natAbs.log2 < 1920) (h : Q (.str (toString i : String)) M) : fStr [.int i] M Q := ⟨hz, h⟩
theorem log_lt2 {n : Int} (h : n.natAbs < 2 ^ 200) : n.natAbs.log2 < 1920 :=
  Nat.lt_of_lt_of_le (PySem.Flt.log2_lt_of (k := 200) (by decide) h) (by decide)
end
end L2.Dl

/-! DMul: [a, b] * k. -/
namespace L2.Dl
open PySem PySem.Spec PyProof.Rows
theorem q_mul_intG (l : Addr) (items : Array Value) (n : Nat) (d : Option Addr) (sl : Array (Option Value)) (x : Int) (u : Tok) (hc0 : ¬(!Builtin.List.listFitsIndex x) = true)
    (hc1 : ¬items.size * x.toNat > (2 ^ 63 - 1) / 8) (hc2 : ¬Builtin.List.listTooLong (items.size * x.toNat) = true) :
    Meets (Builtin.«list.__mul__» ⟨[.ref l, .int x u], []⟩) (fun _ R s => s.heap.get? l = some { cls := .type "list", dict := d, data := .seq items n, slots := sl } ∧ R (.ok (.ret (Value.ref s.heap.objs.size))) { s with heap := s.heap.push { cls := Value.type "list", data := Data.seq (List.foldl (fun x1 x2 => x1 ++ x2) #[] (List.replicate (if items.isEmpty = true then 0 else x.toNat) items)) }, toks := s.toks }) :=
  .of_wp fun prog w A R s h => by
    obtain ⟨hp, g, d, tk, os⟩ := s; obtain ⟨hl, h⟩ := h
    have hsz := AutoListH.joined_fits hc2
    wp_walk; refine wpAny_ite_false (decide_eq_false (Nat.not_lt.mpr hsz)) ?_; wp_walk; exact ⟨_, rfl, h⟩
theorem q_rmul_intG (a : Int) (t : Tok) (l : Addr) (items : Array Value) (n : Nat) (d : Option Addr) (sl : Array (Option Value)) :
    Meets (Builtin.«int.__rmul__» ⟨[.int a t, .ref l], []⟩) (fun _ R s => s.heap.get? l = some { cls := .type "list", dict := d, data := .seq items n, slots := sl } ∧ R (.ok (.ret Value.notImplemented)) s) :=
  .of_wp fun prog w A R s h => by obtain ⟨hp, g, d, tk, os⟩ := s; obtain ⟨hl, h⟩ := h; wp_walk; exact ⟨_, rfl, h⟩
theorem vals_flat {xs : List V} {us : List Value} (h : Vals xs us) : ∀ n : Nat, Vals (List.replicate n xs).flatten (List.replicate n us).flatten
  | 0 => .nil
  | n + 1 => by
    rw [List.replicate_succ, List.replicate_succ, List.flatten_cons, List.flatten_cons]
    exact h.append (vals_flat h n)
theorem op_mul_li {X : Cx} : OpR X (binaryOp .Mult) (fun x y H Q => ∃ a xs k, x = V.ref a ∧ y = V.int k ∧ SqL X.K H a xs ∧ 0 ≤ k ∧ k ≤ 1000 ∧ xs.length ≤ 1000 ∧ ∀ p, H p = none → Q (.ref p) (upd H p (.lst (List.replicate k.toNat xs).flatten))) := by
  intro pins s σ H x y v u Q I rx ry h
  obtain ⟨a, xs, k, rfl, rfl, hs, k0, k1, hx, q⟩ := h
  obtain rfl : v = Value.ref a := rx
  obtain ⟨t, rfl⟩ := ry
  obtain ⟨its, rv, ⟨⟨cls, dd, data, sl⟩, n, ho, hc, hdn, hd⟩, hlen⟩ := I.list hs
  have hc1 : cls = Value.type "list" := hc
  have hd1 : data = Data.seq its.toArray n := hd
  subst hc1 hd1
  have hz : its.length ≤ 1000 := by rw [← rv.length]; exact hx
  have hsl := sizeLine_eq
  have hm : its.toArray.size * k.toNat ≤ 1000 * 1000 := by
    rw [List.size_toArray]
    exact Nat.mul_le_mul hz (by omega)
  have flen : (List.replicate k.toNat xs).flatten.length ≤ sizeLine := by
    rw [PyProof.Rows.lm_len_rep_flat]
    have a1 : k.toNat * xs.length ≤ 1000 * 1000 := Nat.mul_le_mul (by omega) hx
    omega
  refine wpAny_binaryOp_repeat_ref (T := "list") (U := "int") (by decide) ⟨_, ho, rfl⟩ (fun s' => typeIs_int s' k t) noFill_list_mul F.fills_int_mul F.slot_int_rmul repeat_list F.slot_int_index.lookup
    (call_meets F.slot_int_rmul (typeIs_int s k t) F.entry_int_rmul (F.args_int_rmul_2 _ _) (q_rmul_intG k t a its.toArray n dd sl)
      ⟨ho, rfl, ⟨_, ho, rfl⟩, call_meets F.slot_list_mul ⟨_, ho, rfl⟩ F.entry_list_mul (F.args_list_mul_2 _ _)
        (q_mul_intG a its.toArray n dd sl k t (by simp [Builtin.List.listFitsIndex]; omega) (by omega) (by simp only [Builtin.List.listTooLong, decide_eq_true_eq]; omega))
        ⟨ho, ?_⟩⟩)
  have e : List.foldl (fun x1 x2 => x1 ++ x2) #[] (List.replicate (if its.toArray.isEmpty = true then 0 else k.toNat) its.toArray) = (List.replicate k.toNat its).flatten.toArray := by
    cases its with
    | nil =>
      have : (List.replicate k.toNat ([] : List Value)).flatten = [] := by simp
      rw [this]; rfl
    | cons b r =>
      rw [if_neg (by simp)]
      exact size_rep (b :: r) k.toNat
  rw [e]
  exact ⟨.ref s.heap.objs.size, upd H s.heap.objs.size (.lst (List.replicate k.toNat xs).flatten), I.laid (t' := s.toks) (fun b o e => Heap.get?_push_of_some _ e) (Nat.le_refl _) ⟨flen, _, 0, vals_flat rv _, Heap.get?_push_size _ rfl⟩, rfl, q _ (I.hok.fresh (Nat.le_refl _))⟩
theorem RelDs.flat {K : PySem.W.Frag} {H : Hp} {ds : List D} {vs : List V} (h : RelDs K H ds vs) : ∀ n : Nat, RelDs K H (List.replicate n ds).flatten (List.replicate n vs).flatten
  | 0 => .nil
  | n + 1 => by
    rw [List.replicate_succ, List.replicate_succ, List.flatten_cons, List.flatten_cons]
    exact h.app (RelDs.flat h n)
def bMulL : W2 | d, e, M, Q => match d, e with
  | .ref a, .int k => ∃ xs, M a = some (.lst xs) ∧ 0 ≤ k ∧ k ≤ 1000 ∧ xs.length ≤ 1000 ∧ New M (.lst (List.replicate k.toNat xs).flatten) fun p M2 => Q (.ref p) M2
  | _, _ => False
theorem o_mulL {X : Cx} : OpD X (binaryOp .Mult) bMulL := by
  intro pins s σ H x y v u Q I rx ry ⟨d, e, M, Qd, hd, he, hm, hr, hl⟩
  match d, e, hr with
  | .ref a, .int k, ⟨xs, e1, k0, k1, hx, q⟩ =>
    obtain ⟨vs, h1, rs⟩ := hm a _ e1
    exact op_mul_li pins s σ H x y v u Q I rx ry ⟨a, vs, k, hd, he, .of h1, k0, k1, by rw [← rs.len]; exact hx, hl.newL (rs.flat _) hm q⟩
theorem z_mull {a : Addr} {k : Int} {M : Mp} {Q : DQ} {xs : List D} (e : M a = some (.lst xs)) (k0 : 0 ≤ k) (k1 : k ≤ 1000) (hx : xs.length ≤ 1000) (q : New M (.lst (List.replicate k.toNat xs).flatten) fun p M2 => Q (.ref p) M2) : bMulL (.ref a) (.int k) M Q := ⟨xs, e, k0, k1, hx, q⟩
end L2.Dl

/-! DFor: loops over known rows. -/
namespace L2.Dl
open PySem PySem.Spec PyProof.Rows
section
variable {env : Ev} {M : Mp} {Q : DQ} {wa wb : WE} {wx : WA} {ds es : List D} {R : (Mp → Prop) → List D → Mp → Prop} {A : Prop}
theorem z_its {p : D → Bool} (h : wa env M fun d m => p d = true ∧ iSeq d m fun ok ds => R ok ds m) : itS wa p env M R := h
theorem z_itl {a : Addr} {k : (Mp → Prop) → List D → Prop} (e : M a = some (.lst ds)) (h : k (fun m => m a = some (.lst ds)) ds) : isLst (.ref a) = true ∧ iSeq (.ref a) M k := ⟨rfl, ds, e, h⟩
theorem z_itt {k : (Mp → Prop) → List D → Prop} (h : k (fun _ => True) ds) : isTup (.tup ds) = true ∧ iSeq (.tup ds) M k := ⟨rfl, h⟩
theorem z_itst {x : Str} {k : (Mp → Prop) → List D → Prop} (h : k (fun _ => True) (x.cps.toList.map fun c => .str ⟨#[c]⟩)) : isStr (.str x) = true ∧ iSeq (.str x) M k := ⟨rfl, h⟩
theorem seq_ref {a : Addr} (e : M a = some (.lst ds)) : seqOf (.ref a) M = some ds := by
  unfold seqOf lstOf; dsimp only; rw [e]
theorem z_itz {d e : D} (h : wx env M fun xs m => match xs with
  | [d, e] => ∃ us vs, seqOf d m = some us ∧ seqOf e m = some vs ∧ R (fun M' => seqOf d M' = some us ∧ seqOf e M' = some vs) (zipD us vs) m
  | _ => False) : itZip wx env M R := h
def rngM (xs : List D) (k : Int → Prop) : Prop := match xs with
  | [.int j] => -(2 ^ 62) ≤ j ∧ j < 2 ^ 62 ∧ k j
  | _ => False
theorem z_rng1 (h : wx env M fun xs m => rngM xs fun j => R (fun _ => True) (rngD 0 j.toNat) m) : itRng1 wx env M R := h
theorem z_rngM {j : Int} {k : Int → Prop} (h0 : 0 ≤ j) (h1 : j ≤ 1000000) (h : k j) : rngM [.int j] k := ⟨by omega, by omega, h⟩
variable {s : Str}
theorem z_neself (h : Q (.bl false) M) : cNe (.str s) (.str s) M Q := z_nes (by rw [decide_eq_true rfl]; exact h)
theorem z_eqself (h : Q (.bl true) M) : cEq (.str s) (.str s) M Q := z_eqs (by rw [decide_eq_true rfl]; exact h)
theorem z_repr {d : D} {p : PyData} (r : Rep M d p) (q : Q (.str p.shown) M) : fRepr [d] M Q := r.ask q
theorem rep_bl {b : Bool} : Rep M (.bl b) (.bool b) := by
  refine .mk' rfl rfl (.inl rfl) (by show (0 : Nat) ≤ 60; decide) rfl (by simp [cost])
theorem z_lenc (h : Q (.int ds.length) M) : fLen [.clst ds] M Q := h
theorem z_all {l : Addr} {bs : List Bool} (e : M l = some (.lst (bs.map .bl))) (hb : bs.all id = true) (h : Q (.bl true) M) : fAll [.ref l] M Q := all_bools e (by rw [hb]; exact h)
theorem z_sls {lo hi : Option Int} (hz : s.length ≤ sizeLine) (h : Q (.str (cutS s lo hi)) M) : slR (.str s) lo hi M Q := ⟨hz, h⟩
theorem z_ap {a : Addr} {y : D} (e : M a = some (.lst ds)) (hl : ds.length ≤ 1000) (h : Put M a (.lst (ds ++ [y])) fun M2 => Q .non M2) : mAppend (.ref a) [y] M Q := ⟨ds, e, Nat.lt_of_le_of_lt hl (by decide), h⟩
end
section
variable {ok : Mp → Prop} {g : WG} {w : WS} {nx bk ct : Ev → Mp → Prop} {rt : DQ}
/-- a loop whose body goes on at each item -/
theorem run_all (P : Ev → Mp → Prop) : ∀ {items : List D} {env : Ev} {M : Mp}, P env M →
    (∀ d env M (k : Ev → Mp → Prop), d ∈ items → P env M → (∀ env' M', P env' M' → k env' M') → ok M ∧ g d env M fun env1 M1 => w ⟨k, rt, nx, k⟩ env1 M1) →
    (∀ env M, P env M → ok M ∧ nx env M) → runFor ok g w ⟨nx, rt, bk, ct⟩ items env M
  | [], env, M, h, _, fin => fin env M h
  | d :: r, env, M, h, step, fin => step d env M _ List.mem_cons_self h fun env' M' h' => run_all P h' (fun x env M k hx => step x env M k (List.mem_cons_of_mem _ hx)) fin
end
end L2.Dl

namespace L2.Dl.G
open PySem PySem.Spec PyProof.Rows
def cd_BELOW_COUNTS : D := .int 1000000000000000
def cd_BELOW_LEAVES : D := .int 1000000000000000000000000000000
def cd_FIGURES : D := .str "0123456789"
def cd_HOLDERS : D := .tup [.str "object", .str "list", .str "text"]
def cd_LETTERS : D := .str "abcdefghijklmnopqrstuvwxyz"
def cd_MOST_LETTERS : D := .int 8
def cd_MOST_SIGNS : D := .int 12
def cd_ROOT : D := .tup [.int 0, .str ""]
def cd_SIGNS : D := .str " !\"#$&'()*+,-./0123456789:;<=>?@ABCDEFGHIJKLMNOPQRSTUVWXYZ[\\]^_`abcdefghijklmnopqrstuvwxyz{|}~"
def kd_PARTS : List (Str × D) := [("put", .tup [.str "parent", .str "place", .str "what"]), ("move", .tup [.str "stamp", .str "parent", .str "place"]), ("take", .tup [.str "stamp"]), ("undo", .tup [.str "stamp"]), ("seen", .tup [.str "upto"])]
/-- is_whole -/
def W_is_whole : WC := wDef 1 1 (wRet (wAnd (wCall fIsi (wCons (wVar 0) (wCons (wC (.ty "int")) wNil))) (wNot (wCall fIsi (wCons (wVar 0) (wCons (wC (.ty "bool")) wNil))))))
/-- is_name -/
def W_is_name : WC := wDef 2 1 (wSeq (wIfS (wtOr (wtNot (wTru (wCall fIsi (wCons (wVar 0) (wCons (wC (.ty "str")) wNil))))) (wtNot (wTst (wChain cLe cLe (wC (.int 1)) (wCall fLen (wCons (wVar 0) wNil)) (wC cd_MOST_LETTERS))))) (wRet (wC (.bl false))) wNext)
  (wRet (wCall fAll (wCons (wLc (itS (wVar 0) isStr) (gN 1) wYes (wOp cIn (wVar 1) (wC cd_LETTERS)) [1]) wNil))))
/-- is_field -/
def W_is_field : WC := wDef 2 1 (wSeq (wIfS (wtOr (wtNot (wTru (wCall fIsi (wCons (wVar 0) (wCons (wC (.ty "str")) wNil))))) (wtOr (wtNot (wTst (wChain cLe cLe (wC (.int 1)) (wCall fLen (wCons (wVar 0) wNil)) (wC cd_MOST_SIGNS)))) (wTst (wOp cNotIn (wOp bIx (wVar 0) (wC (.int 0))) (wC cd_LETTERS))))) (wRet (wC (.bl false))) wNext)
  (wRet (wCall fAll (wCons (wLc (itS (wVar 0) isStr) (gN 1) wYes (wOr (wOp cIn (wVar 1) (wC cd_LETTERS)) (wOr (wOp cIn (wVar 1) (wC cd_FIGURES)) (wOp cEq (wVar 1) (wC (.str "_"))))) [1]) wNil))))
/-- is_stamp -/
def W_is_stamp : WC := wDef 3 1 (wSeq (wIfS (wtOr (wtNot (wTru (wCall fIsi (wCons (wVar 0) (wCons (wC (.ty "tuple")) wNil))))) (wTst (wOp cNe (wCall fLen (wCons (wVar 0) wNil)) (wC (.int 2))))) (wRet (wC (.bl false))) wNext)
  (wSeq (wAsg (wVar 0) (gTu 2 (gsCons (gN 1) (gsCons (gN 2) gsNil))))
  (wRet (wAnd (wCall W_is_whole (wCons (wVar 1) wNil)) (wAnd (wChain cLe cLt (wC (.int 1)) (wVar 1) (wC cd_BELOW_COUNTS)) (wCall W_is_name (wCons (wVar 2) wNil)))))))
/-- is_root -/
def W_is_root : WC := wDef 1 1 (wRet (wAnd (wCall fIsi (wCons (wVar 0) (wCons (wC (.ty "tuple")) wNil))) (wAnd (wOp cEq (wCall fLen (wCons (wVar 0) wNil)) (wC (.int 2))) (wAnd (wCall W_is_whole (wCons (wOp bIx (wVar 0) (wC (.int 0))) wNil)) (wOp cEq (wVar 0) (wC cd_ROOT))))))
/-- is_sign -/
def W_is_sign : WC := wDef 1 1 (wRet (wAnd (wCall fIsi (wCons (wVar 0) (wCons (wC (.ty "str")) wNil))) (wAnd (wOp cEq (wCall fLen (wCons (wVar 0) wNil)) (wC (.int 1))) (wOp cIn (wVar 0) (wC cd_SIGNS)))))
/-- is_leaf -/
def W_is_leaf : WC := wDef 1 1 (wSeq (wIfS (wtOr (wTst (wOp cIsN (wVar 0) (wC .non))) (wTru (wCall fIsi (wCons (wVar 0) (wCons (wC (.ty "bool")) wNil))))) (wRet (wC (.bl true))) wNext)
  (wRet (wAnd (wCall fIsi (wCons (wVar 0) (wCons (wC (.ty "int")) wNil))) (wChain cLt cLt (wUn bNeg (wC cd_BELOW_LEAVES)) (wVar 0) (wC cd_BELOW_LEAVES)))))
/-- is_what -/
def W_is_what : WC := wDef 1 1 (wSeq (wIfS (wtOr (wtNot (wTru (wCall fIsi (wCons (wVar 0) (wCons (wC (.ty "tuple")) wNil))))) (wtOr (wTst (wOp cEq (wVar 0) (wTup wNil))) (wtNot (wTru (wCall fIsi (wCons (wOp bIx (wVar 0) (wC (.int 0))) (wCons (wC (.ty "str")) wNil))))))) (wRet (wC (.bl false))) wNext)
  (wSeq (wIfS (wTst (wOp cEq (wCall fLen (wCons (wVar 0) wNil)) (wC (.int 1)))) (wRet (wOp cIn (wOp bIx (wVar 0) (wC (.int 0))) (wC cd_HOLDERS))) wNext)
  (wSeq (wIfS (wTst (wOp cGt (wCall fLen (wCons (wVar 0) wNil)) (wC (.int 2)))) (wRet (wC (.bl false))) wNext)
  (wRet (wOr (wAnd (wOp cEq (wOp bIx (wVar 0) (wC (.int 0))) (wC (.str "sign"))) (wCall W_is_sign (wCons (wOp bIx (wVar 0) (wC (.int 1))) wNil))) (wAnd (wOp cEq (wOp bIx (wVar 0) (wC (.int 0))) (wC (.str "leaf"))) (wCall W_is_leaf (wCons (wOp bIx (wVar 0) (wC (.int 1))) wNil))))))))
/-- is_earlier -/
def W_is_earlier : WC := wDef 2 2 (wRet (wAnd (wCall W_is_stamp (wCons (wVar 0) wNil)) (wOp cLt (wVar 0) (wVar 1))))
abbrev W_is_part_1 : WS := (wRet (wAnd (wCall W_is_whole (wCons (wVar 1) wNil)) (wChain cLe cLt (wC (.int 0)) (wVar 1) (wOp bIx (wVar 2) (wC (.int 0))))))
abbrev W_is_part_2 : WS := (wSeq (wIfS (wTst (wOp cEq (wVar 0) (wC (.str "what")))) (wRet (wCall W_is_what (wCons (wVar 1) wNil))) wNext)
  W_is_part_1)
abbrev W_is_part_3 : WS := (wSeq (wIfS (wTst (wOp cEq (wVar 0) (wC (.str "place")))) (wRet (wOr (wCall W_is_field (wCons (wVar 1) wNil)) (wOr (wCall W_is_root (wCons (wVar 1) wNil)) (wCall W_is_earlier (wCons (wVar 1) (wCons (wVar 2) wNil)))))) wNext)
  W_is_part_2)
abbrev W_is_part_4 : WS := (wSeq (wIfS (wTst (wOp cEq (wVar 0) (wC (.str "parent")))) (wRet (wOr (wCall W_is_root (wCons (wVar 1) wNil)) (wCall W_is_earlier (wCons (wVar 1) (wCons (wVar 2) wNil))))) wNext)
  W_is_part_3)
/-- is_part -/
def W_is_part : WC := wDef 3 3 (wSeq (wIfS (wTst (wOp cEq (wVar 0) (wC (.str "stamp")))) (wRet (wCall W_is_earlier (wCons (wVar 1) (wCons (wVar 2) wNil)))) wNext)
  W_is_part_4)
/-- are_words -/
def W_are_words : WC := wDef 7 2 (wSeq (wIfS (wtOr (wtNot (wTru (wCall fIsi (wCons (wVar 0) (wCons (wC (.ty "tuple")) wNil))))) (wtOr (wTst (wOp cEq (wVar 0) (wTup wNil))) (wtNot (wTru (wCall fIsi (wCons (wOp bIx (wVar 0) (wC (.int 0))) (wCons (wC (.ty "str")) wNil))))))) (wRet (wC (.bl false))) wNext)
  (wSeq (wAsg (wVar 0) (gStar 1 (gsCons (gN 3) (gsCons (gN 4) gsNil))))
  (wSeq (wAsg (wKGet kd_PARTS (wVar 3)) (gN 2))
  (wSeq (wIfS (wtOr (wTst (wOp cIsN (wVar 2) (wC .non))) (wTst (wOp cNe (wCall fLen (wCons (wVar 4) wNil)) (wCall fLen (wCons (wVar 2) wNil))))) (wRet (wC (.bl false))) wNext)
  (wRet (wCall fAll (wCons (wLc (itZip (wCons (wVar 2) (wCons (wVar 4) wNil))) (gTu 2 (gsCons (gN 5) (gsCons (gN 6) gsNil))) wYes (wCall W_is_part (wCons (wVar 5) (wCons (wVar 6) (wCons (wVar 1) wNil)))) [5, 6]) wNil)))))))
abbrev W_is_deed_1 : WS := (wRet (wCall W_are_words (wCons (wVar 3) (wCons (wVar 1) wNil))))
/-- is_deed -/
def W_is_deed : WC := wDef 4 1 (wSeq (wIfS (wtOr (wtNot (wTru (wCall fIsi (wCons (wVar 0) (wCons (wC (.ty "tuple")) wNil))))) (wTst (wOp cNe (wCall fLen (wCons (wVar 0) wNil)) (wC (.int 3))))) (wRet (wC (.bl false))) wNext)
  (wSeq (wAsg (wVar 0) (gTu 3 (gsCons (gN 1) (gsCons (gN 2) (gsCons (gN 3) gsNil)))))
  (wSeq (wIfS (wtOr (wtNot (wTru (wCall W_is_stamp (wCons (wVar 1) wNil)))) (wtOr (wtNot (wTru (wCall W_is_whole (wCons (wVar 2) wNil)))) (wtNot (wTst (wChain cLe cLt (wC (.int 0)) (wVar 2) (wOp bIx (wVar 1) (wC (.int 0)))))))) (wRet (wC (.bl false))) wNext)
  W_is_deed_1)))
/-- named -/
def W_named : WC := wDef 5 1 (wSeq (wAsg (wVar 0) (gTu 3 (gsCons (gN 1) (gsCons (gN 2) (gsCons (gN 3) gsNil)))))
  (wRet (wLc (itS (wSl (wVar 3) (wPart (wC (.int 1))) wNoPart) isTup) (gN 4) (wTru (wCall W_is_stamp (wCons (wVar 4) wNil))) (wVar 4) [4])))
/-- _law_pot -/
def W_L_pot : WC := wDef 3 2 (wSeq (wAsg (wC (.int 0)) (gN 2))
  (wSeq (wIfS (wTst (wOp cLt (wVar 1) (wCall fLen (wCons (wVar 0) wNil)))) (wAsg (wOp bIx (wVar 0) (wVar 1)) (gN 2)) wNext)
  (wRet (wLst (wCons (wCall fMax2 (wCons (wC (.int 0)) (wCons (wOp bSub (wCall fAbs (wCons (wVar 2) wNil)) (wOp bPow (wC (.int 10)) (wC (.int 18)))) wNil))) (wCons (wOp bAdd (wOp bAdd (wOp bMod (wCall fAbs (wCons (wVar 2) wNil)) (wC (.int 2147483587))) (wOp bMul (wC (.int 101)) (wVar 1))) (wC (.int 3))) wNil))))))
/-- _law_digit -/
def W_L_digit : WC := wDef 3 2 (wSeq (wIfS (wTst (wOp cGt (wOp bIx (wVar 0) (wC (.int 0))) (wC (.int 0)))) (wSeq (wAsg (wOp bMod (wOp bIx (wVar 0) (wC (.int 0))) (wVar 1)) (gN 2))
  (wSeq (wAsg (wOp bDiv (wOp bIx (wVar 0) (wC (.int 0))) (wVar 1)) (gSt stIx (wVar 0) (wC (.int 0))))
  (wRet (wVar 2)))) wNext)
  (wSeq (wAsg (wOp bMod (wOp bAdd (wOp bMul (wOp bIx (wVar 0) (wC (.int 1))) (wC (.int 39373))) (wC (.int 20011))) (wC (.int 2147483647))) (gSt stIx (wVar 0) (wC (.int 1))))
  (wRet (wOp bMod (wOp bDiv (wOp bMod (wOp bMul (wOp bIx (wVar 0) (wC (.int 1))) (wOp bIx (wVar 0) (wC (.int 1)))) (wC (.int 2147483563))) (wC (.int 11))) (wVar 1)))))
abbrev W_L_name_1 : WS := (wRet (wMt "str" mJoin (wC (.str "")) (wCons (wLc (itRng1 (wCons (wVar 2) wNil)) (gN 3) wYes (wOp bIx (wVar 1) (wCall W_L_digit (wCons (wVar 0) (wCons (wC (.int 26)) wNil)))) [3]) wNil)))
/-- _law_name -/
def W_L_name : WC := wDef 4 1 (wSeq (wAsg (wC (.str "abcdefghijklmnopqrstuvwxyz")) (gN 1))
  (wSeq (wAsg (wOp bAdd (wC (.int 1)) (wCall W_L_digit (wCons (wVar 0) (wCons (wOp bIx (wLst (wCons (wC (.int 1)) (wCons (wC (.int 3)) (wCons (wC (.int 8)) wNil)))) (wCall W_L_digit (wCons (wVar 0) (wCons (wC (.int 3)) wNil)))) wNil)))) (gN 2))
  W_L_name_1))
abbrev W_L_field_1 : WS := (wRet (wOp bAdd (wOp bIx (wVar 1) (wCall W_L_digit (wCons (wVar 0) (wCons (wC (.int 26)) wNil)))) (wMt "str" mJoin (wC (.str "")) (wCons (wLc (itRng1 (wCons (wVar 2) wNil)) (gN 3) wYes (wOp bIx (wVar 1) (wCall W_L_digit (wCons (wVar 0) (wCons (wC (.int 37)) wNil)))) [3]) wNil))))
/-- _law_field -/
def W_L_field : WC := wDef 4 1 (wSeq (wAsg (wC (.str "abcdefghijklmnopqrstuvwxyz0123456789_")) (gN 1))
  (wSeq (wAsg (wCall W_L_digit (wCons (wVar 0) (wCons (wOp bIx (wLst (wCons (wC (.int 1)) (wCons (wC (.int 4)) (wCons (wC (.int 12)) wNil)))) (wCall W_L_digit (wCons (wVar 0) (wCons (wC (.int 3)) wNil)))) wNil))) (gN 2))
  W_L_field_1))
abbrev W_L_count_1 : WS := (wRet (wOp bIx (wLst (wCons (wVar 1) (wCons (wVar 1) (wCons (wVar 2) (wCons (wOp bSub (wOp bSub (wOp bPow (wC (.int 10)) (wC (.int 15))) (wC (.int 1))) (wCall W_L_digit (wCons (wVar 0) (wCons (wC (.int 9)) wNil)))) wNil))))) (wCall W_L_digit (wCons (wVar 0) (wCons (wC (.int 4)) wNil)))))
/-- _law_count -/
def W_L_count : WC := wDef 3 1 (wSeq (wPar 1 2 (wCons (wOp bAdd (wC (.int 2)) (wCall W_L_digit (wCons (wVar 0) (wCons (wC (.int 40)) wNil)))) (wCons (wOp bAdd (wC (.int 2)) (wCall W_L_digit (wCons (wVar 0) (wCons (wOp bSub (wOp bPow (wC (.int 10)) (wC (.int 15))) (wC (.int 2))) wNil)))) wNil)))
  W_L_count_1)
/-- _law_numbers -/
def W_L_numbers : WC := wDef 2 1 (wSeq (wAsg (wOp bIx (wVar 0) (wC (.int 0))) (gN 1))
  (wRet (wLst (wCons (wTup (wCons (wOp bSub (wVar 1) (wC (.int 1))) (wCons (wC (.bl true)) wNil))) (wCons (wTup (wCons (wVar 1) (wCons (wC (.bl false)) wNil))) (wCons (wTup (wCons (wOp bAdd (wVar 1) (wC (.int 1))) (wCons (wC (.bl false)) wNil))) (wCons (wTup (wCons (wC (.int 0)) (wCons (wC (.bl true)) wNil))) (wCons (wTup (wCons (wUn bNeg (wC (.int 1))) (wCons (wC (.bl false)) wNil))) (wCons (wTup (wCons (wC (.bl true)) (wCons (wC (.bl false)) wNil))) (wCons (wTup (wCons (wOp bDiv (wVar 1) (wC (.int 2))) (wCons (wC (.bl true)) wNil))) wNil))))))))))
abbrev W_L_stamps_1 : WS := (wSeq (wAsg (wLst (wCons (wTup (wCons (wTup (wCons (wOp bSub (wVar 4) (wC (.int 1))) (wCons (wVar 2) wNil))) (wCons (wC (.bl true)) wNil))) (wCons (wTup (wCons (wTup (wCons (wVar 4) (wCons (wVar 5) wNil))) (wCons (wC (.bl false)) wNil))) (wCons (wTup (wCons (wTup (wCons (wOp bAdd (wVar 4) (wC (.int 1))) (wCons (wVar 2) wNil))) (wCons (wC (.bl false)) wNil))) (wCons (wTup (wCons (wTup (wCons (wVar 4) (wCons (wC (.str "a")) wNil))) (wCons (wOp cLt (wC (.str "a")) (wVar 5)) wNil))) wNil))))) (gN 3))
  (wSeq (wAsg (wOp bAdd (wVar 3) (wLst (wCons (wTup (wCons (wTup (wCons (wVar 4) (wCons (wVar 2) wNil))) (wCons (wOp cLt (wVar 2) (wVar 5)) wNil))) (wCons (wTup (wCons (wTup (wCons (wC (.int 1)) (wCons (wVar 2) wNil))) (wCons (wC (.bl true)) wNil))) (wCons (wTup (wCons (wTup (wCons (wC (.int 0)) (wCons (wVar 5) wNil))) (wCons (wC (.bl false)) wNil))) (wCons (wTup (wCons (wTup (wCons (wOp bSub (wVar 4) (wC (.int 1))) (wCons (wOp bAdd (wVar 5) (wC (.str "A"))) wNil))) (wCons (wC (.bl false)) wNil))) wNil)))))) (gN 3))
  (wSeq (wAsg (wOp bAdd (wVar 3) (wLst (wCons (wTup (wCons (wTup (wCons (wVar 4) (wCons (wSl (wOp bAdd (wVar 5) (wC (.str "a"))) wNoPart (wPart (wC (.int 8)))) wNil))) (wCons (wC (.bl false)) wNil))) (wCons (wTup (wCons (wTup (wCons (wC (.bl true)) (wCons (wVar 2) wNil))) (wCons (wC (.bl false)) wNil))) (wCons (wTup (wCons (wTup (wCons (wOp bSub (wVar 4) (wC (.int 1))) (wCons (wC (.str "")) wNil))) (wCons (wC (.bl false)) wNil))) wNil))))) (gN 3))
  (wRet (wOp bAdd (wVar 3) (wLst (wCons (wTup (wCons (wTup (wCons (wVar 4) (wCons (wSl (wVar 5) wNoPart (wPart (wUn bNeg (wC (.int 1))))) wNil))) (wCons (wOp cGt (wCall fLen (wCons (wVar 5) wNil)) (wC (.int 1))) wNil))) (wCons (wTup (wCons (wLst (wCons (wOp bSub (wVar 4) (wC (.int 1))) (wCons (wVar 2) wNil))) (wCons (wC (.bl false)) wNil))) wNil))))))))
/-- _law_stamps -/
def W_L_stamps : WC := wDef 6 2 (wSeq (wAsg (wVar 1) (gTu 2 (gsCons (gN 4) (gsCons (gN 5) gsNil))))
  (wSeq (wAsg (wCall W_L_name (wCons (wVar 0) wNil)) (gN 2))
  W_L_stamps_1))
abbrev W_L_right_1 : WS := (wRet (wOr (wNot (wVar 1)) (wOp cEq (wCall fRepr (wCons (wCall W_named (wCons (wVar 0) wNil)) wNil)) (wCall fRepr (wCons (wVar 2) wNil)))))
/-- _law_right -/
def W_L_right : WC := wDef 3 3 (wSeq (wIfS (wTst (wOp cNe (wCall fRepr (wCons (wCall W_is_deed (wCons (wVar 0) wNil)) wNil)) (wCall fRepr (wCons (wVar 1) wNil)))) (wRet (wC (.bl false))) wNext)
  W_L_right_1)
abbrev W_L_numbers_right_1 : WS := (wRet (wC (.bl true)))
abbrev W_L_numbers_right_2 : WS := (wIfS (wtNot (wTru (wCall W_L_right (wCons (wTup (wCons (wVar 0) (wCons (wC (.int 0)) (wCons (wTup (wCons (wC (.str "seen")) (wCons (wVar 1) wNil))) wNil)))) (wCons (wVar 2) (wCons (wLst wNil) wNil)))))) (wRet (wC (.bl false))) wNext)
abbrev W_L_numbers_right_3 : WS := (wSeq (wIfS (wtNot (wTru (wCall W_L_right (wCons (wTup (wCons (wVar 0) (wCons (wVar 1) (wCons (wTup (wCons (wC (.str "take")) (wCons (wTup (wCons (wC (.int 1)) (wCons (wC (.str "z")) wNil))) wNil))) wNil)))) (wCons (wVar 2) (wCons (wLst (wCons (wTup (wCons (wC (.int 1)) (wCons (wC (.str "z")) wNil))) wNil)) wNil)))))) (wRet (wC (.bl false))) wNext)
  W_L_numbers_right_2)
/-- _law_numbers_right -/
def W_L_numbers_right : WC := wDef 3 1 (wSeq (wFor (itS (wCall W_L_numbers (wCons (wVar 0) wNil)) isLst) (gTu 2 (gsCons (gN 1) (gsCons (gN 2) gsNil))) W_L_numbers_right_3)
  W_L_numbers_right_1)
abbrev W_L_stamps_right_1 : WS := (wRet (wC (.bl true)))
abbrev W_L_stamps_right_2 : WS := (wIfS (wtNot (wTru (wCall W_L_right (wCons (wTup (wCons (wVar 1) (wCons (wOp bSub (wOp bIx (wVar 1) (wC (.int 0))) (wC (.int 1))) (wCons (wVar 8) wNil)))) (wCons (wVar 4) (wCons (wVar 9) wNil)))))) (wRet (wC (.bl false))) wNext)
abbrev W_L_stamps_right_3 : WS := (wSeq (wAsg (wLst (wCons (wTup (wCons (wC (.str "take")) (wCons (wVar 3) wNil))) (wCons (wTup (wCons (wC (.str "undo")) (wCons (wVar 3) wNil))) (wCons (wTup (wCons (wC (.str "move")) (wCons (wVar 3) (wCons (wTup (wCons (wC (.int 0)) (wCons (wC (.str "")) wNil))) (wCons (wVar 2) wNil))))) (wCons (wTup (wCons (wC (.str "put")) (wCons (wVar 3) (wCons (wVar 2) (wCons (wVar 5) wNil))))) wNil))))) (gN 6))
  (wSeq (wAsg (wOp bAdd (wVar 6) (wLst (wCons (wTup (wCons (wC (.str "put")) (wCons (wTup (wCons (wC (.int 0)) (wCons (wC (.str "")) wNil))) (wCons (wVar 3) (wCons (wVar 5) wNil))))) (wCons (wTup (wCons (wC (.str "move")) (wCons (wTup (wCons (wC (.int 1)) (wCons (wC (.str "b")) wNil))) (wCons (wVar 3) (wCons (wVar 2) wNil))))) wNil)))) (gN 6))
  (wSeq (wAsg (wOp bAdd (wOp bMulL (wLst (wCons (wLst (wCons (wVar 3) wNil)) wNil)) (wC (.int 5))) (wLst (wCons (wLst (wCons (wTup (wCons (wC (.int 1)) (wCons (wC (.str "b")) wNil))) (wCons (wVar 3) wNil))) wNil))) (gN 7))
  (wSeq (wDrop (wMt "list" mAppend (wVar 6) (wCons (wTup (wCons (wC (.str "move")) (wCons (wVar 3) (wCons (wVar 3) (wCons (wVar 3) wNil))))) wNil)))
  (wSeq (wDrop (wMt "list" mAppend (wVar 7) (wCons (wOp bMulL (wLst (wCons (wVar 3) wNil)) (wC (.int 3))) wNil)))
  (wFor (itZip (wCons (wVar 6) (wCons (wVar 7) wNil))) (gTu 2 (gsCons (gN 8) (gsCons (gN 9) gsNil))) W_L_stamps_right_2))))))
abbrev W_L_stamps_right_4 : WS := (wSeq (wAsg (wOp bIx (wLst (wCons (wTup (wCons (wC (.str "list")) wNil)) (wCons (wTup (wCons (wC (.str "leaf")) (wCons (wOp bSub (wOp bPow (wC (.int 10)) (wC (.int 30))) (wC (.int 1))) wNil))) (wCons (wTup (wCons (wC (.str "leaf")) (wCons (wOp bSub (wC (.int 1)) (wOp bPow (wC (.int 10)) (wC (.int 30)))) wNil))) (wCons (wTup (wCons (wC (.str "sign")) (wCons (wC (.str "~")) wNil))) wNil))))) (wCall W_L_digit (wCons (wVar 0) (wCons (wC (.int 4)) wNil)))) (gN 5))
  W_L_stamps_right_3)
/-- _law_stamps_right -/
def W_L_stamps_right : WC := wDef 10 3 (wSeq (wFor (itS (wCall W_L_stamps (wCons (wVar 0) (wCons (wVar 1) wNil))) isLst) (gTu 2 (gsCons (gN 3) (gsCons (gN 4) gsNil))) W_L_stamps_right_4)
  W_L_stamps_right_1)
abbrev W_L_first_right_1 : WS := (wRet (wCall W_L_right (wCons (wTup (wCons (wVar 3) (wCons (wC (.int 0)) (wCons (wTup (wCons (wC (.str "put")) (wCons (wTup (wCons (wC (.int 0)) (wCons (wC (.str "")) wNil))) (wCons (wTup (wCons (wC (.int 0)) (wCons (wC (.str "")) wNil))) (wCons (wTup (wCons (wC (.str "object")) wNil)) wNil))))) wNil)))) (wCons (wC (.bl true)) (wCons (wLst wNil) wNil)))))
abbrev W_L_first_right_2 : WS := (wSeq (wAsg (wLst (wCons (wTup (wCons (wC (.str "take")) (wCons (wVar 4) wNil))) (wCons (wTup (wCons (wC (.str "undo")) (wCons (wVar 4) wNil))) (wCons (wTup (wCons (wC (.str "move")) (wCons (wVar 4) (wCons (wTup (wCons (wC (.int 0)) (wCons (wC (.str "")) wNil))) (wCons (wVar 1) wNil))))) (wCons (wTup (wCons (wC (.str "put")) (wCons (wVar 4) (wCons (wVar 1) (wCons (wTup (wCons (wC (.str "text")) wNil)) wNil))))) wNil))))) (gN 2))
  (wSeq (wDrop (wMt "list" mAppend (wVar 2) (wCons (wTup (wCons (wC (.str "put")) (wCons (wTup (wCons (wC (.int 0)) (wCons (wC (.str "")) wNil))) (wCons (wVar 4) (wCons (wTup (wCons (wC (.str "list")) wNil)) wNil))))) wNil)))
  (wSeq (wIfS (wtNot (wTru (wCall fAll (wCons (wLc (itS (wVar 2) isLst) (gN 5) wYes (wCall W_L_right (wCons (wTup (wCons (wVar 3) (wCons (wC (.int 0)) (wCons (wVar 5) wNil)))) (wCons (wOp cLt (wC (.str "a")) (wVar 0)) (wCons (wLst (wCons (wVar 4) wNil)) wNil)))) [5]) wNil)))) (wRet (wC (.bl false))) wNext)
  W_L_first_right_1)))
abbrev W_L_first_right_3 : WS := (wIfS (wtOr (wtNot (wTru (wCall W_L_right (wCons (wTup (wCons (wVar 3) (wCons (wC (.int 0)) (wCons (wVar 5) wNil)))) (wCons (wVar 6) (wCons (wVar 7) wNil)))))) (wtNot (wTru (wCall W_L_right (wCons (wTup (wCons (wVar 3) (wCons (wC (.int 1)) (wCons (wVar 5) wNil)))) (wCons (wC (.bl false)) (wCons (wLst wNil) wNil))))))) (wRet (wC (.bl false))) wNext)
/-- _law_first_right -/
def W_L_first_right : WC := wDef 8 2 (wSeq (wAsg (wTup (wCons (wTup (wCons (wC (.int 1)) (wCons (wVar 0) wNil))) (wCons (wTup (wCons (wC (.int 1)) (wCons (wC (.str "a")) wNil))) wNil))) (gTu 2 (gsCons (gN 3) (gsCons (gN 4) gsNil))))
  (wSeq (wFor (itS (wLst (wCons (wTup (wCons (wTup (wCons (wC (.str "seen")) (wCons (wC (.int 0)) wNil))) (wCons (wC (.bl true)) (wCons (wLst wNil) wNil)))) (wCons (wTup (wCons (wTup (wCons (wC (.str "seen")) (wCons (wC (.int 1)) wNil))) (wCons (wC (.bl false)) (wCons (wLst wNil) wNil)))) (wCons (wTup (wCons (wTup (wCons (wC (.str "take")) (wCons (wTup (wCons (wC (.int 0)) (wCons (wC (.str "")) wNil))) wNil))) (wCons (wC (.bl false)) (wCons (wLst wNil) wNil)))) wNil)))) isLst) (gTu 3 (gsCons (gN 5) (gsCons (gN 6) (gsCons (gN 7) gsNil)))) W_L_first_right_3)
  W_L_first_right_2))
abbrev W_law_1 : WS := (wRet (wC (.bl true)))
abbrev W_law_2 : WS := (wIfS (wtNot (wTru (wCall W_L_right (wCons (wTup (wCons (wVar 3) (wCons (wC (.int 0)) (wCons (wTup (wCons (wC (.str "put")) (wCons (wTup (wCons (wC (.int 0)) (wCons (wC (.str "")) wNil))) (wCons (wVar 4) (wCons (wTup (wCons (wC (.str "leaf")) (wCons (wVar 5) wNil))) wNil))))) wNil)))) (wCons (wVar 6) (wCons (wLst wNil) wNil)))))) (wRet (wC (.bl false))) wNext)
abbrev W_law_3 : WS := (wFor (itS (wLst (wCons (wTup (wCons (wOp bSub (wOp bPow (wC (.int 10)) (wC (.int 30))) (wC (.int 1))) (wCons (wC (.bl true)) wNil))) (wCons (wTup (wCons (wOp bPow (wC (.int 10)) (wC (.int 30))) (wCons (wC (.bl false)) wNil))) (wCons (wTup (wCons (wOp bSub (wC (.int 1)) (wOp bPow (wC (.int 10)) (wC (.int 30)))) (wCons (wC (.bl true)) wNil))) (wCons (wTup (wCons (wUn bNeg (wOp bPow (wC (.int 10)) (wC (.int 30)))) (wCons (wC (.bl false)) wNil))) wNil))))) isLst) (gTu 2 (gsCons (gN 5) (gsCons (gN 6) gsNil))) W_law_2)
abbrev W_law_4 : WS := (wSeq (wIfS (wtOr (wtNot (wTru (wCall W_L_numbers_right (wCons (wVar 3) wNil)))) (wtNot (wTru (wCall W_L_stamps_right (wCons (wVar 2) (wCons (wVar 3) (wCons (wVar 4) wNil))))))) (wRet (wC (.bl false))) wNext)
  W_law_3)
abbrev W_law_5 : WS := (wSeq (wIfS (wtNot (wTru (wCall W_L_first_right (wCons (wOp bIx (wVar 3) (wC (.int 1))) (wCons (wVar 4) wNil))))) (wRet (wC (.bl false))) wNext)
  W_law_4)
abbrev W_law_6 : WS := (wSeq (wPar 3 4 (wCons (wTup (wCons (wCall W_L_count (wCons (wVar 2) wNil)) (wCons (wCall W_L_name (wCons (wVar 2) wNil)) wNil))) (wCons (wCall W_L_field (wCons (wVar 2) wNil)) wNil)))
  W_law_5)
abbrev W_law_7 : WS := (wSeq (wAsg (wCall W_L_pot (wCons (wVar 0) (wCons (wVar 1) wNil))) (gN 2))
  W_law_6)
/-- law -/
def W_law : WC := wDef 7 1 (wSeq (wFor (itRng1 (wCons (wCall fMax2 (wCons (wC (.int 1)) (wCons (wCall fMin2 (wCons (wC (.int 10)) (wCons (wCall fLen (wCons (wVar 0) wNil)) wNil))) wNil))) wNil)) (gN 1) W_law_7)
  W_law_1)
end L2.Dl.G

namespace L2.Dl.G
open PySem PySem.Spec PyProof.Rows
def topS (i : Nat) : Stmt := PySem.Challenge.pw_heardalike_k14_whole_edges_of_deeds.main.body.getD i (.Pass ⟨0, 0, 0, 0⟩)
abbrev s_is_whole : Stmt := topS 7
abbrev s_is_name : Stmt := topS 8
abbrev s_is_field : Stmt := topS 9
abbrev s_is_stamp : Stmt := topS 10
abbrev s_is_root : Stmt := topS 11
abbrev s_is_sign : Stmt := topS 17
abbrev s_is_leaf : Stmt := topS 18
abbrev s_is_what : Stmt := topS 19
abbrev s_is_earlier : Stmt := topS 20
abbrev s_is_part : Stmt := topS 21
abbrev s_are_words : Stmt := topS 22
abbrev s_is_deed : Stmt := topS 23
abbrev s_named : Stmt := topS 24
abbrev s_L_pot : Stmt := topS 26
abbrev s_L_digit : Stmt := topS 27
abbrev s_L_name : Stmt := topS 28
abbrev s_L_field : Stmt := topS 29
abbrev s_L_count : Stmt := topS 30
abbrev s_L_numbers : Stmt := topS 31
abbrev s_L_stamps : Stmt := topS 32
abbrev s_L_right : Stmt := topS 33
abbrev s_L_numbers_right : Stmt := topS 34
abbrev s_L_stamps_right : Stmt := topS 35
abbrev s_L_first_right : Stmt := topS 36
abbrev s_law : Stmt := topS 37
structure T (w : World) (K : PySem.W.Frag) (mg : Str → Option Value) where
  is_whole : Fx K mg "is_whole" s_is_whole ["thing"]
  is_name : Fx K mg "is_name" s_is_name ["thing"]
  is_field : Fx K mg "is_field" s_is_field ["thing"]
  is_stamp : Fx K mg "is_stamp" s_is_stamp ["thing"]
  is_root : Fx K mg "is_root" s_is_root ["thing"]
  is_sign : Fx K mg "is_sign" s_is_sign ["thing"]
  is_leaf : Fx K mg "is_leaf" s_is_leaf ["thing"]
  is_what : Fx K mg "is_what" s_is_what ["thing"]
  is_earlier : Fx K mg "is_earlier" s_is_earlier ["thing", "stamp"]
  is_part : Fx K mg "is_part" s_is_part ["sort", "thing", "stamp"]
  are_words : Fx K mg "are_words" s_are_words ["thing", "stamp"]
  is_deed : Fx K mg "is_deed" s_is_deed ["thing"]
  named : Fx K mg "named" s_named ["deed"]
  L_pot : Fx K mg "_law_pot" s_L_pot ["_law_script", "_law_k"]
  L_digit : Fx K mg "_law_digit" s_L_digit ["_law_pot_here", "_law_many"]
  L_name : Fx K mg "_law_name" s_L_name ["_law_pot_here"]
  L_field : Fx K mg "_law_field" s_L_field ["_law_pot_here"]
  L_count : Fx K mg "_law_count" s_L_count ["_law_pot_here"]
  L_numbers : Fx K mg "_law_numbers" s_L_numbers ["_law_stamp"]
  L_stamps : Fx K mg "_law_stamps" s_L_stamps ["_law_pot_here", "_law_stamp"]
  L_right : Fx K mg "_law_right" s_L_right ["_law_deed", "_law_due", "_law_names"]
  L_numbers_right : Fx K mg "_law_numbers_right" s_L_numbers_right ["_law_stamp"]
  L_stamps_right : Fx K mg "_law_stamps_right" s_L_stamps_right ["_law_pot_here", "_law_stamp", "_law_field_here"]
  L_first_right : Fx K mg "_law_first_right" s_L_first_right ["_law_name_here", "_law_field_here"]
  law : Fx K mg "law" s_law ["_law_script"]
  n_abs : mg "abs" = none
  n_all : mg "all" = none
  n_bool : mg "bool" = none
  n_int : mg "int" = none
  n_isinstance : mg "isinstance" = none
  n_len : mg "len" = none
  n_max : mg "max" = none
  n_min : mg "min" = none
  n_range : mg "range" = none
  n_repr : mg "repr" = none
  n_str : mg "str" = none
  n_tuple : mg "tuple" = none
  n_zip : mg "zip" = none
  c_BELOW_COUNTS : Glo K mg "BELOW_COUNTS" cd_BELOW_COUNTS
  c_BELOW_LEAVES : Glo K mg "BELOW_LEAVES" cd_BELOW_LEAVES
  c_FIGURES : Glo K mg "FIGURES" cd_FIGURES
  c_HOLDERS : Glo K mg "HOLDERS" cd_HOLDERS
  c_LETTERS : Glo K mg "LETTERS" cd_LETTERS
  c_MOST_LETTERS : Glo K mg "MOST_LETTERS" cd_MOST_LETTERS
  c_MOST_SIGNS : Glo K mg "MOST_SIGNS" cd_MOST_SIGNS
  c_ROOT : Glo K mg "ROOT" cd_ROOT
  c_SIGNS : Glo K mg "SIGNS" cd_SIGNS
  k_PARTS : KD K w.params mg "PARTS" kd_PARTS

section
variable {P : Program} {w : World} {K : PySem.W.Frag} {mg : Str → Option Value} {base : Heap}
abbrev N_is_whole : List Str := ["thing"]
theorem sc_is_whole : FnScope ["thing"] ["thing"] (defScope s_is_whole) := ⟨rfl, rfl, rfl, by decide +kernel, rfl, by decide +kernel, by decide +kernel⟩
theorem ok_is_whole (t : T w K mg) : FnG P w K mg base 1 t.is_whole.f t.is_whole.fd ["thing"] W_is_whole := fn_g t.is_whole.F sc_is_whole fun cdv A outer s H hr =>
  (s_one (s_ret (d_and (d_callB c_isi (by rfl) t.n_isinstance (by decide +kernel) (a_cons (dv 0) (a_cons (d_bty (by rfl) t.n_int (by decide +kernel)) a_nil))) (d_one (d_not (d_callB c_isi (by rfl) t.n_isinstance (by decide +kernel) (a_cons (dv 0) (a_cons (d_bty (by rfl) t.n_bool (by decide +kernel)) a_nil))))))))
abbrev N_is_name : List Str := ["thing", "sign"]
theorem sc_is_name : FnScope ["thing", "sign"] ["thing"] (defScope s_is_name) := ⟨rfl, rfl, rfl, by decide +kernel, rfl, by decide +kernel, by decide +kernel⟩
theorem ok_is_name (t : T w K mg) : FnG P w K mg base 1 t.is_name.f t.is_name.fd ["thing"] W_is_name := fn_g t.is_name.F sc_is_name fun cdv A outer s H hr =>
  (s_cons (s_if (t_w (w_or (t_not (t_tru (d_callB c_isi (by rfl) t.n_isinstance (by decide +kernel) (a_cons (dv 0) (a_cons (d_bty (by rfl) t.n_str (by decide +kernel)) a_nil))))) (w_or1 (t_not (t_chain o_le o_le d_int (d_callB c_len (by rfl) t.n_len (by decide +kernel) (a_cons (dv 0) a_nil)) (d_glo (by rfl) t.c_MOST_LETTERS)))))) (s_one (s_ret d_bl)) s_nil)
    (s_one (s_ret (d_callB (c_all rfl) (by rfl) t.n_all (by decide +kernel) (a_cons (d_lc (own := [("sign", 1)]) rfl sc_is_name.nd (i_str (dv 0)) (blkOk_by (own := [("sign", 1)]) (N := N_is_name) (sc := defScope s_is_name) (by decide +kernel)) (fun _ _ _ _ _ => (gon 1 sc_is_name.nd)) (fun _ _ _ _ _ => ts_nil) (fun _ _ _ _ _ => (d_cmp o_in (dv 1) (d_glo (by rfl) t.c_LETTERS) (by with_unfolding_all rfl)))) a_nil)))))
abbrev N_is_field : List Str := ["thing", "sign"]
theorem sc_is_field : FnScope ["thing", "sign"] ["thing"] (defScope s_is_field) := ⟨rfl, rfl, rfl, by decide +kernel, rfl, by decide +kernel, by decide +kernel⟩
theorem ok_is_field (t : T w K mg) : FnG P w K mg base 1 t.is_field.f t.is_field.fd ["thing"] W_is_field := fn_g t.is_field.F sc_is_field fun cdv A outer s H hr =>
  (s_cons (s_if (t_w (w_or (t_not (t_tru (d_callB c_isi (by rfl) t.n_isinstance (by decide +kernel) (a_cons (dv 0) (a_cons (d_bty (by rfl) t.n_str (by decide +kernel)) a_nil))))) (w_or (t_not (t_chain o_le o_le d_int (d_callB c_len (by rfl) t.n_len (by decide +kernel) (a_cons (dv 0) a_nil)) (d_glo (by rfl) t.c_MOST_SIGNS))) (w_or1 (t_cmp o_notin (d_ix (dv 0) d_int (fun _ _ => rfl)) (d_glo (by rfl) t.c_LETTERS) (by with_unfolding_all rfl)))))) (s_one (s_ret d_bl)) s_nil)
    (s_one (s_ret (d_callB (c_all rfl) (by rfl) t.n_all (by decide +kernel) (a_cons (d_lc (own := [("sign", 1)]) rfl sc_is_field.nd (i_str (dv 0)) (blkOk_by (own := [("sign", 1)]) (N := N_is_field) (sc := defScope s_is_field) (by decide +kernel)) (fun _ _ _ _ _ => (gon 1 sc_is_field.nd)) (fun _ _ _ _ _ => ts_nil) (fun _ _ _ _ _ => (d_or (d_cmp o_in (dv 1) (d_glo (by rfl) t.c_LETTERS) (by with_unfolding_all rfl)) (d_or (d_cmp o_in (dv 1) (d_glo (by rfl) t.c_FIGURES) (by with_unfolding_all rfl)) (d_one (d_cmp (o_eq hr.1.units) (dv 1) d_str (nomark _))))))) a_nil)))))
abbrev N_is_stamp : List Str := ["thing", "count", "name"]
theorem sc_is_stamp : FnScope ["thing", "count", "name"] ["thing"] (defScope s_is_stamp) := ⟨rfl, rfl, rfl, by decide +kernel, rfl, by decide +kernel, by decide +kernel⟩
theorem ok_is_stamp (t : T w K mg) : FnG P w K mg base 2 t.is_stamp.f t.is_stamp.fd ["thing"] W_is_stamp := fn_g t.is_stamp.F sc_is_stamp fun cdv A outer s H hr =>
  (s_cons (s_if (t_w (w_or (t_not (t_tru (d_callB c_isi (by rfl) t.n_isinstance (by decide +kernel) (a_cons (dv 0) (a_cons (d_bty (by rfl) t.n_tuple (by decide +kernel)) a_nil))))) (w_or1 (t_cmp (o_ne hr.1.units) (d_callB c_len (by rfl) t.n_len (by decide +kernel) (a_cons (dv 0) a_nil)) d_int (nomark _))))) (s_one (s_ret d_bl)) s_nil)
    (s_cons (s_asg (dv 0) (g_tup rfl (gs_cons (gn 1 sc_is_stamp.nd) (gs_cons (gn 2 sc_is_stamp.nd) gs_nil))))
    (s_one (s_ret (d_and (d_call (ok_is_whole t) (hr.mono (by decide)) (by rfl) t.is_whole.g t.is_whole.F.kp t.is_whole.b (a_cons (dv 1) a_nil)) (d_and (d_chain o_le (o_lt hr.1.units) d_int (dv 1) (d_glo (by rfl) t.c_BELOW_COUNTS)) (d_one (d_call (ok_is_name t) (hr.mono (by decide)) (by rfl) t.is_name.g t.is_name.F.kp t.is_name.b (a_cons (dv 2) a_nil)))))))))
abbrev N_is_root : List Str := ["thing"]
theorem sc_is_root : FnScope ["thing"] ["thing"] (defScope s_is_root) := ⟨rfl, rfl, rfl, by decide +kernel, rfl, by decide +kernel, by decide +kernel⟩
theorem ok_is_root (t : T w K mg) : FnG P w K mg base 2 t.is_root.f t.is_root.fd ["thing"] W_is_root := fn_g t.is_root.F sc_is_root fun cdv A outer s H hr =>
  (s_one (s_ret (d_and (d_callB c_isi (by rfl) t.n_isinstance (by decide +kernel) (a_cons (dv 0) (a_cons (d_bty (by rfl) t.n_tuple (by decide +kernel)) a_nil))) (d_and (d_cmp (o_eq hr.1.units) (d_callB c_len (by rfl) t.n_len (by decide +kernel) (a_cons (dv 0) a_nil)) d_int (nomark _)) (d_and (d_call (ok_is_whole t) (hr.mono (by decide)) (by rfl) t.is_whole.g t.is_whole.F.kp t.is_whole.b (a_cons (d_ix (dv 0) d_int (fun _ _ => rfl)) a_nil)) (d_one (d_cmp (o_eq hr.1.units) (dv 0) (d_glo (by rfl) t.c_ROOT) (nomark _))))))))
abbrev N_is_sign : List Str := ["thing"]
theorem sc_is_sign : FnScope ["thing"] ["thing"] (defScope s_is_sign) := ⟨rfl, rfl, rfl, by decide +kernel, rfl, by decide +kernel, by decide +kernel⟩
theorem ok_is_sign (t : T w K mg) : FnG P w K mg base 1 t.is_sign.f t.is_sign.fd ["thing"] W_is_sign := fn_g t.is_sign.F sc_is_sign fun cdv A outer s H hr =>
  (s_one (s_ret (d_and (d_callB c_isi (by rfl) t.n_isinstance (by decide +kernel) (a_cons (dv 0) (a_cons (d_bty (by rfl) t.n_str (by decide +kernel)) a_nil))) (d_and (d_cmp (o_eq hr.1.units) (d_callB c_len (by rfl) t.n_len (by decide +kernel) (a_cons (dv 0) a_nil)) d_int (nomark _)) (d_one (d_cmp o_in (dv 0) (d_glo (by rfl) t.c_SIGNS) (by with_unfolding_all rfl)))))))
abbrev N_is_leaf : List Str := ["thing"]
theorem sc_is_leaf : FnScope ["thing"] ["thing"] (defScope s_is_leaf) := ⟨rfl, rfl, rfl, by decide +kernel, rfl, by decide +kernel, by decide +kernel⟩
theorem ok_is_leaf (t : T w K mg) : FnG P w K mg base 1 t.is_leaf.f t.is_leaf.fd ["thing"] W_is_leaf := fn_g t.is_leaf.F sc_is_leaf fun cdv A outer s H hr =>
  (s_cons (s_if (t_w (w_or (t_cmp o_isn (dv 0) d_non (nomark _)) (w_or1 (t_tru (d_callB c_isi (by rfl) t.n_isinstance (by decide +kernel) (a_cons (dv 0) (a_cons (d_bty (by rfl) t.n_bool (by decide +kernel)) a_nil))))))) (s_one (s_ret d_bl)) s_nil)
    (s_one (s_ret (d_and (d_callB c_isi (by rfl) t.n_isinstance (by decide +kernel) (a_cons (dv 0) (a_cons (d_bty (by rfl) t.n_int (by decide +kernel)) a_nil))) (d_one (d_chain (o_lt hr.1.units) (o_lt hr.1.units) (d_un o_neg (d_glo (by rfl) t.c_BELOW_LEAVES)) (dv 0) (d_glo (by rfl) t.c_BELOW_LEAVES)))))))
abbrev N_is_what : List Str := ["thing"]
theorem sc_is_what : FnScope ["thing"] ["thing"] (defScope s_is_what) := ⟨rfl, rfl, rfl, by decide +kernel, rfl, by decide +kernel, by decide +kernel⟩
theorem ok_is_what (t : T w K mg) : FnG P w K mg base 2 t.is_what.f t.is_what.fd ["thing"] W_is_what := fn_g t.is_what.F sc_is_what fun cdv A outer s H hr =>
  (s_cons (s_if (t_w (w_or (t_not (t_tru (d_callB c_isi (by rfl) t.n_isinstance (by decide +kernel) (a_cons (dv 0) (a_cons (d_bty (by rfl) t.n_tuple (by decide +kernel)) a_nil))))) (w_or (t_cmp (o_eq hr.1.units) (dv 0) (d_tup a_nil) (nomark _)) (w_or1 (t_not (t_tru (d_callB c_isi (by rfl) t.n_isinstance (by decide +kernel) (a_cons (d_ix (dv 0) d_int (fun _ _ => rfl)) (a_cons (d_bty (by rfl) t.n_str (by decide +kernel)) a_nil))))))))) (s_one (s_ret d_bl)) s_nil)
    (s_cons (s_if (t_cmp (o_eq hr.1.units) (d_callB c_len (by rfl) t.n_len (by decide +kernel) (a_cons (dv 0) a_nil)) d_int (nomark _)) (s_one (s_ret (d_cmp o_in (d_ix (dv 0) d_int (fun _ _ => rfl)) (d_glo (by rfl) t.c_HOLDERS) (by with_unfolding_all rfl)))) s_nil)
    (s_cons (s_if (t_cmp o_gt (d_callB c_len (by rfl) t.n_len (by decide +kernel) (a_cons (dv 0) a_nil)) d_int (nomark _)) (s_one (s_ret d_bl)) s_nil)
    (s_one (s_ret (d_or (d_and (d_cmp (o_eq hr.1.units) (d_ix (dv 0) d_int (fun _ _ => rfl)) d_str (nomark _)) (d_one (d_call (ok_is_sign t) (hr.mono (by decide)) (by rfl) t.is_sign.g t.is_sign.F.kp t.is_sign.b (a_cons (d_ix (dv 0) d_int (fun _ _ => rfl)) a_nil)))) (d_one (d_and (d_cmp (o_eq hr.1.units) (d_ix (dv 0) d_int (fun _ _ => rfl)) d_str (nomark _)) (d_one (d_call (ok_is_leaf t) (hr.mono (by decide)) (by rfl) t.is_leaf.g t.is_leaf.F.kp t.is_leaf.b (a_cons (d_ix (dv 0) d_int (fun _ _ => rfl)) a_nil)))))))))))
abbrev N_is_earlier : List Str := ["thing", "stamp"]
theorem sc_is_earlier : FnScope ["thing", "stamp"] ["thing", "stamp"] (defScope s_is_earlier) := ⟨rfl, rfl, rfl, by decide +kernel, rfl, by decide +kernel, by decide +kernel⟩
theorem ok_is_earlier (t : T w K mg) : FnG P w K mg base 3 t.is_earlier.f t.is_earlier.fd ["thing", "stamp"] W_is_earlier := fn_g t.is_earlier.F sc_is_earlier fun cdv A outer s H hr =>
  (s_one (s_ret (d_and (d_call (ok_is_stamp t) (hr.mono (by decide)) (by rfl) t.is_stamp.g t.is_stamp.F.kp t.is_stamp.b (a_cons (dv 0) a_nil)) (d_one (d_cmp (o_lt hr.1.units) (dv 0) (dv 1) (nomark _))))))
abbrev N_is_part : List Str := ["sort", "thing", "stamp"]
theorem sc_is_part : FnScope ["sort", "thing", "stamp"] ["sort", "thing", "stamp"] (defScope s_is_part) := ⟨rfl, rfl, rfl, by decide +kernel, rfl, by decide +kernel, by decide +kernel⟩
theorem ok_is_part (t : T w K mg) : FnG P w K mg base 4 t.is_part.f t.is_part.fd ["sort", "thing", "stamp"] W_is_part := fn_g t.is_part.F sc_is_part fun cdv A outer s H hr =>
  (s_cons (s_if (t_cmp (o_eq hr.1.units) (dv 0) d_str (nomark _)) (s_one (s_ret (d_call (ok_is_earlier t) (hr.mono (by decide)) (by rfl) t.is_earlier.g t.is_earlier.F.kp t.is_earlier.b (a_cons (dv 1) (a_cons (dv 2) a_nil))))) s_nil)
    (s_cons (s_if (t_cmp (o_eq hr.1.units) (dv 0) d_str (nomark _)) (s_one (s_ret (d_or (d_call (ok_is_root t) (hr.mono (by decide)) (by rfl) t.is_root.g t.is_root.F.kp t.is_root.b (a_cons (dv 1) a_nil)) (d_one (d_call (ok_is_earlier t) (hr.mono (by decide)) (by rfl) t.is_earlier.g t.is_earlier.F.kp t.is_earlier.b (a_cons (dv 1) (a_cons (dv 2) a_nil))))))) s_nil)
    (s_cons (s_if (t_cmp (o_eq hr.1.units) (dv 0) d_str (nomark _)) (s_one (s_ret (d_or (d_call (ok_is_field t) (hr.mono (by decide)) (by rfl) t.is_field.g t.is_field.F.kp t.is_field.b (a_cons (dv 1) a_nil)) (d_or (d_call (ok_is_root t) (hr.mono (by decide)) (by rfl) t.is_root.g t.is_root.F.kp t.is_root.b (a_cons (dv 1) a_nil)) (d_one (d_call (ok_is_earlier t) (hr.mono (by decide)) (by rfl) t.is_earlier.g t.is_earlier.F.kp t.is_earlier.b (a_cons (dv 1) (a_cons (dv 2) a_nil)))))))) s_nil)
    (s_cons (s_if (t_cmp (o_eq hr.1.units) (dv 0) d_str (nomark _)) (s_one (s_ret (d_call (ok_is_what t) (hr.mono (by decide)) (by rfl) t.is_what.g t.is_what.F.kp t.is_what.b (a_cons (dv 1) a_nil)))) s_nil)
    (s_one (s_ret (d_and (d_call (ok_is_whole t) (hr.mono (by decide)) (by rfl) t.is_whole.g t.is_whole.F.kp t.is_whole.b (a_cons (dv 1) a_nil)) (d_one (d_chain o_le (o_lt hr.1.units) d_int (dv 1) (d_ix (dv 2) d_int (fun _ _ => rfl)))))))))))
abbrev N_are_words : List Str := ["thing", "stamp", "sorts", "first", "rest", "sort", "part"]
theorem sc_are_words : FnScope ["thing", "stamp", "sorts", "first", "rest", "sort", "part"] ["thing", "stamp"] (defScope s_are_words) := ⟨rfl, rfl, rfl, by decide +kernel, rfl, by decide +kernel, by decide +kernel⟩
theorem ok_are_words (t : T w K mg) : FnG P w K mg base 5 t.are_words.f t.are_words.fd ["thing", "stamp"] W_are_words := fn_g t.are_words.F sc_are_words fun cdv A outer s H hr =>
  (s_cons (s_if (t_w (w_or (t_not (t_tru (d_callB c_isi (by rfl) t.n_isinstance (by decide +kernel) (a_cons (dv 0) (a_cons (d_bty (by rfl) t.n_tuple (by decide +kernel)) a_nil))))) (w_or (t_cmp (o_eq hr.1.units) (dv 0) (d_tup a_nil) (nomark _)) (w_or1 (t_not (t_tru (d_callB c_isi (by rfl) t.n_isinstance (by decide +kernel) (a_cons (d_ix (dv 0) d_int (fun _ _ => rfl)) (a_cons (d_bty (by rfl) t.n_str (by decide +kernel)) a_nil))))))))) (s_one (s_ret d_bl)) s_nil)
    (s_cons (s_asg (dv 0) (g_star rfl (gs_cons (gn 3 sc_are_words.nd) (gs_star (gn 4 sc_are_words.nd) gs_nil))))
    (s_cons (ss 2 sc_are_words.nd (d_kget (by rfl) t.k_PARTS (dv 3)))
    (s_cons (s_if (t_w (w_or (t_cmp o_isn (dv 2) d_non (nomark _)) (w_or1 (t_cmp (o_ne hr.1.units) (d_callB c_len (by rfl) t.n_len (by decide +kernel) (a_cons (dv 4) a_nil)) (d_callB c_len (by rfl) t.n_len (by decide +kernel) (a_cons (dv 2) a_nil)) (nomark _))))) (s_one (s_ret d_bl)) s_nil)
    (s_one (s_ret (d_callB (c_all rfl) (by rfl) t.n_all (by decide +kernel) (a_cons (d_lc (own := [("sort", 5), ("part", 6)]) rfl sc_are_words.nd (i_zip (by rfl) t.n_zip (a_cons (dv 2) (a_cons (dv 4) a_nil))) (blkOk_by (own := [("sort", 5), ("part", 6)]) (N := N_are_words) (sc := defScope s_are_words) (by decide +kernel)) (fun _ _ _ _ _ => (go_tup rfl (gos_cons (gon 5 sc_are_words.nd) (gos_cons (gon 6 sc_are_words.nd) gos_nil)))) (fun _ _ _ _ _ => ts_nil) (fun _ _ _ _ _ => (d_call (ok_is_part t) (hr.mono (by decide)) (by rfl) t.is_part.g t.is_part.F.kp t.is_part.b (a_cons (dv 5) (a_cons (dv 6) (a_cons (dv 1) a_nil)))))) a_nil))))))))
abbrev N_is_deed : List Str := ["thing", "stamp", "before", "words"]
theorem sc_is_deed : FnScope ["thing", "stamp", "before", "words"] ["thing"] (defScope s_is_deed) := ⟨rfl, rfl, rfl, by decide +kernel, rfl, by decide +kernel, by decide +kernel⟩
theorem ok_is_deed (t : T w K mg) : FnG P w K mg base 6 t.is_deed.f t.is_deed.fd ["thing"] W_is_deed := fn_g t.is_deed.F sc_is_deed fun cdv A outer s H hr =>
  (s_cons (s_if (t_w (w_or (t_not (t_tru (d_callB c_isi (by rfl) t.n_isinstance (by decide +kernel) (a_cons (dv 0) (a_cons (d_bty (by rfl) t.n_tuple (by decide +kernel)) a_nil))))) (w_or1 (t_cmp (o_ne hr.1.units) (d_callB c_len (by rfl) t.n_len (by decide +kernel) (a_cons (dv 0) a_nil)) d_int (nomark _))))) (s_one (s_ret d_bl)) s_nil)
    (s_cons (s_asg (dv 0) (g_tup rfl (gs_cons (gn 1 sc_is_deed.nd) (gs_cons (gn 2 sc_is_deed.nd) (gs_cons (gn 3 sc_is_deed.nd) gs_nil)))))
    (s_cons (s_if (t_w (w_or (t_not (t_tru (d_call (ok_is_stamp t) (hr.mono (by decide)) (by rfl) t.is_stamp.g t.is_stamp.F.kp t.is_stamp.b (a_cons (dv 1) a_nil)))) (w_or (t_not (t_tru (d_call (ok_is_whole t) (hr.mono (by decide)) (by rfl) t.is_whole.g t.is_whole.F.kp t.is_whole.b (a_cons (dv 2) a_nil)))) (w_or1 (t_not (t_chain o_le (o_lt hr.1.units) d_int (dv 2) (d_ix (dv 1) d_int (fun _ _ => rfl)))))))) (s_one (s_ret d_bl)) s_nil)
    (s_one (s_ret (d_call (ok_are_words t) (hr.mono (by decide)) (by rfl) t.are_words.g t.are_words.F.kp t.are_words.b (a_cons (dv 3) (a_cons (dv 1) a_nil))))))))
abbrev N_named : List Str := ["deed", "stamp", "before", "words", "part"]
theorem sc_named : FnScope ["deed", "stamp", "before", "words", "part"] ["deed"] (defScope s_named) := ⟨rfl, rfl, rfl, by decide +kernel, rfl, by decide +kernel, by decide +kernel⟩
theorem ok_named (t : T w K mg) : FnG P w K mg base 3 t.named.f t.named.fd ["deed"] W_named := fn_g t.named.F sc_named fun cdv A outer s H hr =>
  (s_cons (s_asg (dv 0) (g_tup rfl (gs_cons (gn 1 sc_named.nd) (gs_cons (gn 2 sc_named.nd) (gs_cons (gn 3 sc_named.nd) gs_nil)))))
    (s_one (s_ret (d_lc (own := [("part", 4)]) rfl sc_named.nd (i_tup (d_slice (dv 3) (o_some d_int) o_none)) (blkOk_by (own := [("part", 4)]) (N := N_named) (sc := defScope s_named) (by decide +kernel)) (fun _ _ _ _ _ => (gon 4 sc_named.nd)) (fun _ _ _ _ _ => (ts_one (t_tru (d_call (ok_is_stamp t) (hr.mono (by decide)) (by rfl) t.is_stamp.g t.is_stamp.F.kp t.is_stamp.b (a_cons (dv 4) a_nil))))) (fun _ _ _ _ _ => (dv 4))))))
abbrev N_L_pot : List Str := ["_law_script", "_law_k", "_law_cell"]
theorem sc_L_pot : FnScope ["_law_script", "_law_k", "_law_cell"] ["_law_script", "_law_k"] (defScope s_L_pot) := ⟨rfl, rfl, rfl, by decide +kernel, rfl, by decide +kernel, by decide +kernel⟩
theorem ok_L_pot (t : T w K mg) : FnG P w K mg base 1 t.L_pot.f t.L_pot.fd ["_law_script", "_law_k"] W_L_pot := fn_g t.L_pot.F sc_L_pot fun cdv A outer s H hr =>
  (s_cons (ss 2 sc_L_pot.nd d_int)
    (s_cons (s_if (t_cmp (o_lt hr.1.units) (dv 1) (d_callB c_len (by rfl) t.n_len (by decide +kernel) (a_cons (dv 0) a_nil)) (nomark _)) (s_one (ss 2 sc_L_pot.nd (d_ix (dv 0) (dv 1) (fun _ _ => rfl)))) s_nil)
    (s_one (s_ret (d_lst (a_cons (d_callB (c_max2 rfl) (by rfl) t.n_max (by decide +kernel) (a_cons d_int (a_cons (d_op o_sub (d_callB c_abs (by rfl) t.n_abs (by decide +kernel) (a_cons (dv 2) a_nil)) (d_op o_pow d_int d_int)) a_nil))) (a_cons (d_op o_add (d_op o_add (d_op o_mod (d_callB c_abs (by rfl) t.n_abs (by decide +kernel) (a_cons (dv 2) a_nil)) d_int) (d_op o_mul d_int (dv 1))) d_int) a_nil)))))))
abbrev N_L_digit : List Str := ["_law_pot_here", "_law_many", "_law_digit_here"]
theorem sc_L_digit : FnScope ["_law_pot_here", "_law_many", "_law_digit_here"] ["_law_pot_here", "_law_many"] (defScope s_L_digit) := ⟨rfl, rfl, rfl, by decide +kernel, rfl, by decide +kernel, by decide +kernel⟩
theorem ok_L_digit (t : T w K mg) : FnG P w K mg base 1 t.L_digit.f t.L_digit.fd ["_law_pot_here", "_law_many"] W_L_digit := fn_g t.L_digit.F sc_L_digit fun cdv A outer s H hr =>
  (s_cons (s_if (t_cmp o_gt (d_ix (dv 0) d_int (fun _ _ => rfl)) d_int (nomark _)) (s_cons (ss 2 sc_L_digit.nd (d_op o_mod (d_ix (dv 0) d_int (fun _ _ => rfl)) (dv 1)))
    (s_cons (s_asg (d_op o_div (d_ix (dv 0) d_int (fun _ _ => rfl)) (dv 1)) (g_sub (dv 0) d_int st_ix))
    (s_one (s_ret (dv 2))))) s_nil)
    (s_cons (s_asg (d_op o_mod (d_op o_add (d_op o_mul (d_ix (dv 0) d_int (fun _ _ => rfl)) d_int) d_int) d_int) (g_sub (dv 0) d_int st_ix))
    (s_one (s_ret (d_op o_mod (d_op o_div (d_op o_mod (d_op o_mul (d_ix (dv 0) d_int (fun _ _ => rfl)) (d_ix (dv 0) d_int (fun _ _ => rfl))) d_int) d_int) (dv 1))))))
abbrev N_L_name : List Str := ["_law_pot_here", "_law_letters", "_law_size", "_law_turn"]
theorem sc_L_name : FnScope ["_law_pot_here", "_law_letters", "_law_size", "_law_turn"] ["_law_pot_here"] (defScope s_L_name) := ⟨rfl, rfl, rfl, by decide +kernel, rfl, by decide +kernel, by decide +kernel⟩
theorem ok_L_name (t : T w K mg) : FnG P w K mg base 2 t.L_name.f t.L_name.fd ["_law_pot_here"] W_L_name := fn_g t.L_name.F sc_L_name fun cdv A outer s H hr =>
  (s_cons (ss 1 sc_L_name.nd d_str)
    (s_cons (ss 2 sc_L_name.nd (d_op o_add d_int (d_call (ok_L_digit t) (hr.mono (by decide)) (by rfl) t.L_digit.g t.L_digit.F.kp t.L_digit.b (a_cons (dv 0) (a_cons (d_ix (d_lst (a_cons d_int (a_cons d_int (a_cons d_int a_nil)))) (d_call (ok_L_digit t) (hr.mono (by decide)) (by rfl) t.L_digit.g t.L_digit.F.kp t.L_digit.b (a_cons (dv 0) (a_cons d_int a_nil))) (fun _ _ => rfl)) a_nil)))))
    (s_one (s_ret (d_bm PySem.F.plainAttrs_str PySem.F.slot_str_join PySem.F.type_str_join m_join d_str (a_cons (d_lc (own := [("_law_turn", 3)]) rfl sc_L_name.nd (i_rng1 (by rfl) t.n_range (a_cons (dv 2) a_nil)) (blkOk_by (own := [("_law_turn", 3)]) (N := N_L_name) (sc := defScope s_L_name) (by decide +kernel)) (fun _ _ _ _ _ => (gon 3 sc_L_name.nd)) (fun _ _ _ _ _ => ts_nil) (fun _ _ _ _ _ => (d_ix (dv 1) (d_call (ok_L_digit t) (hr.mono (by decide)) (by rfl) t.L_digit.g t.L_digit.F.kp t.L_digit.b (a_cons (dv 0) (a_cons d_int a_nil))) (fun _ _ => rfl)))) a_nil))))))
abbrev N_L_field : List Str := ["_law_pot_here", "_law_signs", "_law_size", "_law_turn"]
theorem sc_L_field : FnScope ["_law_pot_here", "_law_signs", "_law_size", "_law_turn"] ["_law_pot_here"] (defScope s_L_field) := ⟨rfl, rfl, rfl, by decide +kernel, rfl, by decide +kernel, by decide +kernel⟩
theorem ok_L_field (t : T w K mg) : FnG P w K mg base 2 t.L_field.f t.L_field.fd ["_law_pot_here"] W_L_field := fn_g t.L_field.F sc_L_field fun cdv A outer s H hr =>
  (s_cons (ss 1 sc_L_field.nd d_str)
    (s_cons (ss 2 sc_L_field.nd (d_call (ok_L_digit t) (hr.mono (by decide)) (by rfl) t.L_digit.g t.L_digit.F.kp t.L_digit.b (a_cons (dv 0) (a_cons (d_ix (d_lst (a_cons d_int (a_cons d_int (a_cons d_int a_nil)))) (d_call (ok_L_digit t) (hr.mono (by decide)) (by rfl) t.L_digit.g t.L_digit.F.kp t.L_digit.b (a_cons (dv 0) (a_cons d_int a_nil))) (fun _ _ => rfl)) a_nil))))
    (s_one (s_ret (d_op o_add (d_ix (dv 1) (d_call (ok_L_digit t) (hr.mono (by decide)) (by rfl) t.L_digit.g t.L_digit.F.kp t.L_digit.b (a_cons (dv 0) (a_cons d_int a_nil))) (fun _ _ => rfl)) (d_bm PySem.F.plainAttrs_str PySem.F.slot_str_join PySem.F.type_str_join m_join d_str (a_cons (d_lc (own := [("_law_turn", 3)]) rfl sc_L_field.nd (i_rng1 (by rfl) t.n_range (a_cons (dv 2) a_nil)) (blkOk_by (own := [("_law_turn", 3)]) (N := N_L_field) (sc := defScope s_L_field) (by decide +kernel)) (fun _ _ _ _ _ => (gon 3 sc_L_field.nd)) (fun _ _ _ _ _ => ts_nil) (fun _ _ _ _ _ => (d_ix (dv 1) (d_call (ok_L_digit t) (hr.mono (by decide)) (by rfl) t.L_digit.g t.L_digit.F.kp t.L_digit.b (a_cons (dv 0) (a_cons d_int a_nil))) (fun _ _ => rfl)))) a_nil)))))))
abbrev N_L_count : List Str := ["_law_pot_here", "_law_near", "_law_far"]
theorem sc_L_count : FnScope ["_law_pot_here", "_law_near", "_law_far"] ["_law_pot_here"] (defScope s_L_count) := ⟨rfl, rfl, rfl, by decide +kernel, rfl, by decide +kernel, by decide +kernel⟩
theorem ok_L_count (t : T w K mg) : FnG P w K mg base 2 t.L_count.f t.L_count.fd ["_law_pot_here"] W_L_count := fn_g t.L_count.F sc_L_count fun cdv A outer s H hr =>
  (s_cons (s_par (i := 1) (j := 2) rfl sc_L_count.nd rfl rfl (by decide) rfl rfl (a_cons (d_op o_add d_int (d_call (ok_L_digit t) (hr.mono (by decide)) (by rfl) t.L_digit.g t.L_digit.F.kp t.L_digit.b (a_cons (dv 0) (a_cons d_int a_nil)))) (a_cons (d_op o_add d_int (d_call (ok_L_digit t) (hr.mono (by decide)) (by rfl) t.L_digit.g t.L_digit.F.kp t.L_digit.b (a_cons (dv 0) (a_cons (d_op o_sub (d_op o_pow d_int d_int) d_int) a_nil)))) a_nil)) (by rfl))
    (s_one (s_ret (d_ix (d_lst (a_cons (dv 1) (a_cons (dv 1) (a_cons (dv 2) (a_cons (d_op o_sub (d_op o_sub (d_op o_pow d_int d_int) d_int) (d_call (ok_L_digit t) (hr.mono (by decide)) (by rfl) t.L_digit.g t.L_digit.F.kp t.L_digit.b (a_cons (dv 0) (a_cons d_int a_nil)))) a_nil))))) (d_call (ok_L_digit t) (hr.mono (by decide)) (by rfl) t.L_digit.g t.L_digit.F.kp t.L_digit.b (a_cons (dv 0) (a_cons d_int a_nil))) (fun _ _ => rfl)))))
abbrev N_L_numbers : List Str := ["_law_stamp", "_law_n"]
theorem sc_L_numbers : FnScope ["_law_stamp", "_law_n"] ["_law_stamp"] (defScope s_L_numbers) := ⟨rfl, rfl, rfl, by decide +kernel, rfl, by decide +kernel, by decide +kernel⟩
theorem ok_L_numbers (t : T w K mg) : FnG P w K mg base 1 t.L_numbers.f t.L_numbers.fd ["_law_stamp"] W_L_numbers := fn_g t.L_numbers.F sc_L_numbers fun cdv A outer s H hr =>
  (s_cons (ss 1 sc_L_numbers.nd (d_ix (dv 0) d_int (fun _ _ => rfl)))
    (s_one (s_ret (d_lst (a_cons (d_tup (a_cons (d_op o_sub (dv 1) d_int) (a_cons d_bl a_nil))) (a_cons (d_tup (a_cons (dv 1) (a_cons d_bl a_nil))) (a_cons (d_tup (a_cons (d_op o_add (dv 1) d_int) (a_cons d_bl a_nil))) (a_cons (d_tup (a_cons d_int (a_cons d_bl a_nil))) (a_cons (d_tup (a_cons (d_un o_neg d_int) (a_cons d_bl a_nil))) (a_cons (d_tup (a_cons d_bl (a_cons d_bl a_nil))) (a_cons (d_tup (a_cons (d_op o_div (dv 1) d_int) (a_cons d_bl a_nil))) a_nil)))))))))))
abbrev N_L_stamps : List Str := ["_law_pot_here", "_law_stamp", "_law_other", "_law_some", "_law_n", "_law_name_here"]
theorem sc_L_stamps : FnScope ["_law_pot_here", "_law_stamp", "_law_other", "_law_some", "_law_n", "_law_name_here"] ["_law_pot_here", "_law_stamp"] (defScope s_L_stamps) := ⟨rfl, rfl, rfl, by decide +kernel, rfl, by decide +kernel, by decide +kernel⟩
theorem ok_L_stamps (t : T w K mg) : FnG P w K mg base 3 t.L_stamps.f t.L_stamps.fd ["_law_pot_here", "_law_stamp"] W_L_stamps := fn_g t.L_stamps.F sc_L_stamps fun cdv A outer s H hr =>
  (s_cons (s_asg (dv 1) (g_tup rfl (gs_cons (gn 4 sc_L_stamps.nd) (gs_cons (gn 5 sc_L_stamps.nd) gs_nil))))
    (s_cons (ss 2 sc_L_stamps.nd (d_call (ok_L_name t) (hr.mono (by decide)) (by rfl) t.L_name.g t.L_name.F.kp t.L_name.b (a_cons (dv 0) a_nil)))
    (s_cons (ss 3 sc_L_stamps.nd (d_lst (a_cons (d_tup (a_cons (d_tup (a_cons (d_op o_sub (dv 4) d_int) (a_cons (dv 2) a_nil))) (a_cons d_bl a_nil))) (a_cons (d_tup (a_cons (d_tup (a_cons (dv 4) (a_cons (dv 5) a_nil))) (a_cons d_bl a_nil))) (a_cons (d_tup (a_cons (d_tup (a_cons (d_op o_add (dv 4) d_int) (a_cons (dv 2) a_nil))) (a_cons d_bl a_nil))) (a_cons (d_tup (a_cons (d_tup (a_cons (dv 4) (a_cons d_str a_nil))) (a_cons (d_cmp (o_lt hr.1.units) d_str (dv 5) (nomark _)) a_nil))) a_nil))))))
    (s_cons (ss 3 sc_L_stamps.nd (d_op o_add (dv 3) (d_lst (a_cons (d_tup (a_cons (d_tup (a_cons (dv 4) (a_cons (dv 2) a_nil))) (a_cons (d_cmp (o_lt hr.1.units) (dv 2) (dv 5) (nomark _)) a_nil))) (a_cons (d_tup (a_cons (d_tup (a_cons d_int (a_cons (dv 2) a_nil))) (a_cons d_bl a_nil))) (a_cons (d_tup (a_cons (d_tup (a_cons d_int (a_cons (dv 5) a_nil))) (a_cons d_bl a_nil))) (a_cons (d_tup (a_cons (d_tup (a_cons (d_op o_sub (dv 4) d_int) (a_cons (d_op o_add (dv 5) d_str) a_nil))) (a_cons d_bl a_nil))) a_nil)))))))
    (s_cons (ss 3 sc_L_stamps.nd (d_op o_add (dv 3) (d_lst (a_cons (d_tup (a_cons (d_tup (a_cons (dv 4) (a_cons (d_slice (d_op o_add (dv 5) d_str) o_none (o_some d_int)) a_nil))) (a_cons d_bl a_nil))) (a_cons (d_tup (a_cons (d_tup (a_cons d_bl (a_cons (dv 2) a_nil))) (a_cons d_bl a_nil))) (a_cons (d_tup (a_cons (d_tup (a_cons (d_op o_sub (dv 4) d_int) (a_cons d_str a_nil))) (a_cons d_bl a_nil))) a_nil))))))
    (s_one (s_ret (d_op o_add (dv 3) (d_lst (a_cons (d_tup (a_cons (d_tup (a_cons (dv 4) (a_cons (d_slice (dv 5) o_none (o_some (d_un o_neg d_int))) a_nil))) (a_cons (d_cmp o_gt (d_callB c_len (by rfl) t.n_len (by decide +kernel) (a_cons (dv 5) a_nil)) d_int (nomark _)) a_nil))) (a_cons (d_tup (a_cons (d_lst (a_cons (d_op o_sub (dv 4) d_int) (a_cons (dv 2) a_nil))) (a_cons d_bl a_nil))) a_nil)))))))))))
abbrev N_L_right : List Str := ["_law_deed", "_law_due", "_law_names"]
theorem sc_L_right : FnScope ["_law_deed", "_law_due", "_law_names"] ["_law_deed", "_law_due", "_law_names"] (defScope s_L_right) := ⟨rfl, rfl, rfl, by decide +kernel, rfl, by decide +kernel, by decide +kernel⟩
theorem ok_L_right (t : T w K mg) : FnG P w K mg base 7 t.L_right.f t.L_right.fd ["_law_deed", "_law_due", "_law_names"] W_L_right := fn_g t.L_right.F sc_L_right fun cdv A outer s H hr =>
  (s_cons (s_if (t_cmp (o_ne hr.1.units) (d_callB (c_repr hr.2 hr.1.units) (by rfl) t.n_repr (by decide +kernel) (a_cons (d_call (ok_is_deed t) (hr.mono (by decide)) (by rfl) t.is_deed.g t.is_deed.F.kp t.is_deed.b (a_cons (dv 0) a_nil)) a_nil)) (d_callB (c_repr hr.2 hr.1.units) (by rfl) t.n_repr (by decide +kernel) (a_cons (dv 1) a_nil)) (nomark _)) (s_one (s_ret d_bl)) s_nil)
    (s_one (s_ret (d_or (d_not (dv 1)) (d_one (d_cmp (o_eq hr.1.units) (d_callB (c_repr hr.2 hr.1.units) (by rfl) t.n_repr (by decide +kernel) (a_cons (d_call (ok_named t) (hr.mono (by decide)) (by rfl) t.named.g t.named.F.kp t.named.b (a_cons (dv 0) a_nil)) a_nil)) (d_callB (c_repr hr.2 hr.1.units) (by rfl) t.n_repr (by decide +kernel) (a_cons (dv 2) a_nil)) (nomark _)))))))
abbrev N_L_numbers_right : List Str := ["_law_stamp", "_law_number", "_law_due"]
theorem sc_L_numbers_right : FnScope ["_law_stamp", "_law_number", "_law_due"] ["_law_stamp"] (defScope s_L_numbers_right) := ⟨rfl, rfl, rfl, by decide +kernel, rfl, by decide +kernel, by decide +kernel⟩
theorem ok_L_numbers_right (t : T w K mg) : FnG P w K mg base 8 t.L_numbers_right.f t.L_numbers_right.fd ["_law_stamp"] W_L_numbers_right := fn_g t.L_numbers_right.F sc_L_numbers_right fun cdv A outer s H hr =>
  (s_cons (s_for PassesOwn.never rfl (i_lst (d_call (ok_L_numbers t) (hr.mono (by decide)) (by rfl) t.L_numbers.g t.L_numbers.F.kp t.L_numbers.b (a_cons (dv 0) a_nil))) (g_tup rfl (gs_cons (gn 1 sc_L_numbers_right.nd) (gs_cons (gn 2 sc_L_numbers_right.nd) gs_nil))) (s_cons (s_if (t_not (t_tru (d_call (ok_L_right t) (hr.mono (by decide)) (by rfl) t.L_right.g t.L_right.F.kp t.L_right.b (a_cons (d_tup (a_cons (dv 0) (a_cons (dv 1) (a_cons (d_tup (a_cons d_str (a_cons (d_tup (a_cons d_int (a_cons d_str a_nil))) a_nil))) a_nil)))) (a_cons (dv 2) (a_cons (d_lst (a_cons (d_tup (a_cons d_int (a_cons d_str a_nil))) a_nil)) a_nil)))))) (s_one (s_ret d_bl)) s_nil)
    (s_one (s_if (t_not (t_tru (d_call (ok_L_right t) (hr.mono (by decide)) (by rfl) t.L_right.g t.L_right.F.kp t.L_right.b (a_cons (d_tup (a_cons (dv 0) (a_cons d_int (a_cons (d_tup (a_cons d_str (a_cons (dv 1) a_nil))) a_nil)))) (a_cons (dv 2) (a_cons (d_lst a_nil) a_nil)))))) (s_one (s_ret d_bl)) s_nil))))
    (s_one (s_ret d_bl)))
abbrev N_L_stamps_right : List Str := ["_law_pot_here", "_law_stamp", "_law_field_here", "_law_other", "_law_due", "_law_what", "_law_some", "_law_names", "_law_words", "_law_told"]
theorem sc_L_stamps_right : FnScope ["_law_pot_here", "_law_stamp", "_law_field_here", "_law_other", "_law_due", "_law_what", "_law_some", "_law_names", "_law_words", "_law_told"] ["_law_pot_here", "_law_stamp", "_law_field_here"] (defScope s_L_stamps_right) := ⟨rfl, rfl, rfl, by decide +kernel, rfl, by decide +kernel, by decide +kernel⟩
theorem ok_L_stamps_right (t : T w K mg) : FnG P w K mg base 8 t.L_stamps_right.f t.L_stamps_right.fd ["_law_pot_here", "_law_stamp", "_law_field_here"] W_L_stamps_right := fn_g t.L_stamps_right.F sc_L_stamps_right fun cdv A outer s H hr =>
  (s_cons (s_for PassesOwn.never rfl (i_lst (d_call (ok_L_stamps t) (hr.mono (by decide)) (by rfl) t.L_stamps.g t.L_stamps.F.kp t.L_stamps.b (a_cons (dv 0) (a_cons (dv 1) a_nil)))) (g_tup rfl (gs_cons (gn 3 sc_L_stamps_right.nd) (gs_cons (gn 4 sc_L_stamps_right.nd) gs_nil))) (s_cons (ss 5 sc_L_stamps_right.nd (d_ix (d_lst (a_cons (d_tup (a_cons d_str a_nil)) (a_cons (d_tup (a_cons d_str (a_cons (d_op o_sub (d_op o_pow d_int d_int) d_int) a_nil))) (a_cons (d_tup (a_cons d_str (a_cons (d_op o_sub d_int (d_op o_pow d_int d_int)) a_nil))) (a_cons (d_tup (a_cons d_str (a_cons d_str a_nil))) a_nil))))) (d_call (ok_L_digit t) (hr.mono (by decide)) (by rfl) t.L_digit.g t.L_digit.F.kp t.L_digit.b (a_cons (dv 0) (a_cons d_int a_nil))) (fun _ _ => rfl)))
    (s_cons (ss 6 sc_L_stamps_right.nd (d_lst (a_cons (d_tup (a_cons d_str (a_cons (dv 3) a_nil))) (a_cons (d_tup (a_cons d_str (a_cons (dv 3) a_nil))) (a_cons (d_tup (a_cons d_str (a_cons (dv 3) (a_cons (d_tup (a_cons d_int (a_cons d_str a_nil))) (a_cons (dv 2) a_nil))))) (a_cons (d_tup (a_cons d_str (a_cons (dv 3) (a_cons (dv 2) (a_cons (dv 5) a_nil))))) a_nil))))))
    (s_cons (ss 6 sc_L_stamps_right.nd (d_op o_add (dv 6) (d_lst (a_cons (d_tup (a_cons d_str (a_cons (d_tup (a_cons d_int (a_cons d_str a_nil))) (a_cons (dv 3) (a_cons (dv 5) a_nil))))) (a_cons (d_tup (a_cons d_str (a_cons (d_tup (a_cons d_int (a_cons d_str a_nil))) (a_cons (dv 3) (a_cons (dv 2) a_nil))))) a_nil)))))
    (s_cons (ss 7 sc_L_stamps_right.nd (d_op o_add (d_op o_mulL (d_lst (a_cons (d_lst (a_cons (dv 3) a_nil)) a_nil)) d_int) (d_lst (a_cons (d_lst (a_cons (d_tup (a_cons d_int (a_cons d_str a_nil))) (a_cons (dv 3) a_nil))) a_nil))))
    (s_cons (s_expr (d_bm PySem.F.plainAttrs_list PySem.F.slot_list_append PySem.F.type_list_append m_append (dv 6) (a_cons (d_tup (a_cons d_str (a_cons (dv 3) (a_cons (dv 3) (a_cons (dv 3) a_nil))))) a_nil)))
    (s_cons (s_expr (d_bm PySem.F.plainAttrs_list PySem.F.slot_list_append PySem.F.type_list_append m_append (dv 7) (a_cons (d_op o_mulL (d_lst (a_cons (dv 3) a_nil)) d_int) a_nil)))
    (s_one (s_for PassesOwn.never rfl (i_zip (by rfl) t.n_zip (a_cons (dv 6) (a_cons (dv 7) a_nil))) (g_tup rfl (gs_cons (gn 8 sc_L_stamps_right.nd) (gs_cons (gn 9 sc_L_stamps_right.nd) gs_nil))) (s_one (s_if (t_not (t_tru (d_call (ok_L_right t) (hr.mono (by decide)) (by rfl) t.L_right.g t.L_right.F.kp t.L_right.b (a_cons (d_tup (a_cons (dv 1) (a_cons (d_op o_sub (d_ix (dv 1) d_int (fun _ _ => rfl)) d_int) (a_cons (dv 8) a_nil)))) (a_cons (dv 4) (a_cons (dv 9) a_nil)))))) (s_one (s_ret d_bl)) s_nil)))))))))))
    (s_one (s_ret d_bl)))
abbrev N_L_first_right : List Str := ["_law_name_here", "_law_field_here", "_law_some", "_law_stamp", "_law_lesser", "_law_words", "_law_due", "_law_names"]
theorem sc_L_first_right : FnScope ["_law_name_here", "_law_field_here", "_law_some", "_law_stamp", "_law_lesser", "_law_words", "_law_due", "_law_names"] ["_law_name_here", "_law_field_here"] (defScope s_L_first_right) := ⟨rfl, rfl, rfl, by decide +kernel, rfl, by decide +kernel, by decide +kernel⟩
theorem ok_L_first_right (t : T w K mg) : FnG P w K mg base 8 t.L_first_right.f t.L_first_right.fd ["_law_name_here", "_law_field_here"] W_L_first_right := fn_g t.L_first_right.F sc_L_first_right fun cdv A outer s H hr =>
  (s_cons (s_asg (d_tup (a_cons (d_tup (a_cons d_int (a_cons (dv 0) a_nil))) (a_cons (d_tup (a_cons d_int (a_cons d_str a_nil))) a_nil))) (g_tup rfl (gs_cons (gn 3 sc_L_first_right.nd) (gs_cons (gn 4 sc_L_first_right.nd) gs_nil))))
    (s_cons (s_for PassesOwn.never rfl (i_lst (d_lst (a_cons (d_tup (a_cons (d_tup (a_cons d_str (a_cons d_int a_nil))) (a_cons d_bl (a_cons (d_lst a_nil) a_nil)))) (a_cons (d_tup (a_cons (d_tup (a_cons d_str (a_cons d_int a_nil))) (a_cons d_bl (a_cons (d_lst a_nil) a_nil)))) (a_cons (d_tup (a_cons (d_tup (a_cons d_str (a_cons (d_tup (a_cons d_int (a_cons d_str a_nil))) a_nil))) (a_cons d_bl (a_cons (d_lst a_nil) a_nil)))) a_nil))))) (g_tup rfl (gs_cons (gn 5 sc_L_first_right.nd) (gs_cons (gn 6 sc_L_first_right.nd) (gs_cons (gn 7 sc_L_first_right.nd) gs_nil)))) (s_one (s_if (t_w (w_or (t_not (t_tru (d_call (ok_L_right t) (hr.mono (by decide)) (by rfl) t.L_right.g t.L_right.F.kp t.L_right.b (a_cons (d_tup (a_cons (dv 3) (a_cons d_int (a_cons (dv 5) a_nil)))) (a_cons (dv 6) (a_cons (dv 7) a_nil)))))) (w_or1 (t_not (t_tru (d_call (ok_L_right t) (hr.mono (by decide)) (by rfl) t.L_right.g t.L_right.F.kp t.L_right.b (a_cons (d_tup (a_cons (dv 3) (a_cons d_int (a_cons (dv 5) a_nil)))) (a_cons d_bl (a_cons (d_lst a_nil) a_nil))))))))) (s_one (s_ret d_bl)) s_nil)))
    (s_cons (ss 2 sc_L_first_right.nd (d_lst (a_cons (d_tup (a_cons d_str (a_cons (dv 4) a_nil))) (a_cons (d_tup (a_cons d_str (a_cons (dv 4) a_nil))) (a_cons (d_tup (a_cons d_str (a_cons (dv 4) (a_cons (d_tup (a_cons d_int (a_cons d_str a_nil))) (a_cons (dv 1) a_nil))))) (a_cons (d_tup (a_cons d_str (a_cons (dv 4) (a_cons (dv 1) (a_cons (d_tup (a_cons d_str a_nil)) a_nil))))) a_nil))))))
    (s_cons (s_expr (d_bm PySem.F.plainAttrs_list PySem.F.slot_list_append PySem.F.type_list_append m_append (dv 2) (a_cons (d_tup (a_cons d_str (a_cons (d_tup (a_cons d_int (a_cons d_str a_nil))) (a_cons (dv 4) (a_cons (d_tup (a_cons d_str a_nil)) a_nil))))) a_nil)))
    (s_cons (s_if (t_not (t_tru (d_callB (c_all rfl) (by rfl) t.n_all (by decide +kernel) (a_cons (d_lc (own := [("_law_words", 5)]) rfl sc_L_first_right.nd (i_lst (dv 2)) (blkOk_by (own := [("_law_words", 5)]) (N := N_L_first_right) (sc := defScope s_L_first_right) (by decide +kernel)) (fun _ _ _ _ _ => (gon 5 sc_L_first_right.nd)) (fun _ _ _ _ _ => ts_nil) (fun _ _ _ _ _ => (d_call (ok_L_right t) (hr.mono (by decide)) (by rfl) t.L_right.g t.L_right.F.kp t.L_right.b (a_cons (d_tup (a_cons (dv 3) (a_cons d_int (a_cons (dv 5) a_nil)))) (a_cons (d_cmp (o_lt hr.1.units) d_str (dv 0) (nomark _)) (a_cons (d_lst (a_cons (dv 4) a_nil)) a_nil)))))) a_nil)))) (s_one (s_ret d_bl)) s_nil)
    (s_one (s_ret (d_call (ok_L_right t) (hr.mono (by decide)) (by rfl) t.L_right.g t.L_right.F.kp t.L_right.b (a_cons (d_tup (a_cons (dv 3) (a_cons d_int (a_cons (d_tup (a_cons d_str (a_cons (d_tup (a_cons d_int (a_cons d_str a_nil))) (a_cons (d_tup (a_cons d_int (a_cons d_str a_nil))) (a_cons (d_tup (a_cons d_str a_nil)) a_nil))))) a_nil)))) (a_cons d_bl (a_cons (d_lst a_nil) a_nil)))))))))))
abbrev N_law : List Str := ["_law_script", "_law_k", "_law_pot_here", "_law_stamp", "_law_field_here", "_law_value", "_law_due"]
theorem sc_law : FnScope ["_law_script", "_law_k", "_law_pot_here", "_law_stamp", "_law_field_here", "_law_value", "_law_due"] ["_law_script"] (defScope s_law) := ⟨rfl, rfl, rfl, by decide +kernel, rfl, by decide +kernel, by decide +kernel⟩
theorem ok_law (t : T w K mg) : FnG P w K mg base 9 t.law.f t.law.fd ["_law_script"] W_law := fn_g t.law.F sc_law fun cdv A outer s H hr =>
  (s_cons (s_for PassesOwn.never rfl (i_rng1 (by rfl) t.n_range (a_cons (d_callB (c_max2 rfl) (by rfl) t.n_max (by decide +kernel) (a_cons d_int (a_cons (d_callB (c_min2 rfl) (by rfl) t.n_min (by decide +kernel) (a_cons d_int (a_cons (d_callB c_len (by rfl) t.n_len (by decide +kernel) (a_cons (dv 0) a_nil)) a_nil))) a_nil))) a_nil)) (gn 1 sc_law.nd) (s_cons (ss 2 sc_law.nd (d_call (ok_L_pot t) (hr.mono (by decide)) (by rfl) t.L_pot.g t.L_pot.F.kp t.L_pot.b (a_cons (dv 0) (a_cons (dv 1) a_nil))))
    (s_cons (s_par (i := 3) (j := 4) rfl sc_law.nd rfl rfl (by decide) rfl rfl (a_cons (d_tup (a_cons (d_call (ok_L_count t) (hr.mono (by decide)) (by rfl) t.L_count.g t.L_count.F.kp t.L_count.b (a_cons (dv 2) a_nil)) (a_cons (d_call (ok_L_name t) (hr.mono (by decide)) (by rfl) t.L_name.g t.L_name.F.kp t.L_name.b (a_cons (dv 2) a_nil)) a_nil))) (a_cons (d_call (ok_L_field t) (hr.mono (by decide)) (by rfl) t.L_field.g t.L_field.F.kp t.L_field.b (a_cons (dv 2) a_nil)) a_nil)) (by rfl))
    (s_cons (s_if (t_not (t_tru (d_call (ok_L_first_right t) (hr.mono (by decide)) (by rfl) t.L_first_right.g t.L_first_right.F.kp t.L_first_right.b (a_cons (d_ix (dv 3) d_int (fun _ _ => rfl)) (a_cons (dv 4) a_nil))))) (s_one (s_ret d_bl)) s_nil)
    (s_cons (s_if (t_w (w_or (t_not (t_tru (d_call (ok_L_numbers_right t) (hr.mono (by decide)) (by rfl) t.L_numbers_right.g t.L_numbers_right.F.kp t.L_numbers_right.b (a_cons (dv 3) a_nil)))) (w_or1 (t_not (t_tru (d_call (ok_L_stamps_right t) (hr.mono (by decide)) (by rfl) t.L_stamps_right.g t.L_stamps_right.F.kp t.L_stamps_right.b (a_cons (dv 2) (a_cons (dv 3) (a_cons (dv 4) a_nil))))))))) (s_one (s_ret d_bl)) s_nil)
    (s_one (s_for PassesOwn.never rfl (i_lst (d_lst (a_cons (d_tup (a_cons (d_op o_sub (d_op o_pow d_int d_int) d_int) (a_cons d_bl a_nil))) (a_cons (d_tup (a_cons (d_op o_pow d_int d_int) (a_cons d_bl a_nil))) (a_cons (d_tup (a_cons (d_op o_sub d_int (d_op o_pow d_int d_int)) (a_cons d_bl a_nil))) (a_cons (d_tup (a_cons (d_un o_neg (d_op o_pow d_int d_int)) (a_cons d_bl a_nil))) a_nil)))))) (g_tup rfl (gs_cons (gn 5 sc_law.nd) (gs_cons (gn 6 sc_law.nd) gs_nil))) (s_one (s_if (t_not (t_tru (d_call (ok_L_right t) (hr.mono (by decide)) (by rfl) t.L_right.g t.L_right.F.kp t.L_right.b (a_cons (d_tup (a_cons (dv 3) (a_cons d_int (a_cons (d_tup (a_cons d_str (a_cons (d_tup (a_cons d_int (a_cons d_str a_nil))) (a_cons (dv 4) (a_cons (d_tup (a_cons d_str (a_cons (dv 5) a_nil))) a_nil))))) a_nil)))) (a_cons (dv 6) (a_cons (d_lst a_nil) a_nil)))))) (s_one (s_ret d_bl)) s_nil)))))))))
    (s_one (s_ret d_bl)))
end
end L2.Dl.G

namespace L2.Dl.G
open PySem PySem.Spec PyProof.Rows
def Pot (p : Addr) (M : Mp) : Prop := ∃ a b : Int, M p = some (.lst [.int a, .int b]) ∧ 0 ≤ a ∧ 0 ≤ b ∧ b < 2 ^ 40
theorem digit_ok {p : Addr} {n : Int} {M : Mp} {Q : DQ} (hp : Pot p M) (h0 : 0 < n) (h9 : n.natAbs.log2 < 9000) (q : ∀ d M', 0 ≤ d → d < n → Pot p M' → Fr [p] M M' → Q (.int d) M') : W_L_digit [.ref p, .int n] M Q := by
  obtain ⟨a, b, e, ha, hb, hb2⟩ := hp
  unfold W_L_digit
  simp only [wDef, wSeq_eq, wNext, wIfS, wTst, wTru, wtAnd, wtOr, wtNot, wOp, wVar, wC, wCall, wCons, wNil, wTup, wLst, wAsg, gN, gsC, gsN, gSt, stIx, wRet, wRetN, wDrop, wAnd, wOr, wNot, wIf, wChain, wUn, wMt, wPar2, wSl, wPart, wNoPart, wFmt, wJs, wDict0, wDict, wpNil, wpCons, wFor, wWhile, wLc, itS, itRng1, itRng2, wYes, wCallK, wBreak, wCont, bAdd, bInt, bSub, bMul, bMod, bDiv, bPow, bNeg, cInt, cLe, cGt, cGe, cLt, cEq, cNe, cIsN, cNotN, cIn, cNotIn, truD_bl, truD_non, truD_int, truD_tup, truD_str, fI1, fI2, fAbs, fMax2, fMin2, Src.D, slR, fmtD, gStar, wKGet, itZip, cIsB, cNotB, List.map_cons, List.map_nil, List.replicate_succ, List.replicate_zero, List.cons_append, List.nil_append, List.append_nil, List.getElem?_cons_zero, List.getElem?_cons_succ, List.set_cons_zero, List.set_cons_succ, List.length_cons, List.length_nil, List.getD_cons_zero, List.getD_cons_succ, if_true, if_false, Bool.false_eq_true, reduceIte, Bool.not_true, Bool.not_false, true_and, and_true, ewipe, Nat.sub_self, Nat.zero_add, wNext]
  simp only [bIx_ref e, atI_0, atI_1, ex_some]
  by_cases h : 0 < a
  · simp only [h, decide_true, if_true]
    refine ⟨h0, ⟨h0, h9⟩, _, 0, e, rfl, fun M2 e2 f2 => ?_⟩
    exact q _ _ (Int.emod_nonneg _ (by omega)) (Int.emod_lt_of_pos _ h0) ⟨a / n, b, e2, Int.ediv_nonneg ha (by omega), hb, hb2⟩ f2
  · simp only [h, decide_false, if_false, Bool.false_eq_true]
    refine ⟨mul_small hb (by omega) (by omega) (by omega), by omega, _, 1, e, rfl, fun M2 e2 f2 => ?_⟩
    simp only [List.map_cons, List.map_nil, List.replicate_succ, List.replicate_zero, List.cons_append, List.nil_append, List.append_nil, List.getElem?_cons_zero, List.getElem?_cons_succ, List.set_cons_zero, List.set_cons_succ, List.length_cons, List.length_nil, List.getD_cons_zero, List.getD_cons_succ, if_true, if_false, Bool.false_eq_true, reduceIte, Bool.not_true, Bool.not_false, true_and, and_true, ewipe, Nat.sub_self, Nat.zero_add] at e2
    have h1 : 0 ≤ (b * 39373 + 20011) % 2147483647 := Int.emod_nonneg _ (by omega)
    have h2 : (b * 39373 + 20011) % 2147483647 < 2147483647 := Int.emod_lt_of_pos _ (by omega)
    generalize (b * 39373 + 20011) % 2147483647 = b' at h1 h2 e2
    simp only [bIx_ref e2, atI_0, atI_1, ex_some]
    refine ⟨mul_small h1 (by omega) h1 (by omega), by omega, div_small (by omega) (by omega), h0, ?_⟩
    exact q _ _ (Int.emod_nonneg _ (by omega)) (Int.emod_lt_of_pos _ h0) ⟨a, b', e2, ha, h1, by omega⟩ f2
theorem Pot.fr {p : Addr} {M M' : Mp} {S : List Addr} (h : Pot p M) (f : Fr S M M') (hS : p ∉ S) : Pot p M' := by
  obtain ⟨a, b, e, r⟩ := h
  exact ⟨a, b, f p _ hS e, r⟩
theorem Pot.new {p : Addr} {M M' : Mp} (h : Pot p M) (f : Fr [] M M') : Pot p M' := h.fr f (by simp)
theorem Pot.ne {p q : Addr} {M : Mp} (h : Pot p M) (hq : M q = none) : q ≠ p := fun z => by
  obtain ⟨a, b, e, r⟩ := h
  rw [← z, hq] at e; cases e
theorem log_lt {n : Int} (h0 : 0 < n) (h : n < 2 ^ 200) : n.natAbs.log2 < 9000 :=
  Nat.lt_of_lt_of_le (PySem.Flt.log2_lt_of (k := 200) (by decide) (by omega)) (by decide)
theorem dig {p : Addr} {n : Int} {M : Mp} {Q : DQ} (hp : Pot p M) (h0 : 0 < n) (h9 : n < 2 ^ 200) (q : ∀ d M', 0 ≤ d → d < n → Pot p M' → Fr [p] M M' → Q (.int d) M') : W_L_digit [.ref p, .int n] M Q := digit_ok hp h0 (log_lt h0 h9) q
theorem pot_ok {ns : List Int} {k : Nat} {M : Mp} {Q : DQ} (hk : k < 100) (q : ∀ l M', M l = none → Pot l M' → Fr [] M M' → Q (.ref l) M') : W_L_pot [.clst (ns.map .int), .int k] M Q := by
  have fin : ∀ c : Int, ∀ l M', M' l = some (.lst [.int (if (if c < 0 then -c else c) - 10 ^ (18 : Int).toNat > 0 then (if c < 0 then -c else c) - 10 ^ (18 : Int).toNat else 0), .int ((if c < 0 then -c else c) % 2147483587 + 101 * (k : Int) + 3)]) → Pot l M' := fun c l M' e => by
    refine ⟨_, _, e, ?_, ?_, ?_⟩
    · split <;> omega
    · have : 0 ≤ (if c < 0 then -c else c) % 2147483587 := Int.emod_nonneg _ (by omega)
      omega
    · have : (if c < 0 then -c else c) % 2147483587 < 2147483587 := Int.emod_lt_of_pos _ (by omega)
      omega
  have pow : CPow 10 18 := ⟨by decide, by decide, by decide⟩
  have mul : CMulW 101 (k : Int) := mul_small (by decide) (by decide) (by omega) (by omega)
  unfold W_L_pot
  simp only [wDef, wSeq_eq, wNext, wIfS, wTst, wTru, wtAnd, wtOr, wtNot, wOp, wVar, wC, wCall, wCons, wNil, wTup, wLst, wAsg, gN, gsC, gsN, gSt, stIx, wRet, wRetN, wDrop, wAnd, wOr, wNot, wIf, wChain, wUn, wMt, wPar2, wSl, wPart, wNoPart, wFmt, wJs, wDict0, wDict, wpNil, wpCons, wFor, wWhile, wLc, itS, itRng1, itRng2, wYes, wCallK, wBreak, wCont, bAdd, bInt, bSub, bMul, bMod, bDiv, bPow, bNeg, cInt, cLe, cGt, cGe, cLt, cEq, cNe, cIsN, cNotN, cIn, cNotIn, truD_bl, truD_non, truD_int, truD_tup, truD_str, fI1, fI2, fAbs, fMax2, fMin2, Src.D, slR, fmtD, gStar, wKGet, itZip, cIsB, cNotB, List.map_cons, List.map_nil, List.replicate_succ, List.replicate_zero, List.cons_append, List.nil_append, List.append_nil, List.getElem?_cons_zero, List.getElem?_cons_succ, List.set_cons_zero, List.set_cons_succ, List.length_cons, List.length_nil, List.getD_cons_zero, List.getD_cons_succ, if_true, if_false, Bool.false_eq_true, reduceIte, Bool.not_true, Bool.not_false, true_and, and_true, ewipe, Nat.sub_self, Nat.zero_add, wNext]
  simp only [fLen, List.length_map]
  by_cases h : (k : Int) < ns.length
  · simp only [h, decide_true, List.map_cons, List.map_nil, List.replicate_succ, List.replicate_zero, List.cons_append, List.nil_append, List.append_nil, List.getElem?_cons_zero, List.getElem?_cons_succ, List.set_cons_zero, List.set_cons_succ, List.length_cons, List.length_nil, List.getD_cons_zero, List.getD_cons_succ, if_true, if_false, Bool.false_eq_true, reduceIte, Bool.not_true, Bool.not_false, true_and, and_true, ewipe, Nat.sub_self, Nat.zero_add]
    rw [bIx_clst]
    obtain ⟨c, hc, e⟩ := pick_int (ns := ns) (i := (k : Int)) (by omega) h
    refine ⟨_, e, ?_⟩
    simp only [List.map_cons, List.map_nil, List.replicate_succ, List.replicate_zero, List.cons_append, List.nil_append, List.append_nil, List.getElem?_cons_zero, List.getElem?_cons_succ, List.set_cons_zero, List.set_cons_succ, List.length_cons, List.length_nil, List.getD_cons_zero, List.getD_cons_succ, if_true, if_false, Bool.false_eq_true, reduceIte, Bool.not_true, Bool.not_false, true_and, and_true, ewipe, Nat.sub_self, Nat.zero_add]
    exact ⟨pow, by decide, mul, by decide, fun l M' hl el fl => q l M' hl (fin c l M' el) fl⟩
  · simp only [h, decide_false, List.map_cons, List.map_nil, List.replicate_succ, List.replicate_zero, List.cons_append, List.nil_append, List.append_nil, List.getElem?_cons_zero, List.getElem?_cons_succ, List.set_cons_zero, List.set_cons_succ, List.length_cons, List.length_nil, List.getD_cons_zero, List.getD_cons_succ, if_true, if_false, Bool.false_eq_true, reduceIte, Bool.not_true, Bool.not_false, true_and, and_true, ewipe, Nat.sub_self, Nat.zero_add]
    exact ⟨pow, by decide, mul, by decide, fun l M' hl el fl => q l M' hl (fin 0 l M' el) fl⟩
theorem cap {m : Int} (h1 : 1 ≤ m) (k : Nat) : ∃ n : Nat, (n : Int) ≤ m ∧ (if (if (k : Int) < m then (k : Int) else m) > 1 then (if (k : Int) < m then (k : Int) else m) else 1) = (n : Int) := by
  by_cases h : (k : Int) < m
  · rw [if_pos h]
    by_cases h2 : (k : Int) > 1
    · rw [if_pos h2]; exact ⟨k, by omega, rfl⟩
    · rw [if_neg h2]; exact ⟨1, by omega, rfl⟩
  · rw [if_neg h]
    by_cases h2 : m > 1
    · rw [if_pos h2]; exact ⟨m.toNat, by omega, by omega⟩
    · rw [if_neg h2]; exact ⟨1, by omega, rfl⟩
/-- all([right(pot) for turn in range(n)]) -/
theorem lc_trues {l t : Addr} {M2 M3 : Mp} {m : Nat} {i : Nat} {we : WE} {env0 : Ev} {Q : DQ} {lo : Int} (pl : Pot l M2) (ft : Fr [] M2 M3) (et : M3 t = some (.lst [])) (ht : M2 t = none) (hm : m ≤ 100)
    (hw : ∀ (k : Int) (M : Mp) (R : DQ), Pot l M → (∀ M', Pot l M' → Fr [l] M M' → R (.bl true) M') → we (env0.set i (some (.int k))) M R)
    (q : ∀ M', Pot l M' → M' t = some (.lst (List.replicate m (.bl true))) → Q (.ref t) M') : runLc (fun _ => True) (gN i) wYes we env0 t Q (rngD lo m) M3 := by
  have ne := pl.ne ht
  refine run_lc (fun k M => Pot l M ∧ M t = some (.lst (List.replicate k (.bl true)))) ⟨pl.new ft, et⟩ (fun k d r M4 hd hP next2 => ⟨trivial, ?_⟩) fun M4 hP => ⟨trivial, ?_⟩
  · obtain ⟨P4, e4⟩ := hP
    obtain ⟨hk, rfl⟩ := rng_at hd
    refine hw _ _ _ P4 fun M5 P5 f5 => ⟨_, f5 _ _ (by simpa using ne) e4, by rw [List.length_replicate]; exact Nat.lt_of_lt_of_le (Nat.lt_of_lt_of_le hk hm) (by decide), fun M6 e6 f6 => next2 _ ⟨P5.fr f6 (by simpa using ne.symm), ?_⟩⟩
    rw [e6, List.replicate_succ']
  · obtain ⟨P4, e4⟩ := hP
    rw [rng_len] at e4
    exact q _ P4 e4
theorem all_trues {M : Mp} {t : Addr} {m : Nat} {Q : DQ} (e : M t = some (.lst (List.replicate m (.bl true)))) (q : Q (.bl true) M) : fAll [.ref t] M Q := by
  refine ⟨List.replicate m true, ?_, ?_⟩
  · unfold lstOf
    dsimp only
    rw [e, List.map_replicate]
  · have : (List.replicate m true).all id = true := by simp
    rw [this]; exact q

theorem kss : kit "str" "str" = true := by decide
theorem ktt : kit "tuple" "tuple" = true := by decide
def LET : List Nat := ("abcdefghijklmnopqrstuvwxyz" : Str).cps.toList
def FIG : List Nat := ("0123456789" : Str).cps.toList
def nameB (x : Str) : Bool := decide ((1 : Int) ≤ x.length) && decide ((x.length : Int) ≤ 8) && x.cps.toList.all fun c => decide (c ∈ LET)
def isNameD : D → Bool
  | .str x => nameB x
  | _ => false
theorem is_name_ok {d : D} {M : Mp} {Q : DQ} (ha : Ask d M) (q : ∀ M', Fr [] M M' → Q (.bl (isNameD d)) M') : W_is_name [d] M Q := by
  obtain ⟨⟨t, ht⟩, hz⟩ := ha
  unfold W_is_name
  simp only [wDef, wSeq_eq, wNext, wIfS, wTst, wTru, wtAnd, wtOr, wtNot, wOp, wVar, wC, wCall, wCons, wNil, wTup, wLst, wAsg, gN, gsC, gsN, gSt, stIx, wRet, wRetN, wDrop, wAnd, wOr, wNot, wIf, wChain, wUn, wMt, wPar2, wSl, wPart, wNoPart, wFmt, wJs, wDict0, wDict, wpNil, wpCons, wFor, wWhile, wLc, itS, itRng1, itRng2, wYes, wCallK, wBreak, wCont, bAdd, bInt, bSub, bMul, bMod, bDiv, bPow, bNeg, cInt, cLe, cGt, cGe, cLt, cEq, cNe, cIsN, cNotN, cIn, cNotIn, truD_bl, truD_non, truD_int, truD_tup, truD_str, fI1, fI2, fAbs, fMax2, fMin2, Src.D, slR, fmtD, gStar, wKGet, itZip, cIsB, cNotB, List.map_cons, List.map_nil, List.replicate_succ, List.replicate_zero, List.cons_append, List.nil_append, List.append_nil, List.getElem?_cons_zero, List.getElem?_cons_succ, List.set_cons_zero, List.set_cons_succ, List.length_cons, List.length_nil, List.getD_cons_zero, List.getD_cons_succ, if_true, if_false, Bool.false_eq_true, reduceIte, Bool.not_true, Bool.not_false, true_and, and_true, ewipe, Nat.sub_self, Nat.zero_add, wNext, isi_eq (n := "str") ht, isi_eq (n := "int") ht, isi_eq (n := "bool") ht, isi_eq (n := "tuple") ht, isi_eq (n := "list") ht, isi_eq (n := "dict") ht]
  by_cases h : t = "str"
  · subst h
    obtain ⟨x, rfl⟩ := ty_str ht
    have hx := (hz x rfl).line
    have e : isNameD (.str x) = nameB x := rfl
    rw [e] at q
    unfold nameB at q
    simp only [kss, cd_MOST_LETTERS, fLen, hx, List.map_cons, List.map_nil, List.replicate_succ, List.replicate_zero, List.cons_append, List.nil_append, List.append_nil, List.getElem?_cons_zero, List.getElem?_cons_succ, List.set_cons_zero, List.set_cons_succ, List.length_cons, List.length_nil, List.getD_cons_zero, List.getD_cons_succ, if_true, if_false, Bool.false_eq_true, reduceIte, Bool.not_true, Bool.not_false, true_and, and_true, ewipe, Nat.sub_self, Nat.zero_add]
    by_cases h1 : (1 : Int) ≤ x.length
    · by_cases h2 : (x.length : Int) ≤ 8
      · simp only [h1, h2, decide_true, Bool.true_and, List.map_cons, List.map_nil, List.replicate_succ, List.replicate_zero, List.cons_append, List.nil_append, List.append_nil, List.getElem?_cons_zero, List.getElem?_cons_succ, List.set_cons_zero, List.set_cons_succ, List.length_cons, List.length_nil, List.getD_cons_zero, List.getD_cons_succ, if_true, if_false, Bool.false_eq_true, reduceIte, Bool.not_true, Bool.not_false, true_and, and_true, ewipe, Nat.sub_self, Nat.zero_add] at q ⊢
        exact ⟨rfl, all_signs (fun c => decide (c ∈ LET)) hx (fun c M R _ hR => by simp only [wDef, wSeq_eq, wNext, wIfS, wTst, wTru, wtAnd, wtOr, wtNot, wOp, wVar, wC, wCall, wCons, wNil, wTup, wLst, wAsg, gN, gsC, gsN, gSt, stIx, wRet, wRetN, wDrop, wAnd, wOr, wNot, wIf, wChain, wUn, wMt, wPar2, wSl, wPart, wNoPart, wFmt, wJs, wDict0, wDict, wpNil, wpCons, wFor, wWhile, wLc, itS, itRng1, itRng2, wYes, wCallK, wBreak, wCont, bAdd, bInt, bSub, bMul, bMod, bDiv, bPow, bNeg, cInt, cLe, cGt, cGe, cLt, cEq, cNe, cIsN, cNotN, cIn, cNotIn, truD_bl, truD_non, truD_int, truD_tup, truD_str, fI1, fI2, fAbs, fMax2, fMin2, Src.D, slR, fmtD, gStar, wKGet, itZip, cIsB, cNotB, List.map_cons, List.map_nil, List.replicate_succ, List.replicate_zero, List.cons_append, List.nil_append, List.append_nil, List.getElem?_cons_zero, List.getElem?_cons_succ, List.set_cons_zero, List.set_cons_succ, List.length_cons, List.length_nil, List.getD_cons_zero, List.getD_cons_succ, if_true, if_false, Bool.false_eq_true, reduceIte, Bool.not_true, Bool.not_false, true_and, and_true, ewipe, Nat.sub_self, Nat.zero_add, inR, strIn_sign, cd_LETTERS]; exact hR) q⟩
      · simp only [h1, h2, decide_true, decide_false, Bool.true_and, Bool.false_and, List.map_cons, List.map_nil, List.replicate_succ, List.replicate_zero, List.cons_append, List.nil_append, List.append_nil, List.getElem?_cons_zero, List.getElem?_cons_succ, List.set_cons_zero, List.set_cons_succ, List.length_cons, List.length_nil, List.getD_cons_zero, List.getD_cons_succ, if_true, if_false, Bool.false_eq_true, reduceIte, Bool.not_true, Bool.not_false, true_and, and_true, ewipe, Nat.sub_self, Nat.zero_add] at q ⊢
        exact q M .refl
    · simp only [h1, decide_false, Bool.false_and, List.map_cons, List.map_nil, List.replicate_succ, List.replicate_zero, List.cons_append, List.nil_append, List.append_nil, List.getElem?_cons_zero, List.getElem?_cons_succ, List.set_cons_zero, List.set_cons_succ, List.length_cons, List.length_nil, List.getD_cons_zero, List.getD_cons_succ, if_true, if_false, Bool.false_eq_true, reduceIte, Bool.not_true, Bool.not_false, true_and, and_true, ewipe, Nat.sub_self, Nat.zero_add] at q ⊢
      exact q M .refl
  · simp only [kit_str h, List.map_cons, List.map_nil, List.replicate_succ, List.replicate_zero, List.cons_append, List.nil_append, List.append_nil, List.getElem?_cons_zero, List.getElem?_cons_succ, List.set_cons_zero, List.set_cons_succ, List.length_cons, List.length_nil, List.getD_cons_zero, List.getD_cons_succ, if_true, if_false, Bool.false_eq_true, reduceIte, Bool.not_true, Bool.not_false, true_and, and_true, ewipe, Nat.sub_self, Nat.zero_add]
    have e : isNameD d = false := by
      cases d with
      | str x => exact absurd (Option.some.inj ht).symm h
      | _ => rfl
    rw [e] at q
    exact q M .refl

def fsign (c : Nat) : Bool := if c ∈ LET then true else if c ∈ FIG then true else decide ((⟨#[c]⟩ : Str) = "_")
def headB (x : Str) : Bool := match x.cps.toList with
  | [] => false
  | c :: _ => decide (c ∈ LET)
def fieldB (x : Str) : Bool := decide ((1 : Int) ≤ x.length) && decide ((x.length : Int) ≤ 12) && headB x && x.cps.toList.all fsign
def isFieldD : D → Bool
  | .str x => fieldB x
  | _ => false
theorem cons_of_len {x : Str} (h : (1 : Int) ≤ x.length) : ∃ c r, x.cps.toList = c :: r := by
  cases e : x.cps.toList with
  | nil =>
    have : x.length = x.cps.toList.length := by rw [Array.length_toList]; rfl
    rw [e] at this
    simp only [List.length_nil] at this
    omega
  | cons c r => exact ⟨c, r, rfl⟩
theorem nonstr_false {d : D} {M : Mp} {t : String} (ht : tyD d M = some t) (h : ¬ t = "str") : isNameD d = false ∧ isFieldD d = false := by
  cases d with
  | str x => exact absurd (Option.some.inj ht).symm h
  | _ => exact ⟨rfl, rfl⟩
theorem is_field_ok {d : D} {M : Mp} {Q : DQ} (ha : Ask d M) (q : ∀ M', Fr [] M M' → Q (.bl (isFieldD d)) M') : W_is_field [d] M Q := by
  obtain ⟨⟨t, ht⟩, hz⟩ := ha
  unfold W_is_field
  simp only [wDef, wSeq_eq, wNext, wIfS, wTst, wTru, wtAnd, wtOr, wtNot, wOp, wVar, wC, wCall, wCons, wNil, wTup, wLst, wAsg, gN, gsC, gsN, gSt, stIx, wRet, wRetN, wDrop, wAnd, wOr, wNot, wIf, wChain, wUn, wMt, wPar2, wSl, wPart, wNoPart, wFmt, wJs, wDict0, wDict, wpNil, wpCons, wFor, wWhile, wLc, itS, itRng1, itRng2, wYes, wCallK, wBreak, wCont, bAdd, bInt, bSub, bMul, bMod, bDiv, bPow, bNeg, cInt, cLe, cGt, cGe, cLt, cEq, cNe, cIsN, cNotN, cIn, cNotIn, truD_bl, truD_non, truD_int, truD_tup, truD_str, fI1, fI2, fAbs, fMax2, fMin2, Src.D, slR, fmtD, gStar, wKGet, itZip, cIsB, cNotB, List.map_cons, List.map_nil, List.replicate_succ, List.replicate_zero, List.cons_append, List.nil_append, List.append_nil, List.getElem?_cons_zero, List.getElem?_cons_succ, List.set_cons_zero, List.set_cons_succ, List.length_cons, List.length_nil, List.getD_cons_zero, List.getD_cons_succ, if_true, if_false, Bool.false_eq_true, reduceIte, Bool.not_true, Bool.not_false, true_and, and_true, ewipe, Nat.sub_self, Nat.zero_add, wNext, isi_eq (n := "str") ht, isi_eq (n := "int") ht, isi_eq (n := "bool") ht, isi_eq (n := "tuple") ht, isi_eq (n := "list") ht, isi_eq (n := "dict") ht]
  by_cases h : t = "str"
  · subst h
    obtain ⟨x, rfl⟩ := ty_str ht
    have hx := (hz x rfl).line
    have e : isFieldD (.str x) = fieldB x := rfl
    rw [e] at q
    unfold fieldB at q
    simp only [kss, cd_MOST_SIGNS, cd_LETTERS, fLen, hx, List.map_cons, List.map_nil, List.replicate_succ, List.replicate_zero, List.cons_append, List.nil_append, List.append_nil, List.getElem?_cons_zero, List.getElem?_cons_succ, List.set_cons_zero, List.set_cons_succ, List.length_cons, List.length_nil, List.getD_cons_zero, List.getD_cons_succ, if_true, if_false, Bool.false_eq_true, reduceIte, Bool.not_true, Bool.not_false, true_and, and_true, ewipe, Nat.sub_self, Nat.zero_add]
    by_cases h1 : (1 : Int) ≤ x.length
    · obtain ⟨c, r, hc⟩ := cons_of_len h1
      have hh : headB x = decide (c ∈ LET) := by unfold headB; rw [hc]
      rw [hh] at q
      by_cases h2 : (x.length : Int) ≤ 12
      · simp only [h1, h2, decide_true, Bool.true_and, List.map_cons, List.map_nil, List.replicate_succ, List.replicate_zero, List.cons_append, List.nil_append, List.append_nil, List.getElem?_cons_zero, List.getElem?_cons_succ, List.set_cons_zero, List.set_cons_succ, List.length_cons, List.length_nil, List.getD_cons_zero, List.getD_cons_succ, if_true, if_false, Bool.false_eq_true, reduceIte, Bool.not_true, Bool.not_false, true_and, and_true, ewipe, Nat.sub_self, Nat.zero_add, bIx_str, hc, atI_0, ex_some, hx, inR, strIn_sign] at q ⊢
        change if (!decide (c ∈ LET)) = true then _ else _
        by_cases h3 : c ∈ LET
        · simp only [h3, decide_true, List.map_cons, List.map_nil, List.replicate_succ, List.replicate_zero, List.cons_append, List.nil_append, List.append_nil, List.getElem?_cons_zero, List.getElem?_cons_succ, List.set_cons_zero, List.set_cons_succ, List.length_cons, List.length_nil, List.getD_cons_zero, List.getD_cons_succ, if_true, if_false, Bool.false_eq_true, reduceIte, Bool.not_true, Bool.not_false, true_and, and_true, ewipe, Nat.sub_self, Nat.zero_add, Bool.true_and] at q ⊢
          rw [← hc] at q
          refine ⟨rfl, all_signs fsign hx (fun c M R _ hR => ?_) q⟩
          simp only [wDef, wSeq_eq, wNext, wIfS, wTst, wTru, wtAnd, wtOr, wtNot, wOp, wVar, wC, wCall, wCons, wNil, wTup, wLst, wAsg, gN, gsC, gsN, gSt, stIx, wRet, wRetN, wDrop, wAnd, wOr, wNot, wIf, wChain, wUn, wMt, wPar2, wSl, wPart, wNoPart, wFmt, wJs, wDict0, wDict, wpNil, wpCons, wFor, wWhile, wLc, itS, itRng1, itRng2, wYes, wCallK, wBreak, wCont, bAdd, bInt, bSub, bMul, bMod, bDiv, bPow, bNeg, cInt, cLe, cGt, cGe, cLt, cEq, cNe, cIsN, cNotN, cIn, cNotIn, truD_bl, truD_non, truD_int, truD_tup, truD_str, fI1, fI2, fAbs, fMax2, fMin2, Src.D, slR, fmtD, gStar, wKGet, itZip, cIsB, cNotB, List.map_cons, List.map_nil, List.replicate_succ, List.replicate_zero, List.cons_append, List.nil_append, List.append_nil, List.getElem?_cons_zero, List.getElem?_cons_succ, List.set_cons_zero, List.set_cons_succ, List.length_cons, List.length_nil, List.getD_cons_zero, List.getD_cons_succ, if_true, if_false, Bool.false_eq_true, reduceIte, Bool.not_true, Bool.not_false, true_and, and_true, ewipe, Nat.sub_self, Nat.zero_add, inR, strIn_sign, cd_LETTERS, cd_FIGURES]
          unfold fsign at hR
          change if decide (c ∈ LET) = true then R (.bl (decide (c ∈ LET))) M else if decide (c ∈ FIG) = true then R (.bl (decide (c ∈ FIG))) M else _
          by_cases h4 : c ∈ LET
          · simp only [h4, decide_true, List.map_cons, List.map_nil, List.replicate_succ, List.replicate_zero, List.cons_append, List.nil_append, List.append_nil, List.getElem?_cons_zero, List.getElem?_cons_succ, List.set_cons_zero, List.set_cons_succ, List.length_cons, List.length_nil, List.getD_cons_zero, List.getD_cons_succ, if_true, if_false, Bool.false_eq_true, reduceIte, Bool.not_true, Bool.not_false, true_and, and_true, ewipe, Nat.sub_self, Nat.zero_add] at hR ⊢
            exact hR
          · by_cases h5 : c ∈ FIG
            · simp only [h4, h5, decide_true, decide_false, List.map_cons, List.map_nil, List.replicate_succ, List.replicate_zero, List.cons_append, List.nil_append, List.append_nil, List.getElem?_cons_zero, List.getElem?_cons_succ, List.set_cons_zero, List.set_cons_succ, List.length_cons, List.length_nil, List.getD_cons_zero, List.getD_cons_succ, if_true, if_false, Bool.false_eq_true, reduceIte, Bool.not_true, Bool.not_false, true_and, and_true, ewipe, Nat.sub_self, Nat.zero_add] at hR ⊢
              exact hR
            · simp only [h4, h5, decide_true, decide_false, List.map_cons, List.map_nil, List.replicate_succ, List.replicate_zero, List.cons_append, List.nil_append, List.append_nil, List.getElem?_cons_zero, List.getElem?_cons_succ, List.set_cons_zero, List.set_cons_succ, List.length_cons, List.length_nil, List.getD_cons_zero, List.getD_cons_succ, if_true, if_false, Bool.false_eq_true, reduceIte, Bool.not_true, Bool.not_false, true_and, and_true, ewipe, Nat.sub_self, Nat.zero_add] at hR ⊢
              rw [eq_str]
              exact hR
        · simp only [h3, decide_false, List.map_cons, List.map_nil, List.replicate_succ, List.replicate_zero, List.cons_append, List.nil_append, List.append_nil, List.getElem?_cons_zero, List.getElem?_cons_succ, List.set_cons_zero, List.set_cons_succ, List.length_cons, List.length_nil, List.getD_cons_zero, List.getD_cons_succ, if_true, if_false, Bool.false_eq_true, reduceIte, Bool.not_true, Bool.not_false, true_and, and_true, ewipe, Nat.sub_self, Nat.zero_add, Bool.false_and] at q ⊢
          exact q M .refl
      · simp only [h1, h2, decide_true, decide_false, Bool.true_and, Bool.false_and, List.map_cons, List.map_nil, List.replicate_succ, List.replicate_zero, List.cons_append, List.nil_append, List.append_nil, List.getElem?_cons_zero, List.getElem?_cons_succ, List.set_cons_zero, List.set_cons_succ, List.length_cons, List.length_nil, List.getD_cons_zero, List.getD_cons_succ, if_true, if_false, Bool.false_eq_true, reduceIte, Bool.not_true, Bool.not_false, true_and, and_true, ewipe, Nat.sub_self, Nat.zero_add] at q ⊢
        exact q M .refl
    · simp only [h1, decide_false, Bool.false_and, List.map_cons, List.map_nil, List.replicate_succ, List.replicate_zero, List.cons_append, List.nil_append, List.append_nil, List.getElem?_cons_zero, List.getElem?_cons_succ, List.set_cons_zero, List.set_cons_succ, List.length_cons, List.length_nil, List.getD_cons_zero, List.getD_cons_succ, if_true, if_false, Bool.false_eq_true, reduceIte, Bool.not_true, Bool.not_false, true_and, and_true, ewipe, Nat.sub_self, Nat.zero_add] at q ⊢
      exact q M .refl
  · simp only [kit_str h, List.map_cons, List.map_nil, List.replicate_succ, List.replicate_zero, List.cons_append, List.nil_append, List.append_nil, List.getElem?_cons_zero, List.getElem?_cons_succ, List.set_cons_zero, List.set_cons_succ, List.length_cons, List.length_nil, List.getD_cons_zero, List.getD_cons_succ, if_true, if_false, Bool.false_eq_true, reduceIte, Bool.not_true, Bool.not_false, true_and, and_true, ewipe, Nat.sub_self, Nat.zero_add]
    rw [(nonstr_false ht h).2] at q
    exact q M .refl
def wholeB : D → Bool
  | .int _ => true
  | _ => false
theorem whole_kit {d : D} {M : Mp} {t : String} (ht : tyD d M = some t) : (if kit t "int" = true then !kit t "bool" else kit t "int") = wholeB d := by
  cases d with
  | ref a =>
    unfold tyD at ht
    dsimp only at ht
    split at ht <;> cases ht <;> simp [kit, wholeB]
  | ty n => cases ht
  | cdic a b => cases ht
  | _ => cases ht; simp [kit, wholeB]
theorem is_whole_ok {d : D} {M : Mp} {Q : DQ} (ha : Ask d M) (q : Q (.bl (wholeB d)) M) : W_is_whole [d] M Q := by
  obtain ⟨⟨t, ht⟩, hz⟩ := ha
  rw [← whole_kit ht] at q
  unfold W_is_whole
  simp only [wDef, wSeq_eq, wNext, wIfS, wTst, wTru, wtAnd, wtOr, wtNot, wOp, wVar, wC, wCall, wCons, wNil, wTup, wLst, wAsg, gN, gsC, gsN, gSt, stIx, wRet, wRetN, wDrop, wAnd, wOr, wNot, wIf, wChain, wUn, wMt, wPar2, wSl, wPart, wNoPart, wFmt, wJs, wDict0, wDict, wpNil, wpCons, wFor, wWhile, wLc, itS, itRng1, itRng2, wYes, wCallK, wBreak, wCont, bAdd, bInt, bSub, bMul, bMod, bDiv, bPow, bNeg, cInt, cLe, cGt, cGe, cLt, cEq, cNe, cIsN, cNotN, cIn, cNotIn, truD_bl, truD_non, truD_int, truD_tup, truD_str, fI1, fI2, fAbs, fMax2, fMin2, Src.D, slR, fmtD, gStar, wKGet, itZip, cIsB, cNotB, List.map_cons, List.map_nil, List.replicate_succ, List.replicate_zero, List.cons_append, List.nil_append, List.append_nil, List.getElem?_cons_zero, List.getElem?_cons_succ, List.set_cons_zero, List.set_cons_succ, List.length_cons, List.length_nil, List.getD_cons_zero, List.getD_cons_succ, if_true, if_false, Bool.false_eq_true, reduceIte, Bool.not_true, Bool.not_false, true_and, and_true, ewipe, Nat.sub_self, Nat.zero_add, wNext, isi_eq (n := "str") ht, isi_eq (n := "int") ht, isi_eq (n := "bool") ht, isi_eq (n := "tuple") ht, isi_eq (n := "list") ht, isi_eq (n := "dict") ht]
  by_cases h : kit t "int" = true
  · rw [if_pos h] at q ⊢
    exact q
  · rw [if_neg h] at q ⊢
    exact q
def isStampD : D → Bool
  | .tup [.int i, n] => decide (1 ≤ i) && decide (i < 1000000000000000) && isNameD n
  | _ => false
def AskT (d : D) (M : Mp) : Prop := Ask d M ∧ ∀ ds, d = .tup ds → ∀ x ∈ ds, Ask x M
theorem AskT.mono {d : D} {M M' : Mp} (f : Fr [] M M') (h : AskT d M) : AskT d M' := ⟨h.1.mono f, fun ds e x hx => (h.2 ds e x hx).mono f⟩
theorem two_of {ds : List D} (h : ds.length = 2) : ∃ a b, ds = [a, b] := by
  match ds, h with
  | [a, b], _ => exact ⟨a, b, rfl⟩
theorem nontup_false {d : D} {M : Mp} {t : String} (ht : tyD d M = some t) (h : ¬ t = "tuple") : isStampD d = false := by
  cases d with
  | tup x => exact absurd (Option.some.inj ht).symm h
  | _ => rfl
theorem stamp_len {ds : List D} (h : ¬ ds.length = 2) : isStampD (.tup ds) = false := by
  unfold isStampD
  split
  · rename_i e
    cases e
    exact absurd rfl h
  · rfl
theorem is_stamp_ok {d : D} {M : Mp} {Q : DQ} (ha : AskT d M) (q : ∀ M', Fr [] M M' → Q (.bl (isStampD d)) M') : W_is_stamp [d] M Q := by
  obtain ⟨⟨⟨t, ht⟩, hz⟩, hi⟩ := ha
  unfold W_is_stamp
  simp only [wDef, wSeq_eq, wNext, wIfS, wTst, wTru, wtAnd, wtOr, wtNot, wOp, wVar, wC, wCall, wCons, wNil, wTup, wLst, wAsg, gN, gsC, gsN, gSt, stIx, wRet, wRetN, wDrop, wAnd, wOr, wNot, wIf, wChain, wUn, wMt, wPar2, wSl, wPart, wNoPart, wFmt, wJs, wDict0, wDict, wpNil, wpCons, wFor, wWhile, wLc, itS, itRng1, itRng2, wYes, wCallK, wBreak, wCont, bAdd, bInt, bSub, bMul, bMod, bDiv, bPow, bNeg, cInt, cLe, cGt, cGe, cLt, cEq, cNe, cIsN, cNotN, cIn, cNotIn, truD_bl, truD_non, truD_int, truD_tup, truD_str, fI1, fI2, fAbs, fMax2, fMin2, Src.D, slR, fmtD, gStar, wKGet, itZip, cIsB, cNotB, List.map_cons, List.map_nil, List.replicate_succ, List.replicate_zero, List.cons_append, List.nil_append, List.append_nil, List.getElem?_cons_zero, List.getElem?_cons_succ, List.set_cons_zero, List.set_cons_succ, List.length_cons, List.length_nil, List.getD_cons_zero, List.getD_cons_succ, if_true, if_false, Bool.false_eq_true, reduceIte, Bool.not_true, Bool.not_false, true_and, and_true, ewipe, Nat.sub_self, Nat.zero_add, wNext, isi_eq (n := "str") ht, isi_eq (n := "int") ht, isi_eq (n := "bool") ht, isi_eq (n := "tuple") ht, isi_eq (n := "list") ht, isi_eq (n := "dict") ht]
  by_cases h : t = "tuple"
  · subst h
    obtain ⟨ds, rfl⟩ := ty_tup ht
    simp only [ktt, fLen, eq_int, List.map_cons, List.map_nil, List.replicate_succ, List.replicate_zero, List.cons_append, List.nil_append, List.append_nil, List.getElem?_cons_zero, List.getElem?_cons_succ, List.set_cons_zero, List.set_cons_succ, List.length_cons, List.length_nil, List.getD_cons_zero, List.getD_cons_succ, if_true, if_false, Bool.false_eq_true, reduceIte, Bool.not_true, Bool.not_false, true_and, and_true, ewipe, Nat.sub_self, Nat.zero_add]
    by_cases h2 : ds.length = 2
    · have h3 : (ds.length : Int) = 2 := by omega
      simp only [h3, decide_true, List.map_cons, List.map_nil, List.replicate_succ, List.replicate_zero, List.cons_append, List.nil_append, List.append_nil, List.getElem?_cons_zero, List.getElem?_cons_succ, List.set_cons_zero, List.set_cons_succ, List.length_cons, List.length_nil, List.getD_cons_zero, List.getD_cons_succ, if_true, if_false, Bool.false_eq_true, reduceIte, Bool.not_true, Bool.not_false, true_and, and_true, ewipe, Nat.sub_self, Nat.zero_add]
      clear h3
      obtain ⟨a, b, rfl⟩ := two_of h2
      have aa := hi _ rfl a (by simp)
      have ab := hi _ rfl b (by simp)
      refine ⟨rfl, ?_⟩
      try simp only [wDef, wSeq_eq, wNext, wIfS, wTst, wTru, wtAnd, wtOr, wtNot, wOp, wVar, wC, wCall, wCons, wNil, wTup, wLst, wAsg, gN, gsC, gsN, gSt, stIx, wRet, wRetN, wDrop, wAnd, wOr, wNot, wIf, wChain, wUn, wMt, wPar2, wSl, wPart, wNoPart, wFmt, wJs, wDict0, wDict, wpNil, wpCons, wFor, wWhile, wLc, itS, itRng1, itRng2, wYes, wCallK, wBreak, wCont, bAdd, bInt, bSub, bMul, bMod, bDiv, bPow, bNeg, cInt, cLe, cGt, cGe, cLt, cEq, cNe, cIsN, cNotN, cIn, cNotIn, truD_bl, truD_non, truD_int, truD_tup, truD_str, fI1, fI2, fAbs, fMax2, fMin2, Src.D, slR, fmtD, gStar, wKGet, itZip, cIsB, cNotB, List.map_cons, List.map_nil, List.replicate_succ, List.replicate_zero, List.cons_append, List.nil_append, List.append_nil, List.getElem?_cons_zero, List.getElem?_cons_succ, List.set_cons_zero, List.set_cons_succ, List.length_cons, List.length_nil, List.getD_cons_zero, List.getD_cons_succ, if_true, if_false, Bool.false_eq_true, reduceIte, Bool.not_true, Bool.not_false, true_and, and_true, ewipe, Nat.sub_self, Nat.zero_add]
      refine is_whole_ok aa ?_
      cases a with
      | int i =>
        have e : isStampD (.tup [.int i, b]) = (decide (1 ≤ i) && decide (i < 1000000000000000) && isNameD b) := rfl
        rw [e] at q
        simp only [wholeB, List.map_cons, List.map_nil, List.replicate_succ, List.replicate_zero, List.cons_append, List.nil_append, List.append_nil, List.getElem?_cons_zero, List.getElem?_cons_succ, List.set_cons_zero, List.set_cons_succ, List.length_cons, List.length_nil, List.getD_cons_zero, List.getD_cons_succ, if_true, if_false, Bool.false_eq_true, reduceIte, Bool.not_true, Bool.not_false, true_and, and_true, ewipe, Nat.sub_self, Nat.zero_add, cd_BELOW_COUNTS]
        by_cases h3 : 1 ≤ i
        · by_cases h4 : i < 1000000000000000
          · simp only [h3, h4, decide_true, List.map_cons, List.map_nil, List.replicate_succ, List.replicate_zero, List.cons_append, List.nil_append, List.append_nil, List.getElem?_cons_zero, List.getElem?_cons_succ, List.set_cons_zero, List.set_cons_succ, List.length_cons, List.length_nil, List.getD_cons_zero, List.getD_cons_succ, if_true, if_false, Bool.false_eq_true, reduceIte, Bool.not_true, Bool.not_false, true_and, and_true, ewipe, Nat.sub_self, Nat.zero_add, Bool.true_and] at q ⊢
            exact is_name_ok ab q
          · simp only [h3, h4, decide_true, decide_false, List.map_cons, List.map_nil, List.replicate_succ, List.replicate_zero, List.cons_append, List.nil_append, List.append_nil, List.getElem?_cons_zero, List.getElem?_cons_succ, List.set_cons_zero, List.set_cons_succ, List.length_cons, List.length_nil, List.getD_cons_zero, List.getD_cons_succ, if_true, if_false, Bool.false_eq_true, reduceIte, Bool.not_true, Bool.not_false, true_and, and_true, ewipe, Nat.sub_self, Nat.zero_add, Bool.true_and, Bool.false_and] at q ⊢
            exact q M .refl
        · simp only [h3, decide_false, List.map_cons, List.map_nil, List.replicate_succ, List.replicate_zero, List.cons_append, List.nil_append, List.append_nil, List.getElem?_cons_zero, List.getElem?_cons_succ, List.set_cons_zero, List.set_cons_succ, List.length_cons, List.length_nil, List.getD_cons_zero, List.getD_cons_succ, if_true, if_false, Bool.false_eq_true, reduceIte, Bool.not_true, Bool.not_false, true_and, and_true, ewipe, Nat.sub_self, Nat.zero_add, Bool.false_and] at q ⊢
          exact q M .refl
      | _ => exact q M .refl
    · rw [stamp_len h2] at q
      have h3 : ¬ ((ds.length : Int) = 2) := by omega
      simp only [h3, decide_false, List.map_cons, List.map_nil, List.replicate_succ, List.replicate_zero, List.cons_append, List.nil_append, List.append_nil, List.getElem?_cons_zero, List.getElem?_cons_succ, List.set_cons_zero, List.set_cons_succ, List.length_cons, List.length_nil, List.getD_cons_zero, List.getD_cons_succ, if_true, if_false, Bool.false_eq_true, reduceIte, Bool.not_true, Bool.not_false, true_and, and_true, ewipe, Nat.sub_self, Nat.zero_add]
      exact q M .refl
  · simp only [kit_tup h, List.map_cons, List.map_nil, List.replicate_succ, List.replicate_zero, List.cons_append, List.nil_append, List.append_nil, List.getElem?_cons_zero, List.getElem?_cons_succ, List.set_cons_zero, List.set_cons_succ, List.length_cons, List.length_nil, List.getD_cons_zero, List.getD_cons_succ, if_true, if_false, Bool.false_eq_true, reduceIte, Bool.not_true, Bool.not_false, true_and, and_true, ewipe, Nat.sub_self, Nat.zero_add]
    rw [nontup_false ht h] at q
    exact q M .refl

/-! ### the law's own look -/
def onlyB (x : Str) (S : List Nat) (m : Int) : Bool := !decide (x = "") && !decide (m < x.length) && x.cps.toList.all fun c => decide (c ∈ S)
theorem all_filter {p : Nat → Bool} : ∀ l : List Nat, (l.filter fun c => !p c).isEmpty = l.all p
  | [] => rfl
  | c :: l => by
    rw [List.all_cons, List.filter_cons]
    by_cases h : p c = true
    · simp only [h, Bool.not_true, Bool.true_and, Bool.false_eq_true, if_false]
      exact all_filter l
    · have h' : p c = false := by simpa using h
      simp only [h', Bool.not_false, if_true, Bool.false_and]
      rfl
theorem empty_len {x : Str} : decide (x = "") = !decide ((1 : Int) ≤ x.length) := by
  by_cases h : x = ""
  · subst h; decide +kernel
  · have : ¬ x.length = 0 := fun z => h (by
      obtain ⟨a⟩ := x
      have : a = #[] := Array.eq_empty_of_size_eq_zero z
      subst this
      decide +kernel)
    rw [decide_eq_false h, decide_eq_true (by omega)]
    rfl
theorem not_lt_dec {a b : Int} : (!decide (a < b)) = decide (b ≤ a) := by
  by_cases h : a < b
  · rw [decide_eq_true h, decide_eq_false (by omega)]; rfl
  · rw [decide_eq_false h, decide_eq_true (by omega)]; rfl
theorem only_name (x : Str) : nameB x = onlyB x LET 8 := by
  unfold nameB onlyB
  rw [empty_len, Bool.not_not, not_lt_dec]
def LFU : List Nat := ("abcdefghijklmnopqrstuvwxyz0123456789_" : Str).cps.toList
theorem lfu_eq : LFU = LET ++ FIG ++ [95] := by decide +kernel
theorem us_eq {c : Nat} : ((⟨#[c]⟩ : Str) = "_") ↔ c = 95 := by
  have e : (("_" : String) : Str) = ⟨#[95]⟩ := by decide +kernel
  rw [e]
  simp
theorem fsign_eq (c : Nat) : fsign c = decide (c ∈ LFU) := by
  unfold fsign
  rw [lfu_eq]
  by_cases h1 : c ∈ LET
  · simp [h1]
  · by_cases h2 : c ∈ FIG
    · simp [h1, h2]
    · simp [h1, h2, us_eq]
def only12 : D → Bool
  | .str x => onlyB x LFU 12
  | _ => false
theorem p30 : (10 : Int) ^ (30 : Int).toNat = 1000000000000000000000000000000 := by decide
theorem p31 : (10 : Int) ^ (31 : Int).toNat = 10000000000000000000000000000000 := by decide
def SG : Str := (" !\"#$&'()*+,-./0123456789:;<=>?@ABCDEFGHIJKLMNOPQRSTUVWXYZ[\\]^_`abcdefghijklmnopqrstuvwxyz{|}~" : String)
def isSignD : D → Bool
  | .str x => decide (x.length = 1) && strIn x SG
  | _ => false
def isLeafD : D → Bool
  | .non => true
  | .bl _ => true
  | .int i => decide (-1000000000000000000000000000000 < i) && decide (i < 1000000000000000000000000000000)
  | _ => false
def holdB (x : Str) : Bool := inV (.str x) [.str "object", .str "list", .str "text"]
def isWhatD : D → Bool
  | .tup [.str x] => holdB x
  | .tup [.str x, d] => if x = "sign" then isSignD d else if x = "leaf" then isLeafD d else false
  | _ => false
theorem is_sign_ok {d : D} {M : Mp} {Q : DQ} (ha : Ask d M) (q : Q (.bl (isSignD d)) M) : W_is_sign [d] M Q := by
  obtain ⟨⟨t, ht⟩, hz⟩ := ha
  unfold W_is_sign
  try simp only [wDef, wSeq_eq, wNext, wIfS, wTst, wTru, wtAnd, wtOr, wtNot, wOp, wVar, wC, wCall, wCons, wNil, wTup, wLst, wAsg, gN, gsC, gsN, gSt, stIx, wRet, wRetN, wDrop, wAnd, wOr, wNot, wIf, wChain, wUn, wMt, wPar2, wSl, wPart, wNoPart, wFmt, wJs, wDict0, wDict, wpNil, wpCons, wFor, wWhile, wLc, itS, itRng1, itRng2, wYes, wCallK, wBreak, wCont, bAdd, bInt, bSub, bMul, bMod, bDiv, bPow, bNeg, cInt, cLe, cGt, cGe, cLt, cEq, cNe, cIsN, cNotN, cIn, cNotIn, truD_bl, truD_non, truD_int, truD_tup, truD_str, fI1, fI2, fAbs, fMax2, fMin2, Src.D, slR, fmtD, gStar, wKGet, itZip, cIsB, cNotB, List.map_cons, List.map_nil, List.replicate_succ, List.replicate_zero, List.cons_append, List.nil_append, List.append_nil, List.getElem?_cons_zero, List.getElem?_cons_succ, List.set_cons_zero, List.set_cons_succ, List.length_cons, List.length_nil, List.getD_cons_zero, List.getD_cons_succ, if_true, if_false, Bool.false_eq_true, reduceIte, Bool.not_true, Bool.not_false, true_and, and_true, ewipe, Nat.sub_self, Nat.zero_add]
  try simp only [isi_eq (n := "str") ht, isi_eq (n := "int") ht, isi_eq (n := "bool") ht, isi_eq (n := "tuple") ht, isi_eq (n := "list") ht, isi_eq (n := "dict") ht]
  by_cases h : t = "str"
  · subst h
    obtain ⟨x, rfl⟩ := ty_str ht
    have hx := (hz x rfl).line
    simp only [kss, fLen, hx, eq_int, cd_SIGNS, inR, List.map_cons, List.map_nil, List.replicate_succ, List.replicate_zero, List.cons_append, List.nil_append, List.append_nil, List.getElem?_cons_zero, List.getElem?_cons_succ, List.set_cons_zero, List.set_cons_succ, List.length_cons, List.length_nil, List.getD_cons_zero, List.getD_cons_succ, if_true, if_false, Bool.false_eq_true, reduceIte, Bool.not_true, Bool.not_false, true_and, and_true, ewipe, Nat.sub_self, Nat.zero_add]
    unfold isSignD at q
    by_cases h1 : x.length = 1
    · have h2 : (x.length : Int) = 1 := by omega
      simp only [h1, decide_true, Bool.true_and] at q
      simp only [h2, decide_true, List.map_cons, List.map_nil, List.replicate_succ, List.replicate_zero, List.cons_append, List.nil_append, List.append_nil, List.getElem?_cons_zero, List.getElem?_cons_succ, List.set_cons_zero, List.set_cons_succ, List.length_cons, List.length_nil, List.getD_cons_zero, List.getD_cons_succ, if_true, if_false, Bool.false_eq_true, reduceIte, Bool.not_true, Bool.not_false, true_and, and_true, ewipe, Nat.sub_self, Nat.zero_add]
      exact q
    · have h2 : ¬ ((x.length : Int) = 1) := by omega
      simp only [h1, decide_false, Bool.false_and] at q
      simp only [h2, decide_false, List.map_cons, List.map_nil, List.replicate_succ, List.replicate_zero, List.cons_append, List.nil_append, List.append_nil, List.getElem?_cons_zero, List.getElem?_cons_succ, List.set_cons_zero, List.set_cons_succ, List.length_cons, List.length_nil, List.getD_cons_zero, List.getD_cons_succ, if_true, if_false, Bool.false_eq_true, reduceIte, Bool.not_true, Bool.not_false, true_and, and_true, ewipe, Nat.sub_self, Nat.zero_add]
      exact q
  · simp only [kit_str h, List.map_cons, List.map_nil, List.replicate_succ, List.replicate_zero, List.cons_append, List.nil_append, List.append_nil, List.getElem?_cons_zero, List.getElem?_cons_succ, List.set_cons_zero, List.set_cons_succ, List.length_cons, List.length_nil, List.getD_cons_zero, List.getD_cons_succ, if_true, if_false, Bool.false_eq_true, reduceIte, Bool.not_true, Bool.not_false, true_and, and_true, ewipe, Nat.sub_self, Nat.zero_add]
    have e : isSignD d = false := by
      cases d with
      | str x => exact absurd (Option.some.inj ht).symm h
      | _ => rfl
    rw [e] at q
    exact q
theorem is_leaf_ok {d : D} {M : Mp} {Q : DQ} (ha : Ask d M) (q : Q (.bl (isLeafD d)) M) : W_is_leaf [d] M Q := by
  obtain ⟨⟨t, ht⟩, hz⟩ := ha
  unfold W_is_leaf
  try simp only [wDef, wSeq_eq, wNext, wIfS, wTst, wTru, wtAnd, wtOr, wtNot, wOp, wVar, wC, wCall, wCons, wNil, wTup, wLst, wAsg, gN, gsC, gsN, gSt, stIx, wRet, wRetN, wDrop, wAnd, wOr, wNot, wIf, wChain, wUn, wMt, wPar2, wSl, wPart, wNoPart, wFmt, wJs, wDict0, wDict, wpNil, wpCons, wFor, wWhile, wLc, itS, itRng1, itRng2, wYes, wCallK, wBreak, wCont, bAdd, bInt, bSub, bMul, bMod, bDiv, bPow, bNeg, cInt, cLe, cGt, cGe, cLt, cEq, cNe, cIsN, cNotN, cIn, cNotIn, truD_bl, truD_non, truD_int, truD_tup, truD_str, fI1, fI2, fAbs, fMax2, fMin2, Src.D, slR, fmtD, gStar, wKGet, itZip, cIsB, cNotB, List.map_cons, List.map_nil, List.replicate_succ, List.replicate_zero, List.cons_append, List.nil_append, List.append_nil, List.getElem?_cons_zero, List.getElem?_cons_succ, List.set_cons_zero, List.set_cons_succ, List.length_cons, List.length_nil, List.getD_cons_zero, List.getD_cons_succ, if_true, if_false, Bool.false_eq_true, reduceIte, Bool.not_true, Bool.not_false, true_and, and_true, ewipe, Nat.sub_self, Nat.zero_add]
  simp only [isi_eq (n := "str") ht, isi_eq (n := "int") ht, isi_eq (n := "bool") ht, isi_eq (n := "tuple") ht, isi_eq (n := "list") ht, isi_eq (n := "dict") ht, cd_BELOW_LEAVES]
  cases d with
  | non => exact q
  | bl b => cases ht; exact q
  | int i =>
    cases ht
    unfold isLeafD at q
    simp only [show kit "int" "bool" = false by decide, show kit "int" "int" = true by decide, List.map_cons, List.map_nil, List.replicate_succ, List.replicate_zero, List.cons_append, List.nil_append, List.append_nil, List.getElem?_cons_zero, List.getElem?_cons_succ, List.set_cons_zero, List.set_cons_succ, List.length_cons, List.length_nil, List.getD_cons_zero, List.getD_cons_succ, if_true, if_false, Bool.false_eq_true, reduceIte, Bool.not_true, Bool.not_false, true_and, and_true, ewipe, Nat.sub_self, Nat.zero_add]
    by_cases h1 : (-1000000000000000000000000000000 : Int) < i
    · simp only [h1, decide_true, Bool.true_and, List.map_cons, List.map_nil, List.replicate_succ, List.replicate_zero, List.cons_append, List.nil_append, List.append_nil, List.getElem?_cons_zero, List.getElem?_cons_succ, List.set_cons_zero, List.set_cons_succ, List.length_cons, List.length_nil, List.getD_cons_zero, List.getD_cons_succ, if_true, if_false, Bool.false_eq_true, reduceIte, Bool.not_true, Bool.not_false, true_and, and_true, ewipe, Nat.sub_self, Nat.zero_add] at q ⊢
      exact q
    · simp only [h1, decide_false, Bool.false_and, List.map_cons, List.map_nil, List.replicate_succ, List.replicate_zero, List.cons_append, List.nil_append, List.append_nil, List.getElem?_cons_zero, List.getElem?_cons_succ, List.set_cons_zero, List.set_cons_succ, List.length_cons, List.length_nil, List.getD_cons_zero, List.getD_cons_succ, if_true, if_false, Bool.false_eq_true, reduceIte, Bool.not_true, Bool.not_false, true_and, and_true, ewipe, Nat.sub_self, Nat.zero_add] at q ⊢
      exact q
  | str x => cases ht; exact q
  | tup x => cases ht; exact q
  | clst x => cases ht; exact q
  | cdic a b => cases ht
  | ty n => cases ht
  | ref a =>
    have : t = "list" ∨ t = "dict" := by
      unfold tyD at ht
      dsimp only at ht
      split at ht <;> cases ht <;> simp
    rcases this with rfl | rfl
    · exact q
    · exact q
theorem what_no {ds : List D} (h : ¬ ∃ x, ds.head? = some (.str x)) : isWhatD (.tup ds) = false := by
  unfold isWhatD
  split
  · rename_i e; cases e; exact absurd ⟨_, rfl⟩ h
  · rename_i e; cases e; exact absurd ⟨_, rfl⟩ h
  · rfl
theorem what_nt {d : D} (h : ∀ ds, d ≠ .tup ds) : isWhatD d = false := by
  cases d with
  | tup ds => exact absurd rfl (h ds)
  | _ => rfl
theorem is_what_ok {d : D} {M : Mp} {Q : DQ} (ha : AskA M d) (q : Q (.bl (isWhatD d)) M) : W_is_what [d] M Q := by
  have h0 := ha.ask
  obtain ⟨⟨t, ht⟩, hz⟩ := h0
  unfold W_is_what
  try simp only [wDef, wSeq_eq, wNext, wIfS, wTst, wTru, wtAnd, wtOr, wtNot, wOp, wVar, wC, wCall, wCons, wNil, wTup, wLst, wAsg, gN, gsC, gsN, gSt, stIx, wRet, wRetN, wDrop, wAnd, wOr, wNot, wIf, wChain, wUn, wMt, wPar2, wSl, wPart, wNoPart, wFmt, wJs, wDict0, wDict, wpNil, wpCons, wFor, wWhile, wLc, itS, itRng1, itRng2, wYes, wCallK, wBreak, wCont, bAdd, bInt, bSub, bMul, bMod, bDiv, bPow, bNeg, cInt, cLe, cGt, cGe, cLt, cEq, cNe, cIsN, cNotN, cIn, cNotIn, truD_bl, truD_non, truD_int, truD_tup, truD_str, fI1, fI2, fAbs, fMax2, fMin2, Src.D, slR, fmtD, gStar, wKGet, itZip, cIsB, cNotB, List.map_cons, List.map_nil, List.replicate_succ, List.replicate_zero, List.cons_append, List.nil_append, List.append_nil, List.getElem?_cons_zero, List.getElem?_cons_succ, List.set_cons_zero, List.set_cons_succ, List.length_cons, List.length_nil, List.getD_cons_zero, List.getD_cons_succ, if_true, if_false, Bool.false_eq_true, reduceIte, Bool.not_true, Bool.not_false, true_and, and_true, ewipe, Nat.sub_self, Nat.zero_add]
  try simp only [isi_eq (n := "str") ht, isi_eq (n := "int") ht, isi_eq (n := "bool") ht, isi_eq (n := "tuple") ht, isi_eq (n := "list") ht, isi_eq (n := "dict") ht]
  by_cases h : t = "tuple"
  · subst h
    obtain ⟨ds, rfl⟩ := ty_tup ht
    simp only [ktt, List.map_cons, List.map_nil, List.replicate_succ, List.replicate_zero, List.cons_append, List.nil_append, List.append_nil, List.getElem?_cons_zero, List.getElem?_cons_succ, List.set_cons_zero, List.set_cons_succ, List.length_cons, List.length_nil, List.getD_cons_zero, List.getD_cons_succ, if_true, if_false, Bool.false_eq_true, reduceIte, Bool.not_true, Bool.not_false, true_and, and_true, ewipe, Nat.sub_self, Nat.zero_add]
    have hm := AskAs.mem (show AskAs M ds from ha)
    match ds, hm, q with
    | [], hm, q => exact ⟨by decide, q⟩
    | a :: r, hm, q =>
      refine ⟨by decide, ?_⟩
      simp only [bIx_tup, atI_0, ex_some, List.isEmpty_cons, List.map_cons, List.map_nil, List.replicate_succ, List.replicate_zero, List.cons_append, List.nil_append, List.append_nil, List.getElem?_cons_zero, List.getElem?_cons_succ, List.set_cons_zero, List.set_cons_succ, List.length_cons, List.length_nil, List.getD_cons_zero, List.getD_cons_succ, if_true, if_false, Bool.false_eq_true, reduceIte, Bool.not_true, Bool.not_false, true_and, and_true, ewipe, Nat.sub_self, Nat.zero_add]
      have aa := (hm a List.mem_cons_self).ask
      obtain ⟨⟨ta, hta⟩, hza⟩ := aa
      simp only [isi_eq (n := "str") hta, isi_eq (n := "int") hta, isi_eq (n := "bool") hta, isi_eq (n := "tuple") hta, isi_eq (n := "list") hta, isi_eq (n := "dict") hta]
      by_cases hs : ta = "str"
      · subst hs
        obtain ⟨x, rfl⟩ := ty_str hta
        simp only [kss, fLen, List.map_cons, List.map_nil, List.replicate_succ, List.replicate_zero, List.cons_append, List.nil_append, List.append_nil, List.getElem?_cons_zero, List.getElem?_cons_succ, List.set_cons_zero, List.set_cons_succ, List.length_cons, List.length_nil, List.getD_cons_zero, List.getD_cons_succ, if_true, if_false, Bool.false_eq_true, reduceIte, Bool.not_true, Bool.not_false, true_and, and_true, ewipe, Nat.sub_self, Nat.zero_add]
        match r, hm, q with
        | [], hm, q =>
          simp only [List.map_cons, List.map_nil, List.replicate_succ, List.replicate_zero, List.cons_append, List.nil_append, List.append_nil, List.getElem?_cons_zero, List.getElem?_cons_succ, List.set_cons_zero, List.set_cons_succ, List.length_cons, List.length_nil, List.getD_cons_zero, List.getD_cons_succ, if_true, if_false, Bool.false_eq_true, reduceIte, Bool.not_true, Bool.not_false, true_and, and_true, ewipe, Nat.sub_self, Nat.zero_add, eq_int, atI_0, ex_some]
          refine ⟨rfl, rfl, ?_⟩
          exact q
        | [b], hm, q =>
          have ab := (hm b (by simp)).ask
          simp only [List.map_cons, List.map_nil, List.replicate_succ, List.replicate_zero, List.cons_append, List.nil_append, List.append_nil, List.getElem?_cons_zero, List.getElem?_cons_succ, List.set_cons_zero, List.set_cons_succ, List.length_cons, List.length_nil, List.getD_cons_zero, List.getD_cons_succ, if_true, if_false, Bool.false_eq_true, reduceIte, Bool.not_true, Bool.not_false, true_and, and_true, ewipe, Nat.sub_self, Nat.zero_add, eq_int, eq_str, atI_0, atI_1, ex_some]
          have e : isWhatD (.tup [.str x, b]) = if x = "sign" then isSignD b else if x = "leaf" then isLeafD b else false := rfl
          rw [e] at q
          refine (?_ : _)
          by_cases h1 : x = "sign"
          · subst h1
            simp only [decide_true, List.map_cons, List.map_nil, List.replicate_succ, List.replicate_zero, List.cons_append, List.nil_append, List.append_nil, List.getElem?_cons_zero, List.getElem?_cons_succ, List.set_cons_zero, List.set_cons_succ, List.length_cons, List.length_nil, List.getD_cons_zero, List.getD_cons_succ, if_true, if_false, Bool.false_eq_true, reduceIte, Bool.not_true, Bool.not_false, true_and, and_true, ewipe, Nat.sub_self, Nat.zero_add] at q ⊢
            refine is_sign_ok ab ?_
            by_cases h2 : isSignD b = true
            · simp only [h2, List.map_cons, List.map_nil, List.replicate_succ, List.replicate_zero, List.cons_append, List.nil_append, List.append_nil, List.getElem?_cons_zero, List.getElem?_cons_succ, List.set_cons_zero, List.set_cons_succ, List.length_cons, List.length_nil, List.getD_cons_zero, List.getD_cons_succ, if_true, if_false, Bool.false_eq_true, reduceIte, Bool.not_true, Bool.not_false, true_and, and_true, ewipe, Nat.sub_self, Nat.zero_add] at q ⊢
              exact q
            · have h2' : isSignD b = false := by simpa using h2
              simp only [h2', List.map_cons, List.map_nil, List.replicate_succ, List.replicate_zero, List.cons_append, List.nil_append, List.append_nil, List.getElem?_cons_zero, List.getElem?_cons_succ, List.set_cons_zero, List.set_cons_succ, List.length_cons, List.length_nil, List.getD_cons_zero, List.getD_cons_succ, if_true, if_false, Bool.false_eq_true, reduceIte, Bool.not_true, Bool.not_false, true_and, and_true, ewipe, Nat.sub_self, Nat.zero_add] at q ⊢
              exact q
          · by_cases h2 : x = "leaf"
            · subst h2
              simp only [h1, decide_true, decide_false, List.map_cons, List.map_nil, List.replicate_succ, List.replicate_zero, List.cons_append, List.nil_append, List.append_nil, List.getElem?_cons_zero, List.getElem?_cons_succ, List.set_cons_zero, List.set_cons_succ, List.length_cons, List.length_nil, List.getD_cons_zero, List.getD_cons_succ, if_true, if_false, Bool.false_eq_true, reduceIte, Bool.not_true, Bool.not_false, true_and, and_true, ewipe, Nat.sub_self, Nat.zero_add] at q ⊢
              exact is_leaf_ok ab q
            · simp only [h1, h2, decide_false, List.map_cons, List.map_nil, List.replicate_succ, List.replicate_zero, List.cons_append, List.nil_append, List.append_nil, List.getElem?_cons_zero, List.getElem?_cons_succ, List.set_cons_zero, List.set_cons_succ, List.length_cons, List.length_nil, List.getD_cons_zero, List.getD_cons_succ, if_true, if_false, Bool.false_eq_true, reduceIte, Bool.not_true, Bool.not_false, true_and, and_true, ewipe, Nat.sub_self, Nat.zero_add] at q ⊢
              exact q
        | b :: c :: r2, hm, q =>
          have e1 : ¬ (((Dl.D.str x :: b :: c :: r2).length : Int) = 1) := by simp only [List.length_cons]; omega
          have e2 : (2 : Int) < ((Dl.D.str x :: b :: c :: r2).length : Int) := by simp only [List.length_cons]; omega
          simp only [List.length_cons] at e1 e2 ⊢
          simp only [eq_int, e1, e2, decide_true, decide_false, if_true, if_false, Bool.false_eq_true]
          exact q
      · simp only [kit_str hs, List.map_cons, List.map_nil, List.replicate_succ, List.replicate_zero, List.cons_append, List.nil_append, List.append_nil, List.getElem?_cons_zero, List.getElem?_cons_succ, List.set_cons_zero, List.set_cons_succ, List.length_cons, List.length_nil, List.getD_cons_zero, List.getD_cons_succ, if_true, if_false, Bool.false_eq_true, reduceIte, Bool.not_true, Bool.not_false, true_and, and_true, ewipe, Nat.sub_self, Nat.zero_add]
        rw [what_no (fun ⟨x, e⟩ => by cases e; exact hs (Option.some.inj hta).symm)] at q
        exact q
  · simp only [kit_tup h, List.map_cons, List.map_nil, List.replicate_succ, List.replicate_zero, List.cons_append, List.nil_append, List.append_nil, List.getElem?_cons_zero, List.getElem?_cons_succ, List.set_cons_zero, List.set_cons_succ, List.length_cons, List.length_nil, List.getD_cons_zero, List.getD_cons_succ, if_true, if_false, Bool.false_eq_true, reduceIte, Bool.not_true, Bool.not_false, true_and, and_true, ewipe, Nat.sub_self, Nat.zero_add]
    rw [what_nt (fun ds e => by subst e; exact h (Option.some.inj ht).symm)] at q
    exact q
theorem abs30 {i : Int} : decide ((if i < 0 then -i else i) < 1000000000000000000000000000000) = (decide (-1000000000000000000000000000000 < i) && decide (i < 1000000000000000000000000000000)) := by
  rw [← Bool.decide_and]
  congr 1
  by_cases h : i < 0
  · rw [if_pos h]; exact propext ⟨fun _ => by omega, fun _ => by omega⟩
  · rw [if_neg h]; exact propext ⟨fun _ => by omega, fun _ => by omega⟩
/-- a part of a deed's words: what stands beside a number is plain -/
def PartOk (d : D) : Prop := ∀ i y, d = .tup [.int i, y] → flatD y = true
def earlierD (c : Int) (n : Str) (d : D) : Bool := isStampD d && match d with
  | .tup [.int i, .str x] => ltS i x c n
  | _ => false
theorem AskA.t {d : D} {M : Mp} (h : AskA M d) : AskT d M := ⟨h.ask, fun ds e x hx => by subst e; exact (AskAs.mem (show AskAs M ds from h) x hx).ask⟩
theorem stamp_form {d : D} (h : isStampD d = true) : ∃ i x, d = .tup [.int i, .str x] := by
  unfold isStampD at h
  split at h
  · rename_i i n
    simp only [Bool.and_eq_true, decide_eq_true_eq] at h
    cases n with
    | str x => exact ⟨i, x, rfl⟩
    | _ => exact absurd h.2 (by simp [isNameD])
  · cases h
theorem lt_stamps {i c : Int} {x n : Str} {M : Mp} {Q : DQ} (q : Q (.bl (ltS i x c n)) M) : cLt (.tup [.int i, .str x]) (.tup [.int c, .str n]) M Q := ⟨_, ltF_stamps, q⟩
theorem is_earlier_ok {d : D} {c : Int} {n : Str} {M : Mp} {Q : DQ} (ha : AskA M d) (q : ∀ M', Fr [] M M' → Q (.bl (earlierD c n d)) M') : W_is_earlier [d, .tup [.int c, .str n]] M Q := by
  unfold W_is_earlier
  try simp only [wDef, wSeq_eq, wNext, wIfS, wTst, wTru, wtAnd, wtOr, wtNot, wOp, wVar, wC, wCall, wCons, wNil, wTup, wLst, wAsg, gN, gsC, gsN, gSt, stIx, wRet, wRetN, wDrop, wAnd, wOr, wNot, wIf, wChain, wUn, wMt, wPar2, wSl, wPart, wNoPart, wFmt, wJs, wDict0, wDict, wpNil, wpCons, wFor, wWhile, wLc, itS, itRng1, itRng2, wYes, wCallK, wBreak, wCont, bAdd, bInt, bSub, bMul, bMod, bDiv, bPow, bNeg, cInt, cLe, cGt, cGe, cLt, cEq, cNe, cIsN, cNotN, cIn, cNotIn, truD_bl, truD_non, truD_int, truD_tup, truD_str, fI1, fI2, fAbs, fMax2, fMin2, Src.D, slR, fmtD, gStar, wKGet, itZip, cIsB, cNotB, List.map_cons, List.map_nil, List.replicate_succ, List.replicate_zero, List.cons_append, List.nil_append, List.append_nil, List.getElem?_cons_zero, List.getElem?_cons_succ, List.set_cons_zero, List.set_cons_succ, List.length_cons, List.length_nil, List.getD_cons_zero, List.getD_cons_succ, if_true, if_false, Bool.false_eq_true, reduceIte, Bool.not_true, Bool.not_false, true_and, and_true, ewipe, Nat.sub_self, Nat.zero_add]
  refine is_stamp_ok (AskA.t ha) fun M1 f1 => ?_
  have q1 := q M1 f1
  unfold earlierD at q1
  by_cases h : isStampD d = true
  · obtain ⟨i, x, rfl⟩ := stamp_form h
    simp only [h, List.map_cons, List.map_nil, List.replicate_succ, List.replicate_zero, List.cons_append, List.nil_append, List.append_nil, List.getElem?_cons_zero, List.getElem?_cons_succ, List.set_cons_zero, List.set_cons_succ, List.length_cons, List.length_nil, List.getD_cons_zero, List.getD_cons_succ, if_true, if_false, Bool.false_eq_true, reduceIte, Bool.not_true, Bool.not_false, true_and, and_true, ewipe, Nat.sub_self, Nat.zero_add, Bool.true_and] at q1 ⊢
    exact lt_stamps q1
  · have h' : isStampD d = false := by simpa using h
    simp only [h', List.map_cons, List.map_nil, List.replicate_succ, List.replicate_zero, List.cons_append, List.nil_append, List.append_nil, List.getElem?_cons_zero, List.getElem?_cons_succ, List.set_cons_zero, List.set_cons_succ, List.length_cons, List.length_nil, List.getD_cons_zero, List.getD_cons_succ, if_true, if_false, Bool.false_eq_true, reduceIte, Bool.not_true, Bool.not_false, true_and, and_true, ewipe, Nat.sub_self, Nat.zero_add, Bool.false_and] at q1 ⊢
    exact q1
theorem root_no {d : D} (h : ∀ i y, d ≠ .tup [.int i, y]) : rootD d = false := by
  unfold rootD
  split
  · exact absurd rfl (h _ _)
  · rfl
theorem is_root_ok {d : D} {M : Mp} {Q : DQ} (ha : AskA M d) (hp : PartOk d) (q : Q (.bl (rootD d)) M) : W_is_root [d] M Q := by
  obtain ⟨⟨t, ht⟩, hz⟩ := ha.ask
  unfold W_is_root
  try simp only [wDef, wSeq_eq, wNext, wIfS, wTst, wTru, wtAnd, wtOr, wtNot, wOp, wVar, wC, wCall, wCons, wNil, wTup, wLst, wAsg, gN, gsC, gsN, gSt, stIx, wRet, wRetN, wDrop, wAnd, wOr, wNot, wIf, wChain, wUn, wMt, wPar2, wSl, wPart, wNoPart, wFmt, wJs, wDict0, wDict, wpNil, wpCons, wFor, wWhile, wLc, itS, itRng1, itRng2, wYes, wCallK, wBreak, wCont, bAdd, bInt, bSub, bMul, bMod, bDiv, bPow, bNeg, cInt, cLe, cGt, cGe, cLt, cEq, cNe, cIsN, cNotN, cIn, cNotIn, truD_bl, truD_non, truD_int, truD_tup, truD_str, fI1, fI2, fAbs, fMax2, fMin2, Src.D, slR, fmtD, gStar, wKGet, itZip, cIsB, cNotB, List.map_cons, List.map_nil, List.replicate_succ, List.replicate_zero, List.cons_append, List.nil_append, List.append_nil, List.getElem?_cons_zero, List.getElem?_cons_succ, List.set_cons_zero, List.set_cons_succ, List.length_cons, List.length_nil, List.getD_cons_zero, List.getD_cons_succ, if_true, if_false, Bool.false_eq_true, reduceIte, Bool.not_true, Bool.not_false, true_and, and_true, ewipe, Nat.sub_self, Nat.zero_add]
  try simp only [isi_eq (n := "str") ht, isi_eq (n := "int") ht, isi_eq (n := "bool") ht, isi_eq (n := "tuple") ht, isi_eq (n := "list") ht, isi_eq (n := "dict") ht]
  by_cases h : t = "tuple"
  · subst h
    obtain ⟨ds, rfl⟩ := ty_tup ht
    simp only [ktt, fLen, eq_int, List.map_cons, List.map_nil, List.replicate_succ, List.replicate_zero, List.cons_append, List.nil_append, List.append_nil, List.getElem?_cons_zero, List.getElem?_cons_succ, List.set_cons_zero, List.set_cons_succ, List.length_cons, List.length_nil, List.getD_cons_zero, List.getD_cons_succ, if_true, if_false, Bool.false_eq_true, reduceIte, Bool.not_true, Bool.not_false, true_and, and_true, ewipe, Nat.sub_self, Nat.zero_add]
    by_cases h2 : ds.length = 2
    · have h3 : (ds.length : Int) = 2 := by omega
      simp only [h3, decide_true, List.map_cons, List.map_nil, List.replicate_succ, List.replicate_zero, List.cons_append, List.nil_append, List.append_nil, List.getElem?_cons_zero, List.getElem?_cons_succ, List.set_cons_zero, List.set_cons_succ, List.length_cons, List.length_nil, List.getD_cons_zero, List.getD_cons_succ, if_true, if_false, Bool.false_eq_true, reduceIte, Bool.not_true, Bool.not_false, true_and, and_true, ewipe, Nat.sub_self, Nat.zero_add]
      clear h3
      obtain ⟨a, b, rfl⟩ := two_of h2
      simp only [bIx_tup, atI_0, ex_some]
      refine is_whole_ok ((AskA.t ha).2 _ rfl a (by simp)) ?_
      cases a with
      | int i =>
        simp only [wholeB, List.map_cons, List.map_nil, List.replicate_succ, List.replicate_zero, List.cons_append, List.nil_append, List.append_nil, List.getElem?_cons_zero, List.getElem?_cons_succ, List.set_cons_zero, List.set_cons_succ, List.length_cons, List.length_nil, List.getD_cons_zero, List.getD_cons_succ, if_true, if_false, Bool.false_eq_true, reduceIte, Bool.not_true, Bool.not_false, true_and, and_true, ewipe, Nat.sub_self, Nat.zero_add, cd_ROOT]
        exact eq_root (Q := fun k => Q (.bl k) M) (hp i b rfl) q
      | _ =>
        rw [root_no (fun i y z => by cases z)] at q
        exact q
    · have h3 : ¬ ((ds.length : Int) = 2) := by omega
      rw [root_no (fun i y z => by cases z; exact h2 rfl)] at q
      simp only [h3, decide_false, List.map_cons, List.map_nil, List.replicate_succ, List.replicate_zero, List.cons_append, List.nil_append, List.append_nil, List.getElem?_cons_zero, List.getElem?_cons_succ, List.set_cons_zero, List.set_cons_succ, List.length_cons, List.length_nil, List.getD_cons_zero, List.getD_cons_succ, if_true, if_false, Bool.false_eq_true, reduceIte, Bool.not_true, Bool.not_false, true_and, and_true, ewipe, Nat.sub_self, Nat.zero_add]
      exact q
  · simp only [kit_tup h, List.map_cons, List.map_nil, List.replicate_succ, List.replicate_zero, List.cons_append, List.nil_append, List.append_nil, List.getElem?_cons_zero, List.getElem?_cons_succ, List.set_cons_zero, List.set_cons_succ, List.length_cons, List.length_nil, List.getD_cons_zero, List.getD_cons_succ, if_true, if_false, Bool.false_eq_true, reduceIte, Bool.not_true, Bool.not_false, true_and, and_true, ewipe, Nat.sub_self, Nat.zero_add]
    rw [root_no (fun i y z => by subst z; exact h (Option.some.inj ht).symm)] at q
    exact q
def uptoD (c : Int) : D → Bool
  | .int i => decide (0 ≤ i) && decide (i < c)
  | _ => false
def parentD (c : Int) (n : Str) (d : D) : Bool := rootD d || earlierD c n d
def placeD (c : Int) (n : Str) (d : D) : Bool := isFieldD d || parentD c n d
def partD (s : Str) (c : Int) (n : Str) (d : D) : Bool :=
  if s = "stamp" then earlierD c n d else if s = "parent" then parentD c n d else if s = "place" then placeD c n d else if s = "what" then isWhatD d else uptoD c d
theorem or_step {b c : Bool} {M : Mp} {Q : DQ} {k : Bool → Prop} (h : b = true → Q (.bl true) M) (h2 : b = false → k c) : (if b = true then Q (.bl b) M else k c) := by
  cases b
  · exact h2 rfl
  · exact h rfl
theorem is_part_ok {s : Str} {d : D} {c : Int} {n : Str} {M : Mp} {Q : DQ} (ha : AskA M d) (hp : PartOk d) (q : ∀ M', Fr [] M M' → Q (.bl (partD s c n d)) M') : W_is_part [.str s, d, .tup [.int c, .str n]] M Q := by
  unfold W_is_part
  try simp only [wDef, wSeq_eq, wNext, wIfS, wTst, wTru, wtAnd, wtOr, wtNot, wOp, wVar, wC, wCall, wCons, wNil, wTup, wLst, wAsg, gN, gsC, gsN, gSt, stIx, wRet, wRetN, wDrop, wAnd, wOr, wNot, wIf, wChain, wUn, wMt, wPar2, wSl, wPart, wNoPart, wFmt, wJs, wDict0, wDict, wpNil, wpCons, wFor, wWhile, wLc, itS, itRng1, itRng2, wYes, wCallK, wBreak, wCont, bAdd, bInt, bSub, bMul, bMod, bDiv, bPow, bNeg, cInt, cLe, cGt, cGe, cLt, cEq, cNe, cIsN, cNotN, cIn, cNotIn, truD_bl, truD_non, truD_int, truD_tup, truD_str, fI1, fI2, fAbs, fMax2, fMin2, Src.D, slR, fmtD, gStar, wKGet, itZip, cIsB, cNotB, List.map_cons, List.map_nil, List.replicate_succ, List.replicate_zero, List.cons_append, List.nil_append, List.append_nil, List.getElem?_cons_zero, List.getElem?_cons_succ, List.set_cons_zero, List.set_cons_succ, List.length_cons, List.length_nil, List.getD_cons_zero, List.getD_cons_succ, if_true, if_false, Bool.false_eq_true, reduceIte, Bool.not_true, Bool.not_false, true_and, and_true, ewipe, Nat.sub_self, Nat.zero_add]
  try simp only [eq_str]
  unfold partD at q
  by_cases h1 : s = "stamp"
  · simp only [h1, decide_true, List.map_cons, List.map_nil, List.replicate_succ, List.replicate_zero, List.cons_append, List.nil_append, List.append_nil, List.getElem?_cons_zero, List.getElem?_cons_succ, List.set_cons_zero, List.set_cons_succ, List.length_cons, List.length_nil, List.getD_cons_zero, List.getD_cons_succ, if_true, if_false, Bool.false_eq_true, reduceIte, Bool.not_true, Bool.not_false, true_and, and_true, ewipe, Nat.sub_self, Nat.zero_add] at q ⊢
    exact is_earlier_ok ha q
  simp only [h1, decide_false, List.map_cons, List.map_nil, List.replicate_succ, List.replicate_zero, List.cons_append, List.nil_append, List.append_nil, List.getElem?_cons_zero, List.getElem?_cons_succ, List.set_cons_zero, List.set_cons_succ, List.length_cons, List.length_nil, List.getD_cons_zero, List.getD_cons_succ, if_true, if_false, Bool.false_eq_true, reduceIte, Bool.not_true, Bool.not_false, true_and, and_true, ewipe, Nat.sub_self, Nat.zero_add] at q ⊢
  try unfold W_is_part_4
  try simp only [wDef, wSeq_eq, wNext, wIfS, wTst, wTru, wtAnd, wtOr, wtNot, wOp, wVar, wC, wCall, wCons, wNil, wTup, wLst, wAsg, gN, gsC, gsN, gSt, stIx, wRet, wRetN, wDrop, wAnd, wOr, wNot, wIf, wChain, wUn, wMt, wPar2, wSl, wPart, wNoPart, wFmt, wJs, wDict0, wDict, wpNil, wpCons, wFor, wWhile, wLc, itS, itRng1, itRng2, wYes, wCallK, wBreak, wCont, bAdd, bInt, bSub, bMul, bMod, bDiv, bPow, bNeg, cInt, cLe, cGt, cGe, cLt, cEq, cNe, cIsN, cNotN, cIn, cNotIn, truD_bl, truD_non, truD_int, truD_tup, truD_str, fI1, fI2, fAbs, fMax2, fMin2, Src.D, slR, fmtD, gStar, wKGet, itZip, cIsB, cNotB, List.map_cons, List.map_nil, List.replicate_succ, List.replicate_zero, List.cons_append, List.nil_append, List.append_nil, List.getElem?_cons_zero, List.getElem?_cons_succ, List.set_cons_zero, List.set_cons_succ, List.length_cons, List.length_nil, List.getD_cons_zero, List.getD_cons_succ, if_true, if_false, Bool.false_eq_true, reduceIte, Bool.not_true, Bool.not_false, true_and, and_true, ewipe, Nat.sub_self, Nat.zero_add]
  try simp only [eq_str]
  have par : ∀ {M0 : Mp} {R : DQ}, AskA M0 d → (∀ M', Fr [] M0 M' → R (.bl (parentD c n d)) M') → W_is_root [d] M0 fun x M1 => truD x M1 fun k => if k = true then R x M1 else W_is_earlier [d, .tup [.int c, .str n]] M1 R := fun {M0 R} ha0 r => by
    refine is_root_ok ha0 hp ?_
    unfold parentD at r
    simp only [truD]
    by_cases hr : rootD d = true
    · simp only [hr, List.map_cons, List.map_nil, List.replicate_succ, List.replicate_zero, List.cons_append, List.nil_append, List.append_nil, List.getElem?_cons_zero, List.getElem?_cons_succ, List.set_cons_zero, List.set_cons_succ, List.length_cons, List.length_nil, List.getD_cons_zero, List.getD_cons_succ, if_true, if_false, Bool.false_eq_true, reduceIte, Bool.not_true, Bool.not_false, true_and, and_true, ewipe, Nat.sub_self, Nat.zero_add, Bool.true_or] at r ⊢
      exact r M0 .refl
    · have hr' : rootD d = false := by simpa using hr
      simp only [hr', List.map_cons, List.map_nil, List.replicate_succ, List.replicate_zero, List.cons_append, List.nil_append, List.append_nil, List.getElem?_cons_zero, List.getElem?_cons_succ, List.set_cons_zero, List.set_cons_succ, List.length_cons, List.length_nil, List.getD_cons_zero, List.getD_cons_succ, if_true, if_false, Bool.false_eq_true, reduceIte, Bool.not_true, Bool.not_false, true_and, and_true, ewipe, Nat.sub_self, Nat.zero_add, Bool.false_or] at r ⊢
      exact is_earlier_ok ha0 r
  by_cases h2 : s = "parent"
  · simp only [h2, decide_true, List.map_cons, List.map_nil, List.replicate_succ, List.replicate_zero, List.cons_append, List.nil_append, List.append_nil, List.getElem?_cons_zero, List.getElem?_cons_succ, List.set_cons_zero, List.set_cons_succ, List.length_cons, List.length_nil, List.getD_cons_zero, List.getD_cons_succ, if_true, if_false, Bool.false_eq_true, reduceIte, Bool.not_true, Bool.not_false, true_and, and_true, ewipe, Nat.sub_self, Nat.zero_add] at q ⊢
    have := par ha q
    try simp only [wDef, wSeq_eq, wNext, wIfS, wTst, wTru, wtAnd, wtOr, wtNot, wOp, wVar, wC, wCall, wCons, wNil, wTup, wLst, wAsg, gN, gsC, gsN, gSt, stIx, wRet, wRetN, wDrop, wAnd, wOr, wNot, wIf, wChain, wUn, wMt, wPar2, wSl, wPart, wNoPart, wFmt, wJs, wDict0, wDict, wpNil, wpCons, wFor, wWhile, wLc, itS, itRng1, itRng2, wYes, wCallK, wBreak, wCont, bAdd, bInt, bSub, bMul, bMod, bDiv, bPow, bNeg, cInt, cLe, cGt, cGe, cLt, cEq, cNe, cIsN, cNotN, cIn, cNotIn, truD_bl, truD_non, truD_int, truD_tup, truD_str, fI1, fI2, fAbs, fMax2, fMin2, Src.D, slR, fmtD, gStar, wKGet, itZip, cIsB, cNotB, List.map_cons, List.map_nil, List.replicate_succ, List.replicate_zero, List.cons_append, List.nil_append, List.append_nil, List.getElem?_cons_zero, List.getElem?_cons_succ, List.set_cons_zero, List.set_cons_succ, List.length_cons, List.length_nil, List.getD_cons_zero, List.getD_cons_succ, if_true, if_false, Bool.false_eq_true, reduceIte, Bool.not_true, Bool.not_false, true_and, and_true, ewipe, Nat.sub_self, Nat.zero_add] at this
    exact this
  simp only [h2, decide_false, List.map_cons, List.map_nil, List.replicate_succ, List.replicate_zero, List.cons_append, List.nil_append, List.append_nil, List.getElem?_cons_zero, List.getElem?_cons_succ, List.set_cons_zero, List.set_cons_succ, List.length_cons, List.length_nil, List.getD_cons_zero, List.getD_cons_succ, if_true, if_false, Bool.false_eq_true, reduceIte, Bool.not_true, Bool.not_false, true_and, and_true, ewipe, Nat.sub_self, Nat.zero_add] at q ⊢
  try unfold W_is_part_3
  try simp only [wDef, wSeq_eq, wNext, wIfS, wTst, wTru, wtAnd, wtOr, wtNot, wOp, wVar, wC, wCall, wCons, wNil, wTup, wLst, wAsg, gN, gsC, gsN, gSt, stIx, wRet, wRetN, wDrop, wAnd, wOr, wNot, wIf, wChain, wUn, wMt, wPar2, wSl, wPart, wNoPart, wFmt, wJs, wDict0, wDict, wpNil, wpCons, wFor, wWhile, wLc, itS, itRng1, itRng2, wYes, wCallK, wBreak, wCont, bAdd, bInt, bSub, bMul, bMod, bDiv, bPow, bNeg, cInt, cLe, cGt, cGe, cLt, cEq, cNe, cIsN, cNotN, cIn, cNotIn, truD_bl, truD_non, truD_int, truD_tup, truD_str, fI1, fI2, fAbs, fMax2, fMin2, Src.D, slR, fmtD, gStar, wKGet, itZip, cIsB, cNotB, List.map_cons, List.map_nil, List.replicate_succ, List.replicate_zero, List.cons_append, List.nil_append, List.append_nil, List.getElem?_cons_zero, List.getElem?_cons_succ, List.set_cons_zero, List.set_cons_succ, List.length_cons, List.length_nil, List.getD_cons_zero, List.getD_cons_succ, if_true, if_false, Bool.false_eq_true, reduceIte, Bool.not_true, Bool.not_false, true_and, and_true, ewipe, Nat.sub_self, Nat.zero_add]
  try simp only [eq_str]
  by_cases h3 : s = "place"
  · simp only [h3, decide_true, List.map_cons, List.map_nil, List.replicate_succ, List.replicate_zero, List.cons_append, List.nil_append, List.append_nil, List.getElem?_cons_zero, List.getElem?_cons_succ, List.set_cons_zero, List.set_cons_succ, List.length_cons, List.length_nil, List.getD_cons_zero, List.getD_cons_succ, if_true, if_false, Bool.false_eq_true, reduceIte, Bool.not_true, Bool.not_false, true_and, and_true, ewipe, Nat.sub_self, Nat.zero_add] at q ⊢
    refine is_field_ok ha.ask fun M1 f1 => ?_
    unfold placeD at q
    by_cases hf : isFieldD d = true
    · simp only [hf, List.map_cons, List.map_nil, List.replicate_succ, List.replicate_zero, List.cons_append, List.nil_append, List.append_nil, List.getElem?_cons_zero, List.getElem?_cons_succ, List.set_cons_zero, List.set_cons_succ, List.length_cons, List.length_nil, List.getD_cons_zero, List.getD_cons_succ, if_true, if_false, Bool.false_eq_true, reduceIte, Bool.not_true, Bool.not_false, true_and, and_true, ewipe, Nat.sub_self, Nat.zero_add, Bool.true_or] at q ⊢
      exact q M1 f1
    · have hf' : isFieldD d = false := by simpa using hf
      simp only [hf', List.map_cons, List.map_nil, List.replicate_succ, List.replicate_zero, List.cons_append, List.nil_append, List.append_nil, List.getElem?_cons_zero, List.getElem?_cons_succ, List.set_cons_zero, List.set_cons_succ, List.length_cons, List.length_nil, List.getD_cons_zero, List.getD_cons_succ, if_true, if_false, Bool.false_eq_true, reduceIte, Bool.not_true, Bool.not_false, true_and, and_true, ewipe, Nat.sub_self, Nat.zero_add, Bool.false_or] at q ⊢
      have := par (ha.mono f1) (R := Q) fun M' f' => q M' (f1.trans f')
      try simp only [wDef, wSeq_eq, wNext, wIfS, wTst, wTru, wtAnd, wtOr, wtNot, wOp, wVar, wC, wCall, wCons, wNil, wTup, wLst, wAsg, gN, gsC, gsN, gSt, stIx, wRet, wRetN, wDrop, wAnd, wOr, wNot, wIf, wChain, wUn, wMt, wPar2, wSl, wPart, wNoPart, wFmt, wJs, wDict0, wDict, wpNil, wpCons, wFor, wWhile, wLc, itS, itRng1, itRng2, wYes, wCallK, wBreak, wCont, bAdd, bInt, bSub, bMul, bMod, bDiv, bPow, bNeg, cInt, cLe, cGt, cGe, cLt, cEq, cNe, cIsN, cNotN, cIn, cNotIn, truD_bl, truD_non, truD_int, truD_tup, truD_str, fI1, fI2, fAbs, fMax2, fMin2, Src.D, slR, fmtD, gStar, wKGet, itZip, cIsB, cNotB, List.map_cons, List.map_nil, List.replicate_succ, List.replicate_zero, List.cons_append, List.nil_append, List.append_nil, List.getElem?_cons_zero, List.getElem?_cons_succ, List.set_cons_zero, List.set_cons_succ, List.length_cons, List.length_nil, List.getD_cons_zero, List.getD_cons_succ, if_true, if_false, Bool.false_eq_true, reduceIte, Bool.not_true, Bool.not_false, true_and, and_true, ewipe, Nat.sub_self, Nat.zero_add] at this
      exact this
  simp only [h3, decide_false, List.map_cons, List.map_nil, List.replicate_succ, List.replicate_zero, List.cons_append, List.nil_append, List.append_nil, List.getElem?_cons_zero, List.getElem?_cons_succ, List.set_cons_zero, List.set_cons_succ, List.length_cons, List.length_nil, List.getD_cons_zero, List.getD_cons_succ, if_true, if_false, Bool.false_eq_true, reduceIte, Bool.not_true, Bool.not_false, true_and, and_true, ewipe, Nat.sub_self, Nat.zero_add] at q ⊢
  try unfold W_is_part_2
  try simp only [wDef, wSeq_eq, wNext, wIfS, wTst, wTru, wtAnd, wtOr, wtNot, wOp, wVar, wC, wCall, wCons, wNil, wTup, wLst, wAsg, gN, gsC, gsN, gSt, stIx, wRet, wRetN, wDrop, wAnd, wOr, wNot, wIf, wChain, wUn, wMt, wPar2, wSl, wPart, wNoPart, wFmt, wJs, wDict0, wDict, wpNil, wpCons, wFor, wWhile, wLc, itS, itRng1, itRng2, wYes, wCallK, wBreak, wCont, bAdd, bInt, bSub, bMul, bMod, bDiv, bPow, bNeg, cInt, cLe, cGt, cGe, cLt, cEq, cNe, cIsN, cNotN, cIn, cNotIn, truD_bl, truD_non, truD_int, truD_tup, truD_str, fI1, fI2, fAbs, fMax2, fMin2, Src.D, slR, fmtD, gStar, wKGet, itZip, cIsB, cNotB, List.map_cons, List.map_nil, List.replicate_succ, List.replicate_zero, List.cons_append, List.nil_append, List.append_nil, List.getElem?_cons_zero, List.getElem?_cons_succ, List.set_cons_zero, List.set_cons_succ, List.length_cons, List.length_nil, List.getD_cons_zero, List.getD_cons_succ, if_true, if_false, Bool.false_eq_true, reduceIte, Bool.not_true, Bool.not_false, true_and, and_true, ewipe, Nat.sub_self, Nat.zero_add]
  try simp only [eq_str]
  by_cases h4 : s = "what"
  · simp only [h4, decide_true, List.map_cons, List.map_nil, List.replicate_succ, List.replicate_zero, List.cons_append, List.nil_append, List.append_nil, List.getElem?_cons_zero, List.getElem?_cons_succ, List.set_cons_zero, List.set_cons_succ, List.length_cons, List.length_nil, List.getD_cons_zero, List.getD_cons_succ, if_true, if_false, Bool.false_eq_true, reduceIte, Bool.not_true, Bool.not_false, true_and, and_true, ewipe, Nat.sub_self, Nat.zero_add] at q ⊢
    exact is_what_ok ha (q M .refl)
  simp only [h4, decide_false, List.map_cons, List.map_nil, List.replicate_succ, List.replicate_zero, List.cons_append, List.nil_append, List.append_nil, List.getElem?_cons_zero, List.getElem?_cons_succ, List.set_cons_zero, List.set_cons_succ, List.length_cons, List.length_nil, List.getD_cons_zero, List.getD_cons_succ, if_true, if_false, Bool.false_eq_true, reduceIte, Bool.not_true, Bool.not_false, true_and, and_true, ewipe, Nat.sub_self, Nat.zero_add] at q ⊢
  try unfold W_is_part_1
  try simp only [wDef, wSeq_eq, wNext, wIfS, wTst, wTru, wtAnd, wtOr, wtNot, wOp, wVar, wC, wCall, wCons, wNil, wTup, wLst, wAsg, gN, gsC, gsN, gSt, stIx, wRet, wRetN, wDrop, wAnd, wOr, wNot, wIf, wChain, wUn, wMt, wPar2, wSl, wPart, wNoPart, wFmt, wJs, wDict0, wDict, wpNil, wpCons, wFor, wWhile, wLc, itS, itRng1, itRng2, wYes, wCallK, wBreak, wCont, bAdd, bInt, bSub, bMul, bMod, bDiv, bPow, bNeg, cInt, cLe, cGt, cGe, cLt, cEq, cNe, cIsN, cNotN, cIn, cNotIn, truD_bl, truD_non, truD_int, truD_tup, truD_str, fI1, fI2, fAbs, fMax2, fMin2, Src.D, slR, fmtD, gStar, wKGet, itZip, cIsB, cNotB, List.map_cons, List.map_nil, List.replicate_succ, List.replicate_zero, List.cons_append, List.nil_append, List.append_nil, List.getElem?_cons_zero, List.getElem?_cons_succ, List.set_cons_zero, List.set_cons_succ, List.length_cons, List.length_nil, List.getD_cons_zero, List.getD_cons_succ, if_true, if_false, Bool.false_eq_true, reduceIte, Bool.not_true, Bool.not_false, true_and, and_true, ewipe, Nat.sub_self, Nat.zero_add]
  refine is_whole_ok ha.ask ?_
  have q1 := q M .refl
  cases d with
  | int i =>
    simp only [wholeB, List.map_cons, List.map_nil, List.replicate_succ, List.replicate_zero, List.cons_append, List.nil_append, List.append_nil, List.getElem?_cons_zero, List.getElem?_cons_succ, List.set_cons_zero, List.set_cons_succ, List.length_cons, List.length_nil, List.getD_cons_zero, List.getD_cons_succ, if_true, if_false, Bool.false_eq_true, reduceIte, Bool.not_true, Bool.not_false, true_and, and_true, ewipe, Nat.sub_self, Nat.zero_add, bIx_tup, atI_0, ex_some]
    unfold uptoD at q1
    by_cases h5 : 0 ≤ i
    · simp only [h5, decide_true, List.map_cons, List.map_nil, List.replicate_succ, List.replicate_zero, List.cons_append, List.nil_append, List.append_nil, List.getElem?_cons_zero, List.getElem?_cons_succ, List.set_cons_zero, List.set_cons_succ, List.length_cons, List.length_nil, List.getD_cons_zero, List.getD_cons_succ, if_true, if_false, Bool.false_eq_true, reduceIte, Bool.not_true, Bool.not_false, true_and, and_true, ewipe, Nat.sub_self, Nat.zero_add, Bool.true_and] at q1 ⊢
      exact q1
    · simp only [h5, decide_false, List.map_cons, List.map_nil, List.replicate_succ, List.replicate_zero, List.cons_append, List.nil_append, List.append_nil, List.getElem?_cons_zero, List.getElem?_cons_succ, List.set_cons_zero, List.set_cons_succ, List.length_cons, List.length_nil, List.getD_cons_zero, List.getD_cons_succ, if_true, if_false, Bool.false_eq_true, reduceIte, Bool.not_true, Bool.not_false, true_and, and_true, ewipe, Nat.sub_self, Nat.zero_add, Bool.false_and] at q1 ⊢
      exact q1
  | _ => exact q1
def zf (c : Int) (n : Str) : D → Bool
  | .tup [.str s, x] => partD s c n x
  | _ => false
def wordsD (c : Int) (n : Str) : D → Bool
  | .tup (.str w :: rest) => match kvGet kd_PARTS w with
    | some (.tup sorts) => decide (rest.length = sorts.length) && (zipD sorts rest).all (zf c n)
    | _ => false
  | _ => false
def WordsOk (d : D) : Prop := ∀ ds, d = .tup ds → ds.length ≤ 40 ∧ ∀ x ∈ ds, PartOk x
theorem parts_val {x : Str} {v : D} (h : kvGet kd_PARTS x = some v) : ∃ ss : List Str, v = .tup (ss.map .str) ∧ ss.length ≤ 3 := by
  unfold kvGet at h
  cases e : kd_PARTS.find? (fun kv => decide (kv.1 = x)) with
  | none => rw [e] at h; cases h
  | some kv =>
    rw [e] at h
    have hm := List.mem_of_find?_eq_some e
    have hv : kv.2 = v := Option.some.inj h
    simp only [kd_PARTS, List.mem_cons, List.not_mem_nil, or_false] at hm
    rcases hm with rfl | rfl | rfl | rfl | rfl
    · exact ⟨["parent", "place", "what"], hv.symm, by decide⟩
    · exact ⟨["stamp", "parent", "place"], hv.symm, by decide⟩
    · exact ⟨["stamp"], hv.symm, by decide⟩
    · exact ⟨["stamp"], hv.symm, by decide⟩
    · exact ⟨["upto"], hv.symm, by decide⟩
theorem mem_zip {ss : List Str} : ∀ {r : List D} {d : D}, d ∈ zipD (ss.map .str) r → ∃ s x, d = .tup [.str s, x] ∧ x ∈ r := by
  induction ss with
  | nil => intro r d h; cases r <;> simp [zipD] at h
  | cons s ss ih =>
    intro r d h
    cases r with
    | nil => simp [zipD] at h
    | cons x r =>
      unfold zipD at h
      rw [List.map_cons, List.zipWith_cons_cons] at h
      rcases List.mem_cons.mp h with rfl | h
      · exact ⟨s, x, rfl, List.mem_cons_self⟩
      · obtain ⟨s', x', e, hx⟩ := ih h
        exact ⟨s', x', e, List.mem_cons_of_mem _ hx⟩
theorem zip_len {ss : List Str} {r : List D} : (zipD (ss.map .str) r).length ≤ ss.length := by
  unfold zipD
  rw [List.length_zipWith, List.length_map]
  exact Nat.min_le_left _ _
theorem words_no {d : D} {c : Int} {n : Str} (h : ∀ w r, d ≠ .tup (.str w :: r)) : wordsD c n d = false := by
  unfold wordsD
  split
  · exact absurd rfl (h _ _)
  · rfl
theorem seq_lst {a : Addr} {M : Mp} {ds : List D} (h : M a = some (.lst ds)) : seqOf (.ref a) M = some ds := by
  unfold seqOf lstOf
  dsimp only
  rw [h]
theorem are_words_ok {d : D} {c : Int} {n : Str} {M : Mp} {Q : DQ} (ha : AskA M d) (hw : WordsOk d) (q : ∀ M', Fr [] M M' → Q (.bl (wordsD c n d)) M') : W_are_words [d, .tup [.int c, .str n]] M Q := by
  obtain ⟨⟨t, ht⟩, hz⟩ := ha.ask
  unfold W_are_words
  try simp only [wDef, wSeq_eq, wNext, wIfS, wTst, wTru, wtAnd, wtOr, wtNot, wOp, wVar, wC, wCall, wCons, wNil, wTup, wLst, wAsg, gN, gsC, gsN, gSt, stIx, wRet, wRetN, wDrop, wAnd, wOr, wNot, wIf, wChain, wUn, wMt, wPar2, wSl, wPart, wNoPart, wFmt, wJs, wDict0, wDict, wpNil, wpCons, wFor, wWhile, wLc, itS, itRng1, itRng2, wYes, wCallK, wBreak, wCont, bAdd, bInt, bSub, bMul, bMod, bDiv, bPow, bNeg, cInt, cLe, cGt, cGe, cLt, cEq, cNe, cIsN, cNotN, cIn, cNotIn, truD_bl, truD_non, truD_int, truD_tup, truD_str, fI1, fI2, fAbs, fMax2, fMin2, Src.D, slR, fmtD, gStar, wKGet, itZip, cIsB, cNotB, List.map_cons, List.map_nil, List.replicate_succ, List.replicate_zero, List.cons_append, List.nil_append, List.append_nil, List.getElem?_cons_zero, List.getElem?_cons_succ, List.set_cons_zero, List.set_cons_succ, List.length_cons, List.length_nil, List.getD_cons_zero, List.getD_cons_succ, if_true, if_false, Bool.false_eq_true, reduceIte, Bool.not_true, Bool.not_false, true_and, and_true, ewipe, Nat.sub_self, Nat.zero_add]
  try simp only [isi_eq (n := "str") ht, isi_eq (n := "int") ht, isi_eq (n := "bool") ht, isi_eq (n := "tuple") ht, isi_eq (n := "list") ht, isi_eq (n := "dict") ht]
  by_cases h : t = "tuple"
  · subst h
    obtain ⟨ds, rfl⟩ := ty_tup ht
    obtain ⟨hn, hpo⟩ := hw ds rfl
    simp only [ktt, List.map_cons, List.map_nil, List.replicate_succ, List.replicate_zero, List.cons_append, List.nil_append, List.append_nil, List.getElem?_cons_zero, List.getElem?_cons_succ, List.set_cons_zero, List.set_cons_succ, List.length_cons, List.length_nil, List.getD_cons_zero, List.getD_cons_succ, if_true, if_false, Bool.false_eq_true, reduceIte, Bool.not_true, Bool.not_false, true_and, and_true, ewipe, Nat.sub_self, Nat.zero_add]
    have hm := AskAs.mem (show AskAs M ds from ha)
    match ds, hm, hn, hpo, q with
    | [], hm, _, _, q => exact ⟨by decide, q M .refl⟩
    | a :: r, hm, hn, hpo, q =>
      refine ⟨by decide, ?_⟩
      simp only [bIx_tup, atI_0, ex_some, List.isEmpty_cons, List.map_cons, List.map_nil, List.replicate_succ, List.replicate_zero, List.cons_append, List.nil_append, List.append_nil, List.getElem?_cons_zero, List.getElem?_cons_succ, List.set_cons_zero, List.set_cons_succ, List.length_cons, List.length_nil, List.getD_cons_zero, List.getD_cons_succ, if_true, if_false, Bool.false_eq_true, reduceIte, Bool.not_true, Bool.not_false, true_and, and_true, ewipe, Nat.sub_self, Nat.zero_add]
      obtain ⟨⟨ta, hta⟩, hza⟩ := (hm a List.mem_cons_self).ask
      simp only [isi_eq (n := "str") hta, isi_eq (n := "int") hta, isi_eq (n := "bool") hta, isi_eq (n := "tuple") hta, isi_eq (n := "list") hta, isi_eq (n := "dict") hta]
      by_cases hs : ta = "str"
      · subst hs
        obtain ⟨w, rfl⟩ := ty_str hta
        simp only [kss, List.map_cons, List.map_nil, List.replicate_succ, List.replicate_zero, List.cons_append, List.nil_append, List.append_nil, List.getElem?_cons_zero, List.getElem?_cons_succ, List.set_cons_zero, List.set_cons_succ, List.length_cons, List.length_nil, List.getD_cons_zero, List.getD_cons_succ, if_true, if_false, Bool.false_eq_true, reduceIte, Bool.not_true, Bool.not_false, true_and, and_true, ewipe, Nat.sub_self, Nat.zero_add]
        refine ⟨_, rfl, by simp, Nat.le_trans hn (by decide), fun p M1 hp e1 f1 => ?_⟩
        change M1 p = some (.lst r) at e1
        simp only [List.take_succ_cons, List.take_zero, List.map_cons, List.map_nil, List.replicate_succ, List.replicate_zero, List.cons_append, List.nil_append, List.append_nil, List.getElem?_cons_zero, List.getElem?_cons_succ, List.set_cons_zero, List.set_cons_succ, List.length_cons, List.length_nil, List.getD_cons_zero, List.getD_cons_succ, if_true, if_false, Bool.false_eq_true, reduceIte, Bool.not_true, Bool.not_false, true_and, and_true, ewipe, Nat.sub_self, Nat.zero_add]
        simp only [gsC, gsN, gN, List.map_cons, List.map_nil, List.replicate_succ, List.replicate_zero, List.cons_append, List.nil_append, List.append_nil, List.getElem?_cons_zero, List.getElem?_cons_succ, List.set_cons_zero, List.set_cons_succ, List.length_cons, List.length_nil, List.getD_cons_zero, List.getD_cons_succ, if_true, if_false, Bool.false_eq_true, reduceIte, Bool.not_true, Bool.not_false, true_and, and_true, ewipe, Nat.sub_self, Nat.zero_add]
        have wd : wordsD c n (.tup (.str w :: r)) = match kvGet kd_PARTS w with
          | some (.tup sorts) => decide (r.length = sorts.length) && (zipD sorts r).all (zf c n)
          | _ => false := rfl
        rw [wd] at q
        cases hk : kvGet kd_PARTS w with
        | none =>
          rw [hk] at q
          simp only [hk, Option.getD_none]
          exact q M1 f1
        | some v =>
          obtain ⟨ss, rfl, hss⟩ := parts_val hk
          rw [hk] at q
          simp only [hk, Option.getD_some, List.map_cons, List.map_nil, List.replicate_succ, List.replicate_zero, List.cons_append, List.nil_append, List.append_nil, List.getElem?_cons_zero, List.getElem?_cons_succ, List.set_cons_zero, List.set_cons_succ, List.length_cons, List.length_nil, List.getD_cons_zero, List.getD_cons_succ, if_true, if_false, Bool.false_eq_true, reduceIte, Bool.not_true, Bool.not_false, true_and, and_true, ewipe, Nat.sub_self, Nat.zero_add]
          refine len_ask e1 ?_
          simp only [fLen, List.length_map, eq_int, List.map_cons, List.map_nil, List.replicate_succ, List.replicate_zero, List.cons_append, List.nil_append, List.append_nil, List.getElem?_cons_zero, List.getElem?_cons_succ, List.set_cons_zero, List.set_cons_succ, List.length_cons, List.length_nil, List.getD_cons_zero, List.getD_cons_succ, if_true, if_false, Bool.false_eq_true, reduceIte, Bool.not_true, Bool.not_false, true_and, and_true, ewipe, Nat.sub_self, Nat.zero_add]
          by_cases hl : r.length = ss.length
          · have hl2 : (r.length : Int) = (ss.length : Int) := by omega
            simp only [hl2, decide_true, List.map_cons, List.map_nil, List.replicate_succ, List.replicate_zero, List.cons_append, List.nil_append, List.append_nil, List.getElem?_cons_zero, List.getElem?_cons_succ, List.set_cons_zero, List.set_cons_succ, List.length_cons, List.length_nil, List.getD_cons_zero, List.getD_cons_succ, if_true, if_false, Bool.false_eq_true, reduceIte, Bool.not_true, Bool.not_false, true_and, and_true, ewipe, Nat.sub_self, Nat.zero_add]
            simp only [hl, List.length_map, decide_true, Bool.true_and] at q
            refine ⟨_, _, rfl, seq_lst e1, fun l M2 hl el fl => lc_bools hl el fl (Nat.le_trans zip_len (by omega)) (fun M' f' => ⟨rfl, seq_lst (f' _ _ (by simp) e1)⟩) (zf c n) (fun d M3 R hd f3 hR => ?_) fun M3 f3 e3 => all_bools e3 ?_⟩
            · obtain ⟨s, x, rfl, hx⟩ := mem_zip hd
              refine ⟨rfl, ?_⟩
              try simp only [wDef, wSeq_eq, wNext, wIfS, wTst, wTru, wtAnd, wtOr, wtNot, wOp, wVar, wC, wCall, wCons, wNil, wTup, wLst, wAsg, gN, gsC, gsN, gSt, stIx, wRet, wRetN, wDrop, wAnd, wOr, wNot, wIf, wChain, wUn, wMt, wPar2, wSl, wPart, wNoPart, wFmt, wJs, wDict0, wDict, wpNil, wpCons, wFor, wWhile, wLc, itS, itRng1, itRng2, wYes, wCallK, wBreak, wCont, bAdd, bInt, bSub, bMul, bMod, bDiv, bPow, bNeg, cInt, cLe, cGt, cGe, cLt, cEq, cNe, cIsN, cNotN, cIn, cNotIn, truD_bl, truD_non, truD_int, truD_tup, truD_str, fI1, fI2, fAbs, fMax2, fMin2, Src.D, slR, fmtD, gStar, wKGet, itZip, cIsB, cNotB, List.map_cons, List.map_nil, List.replicate_succ, List.replicate_zero, List.cons_append, List.nil_append, List.append_nil, List.getElem?_cons_zero, List.getElem?_cons_succ, List.set_cons_zero, List.set_cons_succ, List.length_cons, List.length_nil, List.getD_cons_zero, List.getD_cons_succ, if_true, if_false, Bool.false_eq_true, reduceIte, Bool.not_true, Bool.not_false, true_and, and_true, ewipe, Nat.sub_self, Nat.zero_add]
              exact is_part_ok ((hm x (List.mem_cons_of_mem _ hx)).mono (f1.trans f3)) (hpo x (List.mem_cons_of_mem _ hx)) hR
            · rw [all_map]
              exact q M3 (f1.trans f3)
          · have hl2 : ¬ (r.length : Int) = (ss.length : Int) := by omega
            simp only [hl2, decide_false, List.map_cons, List.map_nil, List.replicate_succ, List.replicate_zero, List.cons_append, List.nil_append, List.append_nil, List.getElem?_cons_zero, List.getElem?_cons_succ, List.set_cons_zero, List.set_cons_succ, List.length_cons, List.length_nil, List.getD_cons_zero, List.getD_cons_succ, if_true, if_false, Bool.false_eq_true, reduceIte, Bool.not_true, Bool.not_false, true_and, and_true, ewipe, Nat.sub_self, Nat.zero_add]
            simp only [hl, List.length_map, decide_false, Bool.false_and] at q
            exact q M1 f1
      · simp only [kit_str hs, List.map_cons, List.map_nil, List.replicate_succ, List.replicate_zero, List.cons_append, List.nil_append, List.append_nil, List.getElem?_cons_zero, List.getElem?_cons_succ, List.set_cons_zero, List.set_cons_succ, List.length_cons, List.length_nil, List.getD_cons_zero, List.getD_cons_succ, if_true, if_false, Bool.false_eq_true, reduceIte, Bool.not_true, Bool.not_false, true_and, and_true, ewipe, Nat.sub_self, Nat.zero_add]
        rw [words_no (fun w r' e => by cases e; exact hs (Option.some.inj hta).symm)] at q
        exact q M .refl
  · simp only [kit_tup h, List.map_cons, List.map_nil, List.replicate_succ, List.replicate_zero, List.cons_append, List.nil_append, List.append_nil, List.getElem?_cons_zero, List.getElem?_cons_succ, List.set_cons_zero, List.set_cons_succ, List.length_cons, List.length_nil, List.getD_cons_zero, List.getD_cons_succ, if_true, if_false, Bool.false_eq_true, reduceIte, Bool.not_true, Bool.not_false, true_and, and_true, ewipe, Nat.sub_self, Nat.zero_add]
    rw [words_no (fun w r e => by subst e; exact h (Option.some.inj ht).symm)] at q
    exact q M .refl
def whole0 (c : Int) (d : D) : Bool := uptoD c d
def deedD : D → Bool
  | .tup [.tup [.int c, .str n], b, w] => isStampD (.tup [.int c, .str n]) && (uptoD c b && wordsD c n w)
  | _ => false
theorem deed_no {ds : List D} (h : ¬ ds.length = 3) : deedD (.tup ds) = false := by
  unfold deedD
  split
  · rename_i e; cases e; exact absurd rfl h
  · rfl
theorem deed_nt {d : D} (h : ∀ ds, d ≠ .tup ds) : deedD d = false := by
  cases d with
  | tup ds => exact absurd rfl (h ds)
  | _ => rfl
theorem deed_ns {s b w : D} (h : isStampD s = false) : deedD (.tup [s, b, w]) = false := by
  unfold deedD
  split
  · rename_i e; cases e; rw [h]; rfl
  · rfl
theorem three_of {ds : List D} (h : ds.length = 3) : ∃ a b c, ds = [a, b, c] := by
  match ds, h with
  | [a, b, c], _ => exact ⟨a, b, c, rfl⟩
def DeedOk (d : D) : Prop := ∀ s b w, d = .tup [s, b, w] → WordsOk w
theorem is_deed_ok {d : D} {M : Mp} {Q : DQ} (ha : AskA M d) (hw : DeedOk d) (q : ∀ M', Fr [] M M' → Q (.bl (deedD d)) M') : W_is_deed [d] M Q := by
  obtain ⟨⟨t, ht⟩, hz⟩ := ha.ask
  unfold W_is_deed
  try simp only [wDef, wSeq_eq, wNext, wIfS, wTst, wTru, wtAnd, wtOr, wtNot, wOp, wVar, wC, wCall, wCons, wNil, wTup, wLst, wAsg, gN, gsC, gsN, gSt, stIx, wRet, wRetN, wDrop, wAnd, wOr, wNot, wIf, wChain, wUn, wMt, wPar2, wSl, wPart, wNoPart, wFmt, wJs, wDict0, wDict, wpNil, wpCons, wFor, wWhile, wLc, itS, itRng1, itRng2, wYes, wCallK, wBreak, wCont, bAdd, bInt, bSub, bMul, bMod, bDiv, bPow, bNeg, cInt, cLe, cGt, cGe, cLt, cEq, cNe, cIsN, cNotN, cIn, cNotIn, truD_bl, truD_non, truD_int, truD_tup, truD_str, fI1, fI2, fAbs, fMax2, fMin2, Src.D, slR, fmtD, gStar, wKGet, itZip, cIsB, cNotB, List.map_cons, List.map_nil, List.replicate_succ, List.replicate_zero, List.cons_append, List.nil_append, List.append_nil, List.getElem?_cons_zero, List.getElem?_cons_succ, List.set_cons_zero, List.set_cons_succ, List.length_cons, List.length_nil, List.getD_cons_zero, List.getD_cons_succ, if_true, if_false, Bool.false_eq_true, reduceIte, Bool.not_true, Bool.not_false, true_and, and_true, ewipe, Nat.sub_self, Nat.zero_add]
  try simp only [isi_eq (n := "str") ht, isi_eq (n := "int") ht, isi_eq (n := "bool") ht, isi_eq (n := "tuple") ht, isi_eq (n := "list") ht, isi_eq (n := "dict") ht]
  by_cases h : t = "tuple"
  · subst h
    obtain ⟨ds, rfl⟩ := ty_tup ht
    simp only [ktt, fLen, eq_int, List.map_cons, List.map_nil, List.replicate_succ, List.replicate_zero, List.cons_append, List.nil_append, List.append_nil, List.getElem?_cons_zero, List.getElem?_cons_succ, List.set_cons_zero, List.set_cons_succ, List.length_cons, List.length_nil, List.getD_cons_zero, List.getD_cons_succ, if_true, if_false, Bool.false_eq_true, reduceIte, Bool.not_true, Bool.not_false, true_and, and_true, ewipe, Nat.sub_self, Nat.zero_add]
    by_cases h2 : ds.length = 3
    · have h3 : (ds.length : Int) = 3 := by omega
      simp only [h3, decide_true, List.map_cons, List.map_nil, List.replicate_succ, List.replicate_zero, List.cons_append, List.nil_append, List.append_nil, List.getElem?_cons_zero, List.getElem?_cons_succ, List.set_cons_zero, List.set_cons_succ, List.length_cons, List.length_nil, List.getD_cons_zero, List.getD_cons_succ, if_true, if_false, Bool.false_eq_true, reduceIte, Bool.not_true, Bool.not_false, true_and, and_true, ewipe, Nat.sub_self, Nat.zero_add]
      clear h3
      obtain ⟨s, b, w, rfl⟩ := three_of h2
      have hm := AskAs.mem (show AskAs M [s, b, w] from ha)
      refine ⟨rfl, ?_⟩
      try simp only [wDef, wSeq_eq, wNext, wIfS, wTst, wTru, wtAnd, wtOr, wtNot, wOp, wVar, wC, wCall, wCons, wNil, wTup, wLst, wAsg, gN, gsC, gsN, gSt, stIx, wRet, wRetN, wDrop, wAnd, wOr, wNot, wIf, wChain, wUn, wMt, wPar2, wSl, wPart, wNoPart, wFmt, wJs, wDict0, wDict, wpNil, wpCons, wFor, wWhile, wLc, itS, itRng1, itRng2, wYes, wCallK, wBreak, wCont, bAdd, bInt, bSub, bMul, bMod, bDiv, bPow, bNeg, cInt, cLe, cGt, cGe, cLt, cEq, cNe, cIsN, cNotN, cIn, cNotIn, truD_bl, truD_non, truD_int, truD_tup, truD_str, fI1, fI2, fAbs, fMax2, fMin2, Src.D, slR, fmtD, gStar, wKGet, itZip, cIsB, cNotB, List.map_cons, List.map_nil, List.replicate_succ, List.replicate_zero, List.cons_append, List.nil_append, List.append_nil, List.getElem?_cons_zero, List.getElem?_cons_succ, List.set_cons_zero, List.set_cons_succ, List.length_cons, List.length_nil, List.getD_cons_zero, List.getD_cons_succ, if_true, if_false, Bool.false_eq_true, reduceIte, Bool.not_true, Bool.not_false, true_and, and_true, ewipe, Nat.sub_self, Nat.zero_add]
      refine is_stamp_ok (AskA.t (hm s (by simp))) fun M1 f1 => ?_
      by_cases hs : isStampD s = true
      · obtain ⟨c, n, rfl⟩ := stamp_form hs
        simp only [hs, List.map_cons, List.map_nil, List.replicate_succ, List.replicate_zero, List.cons_append, List.nil_append, List.append_nil, List.getElem?_cons_zero, List.getElem?_cons_succ, List.set_cons_zero, List.set_cons_succ, List.length_cons, List.length_nil, List.getD_cons_zero, List.getD_cons_succ, if_true, if_false, Bool.false_eq_true, reduceIte, Bool.not_true, Bool.not_false, true_and, and_true, ewipe, Nat.sub_self, Nat.zero_add]
        have e : deedD (.tup [.tup [.int c, .str n], b, w]) = (isStampD (.tup [.int c, .str n]) && (uptoD c b && wordsD c n w)) := rfl
        rw [e, hs, Bool.true_and] at q
        refine is_whole_ok ((hm b (by simp)).mono f1).ask ?_
        cases b with
        | int i =>
          simp only [wholeB, List.map_cons, List.map_nil, List.replicate_succ, List.replicate_zero, List.cons_append, List.nil_append, List.append_nil, List.getElem?_cons_zero, List.getElem?_cons_succ, List.set_cons_zero, List.set_cons_succ, List.length_cons, List.length_nil, List.getD_cons_zero, List.getD_cons_succ, if_true, if_false, Bool.false_eq_true, reduceIte, Bool.not_true, Bool.not_false, true_and, and_true, ewipe, Nat.sub_self, Nat.zero_add, bIx_tup, atI_0, ex_some]
          unfold uptoD at q
          by_cases h5 : 0 ≤ i
          · by_cases h6 : i < c
            · simp only [h5, h6, decide_true, List.map_cons, List.map_nil, List.replicate_succ, List.replicate_zero, List.cons_append, List.nil_append, List.append_nil, List.getElem?_cons_zero, List.getElem?_cons_succ, List.set_cons_zero, List.set_cons_succ, List.length_cons, List.length_nil, List.getD_cons_zero, List.getD_cons_succ, if_true, if_false, Bool.false_eq_true, reduceIte, Bool.not_true, Bool.not_false, true_and, and_true, ewipe, Nat.sub_self, Nat.zero_add, Bool.true_and] at q ⊢
              try unfold W_is_deed_1
              try simp only [wDef, wSeq_eq, wNext, wIfS, wTst, wTru, wtAnd, wtOr, wtNot, wOp, wVar, wC, wCall, wCons, wNil, wTup, wLst, wAsg, gN, gsC, gsN, gSt, stIx, wRet, wRetN, wDrop, wAnd, wOr, wNot, wIf, wChain, wUn, wMt, wPar2, wSl, wPart, wNoPart, wFmt, wJs, wDict0, wDict, wpNil, wpCons, wFor, wWhile, wLc, itS, itRng1, itRng2, wYes, wCallK, wBreak, wCont, bAdd, bInt, bSub, bMul, bMod, bDiv, bPow, bNeg, cInt, cLe, cGt, cGe, cLt, cEq, cNe, cIsN, cNotN, cIn, cNotIn, truD_bl, truD_non, truD_int, truD_tup, truD_str, fI1, fI2, fAbs, fMax2, fMin2, Src.D, slR, fmtD, gStar, wKGet, itZip, cIsB, cNotB, List.map_cons, List.map_nil, List.replicate_succ, List.replicate_zero, List.cons_append, List.nil_append, List.append_nil, List.getElem?_cons_zero, List.getElem?_cons_succ, List.set_cons_zero, List.set_cons_succ, List.length_cons, List.length_nil, List.getD_cons_zero, List.getD_cons_succ, if_true, if_false, Bool.false_eq_true, reduceIte, Bool.not_true, Bool.not_false, true_and, and_true, ewipe, Nat.sub_self, Nat.zero_add]
              exact are_words_ok ((hm w (by simp)).mono f1) (hw _ _ _ rfl) fun M2 f2 => q M2 (f1.trans f2)
            · simp only [h5, h6, decide_true, decide_false, List.map_cons, List.map_nil, List.replicate_succ, List.replicate_zero, List.cons_append, List.nil_append, List.append_nil, List.getElem?_cons_zero, List.getElem?_cons_succ, List.set_cons_zero, List.set_cons_succ, List.length_cons, List.length_nil, List.getD_cons_zero, List.getD_cons_succ, if_true, if_false, Bool.false_eq_true, reduceIte, Bool.not_true, Bool.not_false, true_and, and_true, ewipe, Nat.sub_self, Nat.zero_add, Bool.true_and, Bool.false_and, Bool.and_false] at q ⊢
              exact q M1 f1
          · simp only [h5, decide_false, List.map_cons, List.map_nil, List.replicate_succ, List.replicate_zero, List.cons_append, List.nil_append, List.append_nil, List.getElem?_cons_zero, List.getElem?_cons_succ, List.set_cons_zero, List.set_cons_succ, List.length_cons, List.length_nil, List.getD_cons_zero, List.getD_cons_succ, if_true, if_false, Bool.false_eq_true, reduceIte, Bool.not_true, Bool.not_false, true_and, and_true, ewipe, Nat.sub_self, Nat.zero_add, Bool.false_and] at q ⊢
            exact q M1 f1
        | _ =>
          simp only [wholeB, uptoD, List.map_cons, List.map_nil, List.replicate_succ, List.replicate_zero, List.cons_append, List.nil_append, List.append_nil, List.getElem?_cons_zero, List.getElem?_cons_succ, List.set_cons_zero, List.set_cons_succ, List.length_cons, List.length_nil, List.getD_cons_zero, List.getD_cons_succ, if_true, if_false, Bool.false_eq_true, reduceIte, Bool.not_true, Bool.not_false, true_and, and_true, ewipe, Nat.sub_self, Nat.zero_add, Bool.false_and] at q ⊢
          exact q M1 f1
      · have hs' : isStampD s = false := by simpa using hs
        simp only [hs', List.map_cons, List.map_nil, List.replicate_succ, List.replicate_zero, List.cons_append, List.nil_append, List.append_nil, List.getElem?_cons_zero, List.getElem?_cons_succ, List.set_cons_zero, List.set_cons_succ, List.length_cons, List.length_nil, List.getD_cons_zero, List.getD_cons_succ, if_true, if_false, Bool.false_eq_true, reduceIte, Bool.not_true, Bool.not_false, true_and, and_true, ewipe, Nat.sub_self, Nat.zero_add]
        rw [deed_ns hs'] at q
        exact q M1 f1
    · rw [deed_no h2] at q
      have h3 : ¬ ((ds.length : Int) = 3) := by omega
      simp only [h3, decide_false, List.map_cons, List.map_nil, List.replicate_succ, List.replicate_zero, List.cons_append, List.nil_append, List.append_nil, List.getElem?_cons_zero, List.getElem?_cons_succ, List.set_cons_zero, List.set_cons_succ, List.length_cons, List.length_nil, List.getD_cons_zero, List.getD_cons_succ, if_true, if_false, Bool.false_eq_true, reduceIte, Bool.not_true, Bool.not_false, true_and, and_true, ewipe, Nat.sub_self, Nat.zero_add]
      exact q M .refl
  · simp only [kit_tup h, List.map_cons, List.map_nil, List.replicate_succ, List.replicate_zero, List.cons_append, List.nil_append, List.append_nil, List.getElem?_cons_zero, List.getElem?_cons_succ, List.set_cons_zero, List.set_cons_succ, List.length_cons, List.length_nil, List.getD_cons_zero, List.getD_cons_succ, if_true, if_false, Bool.false_eq_true, reduceIte, Bool.not_true, Bool.not_false, true_and, and_true, ewipe, Nat.sub_self, Nat.zero_add]
    rw [deed_nt (fun ds e => by subst e; exact h (Option.some.inj ht).symm)] at q
    exact q M .refl
theorem part_stamp {c : Int} {n : Str} {x : D} : partD "stamp" c n x = earlierD c n x := by
  unfold partD; rw [if_pos rfl]
theorem part_parent {c : Int} {n : Str} {x : D} : partD "parent" c n x = parentD c n x := by
  unfold partD; rw [if_neg (by decide +kernel), if_pos rfl]
theorem part_place {c : Int} {n : Str} {x : D} : partD "place" c n x = placeD c n x := by
  unfold partD; rw [if_neg (by decide +kernel), if_neg (by decide +kernel), if_pos rfl]
theorem part_what {c : Int} {n : Str} {x : D} : partD "what" c n x = isWhatD x := by
  unfold partD; rw [if_neg (by decide +kernel), if_neg (by decide +kernel), if_neg (by decide +kernel), if_pos rfl]
theorem part_upto {c : Int} {n : Str} {x : D} : partD "upto" c n x = uptoD c x := by
  unfold partD; rw [if_neg (by decide +kernel), if_neg (by decide +kernel), if_neg (by decide +kernel), if_neg (by decide +kernel)]
theorem words1 {w s : Str} {c : Int} {n : Str} {r : List D} (k : kvGet kd_PARTS w = some (.tup [.str s])) : wordsD c n (.tup (.str w :: r)) = match r with
    | [x] => partD s c n x
    | _ => false := by
  have e : wordsD c n (.tup (.str w :: r)) = match kvGet kd_PARTS w with
    | some (.tup sorts) => decide (r.length = sorts.length) && (zipD sorts r).all (zf c n)
    | _ => false := rfl
  rw [e, k]
  match r with
  | [] => rfl
  | [x] => simp [zipD, zf]
  | x :: y :: r => simp
theorem words3 {w s1 s2 s3 : Str} {c : Int} {n : Str} {r : List D} (k : kvGet kd_PARTS w = some (.tup [.str s1, .str s2, .str s3])) : wordsD c n (.tup (.str w :: r)) = match r with
    | [x, y, z] => partD s1 c n x && (partD s2 c n y && partD s3 c n z)
    | _ => false := by
  have e : wordsD c n (.tup (.str w :: r)) = match kvGet kd_PARTS w with
    | some (.tup sorts) => decide (r.length = sorts.length) && (zipD sorts r).all (zf c n)
    | _ => false := rfl
  rw [e, k]
  match r with
  | [] => rfl
  | [x] => simp
  | [x, y] => simp
  | [x, y, z] => simp [zipD, zf]
  | x :: y :: z :: u :: r => simp
theorem words0 {w : Str} {c : Int} {n : Str} {r : List D} (k : kvGet kd_PARTS w = none) : wordsD c n (.tup (.str w :: r)) = false := by
  have e : wordsD c n (.tup (.str w :: r)) = match kvGet kd_PARTS w with
    | some (.tup sorts) => decide (r.length = sorts.length) && (zipD sorts r).all (zf c n)
    | _ => false := rfl
  rw [e, k]
theorem inV2 {w a b : Str} : inV (.str w) [.str a, .str b] = (decide (w = a) || decide (w = b)) := by
  simp [inV, eqV, eq_comm, Bool.beq_eq_decide_eq]
theorem kv_none {w : Str} (h1 : w ≠ "put") (h2 : w ≠ "move") (h3 : w ≠ "take") (h4 : w ≠ "undo") (h5 : w ≠ "seen") : kvGet kd_PARTS w = none := by
  unfold kvGet kd_PARTS
  simp [h1.symm, h2.symm, h3.symm, h4.symm, h5.symm]
/-- a tree that is shown alike wherever it stands -/
structure Fix (d : D) (p : PyData) : Prop where
  rp : ∀ f, repW f d = some p
  sh : p.showable = true
  nd : p.hasDict = false
  dp : p.depth ≤ 5
  as : asc p = true
  co : cost p ≤ 2000
theorem stamp_fix {d : D} (h : isStampD d = true) : ∃ p, Fix d p := by
  unfold isStampD at h
  split at h
  · rename_i i n
    simp only [Bool.and_eq_true, decide_eq_true_eq] at h
    cases n with
    | str x =>
      have h3 : nameB x = true := h.2
      unfold nameB at h3
      simp only [Bool.and_eq_true, decide_eq_true_eq, List.all_eq_true] at h3
      have f1 : FO (.int i) := .int (by omega)
      have lt : ∀ c ∈ LET, c < 128 := by decide +kernel
      have f2 : FO (.str x) := .str (by omega) fun c hc => lt c (h3.2 c hc)
      obtain ⟨p, a1, a2, a3, a4, a5, a6, a7⟩ := f1.rp
      obtain ⟨q, b1, b2, b3, b4, b5, b6, b7⟩ := f2.rp
      refine ⟨.tuple [p, q], fun f => ?_, ?_, ?_, ?_, ?_, ?_⟩
      · have t1 := a1 f
        have t2 := b1 f
        simp only [repW] at t1 t2
        rw [← Option.some.inj t1, ← Option.some.inj t2]
        rfl
      · simp only [PyData.showable, PyData.showableAll, a2, b2]; rfl
      · simp only [PyData.hasDict, PyData.hasDictAll, a3, b3]; rfl
      · simp only [PyData.depth, PyData.depthAll, a5, b5]; decide
      · simp only [asc, ascs, a6, b6]; rfl
      · simp only [cost, costs]; omega
    | _ => exact absurd h.2 (by simp [isNameD])
  · cases h
theorem Fixs.rep : ∀ {ds : List D}, (∀ d ∈ ds, ∃ p, Fix d p) → ∃ ps, (∀ f, repWs f ds = some ps) ∧ PyData.showableAll ps = true ∧ PyData.hasDictAll ps = false ∧ PyData.depthAll ps ≤ 5 ∧ ascs ps = true ∧ costs ps ≤ 2002 * ds.length
  | [], _ => ⟨[], fun _ => rfl, rfl, rfl, by decide, rfl, Nat.zero_le _⟩
  | d :: ds, h => by
    obtain ⟨p, h1, h2, h3, h4, h5, h6⟩ := h d List.mem_cons_self
    obtain ⟨ps, g1, g2, g3, g4, g5, g6⟩ := Fixs.rep fun x hx => h x (List.mem_cons_of_mem _ hx)
    refine ⟨p :: ps, fun f => ?_, ?_, ?_, ?_, ?_, ?_⟩
    · unfold repWs; rw [h1 f, g1 f]; rfl
    · simp only [PyData.showableAll, h2, g2]; rfl
    · simp only [PyData.hasDictAll, h3, g3]; rfl
    · simp only [PyData.depthAll]; omega
    · simp only [ascs, h5, g5]; rfl
    · simp only [costs, List.length_cons]; omega
theorem list_rep {ds : List D} (h : ∀ d ∈ ds, ∃ p, Fix d p) (hz : ds.length ≤ 40) : ∃ P, ∀ M l, M l = some (.lst ds) → Rep M (.ref l) P := by
  obtain ⟨ps, g1, g2, g3, g4, g5, g6⟩ := Fixs.rep h
  refine ⟨.list ps, fun M l e => .mk' ?_ ?_ (.inl ?_) ?_ ?_ ?_⟩
  · rw [repD_ref, repL_lst e, g1]; rfl
  · simp only [PyData.showable, g2]
  · simp only [PyData.hasDict, g3]
  · simp only [PyData.depth]; omega
  · simp only [asc, g5]
  · simp only [cost]; omega
theorem lc_siftF {i : Nat} {wt : WT} {we : WE} {env0 : Ev} {Q : DQ} {items : List D} {M1 M2 : Mp} {l : Addr} (hl : M1 l = none) (e1 : M2 l = some (.lst [])) (f12 : Fr [] M1 M2) (hz : items.length ≤ 1000) (f : D → Bool)
    (hw : ∀ d M (R : Bool → Mp → Prop), d ∈ items → Fr [] M1 M → (∀ M', Fr [] M M' → R (f d) M') → wt (env0.set i (some d)) M R)
    (he : ∀ d M (R : DQ), R d M → we (env0.set i (some d)) M R)
    (q : ∀ M', Fr [] M1 M' → M' l = some (.lst (items.filter f)) → Q (.ref l) M') : runLc (fun _ => True) (gN i) wt we env0 l Q items M2 := by
  refine run_lc (fun k M => Fr [l] M2 M ∧ M l = some (.lst ((items.take k).filter f))) ⟨.refl, e1⟩ (fun k d r M hd hP next => ⟨trivial, ?_⟩) fun M hP => ?_
  · obtain ⟨fr, e⟩ := hP
    have hmem : d ∈ items := List.mem_of_mem_drop (by rw [hd]; exact List.mem_cons_self)
    have hk : k < items.length := by
      by_cases z : k < items.length
      · exact z
      · rw [List.drop_of_length_le (by omega)] at hd; cases hd
    have hget : items[k]? = some d := by
      have := congrArg (fun z => z[0]?) hd
      simpa using this
    have ht : (items.take (k + 1)).filter f = (items.take k).filter f ++ if f d = true then [d] else [] := by
      rw [List.take_add_one, hget, List.filter_append]
      by_cases hf : f d = true <;> simp [hf]
    refine hw d M _ hmem (Fr.drop hl f12 fr) fun M4 f4 => ?_
    by_cases hf : f d = true
    · rw [if_pos hf]
      rw [if_pos hf] at ht
      refine he d M4 _ ⟨_, f4 _ _ (by simp) e, ?_, fun M5 e5 f5 => next _ ⟨(fr.trans f4.nil).trans f5, ?_⟩⟩
      · exact Nat.lt_of_le_of_lt (List.length_filter_le _ _) (by rw [List.length_take]; exact Nat.lt_of_lt_of_le (Nat.lt_of_le_of_lt (Nat.min_le_left _ _) (Nat.lt_of_lt_of_le hk hz)) (by decide))
      · rw [e5, ht]
    · rw [if_neg hf]
      rw [if_neg hf, List.append_nil] at ht
      exact next _ ⟨fr.trans f4.nil, by rw [f4 _ _ (by simp) e, ht]⟩
  · obtain ⟨fr, e⟩ := hP
    rw [List.take_length] at e
    exact ⟨trivial, q M (Fr.drop hl f12 fr) e⟩
theorem cut1 {a : D} {r : List D} : cutL (a :: r) (some 1) none = r := by
  unfold cutL
  have h1 : HT.sIx (a :: r).length 0 (some 1) = 1 := by
    simp [HT.sIx]
  have h2 : HT.sIx (a :: r).length (a :: r).length none = r.length + 1 := by
    simp [HT.sIx]
  rw [h1, h2]
  simp
theorem named_ok {s b a : D} {r : List D} {M : Mp} {Q : DQ} (ha : ∀ x ∈ r, AskA M x) (hr : r.length ≤ 100) (q : ∀ l M', M l = none → Fr [] M M' → M' l = some (.lst (r.filter isStampD)) → Q (.ref l) M') : W_named [.tup [s, b, .tup (a :: r)]] M Q := by
  unfold W_named
  try simp only [wDef, wSeq_eq, wNext, wIfS, wTst, wTru, wtAnd, wtOr, wtNot, wOp, wVar, wC, wCall, wCons, wNil, wTup, wLst, wAsg, gN, gsC, gsN, gSt, stIx, wRet, wRetN, wDrop, wAnd, wOr, wNot, wIf, wChain, wUn, wMt, wPar2, wSl, wPart, wNoPart, wFmt, wJs, wDict0, wDict, wpNil, wpCons, wFor, wWhile, wLc, itS, itRng1, itRng2, wYes, wCallK, wBreak, wCont, bAdd, bInt, bSub, bMul, bMod, bDiv, bPow, bNeg, cInt, cLe, cGt, cGe, cLt, cEq, cNe, cIsN, cNotN, cIn, cNotIn, truD_bl, truD_non, truD_int, truD_tup, truD_str, fI1, fI2, fAbs, fMax2, fMin2, Src.D, slR, fmtD, gStar, wKGet, itZip, cIsB, cNotB, List.map_cons, List.map_nil, List.replicate_succ, List.replicate_zero, List.cons_append, List.nil_append, List.append_nil, List.getElem?_cons_zero, List.getElem?_cons_succ, List.set_cons_zero, List.set_cons_succ, List.length_cons, List.length_nil, List.getD_cons_zero, List.getD_cons_succ, if_true, if_false, Bool.false_eq_true, reduceIte, Bool.not_true, Bool.not_false, true_and, and_true, ewipe, Nat.sub_self, Nat.zero_add]
  refine ⟨rfl, ?_⟩
  try simp only [wDef, wSeq_eq, wNext, wIfS, wTst, wTru, wtAnd, wtOr, wtNot, wOp, wVar, wC, wCall, wCons, wNil, wTup, wLst, wAsg, gN, gsC, gsN, gSt, stIx, wRet, wRetN, wDrop, wAnd, wOr, wNot, wIf, wChain, wUn, wMt, wPar2, wSl, wPart, wNoPart, wFmt, wJs, wDict0, wDict, wpNil, wpCons, wFor, wWhile, wLc, itS, itRng1, itRng2, wYes, wCallK, wBreak, wCont, bAdd, bInt, bSub, bMul, bMod, bDiv, bPow, bNeg, cInt, cLe, cGt, cGe, cLt, cEq, cNe, cIsN, cNotN, cIn, cNotIn, truD_bl, truD_non, truD_int, truD_tup, truD_str, fI1, fI2, fAbs, fMax2, fMin2, Src.D, slR, fmtD, gStar, wKGet, itZip, cIsB, cNotB, List.map_cons, List.map_nil, List.replicate_succ, List.replicate_zero, List.cons_append, List.nil_append, List.append_nil, List.getElem?_cons_zero, List.getElem?_cons_succ, List.set_cons_zero, List.set_cons_succ, List.length_cons, List.length_nil, List.getD_cons_zero, List.getD_cons_succ, if_true, if_false, Bool.false_eq_true, reduceIte, Bool.not_true, Bool.not_false, true_and, and_true, ewipe, Nat.sub_self, Nat.zero_add]
  change isTup (.tup (cutL (a :: r) (some 1) none)) = true ∧ _
  refine ⟨rfl, ?_⟩
  rw [cut1]
  refine fun l M2 hl el fl => lc_siftF hl el fl (by omega) isStampD (fun d M R hd fm hR => ?_) (fun d M R hR => ?_) fun M' f' e' => q l M' hl f' e'
  · try simp only [wDef, wSeq_eq, wNext, wIfS, wTst, wTru, wtAnd, wtOr, wtNot, wOp, wVar, wC, wCall, wCons, wNil, wTup, wLst, wAsg, gN, gsC, gsN, gSt, stIx, wRet, wRetN, wDrop, wAnd, wOr, wNot, wIf, wChain, wUn, wMt, wPar2, wSl, wPart, wNoPart, wFmt, wJs, wDict0, wDict, wpNil, wpCons, wFor, wWhile, wLc, itS, itRng1, itRng2, wYes, wCallK, wBreak, wCont, bAdd, bInt, bSub, bMul, bMod, bDiv, bPow, bNeg, cInt, cLe, cGt, cGe, cLt, cEq, cNe, cIsN, cNotN, cIn, cNotIn, truD_bl, truD_non, truD_int, truD_tup, truD_str, fI1, fI2, fAbs, fMax2, fMin2, Src.D, slR, fmtD, gStar, wKGet, itZip, cIsB, cNotB, List.map_cons, List.map_nil, List.replicate_succ, List.replicate_zero, List.cons_append, List.nil_append, List.append_nil, List.getElem?_cons_zero, List.getElem?_cons_succ, List.set_cons_zero, List.set_cons_succ, List.length_cons, List.length_nil, List.getD_cons_zero, List.getD_cons_succ, if_true, if_false, Bool.false_eq_true, reduceIte, Bool.not_true, Bool.not_false, true_and, and_true, ewipe, Nat.sub_self, Nat.zero_add]
    refine is_stamp_ok (AskA.t ((ha d hd).mono fm)) fun M' f' => ?_
    exact hR M' f'
  · try simp only [wDef, wSeq_eq, wNext, wIfS, wTst, wTru, wtAnd, wtOr, wtNot, wOp, wVar, wC, wCall, wCons, wNil, wTup, wLst, wAsg, gN, gsC, gsN, gSt, stIx, wRet, wRetN, wDrop, wAnd, wOr, wNot, wIf, wChain, wUn, wMt, wPar2, wSl, wPart, wNoPart, wFmt, wJs, wDict0, wDict, wpNil, wpCons, wFor, wWhile, wLc, itS, itRng1, itRng2, wYes, wCallK, wBreak, wCont, bAdd, bInt, bSub, bMul, bMod, bDiv, bPow, bNeg, cInt, cLe, cGt, cGe, cLt, cEq, cNe, cIsN, cNotN, cIn, cNotIn, truD_bl, truD_non, truD_int, truD_tup, truD_str, fI1, fI2, fAbs, fMax2, fMin2, Src.D, slR, fmtD, gStar, wKGet, itZip, cIsB, cNotB, List.map_cons, List.map_nil, List.replicate_succ, List.replicate_zero, List.cons_append, List.nil_append, List.append_nil, List.getElem?_cons_zero, List.getElem?_cons_succ, List.set_cons_zero, List.set_cons_succ, List.length_cons, List.length_nil, List.getD_cons_zero, List.getD_cons_succ, if_true, if_false, Bool.false_eq_true, reduceIte, Bool.not_true, Bool.not_false, true_and, and_true, ewipe, Nat.sub_self, Nat.zero_add]
    exact hR
theorem deed_form {d : D} (h : deedD d = true) : ∃ s b a r, d = .tup [s, b, .tup (a :: r)] := by
  unfold deedD at h
  split at h
  · rename_i c n b w
    simp only [Bool.and_eq_true] at h
    have hw := h.2.2
    unfold wordsD at hw
    split at hw
    · exact ⟨_, _, _, _, rfl⟩
    · cases hw
  · cases h
theorem rep_bools2 {M : Mp} {l : Addr} {a b : Bool} (e : M l = some (.lst [.bl a, .bl b])) : Rep M (.ref l) (.list [.bool a, .bool b]) := by
  refine .mk' ?_ rfl (.inl rfl) (by show (1 : Nat) ≤ 60; decide) rfl (by simp [cost, costs])
  rw [repD_ref, repL_lst e]
  rfl
/-- what the law's look may be given -/
def Made (d : D) (M : Mp) : Prop := Thing d M ∧ DeedOk d
theorem let_str : LET.length = 26 ∧ (("abcdefghijklmnopqrstuvwxyz" : String) : Str).length ≤ sizeLine := by decide +kernel
theorem lfu_str : LFU.length = 37 ∧ (("abcdefghijklmnopqrstuvwxyz0123456789_" : String) : Str).length ≤ sizeLine := by decide +kernel
theorem lfu_let : ∀ i : Nat, i < 26 → LFU[i]? = LET[i]? := by decide +kernel
theorem pick_sg {z : Str} {i : Int} {M : Mp} {Q : DQ} {S : List Nat} (hS : z.cps.toList = S) (hz : z.length ≤ sizeLine) (h0 : 0 ≤ i) (h1 : i < S.length) (q : ∀ c, c ∈ S → Q (.str (sg c)) M) : bIx (.str z) (.int i) M Q := by
  rw [bIx_str]
  obtain ⟨c, hc, e⟩ := atI_mem (xs := z.cps.toList) h0 (by rw [hS]; exact h1)
  exact ⟨hz, c, e, q c (by rw [← hS]; exact hc)⟩
theorem let_sub : ∀ c ∈ LET, c ∈ LFU := by decide +kernel
theorem lfu_first : ∀ i : Nat, i < 26 → ∃ c, LFU[i]? = some c ∧ c ∈ LET := by decide +kernel
def GoodS (c : Int) (n : Str) : Prop := 1 ≤ c ∧ c < 1000000000000000 ∧ nameB n = true
theorem good_stamp {c : Int} {n : Str} (h : GoodS c n) : isStampD (.tup [.int c, .str n]) = true := by
  have e : isStampD (.tup [.int c, .str n]) = (decide (1 ≤ c) && decide (c < 1000000000000000) && nameB n) := rfl
  rw [e, decide_eq_true h.1, decide_eq_true h.2.1, h.2.2]; rfl
theorem a_name : nameB (("a" : String) : Str) = true := by decide +kernel
theorem a_less {n : Str} (h : nameB n = true) (ha : n ≠ "a") : decide (((("a" : String) : Str)).cps.toList < n.cps.toList) = true := by
  unfold nameB at h
  simp only [Bool.and_eq_true, decide_eq_true_eq, List.all_eq_true] at h
  obtain ⟨c, r, e⟩ := cons_of_len h.1.1
  have hc : c ∈ LET := h.2 c (by rw [e]; exact List.mem_cons_self)
  have le : ∀ c ∈ LET, 97 ≤ c := by decide +kernel
  have ea : (("a" : String) : Str).cps.toList = [97] := by decide +kernel
  rw [ea, e, decide_eq_true_eq]
  by_cases h1 : c = 97
  · subst h1
    cases r with
    | nil =>
      exact absurd (by
        obtain ⟨a⟩ := n
        have : a.toList = [97] := e
        have h2 : a = #[97] := by rw [← Array.toList_inj, this]
        rw [h2]; decide +kernel) ha
    | cons d r => exact List.cons_lt_cons_iff.mpr (.inr ⟨rfl, List.nil_lt_cons _ _⟩)
  · exact List.cons_lt_cons_iff.mpr (.inl (by have := le c hc; omega))
theorem earl_of {c i : Int} {n x : Str} (h : GoodS i x) (hl : ltS i x c n = true) : earlierD c n (.tup [.int i, .str x]) = true := by
  unfold earlierD
  rw [good_stamp h]
  exact hl
theorem root_par {c : Int} {n : Str} : parentD c n (.tup [.int 0, .str ""]) = true := by
  have : rootD (.tup [.int 0, .str ""]) = true := by decide +kernel
  unfold parentD; rw [this]; rfl
theorem name_tx {n : Str} (h : nameB n = true) : n.length ≤ 8 ∧ ∀ c ∈ n.cps.toList, c < 128 := by
  unfold nameB at h
  simp only [Bool.and_eq_true, decide_eq_true_eq, List.all_eq_true] at h
  have lt : ∀ c ∈ LET, c < 128 := by decide +kernel
  exact ⟨by omega, fun c hc => lt c (h.2 c hc)⟩
theorem name_fo {n : Str} (h : nameB n = true) : FO (.str n) := .str (by have := (name_tx h).1; omega) (name_tx h).2
theorem a_flat : flatD (.str "a") = true := by decide +kernel
theorem sg_len : SG.cps.toList.length = 94 ∧ SG.length = 94 := by decide +kernel
theorem what_hold {x : Str} (h : holdB x = true) : isWhatD (.tup [.str x]) = true := h
theorem what_sign {c : Nat} (h : c ∈ SG.cps.toList) : isWhatD (.tup [.str "sign", .str (sg c)]) = true := by
  have e : isWhatD (.tup [.str "sign", .str (sg c)]) = if ("sign" : Str) = "sign" then isSignD (.str (sg c)) else if ("sign" : Str) = "leaf" then isLeafD (.str (sg c)) else false := rfl
  rw [e, if_pos rfl]
  have e2 : isSignD (.str (sg c)) = (decide ((sg c).length = 1) && strIn (sg c) SG) := rfl
  rw [e2]
  unfold sg
  rw [strIn_sign, decide_eq_true h]; rfl
theorem what_leaf {v : D} (h : isLeafD v = true) : isWhatD (.tup [.str "leaf", v]) = true := by
  have e : isWhatD (.tup [.str "leaf", v]) = if ("leaf" : Str) = "sign" then isSignD v else if ("leaf" : Str) = "leaf" then isLeafD v else false := by
    cases v <;> rfl
  rw [e, if_neg (by decide +kernel), if_pos rfl]; exact h
theorem leaf_int {i : Int} (h1 : -1000000000000000000000000000000 < i) (h2 : i < 1000000000000000000000000000000) : isLeafD (.int i) = true := by
  have e : isLeafD (.int i) = (decide (-1000000000000000000000000000000 < i) && decide (i < 1000000000000000000000000000000)) := rfl
  rw [e, decide_eq_true h1, decide_eq_true h2]; rfl
/-! words -/
theorem words_put {c : Int} {n : Str} {a b w : D} (h1 : parentD c n a = true) (h2 : placeD c n b = true) (h3 : isWhatD w = true) : wordsD c n (.tup [.str "put", a, b, w]) = true := by
  rw [words3 (s1 := "parent") (s2 := "place") (s3 := "what") rfl]
  simp only [part_parent, part_place, part_what, h1, h2, h3]; rfl
theorem words_move {c : Int} {n : Str} {a b w : D} (h1 : earlierD c n a = true) (h2 : parentD c n b = true) (h3 : placeD c n w = true) : wordsD c n (.tup [.str "move", a, b, w]) = true := by
  rw [words3 (s1 := "stamp") (s2 := "parent") (s3 := "place") rfl]
  simp only [part_stamp, part_parent, part_place, h1, h2, h3]; rfl
theorem words_take {c : Int} {n w : Str} {a : D} (hw : w = "take" ∨ w = "undo") (h1 : earlierD c n a = true) : wordsD c n (.tup [.str w, a]) = true := by
  have k : kvGet kd_PARTS w = some (.tup [.str "stamp"]) := by rcases hw with rfl | rfl <;> rfl
  rw [words1 k]
  simp only [part_stamp, h1]
theorem words_seen {c : Int} {n : Str} {a : D} (h1 : uptoD c a = true) : wordsD c n (.tup [.str "seen", a]) = true := by
  rw [words1 (s := "upto") rfl]
  simp only [part_upto, h1]
theorem upto_int {c i : Int} (h1 : 0 ≤ i) (h2 : i < c) : uptoD c (.int i) = true := by
  have e : uptoD c (.int i) = (decide (0 ≤ i) && decide (i < c)) := rfl
  rw [e, decide_eq_true h1, decide_eq_true h2]; rfl
theorem plain_part {d : D} (h : Plain d) : PartOk d := fun i y e => by
  subst e
  rcases h with h | ⟨ds, e, hl, h⟩
  · exact h.notup.elim
  · cases e
    exact (h y (by simp)).flat
theorem fo_part {d : D} (h : FO d) : PartOk d := plain_part (.inl h)
theorem plain_words {d : D} (h : Plain d) : WordsOk d := fun ds e => by
  subst e
  rcases h with h | ⟨ds, e, hl, h⟩
  · exact h.notup.elim
  · cases e
    exact ⟨by omega, fun x hx => fo_part (h x hx)⟩
theorem ref_part {a : Addr} : PartOk (.ref a) := fun i y e => (nomatch e)
theorem ref_words {a : Addr} : WordsOk (.ref a) := fun ds e => (nomatch e)
theorem stamp_plain {d : D} (h : isStampD d = true) : ∃ i x, d = .tup [.int i, .str x] ∧ GoodS i x := by
  obtain ⟨i, x, rfl⟩ := stamp_form h
  have e : isStampD (.tup [.int i, .str x]) = (decide (1 ≤ i) && decide (i < 1000000000000000) && nameB x) := rfl
  rw [e] at h
  simp only [Bool.and_eq_true, decide_eq_true_eq] at h
  exact ⟨i, x, rfl, h.1.1, h.1.2, h.2⟩
theorem good_fo {i : Int} {x : Str} (h : GoodS i x) : FO (.int i) ∧ FO (.str x) := ⟨.int (by have := h.1; have := h.2.1; omega), name_fo h.2.2⟩
theorem earl_plain {c : Int} {n : Str} {d : D} (h : earlierD c n d = true) : Plain d := by
  unfold earlierD at h
  rw [Bool.and_eq_true] at h
  obtain ⟨i, x, rfl, g⟩ := stamp_plain h.1
  exact .t2 (good_fo g).1 (good_fo g).2
theorem root_plain {d : D} (h : rootD d = true) : Plain d := by
  unfold rootD at h
  split at h
  · simp only [Bool.and_eq_true, decide_eq_true_eq] at h
    obtain ⟨rfl, rfl⟩ := h
    exact .t2 (.int (by decide)) (fo_str (by decide +kernel))
  · cases h
theorem par_plain {c : Int} {n : Str} {d : D} (h : parentD c n d = true) : Plain d := by
  unfold parentD at h
  rw [Bool.or_eq_true] at h
  exact h.elim root_plain earl_plain
theorem field_fo {d : D} (h : isFieldD d = true) : FO d := by
  cases d with
  | str x =>
    have h : fieldB x = true := h
    unfold fieldB at h
    simp only [Bool.and_eq_true, decide_eq_true_eq, List.all_eq_true] at h
    have lt : ∀ c ∈ LFU, c < 128 := by decide +kernel
    exact .str (by omega) fun c hc => by
      have := h.2 c hc
      rw [fsign_eq, decide_eq_true_eq] at this
      exact lt c this
  | _ => cases h
theorem place_plain {c : Int} {n : Str} {d : D} (h : placeD c n d = true) : Plain d := by
  unfold placeD at h
  rw [Bool.or_eq_true] at h
  exact h.elim (fun h => .inl (field_fo h)) par_plain
theorem sign_fo {d : D} (h : isSignD d = true) : FO d := by
  cases d with
  | str x =>
    have h : (decide (x.length = 1) && strIn x SG) = true := h
    rw [Bool.and_eq_true, decide_eq_true_eq] at h
    obtain ⟨h1, h2⟩ := h
    obtain ⟨a⟩ := x
    have hl : a.size = 1 := h1
    obtain ⟨c, rfl⟩ : ∃ c, a = #[c] := ⟨a[0], by
      apply Array.ext (by simpa using hl)
      intro i h1 h2
      have : i = 0 := by omega
      subst this; simp⟩
    rw [strIn_sign, decide_eq_true_eq] at h2
    have lt : ∀ c ∈ SG.cps.toList, c < 128 := by decide +kernel
    exact .str (show 1 ≤ 40 by decide) fun d hd => by
      have : d = c := by simpa using hd
      subst this; exact lt d h2
  | _ => cases h
theorem leaf_fo {d : D} (h : isLeafD d = true) : FO d := by
  cases d with
  | non => exact .non
  | bl b => exact .bl b
  | int i =>
    have h : (decide (-1000000000000000000000000000000 < i) && decide (i < 1000000000000000000000000000000)) = true := h
    simp only [Bool.and_eq_true, decide_eq_true_eq] at h
    exact .int (by omega)
  | _ => cases h
theorem hold_fo {x : Str} (h : holdB x = true) : FO (.str x) := by
  have h' : "object" = x ∨ "list" = x ∨ "text" = x := by
    unfold holdB at h
    simpa [inV, eqV] using h
  rcases h' with rfl | rfl | rfl
  · exact fo_str (by decide +kernel)
  · exact fo_str (by decide +kernel)
  · exact fo_str (by decide +kernel)
theorem what_plain {d : D} (h : isWhatD d = true) : Plain d := by
  unfold isWhatD at h
  split at h
  · exact .t1 (hold_fo h)
  · rename_i x d
    split at h
    · rename_i e
      subst e
      exact .t2 (fo_str (by decide +kernel)) (sign_fo h)
    · split at h
      · rename_i e
        subst e
        exact .t2 (fo_str (by decide +kernel)) (leaf_fo h)
      · cases h
  · cases h
theorem upto_fo {c : Int} {d : D} (hc : c < 1000000000000000) (h : uptoD c d = true) : ∃ i, d = .int i ∧ 0 ≤ i ∧ i < c ∧ FO d := by
  cases d with
  | int i =>
    have h : (decide (0 ≤ i) && decide (i < c)) = true := h
    simp only [Bool.and_eq_true, decide_eq_true_eq] at h
    exact ⟨i, rfl, h.1, h.2, .int (by omega)⟩
  | _ => cases h
theorem part_plain {s : Str} {c : Int} {n : Str} {d : D} (hc : c < 1000000000000000) (h : partD s c n d = true) : Plain d := by
  unfold partD at h
  split at h
  · exact earl_plain h
  · split at h
    · exact par_plain h
    · split at h
      · exact place_plain h
      · split at h
        · exact what_plain h
        · obtain ⟨_, _, _, _, hf⟩ := upto_fo hc h
          exact .inl hf
theorem zip_mem {x : D} : ∀ {ss : List Str} {r : List D}, r.length = ss.length → x ∈ r → ∃ s, .tup [.str s, x] ∈ zipD (ss.map .str) r
  | [], [], _, h => nomatch h
  | [], _ :: _, hl, _ => nomatch hl
  | _ :: _, [], _, h => nomatch h
  | s :: ss, y :: r, hl, h => by
    rcases List.mem_cons.mp h with rfl | h
    · exact ⟨s, by simp [zipD]⟩
    · obtain ⟨s', hs⟩ := zip_mem (ss := ss) (r := r) (by simpa using hl) h
      refine ⟨s', ?_⟩
      unfold zipD at hs ⊢
      rw [List.map_cons, List.zipWith_cons_cons]
      exact List.mem_cons_of_mem _ hs
theorem words_parts {c : Int} {n : Str} {w : D} (hc : c < 1000000000000000) (h : wordsD c n w = true) : ∃ x r, w = .tup (.str x :: r) ∧ FO (.str x) ∧ r.length ≤ 3 ∧ ∀ y ∈ r, Plain y := by
  unfold wordsD at h
  split at h
  · rename_i w r
    split at h
    · rename_i sorts e
      obtain ⟨ss, hss, hl⟩ := parts_val e
      cases hss
      rw [Bool.and_eq_true, decide_eq_true_eq, List.all_eq_true, List.length_map] at h
      refine ⟨w, r, rfl, ?_, by omega, fun y hy => ?_⟩
      · have : ¬ (w ≠ "put" ∧ w ≠ "move" ∧ w ≠ "take" ∧ w ≠ "undo" ∧ w ≠ "seen") := fun ⟨h1, h2, h3, h4, h5⟩ => by
          rw [kv_none h1 h2 h3 h4 h5] at e; cases e
        by_cases h1 : w = "put"
        · subst h1; exact fo_str (by decide +kernel)
        by_cases h2 : w = "move"
        · subst h2; exact fo_str (by decide +kernel)
        by_cases h3 : w = "take"
        · subst h3; exact fo_str (by decide +kernel)
        by_cases h4 : w = "undo"
        · subst h4; exact fo_str (by decide +kernel)
        by_cases h5 : w = "seen"
        · subst h5; exact fo_str (by decide +kernel)
        exact absurd ⟨h1, h2, h3, h4, h5⟩ this
      · obtain ⟨s, hs⟩ := zip_mem h.1 hy
        exact part_plain hc (h.2 _ hs)
    · cases h
  · cases h
theorem deed_parts {d : D} (h : deedD d = true) : ∃ c n b x r, d = .tup [.tup [.int c, .str n], .int b, .tup (.str x :: r)] ∧ GoodS c n ∧ 0 ≤ b ∧ b < c ∧ FO (.str x) ∧ r.length ≤ 3 ∧ ∀ y ∈ r, Plain y := by
  unfold deedD at h
  split at h
  · rename_i c n b w
    rw [Bool.and_eq_true, Bool.and_eq_true] at h
    obtain ⟨hs, hb, hw⟩ := h
    obtain ⟨_, _, e, hg⟩ := stamp_plain hs
    cases e
    obtain ⟨i, rfl, b0, b1, _⟩ := upto_fo hg.2.1 hb
    obtain ⟨x, r, rfl, hx, hr, hp⟩ := words_parts hg.2.1 hw
    exact ⟨c, n, i, x, r, rfl, hg, b0, b1, hx, hr, hp⟩
  · cases h

/-- a drawn name -/
theorem L_name_ok {p : Addr} {M : Mp} {Q : DQ} (hp : Pot p M) (q : ∀ x M', Pot p M' → Fr [p] M M' → nameB x = true → Q (.str x) M') : W_L_name [.ref p] M Q := by
  unfold W_L_name
  try simp only [wDef, wSeq_eq, wNext, wIfS, wTst, wTru, wtAnd, wtOr, wtNot, wOp, wVar, wC, wCall, wCons, wNil, wTup, wLst, wAsg, gN, gsC, gsN, gSt, stIx, wRet, wRetN, wDrop, wAnd, wOr, wNot, wIf, wChain, wUn, wMt, wPar2, wSl, wPart, wNoPart, wFmt, wJs, wDict0, wDict, wpNil, wpCons, wFor, wWhile, wLc, itS, itRng1, itRng2, wYes, wCallK, wBreak, wCont, bAdd, bInt, bSub, bMul, bMod, bDiv, bPow, bNeg, cInt, cLe, cGt, cGe, cLt, cEq, cNe, cIsN, cNotN, cIn, cNotIn, truD_bl, truD_non, truD_int, truD_tup, truD_str, fI1, fI2, fAbs, fMax2, fMin2, Src.D, slR, fmtD, gStar, wKGet, itZip, cIsB, cNotB, List.map_cons, List.map_nil, List.replicate_succ, List.replicate_zero, List.cons_append, List.nil_append, List.append_nil, List.getElem?_cons_zero, List.getElem?_cons_succ, List.set_cons_zero, List.set_cons_succ, List.length_cons, List.length_nil, List.getD_cons_zero, List.getD_cons_succ, if_true, if_false, Bool.false_eq_true, reduceIte, Bool.not_true, Bool.not_false, true_and, and_true, ewipe, Nat.sub_self, Nat.zero_add]
  refine ⟨by decide, fun l M0 hl el fl => dig (hp.new fl) (by decide) (by decide) fun d M1 h0 h1 p1 f1 => ?_⟩
  have e1 := f1 l _ (by simpa using hp.ne hl) el
  have g1 : Fr [p] M M1 := fl.nil.trans f1
  rw [bIx_ref e1]
  obtain ⟨n, hn, e⟩ := pick_int (ns := [1, 3, 8]) h0 (by simpa using h1)
  have hn2 : 0 < n ∧ n ≤ 8 := by simp at hn; omega
  refine ⟨_, e, dig p1 hn2.1 (by omega) fun size M2 s0 s1 p2 f2 => ?_⟩
  try simp only [wDef, wSeq_eq, wNext, wIfS, wTst, wTru, wtAnd, wtOr, wtNot, wOp, wVar, wC, wCall, wCons, wNil, wTup, wLst, wAsg, gN, gsC, gsN, gSt, stIx, wRet, wRetN, wDrop, wAnd, wOr, wNot, wIf, wChain, wUn, wMt, wPar2, wSl, wPart, wNoPart, wFmt, wJs, wDict0, wDict, wpNil, wpCons, wFor, wWhile, wLc, itS, itRng1, itRng2, wYes, wCallK, wBreak, wCont, bAdd, bInt, bSub, bMul, bMod, bDiv, bPow, bNeg, cInt, cLe, cGt, cGe, cLt, cEq, cNe, cIsN, cNotN, cIn, cNotIn, truD_bl, truD_non, truD_int, truD_tup, truD_str, fI1, fI2, fAbs, fMax2, fMin2, Src.D, slR, fmtD, gStar, wKGet, itZip, cIsB, cNotB, List.map_cons, List.map_nil, List.replicate_succ, List.replicate_zero, List.cons_append, List.nil_append, List.append_nil, List.getElem?_cons_zero, List.getElem?_cons_succ, List.set_cons_zero, List.set_cons_succ, List.length_cons, List.length_nil, List.getD_cons_zero, List.getD_cons_succ, if_true, if_false, Bool.false_eq_true, reduceIte, Bool.not_true, Bool.not_false, true_and, and_true, ewipe, Nat.sub_self, Nat.zero_add]
  have g2 := g1.trans f2
  try unfold W_L_name_1
  try simp only [wDef, wSeq_eq, wNext, wIfS, wTst, wTru, wtAnd, wtOr, wtNot, wOp, wVar, wC, wCall, wCons, wNil, wTup, wLst, wAsg, gN, gsC, gsN, gSt, stIx, wRet, wRetN, wDrop, wAnd, wOr, wNot, wIf, wChain, wUn, wMt, wPar2, wSl, wPart, wNoPart, wFmt, wJs, wDict0, wDict, wpNil, wpCons, wFor, wWhile, wLc, itS, itRng1, itRng2, wYes, wCallK, wBreak, wCont, bAdd, bInt, bSub, bMul, bMod, bDiv, bPow, bNeg, cInt, cLe, cGt, cGe, cLt, cEq, cNe, cIsN, cNotN, cIn, cNotIn, truD_bl, truD_non, truD_int, truD_tup, truD_str, fI1, fI2, fAbs, fMax2, fMin2, Src.D, slR, fmtD, gStar, wKGet, itZip, cIsB, cNotB, List.map_cons, List.map_nil, List.replicate_succ, List.replicate_zero, List.cons_append, List.nil_append, List.append_nil, List.getElem?_cons_zero, List.getElem?_cons_succ, List.set_cons_zero, List.set_cons_succ, List.length_cons, List.length_nil, List.getD_cons_zero, List.getD_cons_succ, if_true, if_false, Bool.false_eq_true, reduceIte, Bool.not_true, Bool.not_false, true_and, and_true, ewipe, Nat.sub_self, Nat.zero_add]
  refine ⟨rfl, by omega, by omega, fun l3 M30 hl3 el3 fl3 => ?_⟩
  have hne := p2.ne hl3
  refine lc_signs (I := Pot p) (S := [p]) (C := fun c => c ∈ LET) el3 (p2.new fl3) (fun M M' f h => h.fr f (by simpa using hne.symm)) (by simpa using hne) (by rw [rng_len]; omega) (fun d M R hd hI hR => ?_) fun cs M4 hc1 hc2 hc3 p4 f4 => ?_
  · try simp only [wDef, wSeq_eq, wNext, wIfS, wTst, wTru, wtAnd, wtOr, wtNot, wOp, wVar, wC, wCall, wCons, wNil, wTup, wLst, wAsg, gN, gsC, gsN, gSt, stIx, wRet, wRetN, wDrop, wAnd, wOr, wNot, wIf, wChain, wUn, wMt, wPar2, wSl, wPart, wNoPart, wFmt, wJs, wDict0, wDict, wpNil, wpCons, wFor, wWhile, wLc, itS, itRng1, itRng2, wYes, wCallK, wBreak, wCont, bAdd, bInt, bSub, bMul, bMod, bDiv, bPow, bNeg, cInt, cLe, cGt, cGe, cLt, cEq, cNe, cIsN, cNotN, cIn, cNotIn, truD_bl, truD_non, truD_int, truD_tup, truD_str, fI1, fI2, fAbs, fMax2, fMin2, Src.D, slR, fmtD, gStar, wKGet, itZip, cIsB, cNotB, List.map_cons, List.map_nil, List.replicate_succ, List.replicate_zero, List.cons_append, List.nil_append, List.append_nil, List.getElem?_cons_zero, List.getElem?_cons_succ, List.set_cons_zero, List.set_cons_succ, List.length_cons, List.length_nil, List.getD_cons_zero, List.getD_cons_succ, if_true, if_false, Bool.false_eq_true, reduceIte, Bool.not_true, Bool.not_false, true_and, and_true, ewipe, Nat.sub_self, Nat.zero_add]
    refine dig hI (by decide) (by decide) fun d3 M5 h4 h5 p5 f5 => ?_
    exact pick_sg (S := LET) rfl let_str.2 h4 (by rw [let_str.1]; exact h5) fun c hc => hR c _ hc p5 f5
  have f4 : Fr [p] M2 M4 := .drop hl3 fl3 f4
  rw [rng_len] at hc1
  refine join_ok hc3 (by omega) (q _ _ p4 (g2.trans f4) ?_)
  unfold nameB
  have e1 : (⟨cs.toArray⟩ : Str).length = cs.length := by show cs.toArray.size = _; rw [List.size_toArray]
  rw [e1]
  simp only [Bool.and_eq_true, decide_eq_true_eq, List.all_eq_true]
  exact ⟨⟨by omega, by omega⟩, fun c hc => hc2 c (by simpa using hc)⟩
/-- a drawn field -/
theorem L_field_ok {p : Addr} {M : Mp} {Q : DQ} (hp : Pot p M) (q : ∀ x M', Pot p M' → Fr [p] M M' → fieldB x = true → Q (.str x) M') : W_L_field [.ref p] M Q := by
  unfold W_L_field
  try simp only [wDef, wSeq_eq, wNext, wIfS, wTst, wTru, wtAnd, wtOr, wtNot, wOp, wVar, wC, wCall, wCons, wNil, wTup, wLst, wAsg, gN, gsC, gsN, gSt, stIx, wRet, wRetN, wDrop, wAnd, wOr, wNot, wIf, wChain, wUn, wMt, wPar2, wSl, wPart, wNoPart, wFmt, wJs, wDict0, wDict, wpNil, wpCons, wFor, wWhile, wLc, itS, itRng1, itRng2, wYes, wCallK, wBreak, wCont, bAdd, bInt, bSub, bMul, bMod, bDiv, bPow, bNeg, cInt, cLe, cGt, cGe, cLt, cEq, cNe, cIsN, cNotN, cIn, cNotIn, truD_bl, truD_non, truD_int, truD_tup, truD_str, fI1, fI2, fAbs, fMax2, fMin2, Src.D, slR, fmtD, gStar, wKGet, itZip, cIsB, cNotB, List.map_cons, List.map_nil, List.replicate_succ, List.replicate_zero, List.cons_append, List.nil_append, List.append_nil, List.getElem?_cons_zero, List.getElem?_cons_succ, List.set_cons_zero, List.set_cons_succ, List.length_cons, List.length_nil, List.getD_cons_zero, List.getD_cons_succ, if_true, if_false, Bool.false_eq_true, reduceIte, Bool.not_true, Bool.not_false, true_and, and_true, ewipe, Nat.sub_self, Nat.zero_add]
  refine ⟨by decide, fun l M0 hl el fl => dig (hp.new fl) (by decide) (by decide) fun d M1 h0 h1 p1 f1 => ?_⟩
  have e1 := f1 l _ (by simpa using hp.ne hl) el
  have g1 : Fr [p] M M1 := fl.nil.trans f1
  rw [bIx_ref e1]
  obtain ⟨n, hn, e⟩ := pick_int (ns := [1, 4, 12]) h0 (by simpa using h1)
  have hn2 : 0 < n ∧ n ≤ 12 := by simp at hn; omega
  refine ⟨_, e, dig p1 hn2.1 (by omega) fun size M2 s0 s1 p2 f2 => ?_⟩
  try simp only [wDef, wSeq_eq, wNext, wIfS, wTst, wTru, wtAnd, wtOr, wtNot, wOp, wVar, wC, wCall, wCons, wNil, wTup, wLst, wAsg, gN, gsC, gsN, gSt, stIx, wRet, wRetN, wDrop, wAnd, wOr, wNot, wIf, wChain, wUn, wMt, wPar2, wSl, wPart, wNoPart, wFmt, wJs, wDict0, wDict, wpNil, wpCons, wFor, wWhile, wLc, itS, itRng1, itRng2, wYes, wCallK, wBreak, wCont, bAdd, bInt, bSub, bMul, bMod, bDiv, bPow, bNeg, cInt, cLe, cGt, cGe, cLt, cEq, cNe, cIsN, cNotN, cIn, cNotIn, truD_bl, truD_non, truD_int, truD_tup, truD_str, fI1, fI2, fAbs, fMax2, fMin2, Src.D, slR, fmtD, gStar, wKGet, itZip, cIsB, cNotB, List.map_cons, List.map_nil, List.replicate_succ, List.replicate_zero, List.cons_append, List.nil_append, List.append_nil, List.getElem?_cons_zero, List.getElem?_cons_succ, List.set_cons_zero, List.set_cons_succ, List.length_cons, List.length_nil, List.getD_cons_zero, List.getD_cons_succ, if_true, if_false, Bool.false_eq_true, reduceIte, Bool.not_true, Bool.not_false, true_and, and_true, ewipe, Nat.sub_self, Nat.zero_add]
  have g2 := g1.trans f2
  try unfold W_L_field_1
  try simp only [wDef, wSeq_eq, wNext, wIfS, wTst, wTru, wtAnd, wtOr, wtNot, wOp, wVar, wC, wCall, wCons, wNil, wTup, wLst, wAsg, gN, gsC, gsN, gSt, stIx, wRet, wRetN, wDrop, wAnd, wOr, wNot, wIf, wChain, wUn, wMt, wPar2, wSl, wPart, wNoPart, wFmt, wJs, wDict0, wDict, wpNil, wpCons, wFor, wWhile, wLc, itS, itRng1, itRng2, wYes, wCallK, wBreak, wCont, bAdd, bInt, bSub, bMul, bMod, bDiv, bPow, bNeg, cInt, cLe, cGt, cGe, cLt, cEq, cNe, cIsN, cNotN, cIn, cNotIn, truD_bl, truD_non, truD_int, truD_tup, truD_str, fI1, fI2, fAbs, fMax2, fMin2, Src.D, slR, fmtD, gStar, wKGet, itZip, cIsB, cNotB, List.map_cons, List.map_nil, List.replicate_succ, List.replicate_zero, List.cons_append, List.nil_append, List.append_nil, List.getElem?_cons_zero, List.getElem?_cons_succ, List.set_cons_zero, List.set_cons_succ, List.length_cons, List.length_nil, List.getD_cons_zero, List.getD_cons_succ, if_true, if_false, Bool.false_eq_true, reduceIte, Bool.not_true, Bool.not_false, true_and, and_true, ewipe, Nat.sub_self, Nat.zero_add]
  refine dig p2 (by decide) (by decide) fun d0 M3 d00 d01 p3 f3 => ?_
  have g3 := g2.trans f3
  rw [bIx_str]
  obtain ⟨hlt, e0⟩ := atI_get (xs := (("abcdefghijklmnopqrstuvwxyz0123456789_" : String) : Str).cps.toList) (i := d0) d00 (by show d0 < ((LFU.length : Nat) : Int); rw [lfu_str.1]; omega)
  obtain ⟨c0, hc0, hc1⟩ := lfu_first d0.toNat (by omega)
  have hget : (("abcdefghijklmnopqrstuvwxyz0123456789_" : String) : Str).cps.toList[d0.toNat] = c0 := by
    have : LFU[d0.toNat]? = some (LFU[d0.toNat]'hlt) := List.getElem?_eq_getElem hlt
    rw [hc0] at this
    exact (Option.some.inj this).symm
  rw [hget] at e0
  refine ⟨lfu_str.2, c0, e0, ?_⟩
  refine ⟨rfl, by omega, by omega, fun l3 M30 hl3 el3 fl3 => ?_⟩
  have hne := p3.ne hl3
  refine lc_signs (I := Pot p) (S := [p]) (C := fun c => c ∈ LFU) el3 (p3.new fl3) (fun M M' f h => h.fr f (by simpa using hne.symm)) (by simpa using hne) (by rw [rng_len]; omega) (fun d M R hd hI hR => ?_) fun cs M4 hc1 hc2 hc3 p4 f4 => ?_
  · try simp only [wDef, wSeq_eq, wNext, wIfS, wTst, wTru, wtAnd, wtOr, wtNot, wOp, wVar, wC, wCall, wCons, wNil, wTup, wLst, wAsg, gN, gsC, gsN, gSt, stIx, wRet, wRetN, wDrop, wAnd, wOr, wNot, wIf, wChain, wUn, wMt, wPar2, wSl, wPart, wNoPart, wFmt, wJs, wDict0, wDict, wpNil, wpCons, wFor, wWhile, wLc, itS, itRng1, itRng2, wYes, wCallK, wBreak, wCont, bAdd, bInt, bSub, bMul, bMod, bDiv, bPow, bNeg, cInt, cLe, cGt, cGe, cLt, cEq, cNe, cIsN, cNotN, cIn, cNotIn, truD_bl, truD_non, truD_int, truD_tup, truD_str, fI1, fI2, fAbs, fMax2, fMin2, Src.D, slR, fmtD, gStar, wKGet, itZip, cIsB, cNotB, List.map_cons, List.map_nil, List.replicate_succ, List.replicate_zero, List.cons_append, List.nil_append, List.append_nil, List.getElem?_cons_zero, List.getElem?_cons_succ, List.set_cons_zero, List.set_cons_succ, List.length_cons, List.length_nil, List.getD_cons_zero, List.getD_cons_succ, if_true, if_false, Bool.false_eq_true, reduceIte, Bool.not_true, Bool.not_false, true_and, and_true, ewipe, Nat.sub_self, Nat.zero_add]
    refine dig hI (by decide) (by decide) fun d3 M5 h4 h5 p5 f5 => ?_
    exact pick_sg (S := LFU) rfl lfu_str.2 h4 (by rw [lfu_str.1]; exact h5) fun c hc => hR c _ hc p5 f5
  have f4 : Fr [p] M3 M4 := .drop hl3 fl3 f4
  rw [rng_len] at hc1
  refine join_ok hc3 (by omega) ?_
  have hl1 : (⟨#[c0]⟩ : Str).length = 1 := rfl
  have hl2 : (⟨cs.toArray⟩ : Str).length = cs.length := by show cs.toArray.size = _; rw [List.size_toArray]
  refine ⟨by rw [hl1, hl2]; exact Nat.le_trans (show 1 + cs.length ≤ 100 by omega) (by decide), q _ _ p4 (g3.trans f4) ?_⟩
  have hcp : ((⟨#[c0]⟩ : Str) ++ (⟨cs.toArray⟩ : Str)).cps.toList = c0 :: cs := by
    show (#[c0] ++ cs.toArray).toList = _
    simp
  have hlen : ((⟨#[c0]⟩ : Str) ++ (⟨cs.toArray⟩ : Str)).length = 1 + cs.length := by rw [strLen_append, hl1, hl2]
  unfold fieldB headB
  rw [hcp, hlen]
  simp only [Bool.and_eq_true, decide_eq_true_eq, List.all_eq_true]
  refine ⟨⟨⟨by omega, by omega⟩, by assumption⟩, fun c hc => ?_⟩
  rw [fsign_eq, decide_eq_true_eq]
  rcases List.mem_cons.mp hc with rfl | h
  · exact let_sub _ (by assumption)
  · exact hc2 c h

end L2.Dl.G

namespace L2.Dl.G
open PySem PySem.Spec PyProof.Rows
/-- a drawn count, from 2 on -/
theorem L_count_ok {p : Addr} {M : Mp} {Q : DQ} (hp : Pot p M) (q : ∀ c M', Pot p M' → Fr [p] M M' → 2 ≤ c → c < 1000000000000000 → Q (.int c) M') : W_L_count [.ref p] M Q := by
  unfold W_L_count; refine z_d31 ?_; repeat (with_reducible first | refine z_seq ?_ | refine z_ifs ?_ | refine z_ret ?_ | refine z_retN ?_ | refine z_next ?_ | refine z_drop ?_ | refine z_asg ?_ | refine z_par ?_ | refine z_for ?_ | refine z_break ?_ | refine z_cont ?_ | refine z_g0 ?_ | refine z_g1 ?_ | refine z_g2 ?_ | refine z_g3 ?_ | refine z_g4 ?_ | refine z_g5 ?_ | refine z_g6 ?_ | refine z_g7 ?_ | refine z_g8 ?_ | refine z_g9 ?_ | refine z_g10 ?_ | refine z_gc ?_ | refine z_gn ?_ | refine z_gst ?_ | refine z_v0 ?_ | refine z_v1 ?_ | refine z_v2 ?_ | refine z_v3 ?_ | refine z_v4 ?_ | refine z_v5 ?_ | refine z_v6 ?_ | refine z_v7 ?_ | refine z_v8 ?_ | refine z_v9 ?_ | refine z_v10 ?_ | refine z_c ?_ | refine z_op ?_ | refine z_un ?_ | refine z_call ?_ | refine z_callK ?_ | refine z_cons ?_ | refine z_nil ?_ | refine z_tup ?_ | refine z_lst ?_ | refine z_and ?_ | refine z_or ?_ | refine z_not ?_ | refine z_if ?_ | refine z_chain ?_ | refine z_sl ?_ | refine z_nop ?_ | refine z_prt ?_ | refine z_prti ?_ | refine z_mt ?_ | refine z_mstr ?_ | refine z_lc ?_ | refine z_tst ?_ | refine z_tb ?_ | refine z_tru ?_ | refine z_tand ?_ | refine z_tor ?_ | refine z_tnot ?_ | refine z_yes ?_ | refine z_trb ?_ | refine z_trn ?_ | refine z_T ?_ | refine z_F ?_ | refine z_NF ?_ | refine z_NT ?_ | refine z_eqi ?_ | refine z_eqs ?_ | refine z_nei ?_ | refine z_nes ?_ | refine z_le ?_ | refine z_lt ?_ | refine z_gtt ?_ | refine z_ge ?_ | refine z_add ?_ | refine z_sub ?_ | refine z_p15 ?_ | refine z_p30 ?_ | refine z_p18 ?_ | refine z_neg ?_ | refine z_ix0 ?_ | refine z_ix1 ?_ | refine z_ix2 ?_ | refine z_ix3 ?_ | refine z_lent ?_ | refine z_slt ?_ | refine z_lenc ?_ | refine z_inb ?_ | refine z_min ?_ | refine z_max ?_ | refine z_its ?_ | refine z_rng1 ?_ | refine z_dict0 ?_ | refine z_dict ?_ | refine z_wpc ?_ | refine z_wpn ?_ | refine z_list0 ?_ | refine z_gt (by with_unfolding_all rfl) ?_ | refine z_sz (by with_unfolding_all rfl) ?_)
  refine dig hp (by decide) (by decide) fun a M1 a0 a1 p1 f1 => ?_
  repeat (with_reducible first | refine z_seq ?_ | refine z_ifs ?_ | refine z_ret ?_ | refine z_retN ?_ | refine z_next ?_ | refine z_drop ?_ | refine z_asg ?_ | refine z_par ?_ | refine z_for ?_ | refine z_break ?_ | refine z_cont ?_ | refine z_g0 ?_ | refine z_g1 ?_ | refine z_g2 ?_ | refine z_g3 ?_ | refine z_g4 ?_ | refine z_g5 ?_ | refine z_g6 ?_ | refine z_g7 ?_ | refine z_g8 ?_ | refine z_g9 ?_ | refine z_g10 ?_ | refine z_gc ?_ | refine z_gn ?_ | refine z_gst ?_ | refine z_v0 ?_ | refine z_v1 ?_ | refine z_v2 ?_ | refine z_v3 ?_ | refine z_v4 ?_ | refine z_v5 ?_ | refine z_v6 ?_ | refine z_v7 ?_ | refine z_v8 ?_ | refine z_v9 ?_ | refine z_v10 ?_ | refine z_c ?_ | refine z_op ?_ | refine z_un ?_ | refine z_call ?_ | refine z_callK ?_ | refine z_cons ?_ | refine z_nil ?_ | refine z_tup ?_ | refine z_lst ?_ | refine z_and ?_ | refine z_or ?_ | refine z_not ?_ | refine z_if ?_ | refine z_chain ?_ | refine z_sl ?_ | refine z_nop ?_ | refine z_prt ?_ | refine z_prti ?_ | refine z_mt ?_ | refine z_mstr ?_ | refine z_lc ?_ | refine z_tst ?_ | refine z_tb ?_ | refine z_tru ?_ | refine z_tand ?_ | refine z_tor ?_ | refine z_tnot ?_ | refine z_yes ?_ | refine z_trb ?_ | refine z_trn ?_ | refine z_T ?_ | refine z_F ?_ | refine z_NF ?_ | refine z_NT ?_ | refine z_eqi ?_ | refine z_eqs ?_ | refine z_nei ?_ | refine z_nes ?_ | refine z_le ?_ | refine z_lt ?_ | refine z_gtt ?_ | refine z_ge ?_ | refine z_add ?_ | refine z_sub ?_ | refine z_p15 ?_ | refine z_p30 ?_ | refine z_p18 ?_ | refine z_neg ?_ | refine z_ix0 ?_ | refine z_ix1 ?_ | refine z_ix2 ?_ | refine z_ix3 ?_ | refine z_lent ?_ | refine z_slt ?_ | refine z_lenc ?_ | refine z_inb ?_ | refine z_min ?_ | refine z_max ?_ | refine z_its ?_ | refine z_rng1 ?_ | refine z_dict0 ?_ | refine z_dict ?_ | refine z_wpc ?_ | refine z_wpn ?_ | refine z_list0 ?_ | refine z_gt (by with_unfolding_all rfl) ?_ | refine z_sz (by with_unfolding_all rfl) ?_)
  refine dig p1 (by decide) (by decide) fun b M2 b0 b1 p2 f2 => ?_
  repeat (with_reducible first | refine z_seq ?_ | refine z_ifs ?_ | refine z_ret ?_ | refine z_retN ?_ | refine z_next ?_ | refine z_drop ?_ | refine z_asg ?_ | refine z_par ?_ | refine z_for ?_ | refine z_break ?_ | refine z_cont ?_ | refine z_g0 ?_ | refine z_g1 ?_ | refine z_g2 ?_ | refine z_g3 ?_ | refine z_g4 ?_ | refine z_g5 ?_ | refine z_g6 ?_ | refine z_g7 ?_ | refine z_g8 ?_ | refine z_g9 ?_ | refine z_g10 ?_ | refine z_gc ?_ | refine z_gn ?_ | refine z_gst ?_ | refine z_v0 ?_ | refine z_v1 ?_ | refine z_v2 ?_ | refine z_v3 ?_ | refine z_v4 ?_ | refine z_v5 ?_ | refine z_v6 ?_ | refine z_v7 ?_ | refine z_v8 ?_ | refine z_v9 ?_ | refine z_v10 ?_ | refine z_c ?_ | refine z_op ?_ | refine z_un ?_ | refine z_call ?_ | refine z_callK ?_ | refine z_cons ?_ | refine z_nil ?_ | refine z_tup ?_ | refine z_lst ?_ | refine z_and ?_ | refine z_or ?_ | refine z_not ?_ | refine z_if ?_ | refine z_chain ?_ | refine z_sl ?_ | refine z_nop ?_ | refine z_prt ?_ | refine z_prti ?_ | refine z_mt ?_ | refine z_mstr ?_ | refine z_lc ?_ | refine z_tst ?_ | refine z_tb ?_ | refine z_tru ?_ | refine z_tand ?_ | refine z_tor ?_ | refine z_tnot ?_ | refine z_yes ?_ | refine z_trb ?_ | refine z_trn ?_ | refine z_T ?_ | refine z_F ?_ | refine z_NF ?_ | refine z_NT ?_ | refine z_eqi ?_ | refine z_eqs ?_ | refine z_nei ?_ | refine z_nes ?_ | refine z_le ?_ | refine z_lt ?_ | refine z_gtt ?_ | refine z_ge ?_ | refine z_add ?_ | refine z_sub ?_ | refine z_p15 ?_ | refine z_p30 ?_ | refine z_p18 ?_ | refine z_neg ?_ | refine z_ix0 ?_ | refine z_ix1 ?_ | refine z_ix2 ?_ | refine z_ix3 ?_ | refine z_lent ?_ | refine z_slt ?_ | refine z_lenc ?_ | refine z_inb ?_ | refine z_min ?_ | refine z_max ?_ | refine z_its ?_ | refine z_rng1 ?_ | refine z_dict0 ?_ | refine z_dict ?_ | refine z_wpc ?_ | refine z_wpn ?_ | refine z_list0 ?_ | refine z_gt (by with_unfolding_all rfl) ?_ | refine z_sz (by with_unfolding_all rfl) ?_)
  refine dig p2 (by decide) (by decide) fun k M3 k0 k1 p3 f3 => ?_
  repeat (with_reducible first | refine z_seq ?_ | refine z_ifs ?_ | refine z_ret ?_ | refine z_retN ?_ | refine z_next ?_ | refine z_drop ?_ | refine z_asg ?_ | refine z_par ?_ | refine z_for ?_ | refine z_break ?_ | refine z_cont ?_ | refine z_g0 ?_ | refine z_g1 ?_ | refine z_g2 ?_ | refine z_g3 ?_ | refine z_g4 ?_ | refine z_g5 ?_ | refine z_g6 ?_ | refine z_g7 ?_ | refine z_g8 ?_ | refine z_g9 ?_ | refine z_g10 ?_ | refine z_gc ?_ | refine z_gn ?_ | refine z_gst ?_ | refine z_v0 ?_ | refine z_v1 ?_ | refine z_v2 ?_ | refine z_v3 ?_ | refine z_v4 ?_ | refine z_v5 ?_ | refine z_v6 ?_ | refine z_v7 ?_ | refine z_v8 ?_ | refine z_v9 ?_ | refine z_v10 ?_ | refine z_c ?_ | refine z_op ?_ | refine z_un ?_ | refine z_call ?_ | refine z_callK ?_ | refine z_cons ?_ | refine z_nil ?_ | refine z_tup ?_ | refine z_lst ?_ | refine z_and ?_ | refine z_or ?_ | refine z_not ?_ | refine z_if ?_ | refine z_chain ?_ | refine z_sl ?_ | refine z_nop ?_ | refine z_prt ?_ | refine z_prti ?_ | refine z_mt ?_ | refine z_mstr ?_ | refine z_lc ?_ | refine z_tst ?_ | refine z_tb ?_ | refine z_tru ?_ | refine z_tand ?_ | refine z_tor ?_ | refine z_tnot ?_ | refine z_yes ?_ | refine z_trb ?_ | refine z_trn ?_ | refine z_T ?_ | refine z_F ?_ | refine z_NF ?_ | refine z_NT ?_ | refine z_eqi ?_ | refine z_eqs ?_ | refine z_nei ?_ | refine z_nes ?_ | refine z_le ?_ | refine z_lt ?_ | refine z_gtt ?_ | refine z_ge ?_ | refine z_add ?_ | refine z_sub ?_ | refine z_p15 ?_ | refine z_p30 ?_ | refine z_p18 ?_ | refine z_neg ?_ | refine z_ix0 ?_ | refine z_ix1 ?_ | refine z_ix2 ?_ | refine z_ix3 ?_ | refine z_lent ?_ | refine z_slt ?_ | refine z_lenc ?_ | refine z_inb ?_ | refine z_min ?_ | refine z_max ?_ | refine z_its ?_ | refine z_rng1 ?_ | refine z_dict0 ?_ | refine z_dict ?_ | refine z_wpc ?_ | refine z_wpn ?_ | refine z_list0 ?_ | refine z_gt (by with_unfolding_all rfl) ?_ | refine z_sz (by with_unfolding_all rfl) ?_)
  refine fun l M4 hl el fl => ?_
  repeat (with_reducible first | refine z_seq ?_ | refine z_ifs ?_ | refine z_ret ?_ | refine z_retN ?_ | refine z_next ?_ | refine z_drop ?_ | refine z_asg ?_ | refine z_par ?_ | refine z_for ?_ | refine z_break ?_ | refine z_cont ?_ | refine z_g0 ?_ | refine z_g1 ?_ | refine z_g2 ?_ | refine z_g3 ?_ | refine z_g4 ?_ | refine z_g5 ?_ | refine z_g6 ?_ | refine z_g7 ?_ | refine z_g8 ?_ | refine z_g9 ?_ | refine z_g10 ?_ | refine z_gc ?_ | refine z_gn ?_ | refine z_gst ?_ | refine z_v0 ?_ | refine z_v1 ?_ | refine z_v2 ?_ | refine z_v3 ?_ | refine z_v4 ?_ | refine z_v5 ?_ | refine z_v6 ?_ | refine z_v7 ?_ | refine z_v8 ?_ | refine z_v9 ?_ | refine z_v10 ?_ | refine z_c ?_ | refine z_op ?_ | refine z_un ?_ | refine z_call ?_ | refine z_callK ?_ | refine z_cons ?_ | refine z_nil ?_ | refine z_tup ?_ | refine z_lst ?_ | refine z_and ?_ | refine z_or ?_ | refine z_not ?_ | refine z_if ?_ | refine z_chain ?_ | refine z_sl ?_ | refine z_nop ?_ | refine z_prt ?_ | refine z_prti ?_ | refine z_mt ?_ | refine z_mstr ?_ | refine z_lc ?_ | refine z_tst ?_ | refine z_tb ?_ | refine z_tru ?_ | refine z_tand ?_ | refine z_tor ?_ | refine z_tnot ?_ | refine z_yes ?_ | refine z_trb ?_ | refine z_trn ?_ | refine z_T ?_ | refine z_F ?_ | refine z_NF ?_ | refine z_NT ?_ | refine z_eqi ?_ | refine z_eqs ?_ | refine z_nei ?_ | refine z_nes ?_ | refine z_le ?_ | refine z_lt ?_ | refine z_gtt ?_ | refine z_ge ?_ | refine z_add ?_ | refine z_sub ?_ | refine z_p15 ?_ | refine z_p30 ?_ | refine z_p18 ?_ | refine z_neg ?_ | refine z_ix0 ?_ | refine z_ix1 ?_ | refine z_ix2 ?_ | refine z_ix3 ?_ | refine z_lent ?_ | refine z_slt ?_ | refine z_lenc ?_ | refine z_inb ?_ | refine z_min ?_ | refine z_max ?_ | refine z_its ?_ | refine z_rng1 ?_ | refine z_dict0 ?_ | refine z_dict ?_ | refine z_wpc ?_ | refine z_wpn ?_ | refine z_list0 ?_ | refine z_gt (by with_unfolding_all rfl) ?_ | refine z_sz (by with_unfolding_all rfl) ?_)
  refine dig (p3.new fl) (by decide) (by decide) fun i M5 i0 i1 p5 f5 => ?_
  have e5 := f5 l _ (by simpa using p3.ne hl) el
  refine pick_lst (P := fun d => ∃ c : Int, d = .int c ∧ 2 ≤ c ∧ c < 1000000000000000) e5 i0 i1 ?_ fun d ⟨c, e, c0, c1⟩ => ?_
  · exact all_cons ⟨_, rfl, by omega, by omega⟩ (all_cons ⟨_, rfl, by omega, by omega⟩ (all_cons ⟨_, rfl, by omega, by omega⟩ (all_cons ⟨_, rfl, by omega, by omega⟩ all_nil)))
  · subst e
    exact q c M5 p5 ((((f1.trans f2).trans f3).trans fl.nil).trans f5) c0 c1
/-! a deed's look, part by part -/
theorem deed_w {c : Int} {n : Str} {b w : D} (hg : GoodS c n) (hb : uptoD c b = true) : deedD (.tup [.tup [.int c, .str n], b, w]) = wordsD c n w := by
  show (isStampD (.tup [.int c, .str n]) && (uptoD c b && wordsD c n w)) = _
  rw [good_stamp hg, hb]; rfl
theorem deed_b {c : Int} {n : Str} {b w : D} (hg : GoodS c n) (hw : wordsD c n w = true) : deedD (.tup [.tup [.int c, .str n], b, w]) = uptoD c b := by
  show (isStampD (.tup [.int c, .str n]) && (uptoD c b && wordsD c n w)) = _
  rw [good_stamp hg, hw, Bool.true_and, Bool.and_true]
theorem words_put' {c : Int} {n : Str} {a b w : D} : wordsD c n (.tup [.str "put", a, b, w]) = (parentD c n a && (placeD c n b && isWhatD w)) := by
  rw [words3 (s1 := "parent") (s2 := "place") (s3 := "what") rfl]
  simp only [part_parent, part_place, part_what]
theorem words_move' {c : Int} {n : Str} {a b w : D} : wordsD c n (.tup [.str "move", a, b, w]) = (earlierD c n a && (parentD c n b && placeD c n w)) := by
  rw [words3 (s1 := "stamp") (s2 := "parent") (s3 := "place") rfl]
  simp only [part_stamp, part_parent, part_place]
theorem words_take' {c : Int} {n w : Str} {a : D} (hw : w = "take" ∨ w = "undo") : wordsD c n (.tup [.str w, a]) = earlierD c n a := by
  have k : kvGet kd_PARTS w = some (.tup [.str "stamp"]) := by rcases hw with rfl | rfl <;> rfl
  rw [words1 k]
  simp only [part_stamp]
theorem words_seen' {c : Int} {n : Str} {a : D} : wordsD c n (.tup [.str "seen", a]) = uptoD c a := by
  rw [words1 (s := "upto") rfl]
  simp only [part_upto]
/-! what is asked of a stamp -/
structure Ot (c : Int) (n : Str) (M : Mp) (d : D) (b : Bool) : Prop where
  sh : Sh false 1600 1 M d
  pt : PartOk d
  wk : WordsOk d
  e : earlierD c n d = b
  rt : rootD d = false
  fd : isFieldD d = false
theorem Ot.mono {c : Int} {n : Str} {M M' : Mp} {d : D} {b : Bool} (h : Ot c n M d b) (f : Fr [] M M') : Ot c n M' d b := ⟨h.sh.mono f, h.pt, h.wk, h.e, h.rt, h.fd⟩
theorem Ot.par {c : Int} {n : Str} {M : Mp} {d : D} {b : Bool} (h : Ot c n M d b) : parentD c n d = b := by
  unfold parentD; rw [h.rt, h.e]; rfl
theorem Ot.pla {c : Int} {n : Str} {M : Mp} {d : D} {b : Bool} (h : Ot c n M d b) : placeD c n d = b := by
  unfold placeD; rw [h.fd, h.par]; rfl
theorem Ot.of {c i : Int} {n x : Str} {M : Mp} {b : Bool} (hi : i.natAbs < 10 ^ 40) (hx : FO (.str x)) (e : earlierD c n (.tup [.int i, .str x]) = b) (hr : i = 0 → x ≠ "") : Ot c n M (.tup [.int i, .str x]) b := by
  have p : Plain (.tup [.int i, .str x]) := .t2 (.int hi) hx
  refine ⟨p.pn.sh.le (by decide) (by decide), plain_part p, plain_words p, e, ?_, rfl⟩
  have e2 : rootD (.tup [.int i, .str x]) = (decide (i = 0) && decide (x = "")) := rfl
  rw [e2]
  by_cases h : i = 0
  · rw [decide_eq_false (hr h), Bool.and_false]
  · rw [decide_eq_false h]; rfl
theorem earl_eq {c i : Int} {n x : Str} : earlierD c n (.tup [.int i, .str x]) = ((decide (1 ≤ i) && decide (i < 1000000000000000) && nameB x) && ltS i x c n) := rfl
theorem earl_lt {c i : Int} {n x : Str} (h : GoodS i x) : earlierD c n (.tup [.int i, .str x]) = ltS i x c n := by
  rw [earl_eq, decide_eq_true h.1, decide_eq_true h.2.1, h.2.2]; rfl
theorem earl_no {c i : Int} {n x : Str} (h : ltS i x c n = false) : earlierD c n (.tup [.int i, .str x]) = false := by rw [earl_eq, h, Bool.and_false]
theorem earl_nn {c i : Int} {n x : Str} (h : nameB x = false) : earlierD c n (.tup [.int i, .str x]) = false := by rw [earl_eq, h, Bool.and_false]; rfl
theorem earl_ni {c i : Int} {n x : Str} (h : ¬ 1 ≤ i) : earlierD c n (.tup [.int i, .str x]) = false := by rw [earl_eq, decide_eq_false h]; rfl
theorem lts_c {c : Int} {n x : Str} : ltS c x c n = decide (x.cps.toList < n.cps.toList) := by
  unfold ltS
  rw [decide_eq_false (Int.lt_irrefl c), decide_eq_true rfl]; rfl
theorem lts_lo {c i : Int} {n x : Str} (h : i < c) : ltS i x c n = true := by
  unfold ltS
  rw [decide_eq_true h]; rfl
theorem lts_hi {c i : Int} {n x : Str} (h : c < i) : ltS i x c n = false := by
  unfold ltS
  rw [decide_eq_false (by omega), decide_eq_false (by omega)]; rfl
theorem app_nlt : ∀ (l t : List Nat), ¬ (l ++ t < l)
  | [], t => fun h => by cases t <;> simp at h
  | c :: l, t => fun h => by
    rw [List.cons_append, List.cons_lt_cons_iff] at h
    rcases h with h | ⟨_, h⟩
    · omega
    · exact app_nlt l t h
theorem lt_app : ∀ (l t : List Nat), t ≠ [] → l < l ++ t
  | [], t, h => by
    cases t with
    | nil => exact absurd rfl h
    | cons a r => exact List.nil_lt_cons _ _
  | c :: l, t, h => by
    rw [List.cons_append, List.cons_lt_cons_iff]
    exact .inr ⟨rfl, lt_app l t h⟩
theorem str_app {x y : Str} : (x ++ y).cps.toList = x.cps.toList ++ y.cps.toList := by show (x.cps ++ y.cps).toList = _; simp
theorem str_len {x : Str} : x.length = x.cps.toList.length := by rw [Array.length_toList]; rfl
theorem name_no {x : Str} {c : Nat} (h : c ∈ x.cps.toList) (hc : c ∉ LET) : nameB x = false := by
  cases e : nameB x with
  | false => rfl
  | true =>
    unfold nameB at e
    simp only [Bool.and_eq_true, decide_eq_true_eq, List.all_eq_true] at e
    exact absurd (e.2 c h) hc
theorem cut8_list {n : Str} (h : n.length ≤ 8) : ∃ t, (cutS (n ++ (("a" : String) : Str)) none (some 8)).cps.toList = n.cps.toList ++ t := by
  have ea : (("a" : String) : Str).cps.toList = [97] := by decide +kernel
  have e : (cutS (n ++ (("a" : String) : Str)) none (some 8)).cps.toList = ((n ++ (("a" : String) : Str)).cps.toList.drop 0).take (HT.sIx (n ++ (("a" : String) : Str)).length (n ++ (("a" : String) : Str)).length (some ((8 : Nat) : Int)) - 0) := rfl
  rw [e, HT.sIx_nat, List.drop_zero, str_app, ea, strLen_append, Nat.sub_zero]
  rw [List.take_append]
  refine ⟨_, congrArg (· ++ _) (List.take_of_length_le ?_)⟩
  have := str_len (x := n)
  have l1 : (("a" : String) : Str).length = 1 := by decide +kernel
  omega
theorem cut_last {n : Str} : (cutS n none (some (-1))).cps.toList = n.cps.toList.take (n.length - 1) := by
  have e : (cutS n none (some (-1))).cps.toList = (n.cps.toList.drop 0).take (HT.sIx n.length n.length (some (-1)) - 0) := rfl
  rw [e, List.drop_zero, Nat.sub_zero]
  have e2 : HT.sIx n.length n.length (some (-1)) = n.length - 1 := by
    show (if (-1 : Int) < 0 then ((-1 : Int) + (n.length : Int)).toNat else min (-1 : Int).toNat n.length) = _
    rw [if_pos (by decide)]
    omega
  rw [e2]
end L2.Dl.G

namespace L2.Dl.G
open PySem PySem.Spec PyProof.Rows
theorem cut_mem {ds : List D} {lo hi : Option Int} {x : D} (h : x ∈ cutL ds lo hi) : x ∈ ds := List.mem_of_mem_drop (List.mem_of_mem_take h)
theorem cut_len {ds : List D} {lo hi : Option Int} : (cutL ds lo hi).length ≤ ds.length := by
  unfold cutL
  rw [List.length_take, List.length_drop]
  omega
theorem made_tup {s : Bool} {c k n : Nat} {p : Addr} {M : Mp} {es : List D} (h : ∀ x ∈ es, Sh s c k (hid p M) x) (hn : es.length ≤ n) (hc : (c + 2) * n + 3 ≤ 100000) (hk : k + 1 ≤ 60) (hw : ∀ x ∈ es, WordsOk x) : Made (.tup es) M :=
  ⟨((Sh.tup h hn).mono hid_le).thing hc hk, fun s b w e => by cases e; exact hw w (by simp)⟩
theorem made_pn {es : List D} {M : Mp} (h : ∀ x ∈ es, Pn 6047 2 x) (hn : es.length ≤ 3) (hw : ∀ x ∈ es, WordsOk x) : Made (.tup es) M :=
  ⟨((Sh.tup (s := true) (fun x hx => (h x hx).sh) hn)).thing (by decide) (by decide), fun s b w e => by cases e; exact hw w (by simp)⟩
theorem words_pn {x : Str} {r : List D} (hx : FO (.str x)) (hr : r.length ≤ 3) (hp : ∀ y ∈ r, Plain y) : Pn 6047 2 (.tup (.str x :: r)) :=
  (Pn.tup (c := 1509) (k := 1) (n := 4) (all_cons (Plain.pn (.inl hx)) fun y hy => (hp y hy).pn) (by simpa using hr)).le (by decide) (by decide)
theorem words_wk {x : Str} {r : List D} (hx : FO (.str x)) (hr : r.length ≤ 3) (hp : ∀ y ∈ r, Plain y) : WordsOk (.tup (.str x :: r)) := fun ds e => by
  cases e
  exact ⟨by simp only [List.length_cons]; omega, all_cons (fo_part hx) fun y hy => plain_part (hp y hy)⟩
theorem deed_made {d : D} {M : Mp} (hd : deedD d = true) : Made d M := by
  obtain ⟨c, n, b, x, r, rfl, hg, b0, b1, hx, hr, hpl⟩ := deed_parts hd
  have fb : FO (.int b) := .int (by have := hg.2.1; omega)
  have ps : Plain (.tup [.int c, .str n]) := .t2 (good_fo hg).1 (good_fo hg).2
  have P2 : ∀ {d : D}, Plain d → Pn 6047 2 d := fun h => h.pn.le (by decide) (by decide)
  exact made_pn (all_cons (P2 ps) (all_cons (P2 (.inl fb)) (all_cons (words_pn hx hr hpl) all_nil))) (Nat.le_refl _) (all_cons (plain_words ps) (all_cons (plain_words (.inl fb)) (all_cons (words_wk hx hr hpl) all_nil)))

theorem stamps_fix {r : List D} (hr : r.length ≤ 40) : ∃ P, ∀ M l, M l = some (.lst (r.filter isStampD)) → Rep M (.ref l) P :=
  list_rep (fun d hd => stamp_fix (List.mem_filter.mp hd).2) (Nat.le_trans (List.length_filter_le _ _) hr)
theorem L_right_ok {s b a : D} {r ns : List D} {due : Bool} {nl : Addr} {M : Mp} {Q : DQ} (hm : Made (.tup [s, b, .tup (a :: r)]) M) (hr : r.length ≤ 40) (hd : deedD (.tup [s, b, .tup (a :: r)]) = due)
    (en : M nl = some (.lst ns)) (hn : due = true → r.filter isStampD = ns) (q : ∀ M', Fr [] M M' → Q (.bl true) M') : W_L_right [.tup [s, b, .tup (a :: r)], .bl due, .ref nl] M Q := by
  obtain ⟨⟨ha, hp⟩, hok⟩ := hm
  have hm2 := AskAs.mem (show AskAs M [s, b, .tup (a :: r)] from ha)
  have hw := hm2 (.tup (a :: r)) (by simp)
  have hr1 : ∀ x ∈ r, AskA M x := fun x hx => AskAs.mem (show AskAs M (a :: r) from hw) x (List.mem_cons_of_mem _ hx)
  unfold W_L_right; refine z_d33 ?_; repeat (with_reducible first | refine z_seq ?_ | refine z_ifs ?_ | refine z_ret ?_ | refine z_retN ?_ | refine z_next ?_ | refine z_drop ?_ | refine z_asg ?_ | refine z_par ?_ | refine z_for ?_ | refine z_break ?_ | refine z_cont ?_ | refine z_g0 ?_ | refine z_g1 ?_ | refine z_g2 ?_ | refine z_g3 ?_ | refine z_g4 ?_ | refine z_g5 ?_ | refine z_g6 ?_ | refine z_g7 ?_ | refine z_g8 ?_ | refine z_g9 ?_ | refine z_g10 ?_ | refine z_gc ?_ | refine z_gn ?_ | refine z_gst ?_ | refine z_v0 ?_ | refine z_v1 ?_ | refine z_v2 ?_ | refine z_v3 ?_ | refine z_v4 ?_ | refine z_v5 ?_ | refine z_v6 ?_ | refine z_v7 ?_ | refine z_v8 ?_ | refine z_v9 ?_ | refine z_v10 ?_ | refine z_c ?_ | refine z_op ?_ | refine z_un ?_ | refine z_call ?_ | refine z_callK ?_ | refine z_cons ?_ | refine z_nil ?_ | refine z_tup ?_ | refine z_lst ?_ | refine z_and ?_ | refine z_or ?_ | refine z_not ?_ | refine z_if ?_ | refine z_chain ?_ | refine z_sl ?_ | refine z_nop ?_ | refine z_prt ?_ | refine z_prti ?_ | refine z_mt ?_ | refine z_mstr ?_ | refine z_lc ?_ | refine z_tst ?_ | refine z_tb ?_ | refine z_tru ?_ | refine z_tand ?_ | refine z_tor ?_ | refine z_tnot ?_ | refine z_yes ?_ | refine z_trb ?_ | refine z_trn ?_ | refine z_T ?_ | refine z_F ?_ | refine z_NF ?_ | refine z_NT ?_ | refine z_eqi ?_ | refine z_eqs ?_ | refine z_nei ?_ | refine z_nes ?_ | refine z_le ?_ | refine z_lt ?_ | refine z_gtt ?_ | refine z_ge ?_ | refine z_add ?_ | refine z_sub ?_ | refine z_p15 ?_ | refine z_p30 ?_ | refine z_p18 ?_ | refine z_neg ?_ | refine z_ix0 ?_ | refine z_ix1 ?_ | refine z_ix2 ?_ | refine z_ix3 ?_ | refine z_lent ?_ | refine z_slt ?_ | refine z_lenc ?_ | refine z_inb ?_ | refine z_min ?_ | refine z_max ?_ | refine z_its ?_ | refine z_rng1 ?_ | refine z_dict0 ?_ | refine z_dict ?_ | refine z_wpc ?_ | refine z_wpn ?_ | refine z_list0 ?_ | refine z_gt (by with_unfolding_all rfl) ?_ | refine z_sz (by with_unfolding_all rfl) ?_)
  refine is_deed_ok ha hok fun M1 f1 => ?_
  rw [hd]
  repeat (with_reducible first | refine z_seq ?_ | refine z_ifs ?_ | refine z_ret ?_ | refine z_retN ?_ | refine z_next ?_ | refine z_drop ?_ | refine z_asg ?_ | refine z_par ?_ | refine z_for ?_ | refine z_break ?_ | refine z_cont ?_ | refine z_g0 ?_ | refine z_g1 ?_ | refine z_g2 ?_ | refine z_g3 ?_ | refine z_g4 ?_ | refine z_g5 ?_ | refine z_g6 ?_ | refine z_g7 ?_ | refine z_g8 ?_ | refine z_g9 ?_ | refine z_g10 ?_ | refine z_gc ?_ | refine z_gn ?_ | refine z_gst ?_ | refine z_v0 ?_ | refine z_v1 ?_ | refine z_v2 ?_ | refine z_v3 ?_ | refine z_v4 ?_ | refine z_v5 ?_ | refine z_v6 ?_ | refine z_v7 ?_ | refine z_v8 ?_ | refine z_v9 ?_ | refine z_v10 ?_ | refine z_c ?_ | refine z_op ?_ | refine z_un ?_ | refine z_call ?_ | refine z_callK ?_ | refine z_cons ?_ | refine z_nil ?_ | refine z_tup ?_ | refine z_lst ?_ | refine z_and ?_ | refine z_or ?_ | refine z_not ?_ | refine z_if ?_ | refine z_chain ?_ | refine z_sl ?_ | refine z_nop ?_ | refine z_prt ?_ | refine z_prti ?_ | refine z_mt ?_ | refine z_mstr ?_ | refine z_lc ?_ | refine z_tst ?_ | refine z_tb ?_ | refine z_tru ?_ | refine z_tand ?_ | refine z_tor ?_ | refine z_tnot ?_ | refine z_yes ?_ | refine z_trb ?_ | refine z_trn ?_ | refine z_T ?_ | refine z_F ?_ | refine z_NF ?_ | refine z_NT ?_ | refine z_eqi ?_ | refine z_eqs ?_ | refine z_nei ?_ | refine z_nes ?_ | refine z_le ?_ | refine z_lt ?_ | refine z_gtt ?_ | refine z_ge ?_ | refine z_add ?_ | refine z_sub ?_ | refine z_p15 ?_ | refine z_p30 ?_ | refine z_p18 ?_ | refine z_neg ?_ | refine z_ix0 ?_ | refine z_ix1 ?_ | refine z_ix2 ?_ | refine z_ix3 ?_ | refine z_lent ?_ | refine z_slt ?_ | refine z_lenc ?_ | refine z_inb ?_ | refine z_min ?_ | refine z_max ?_ | refine z_its ?_ | refine z_rng1 ?_ | refine z_dict0 ?_ | refine z_dict ?_ | refine z_wpc ?_ | refine z_wpn ?_ | refine z_list0 ?_ | refine z_gt (by with_unfolding_all rfl) ?_ | refine z_sz (by with_unfolding_all rfl) ?_)
  refine z_repr rep_bl ?_
  repeat (with_reducible first | refine z_seq ?_ | refine z_ifs ?_ | refine z_ret ?_ | refine z_retN ?_ | refine z_next ?_ | refine z_drop ?_ | refine z_asg ?_ | refine z_par ?_ | refine z_for ?_ | refine z_break ?_ | refine z_cont ?_ | refine z_g0 ?_ | refine z_g1 ?_ | refine z_g2 ?_ | refine z_g3 ?_ | refine z_g4 ?_ | refine z_g5 ?_ | refine z_g6 ?_ | refine z_g7 ?_ | refine z_g8 ?_ | refine z_g9 ?_ | refine z_g10 ?_ | refine z_gc ?_ | refine z_gn ?_ | refine z_gst ?_ | refine z_v0 ?_ | refine z_v1 ?_ | refine z_v2 ?_ | refine z_v3 ?_ | refine z_v4 ?_ | refine z_v5 ?_ | refine z_v6 ?_ | refine z_v7 ?_ | refine z_v8 ?_ | refine z_v9 ?_ | refine z_v10 ?_ | refine z_c ?_ | refine z_op ?_ | refine z_un ?_ | refine z_call ?_ | refine z_callK ?_ | refine z_cons ?_ | refine z_nil ?_ | refine z_tup ?_ | refine z_lst ?_ | refine z_and ?_ | refine z_or ?_ | refine z_not ?_ | refine z_if ?_ | refine z_chain ?_ | refine z_sl ?_ | refine z_nop ?_ | refine z_prt ?_ | refine z_prti ?_ | refine z_mt ?_ | refine z_mstr ?_ | refine z_lc ?_ | refine z_tst ?_ | refine z_tb ?_ | refine z_tru ?_ | refine z_tand ?_ | refine z_tor ?_ | refine z_tnot ?_ | refine z_yes ?_ | refine z_trb ?_ | refine z_trn ?_ | refine z_T ?_ | refine z_F ?_ | refine z_NF ?_ | refine z_NT ?_ | refine z_eqi ?_ | refine z_eqs ?_ | refine z_nei ?_ | refine z_nes ?_ | refine z_le ?_ | refine z_lt ?_ | refine z_gtt ?_ | refine z_ge ?_ | refine z_add ?_ | refine z_sub ?_ | refine z_p15 ?_ | refine z_p30 ?_ | refine z_p18 ?_ | refine z_neg ?_ | refine z_ix0 ?_ | refine z_ix1 ?_ | refine z_ix2 ?_ | refine z_ix3 ?_ | refine z_lent ?_ | refine z_slt ?_ | refine z_lenc ?_ | refine z_inb ?_ | refine z_min ?_ | refine z_max ?_ | refine z_its ?_ | refine z_rng1 ?_ | refine z_dict0 ?_ | refine z_dict ?_ | refine z_wpc ?_ | refine z_wpn ?_ | refine z_list0 ?_ | refine z_gt (by with_unfolding_all rfl) ?_ | refine z_sz (by with_unfolding_all rfl) ?_)
  refine z_repr rep_bl ?_
  refine z_neself ?_
  repeat (with_reducible first | refine z_seq ?_ | refine z_ifs ?_ | refine z_ret ?_ | refine z_retN ?_ | refine z_next ?_ | refine z_drop ?_ | refine z_asg ?_ | refine z_par ?_ | refine z_for ?_ | refine z_break ?_ | refine z_cont ?_ | refine z_g0 ?_ | refine z_g1 ?_ | refine z_g2 ?_ | refine z_g3 ?_ | refine z_g4 ?_ | refine z_g5 ?_ | refine z_g6 ?_ | refine z_g7 ?_ | refine z_g8 ?_ | refine z_g9 ?_ | refine z_g10 ?_ | refine z_gc ?_ | refine z_gn ?_ | refine z_gst ?_ | refine z_v0 ?_ | refine z_v1 ?_ | refine z_v2 ?_ | refine z_v3 ?_ | refine z_v4 ?_ | refine z_v5 ?_ | refine z_v6 ?_ | refine z_v7 ?_ | refine z_v8 ?_ | refine z_v9 ?_ | refine z_v10 ?_ | refine z_c ?_ | refine z_op ?_ | refine z_un ?_ | refine z_call ?_ | refine z_callK ?_ | refine z_cons ?_ | refine z_nil ?_ | refine z_tup ?_ | refine z_lst ?_ | refine z_and ?_ | refine z_or ?_ | refine z_not ?_ | refine z_if ?_ | refine z_chain ?_ | refine z_sl ?_ | refine z_nop ?_ | refine z_prt ?_ | refine z_prti ?_ | refine z_mt ?_ | refine z_mstr ?_ | refine z_lc ?_ | refine z_tst ?_ | refine z_tb ?_ | refine z_tru ?_ | refine z_tand ?_ | refine z_tor ?_ | refine z_tnot ?_ | refine z_yes ?_ | refine z_trb ?_ | refine z_trn ?_ | refine z_T ?_ | refine z_F ?_ | refine z_NF ?_ | refine z_NT ?_ | refine z_eqi ?_ | refine z_eqs ?_ | refine z_nei ?_ | refine z_nes ?_ | refine z_le ?_ | refine z_lt ?_ | refine z_gtt ?_ | refine z_ge ?_ | refine z_add ?_ | refine z_sub ?_ | refine z_p15 ?_ | refine z_p30 ?_ | refine z_p18 ?_ | refine z_neg ?_ | refine z_ix0 ?_ | refine z_ix1 ?_ | refine z_ix2 ?_ | refine z_ix3 ?_ | refine z_lent ?_ | refine z_slt ?_ | refine z_lenc ?_ | refine z_inb ?_ | refine z_min ?_ | refine z_max ?_ | refine z_its ?_ | refine z_rng1 ?_ | refine z_dict0 ?_ | refine z_dict ?_ | refine z_wpc ?_ | refine z_wpn ?_ | refine z_list0 ?_ | refine z_gt (by with_unfolding_all rfl) ?_ | refine z_sz (by with_unfolding_all rfl) ?_)
  cases due with
  | false =>
    repeat (with_reducible first | refine z_seq ?_ | refine z_ifs ?_ | refine z_ret ?_ | refine z_retN ?_ | refine z_next ?_ | refine z_drop ?_ | refine z_asg ?_ | refine z_par ?_ | refine z_for ?_ | refine z_break ?_ | refine z_cont ?_ | refine z_g0 ?_ | refine z_g1 ?_ | refine z_g2 ?_ | refine z_g3 ?_ | refine z_g4 ?_ | refine z_g5 ?_ | refine z_g6 ?_ | refine z_g7 ?_ | refine z_g8 ?_ | refine z_g9 ?_ | refine z_g10 ?_ | refine z_gc ?_ | refine z_gn ?_ | refine z_gst ?_ | refine z_v0 ?_ | refine z_v1 ?_ | refine z_v2 ?_ | refine z_v3 ?_ | refine z_v4 ?_ | refine z_v5 ?_ | refine z_v6 ?_ | refine z_v7 ?_ | refine z_v8 ?_ | refine z_v9 ?_ | refine z_v10 ?_ | refine z_c ?_ | refine z_op ?_ | refine z_un ?_ | refine z_call ?_ | refine z_callK ?_ | refine z_cons ?_ | refine z_nil ?_ | refine z_tup ?_ | refine z_lst ?_ | refine z_and ?_ | refine z_or ?_ | refine z_not ?_ | refine z_if ?_ | refine z_chain ?_ | refine z_sl ?_ | refine z_nop ?_ | refine z_prt ?_ | refine z_prti ?_ | refine z_mt ?_ | refine z_mstr ?_ | refine z_lc ?_ | refine z_tst ?_ | refine z_tb ?_ | refine z_tru ?_ | refine z_tand ?_ | refine z_tor ?_ | refine z_tnot ?_ | refine z_yes ?_ | refine z_trb ?_ | refine z_trn ?_ | refine z_T ?_ | refine z_F ?_ | refine z_NF ?_ | refine z_NT ?_ | refine z_eqi ?_ | refine z_eqs ?_ | refine z_nei ?_ | refine z_nes ?_ | refine z_le ?_ | refine z_lt ?_ | refine z_gtt ?_ | refine z_ge ?_ | refine z_add ?_ | refine z_sub ?_ | refine z_p15 ?_ | refine z_p30 ?_ | refine z_p18 ?_ | refine z_neg ?_ | refine z_ix0 ?_ | refine z_ix1 ?_ | refine z_ix2 ?_ | refine z_ix3 ?_ | refine z_lent ?_ | refine z_slt ?_ | refine z_lenc ?_ | refine z_inb ?_ | refine z_min ?_ | refine z_max ?_ | refine z_its ?_ | refine z_rng1 ?_ | refine z_dict0 ?_ | refine z_dict ?_ | refine z_wpc ?_ | refine z_wpn ?_ | refine z_list0 ?_ | refine z_gt (by with_unfolding_all rfl) ?_ | refine z_sz (by with_unfolding_all rfl) ?_)
    exact q M1 f1
  | true =>
    repeat (with_reducible first | refine z_seq ?_ | refine z_ifs ?_ | refine z_ret ?_ | refine z_retN ?_ | refine z_next ?_ | refine z_drop ?_ | refine z_asg ?_ | refine z_par ?_ | refine z_for ?_ | refine z_break ?_ | refine z_cont ?_ | refine z_g0 ?_ | refine z_g1 ?_ | refine z_g2 ?_ | refine z_g3 ?_ | refine z_g4 ?_ | refine z_g5 ?_ | refine z_g6 ?_ | refine z_g7 ?_ | refine z_g8 ?_ | refine z_g9 ?_ | refine z_g10 ?_ | refine z_gc ?_ | refine z_gn ?_ | refine z_gst ?_ | refine z_v0 ?_ | refine z_v1 ?_ | refine z_v2 ?_ | refine z_v3 ?_ | refine z_v4 ?_ | refine z_v5 ?_ | refine z_v6 ?_ | refine z_v7 ?_ | refine z_v8 ?_ | refine z_v9 ?_ | refine z_v10 ?_ | refine z_c ?_ | refine z_op ?_ | refine z_un ?_ | refine z_call ?_ | refine z_callK ?_ | refine z_cons ?_ | refine z_nil ?_ | refine z_tup ?_ | refine z_lst ?_ | refine z_and ?_ | refine z_or ?_ | refine z_not ?_ | refine z_if ?_ | refine z_chain ?_ | refine z_sl ?_ | refine z_nop ?_ | refine z_prt ?_ | refine z_prti ?_ | refine z_mt ?_ | refine z_mstr ?_ | refine z_lc ?_ | refine z_tst ?_ | refine z_tb ?_ | refine z_tru ?_ | refine z_tand ?_ | refine z_tor ?_ | refine z_tnot ?_ | refine z_yes ?_ | refine z_trb ?_ | refine z_trn ?_ | refine z_T ?_ | refine z_F ?_ | refine z_NF ?_ | refine z_NT ?_ | refine z_eqi ?_ | refine z_eqs ?_ | refine z_nei ?_ | refine z_nes ?_ | refine z_le ?_ | refine z_lt ?_ | refine z_gtt ?_ | refine z_ge ?_ | refine z_add ?_ | refine z_sub ?_ | refine z_p15 ?_ | refine z_p30 ?_ | refine z_p18 ?_ | refine z_neg ?_ | refine z_ix0 ?_ | refine z_ix1 ?_ | refine z_ix2 ?_ | refine z_ix3 ?_ | refine z_lent ?_ | refine z_slt ?_ | refine z_lenc ?_ | refine z_inb ?_ | refine z_min ?_ | refine z_max ?_ | refine z_its ?_ | refine z_rng1 ?_ | refine z_dict0 ?_ | refine z_dict ?_ | refine z_wpc ?_ | refine z_wpn ?_ | refine z_list0 ?_ | refine z_gt (by with_unfolding_all rfl) ?_ | refine z_sz (by with_unfolding_all rfl) ?_)
    refine named_ok (fun x hx => (hr1 x hx).mono f1) (by omega) fun l M2 hl f2 e2 => ?_
    obtain ⟨P, hP⟩ := stamps_fix hr
    repeat (with_reducible first | refine z_seq ?_ | refine z_ifs ?_ | refine z_ret ?_ | refine z_retN ?_ | refine z_next ?_ | refine z_drop ?_ | refine z_asg ?_ | refine z_par ?_ | refine z_for ?_ | refine z_break ?_ | refine z_cont ?_ | refine z_g0 ?_ | refine z_g1 ?_ | refine z_g2 ?_ | refine z_g3 ?_ | refine z_g4 ?_ | refine z_g5 ?_ | refine z_g6 ?_ | refine z_g7 ?_ | refine z_g8 ?_ | refine z_g9 ?_ | refine z_g10 ?_ | refine z_gc ?_ | refine z_gn ?_ | refine z_gst ?_ | refine z_v0 ?_ | refine z_v1 ?_ | refine z_v2 ?_ | refine z_v3 ?_ | refine z_v4 ?_ | refine z_v5 ?_ | refine z_v6 ?_ | refine z_v7 ?_ | refine z_v8 ?_ | refine z_v9 ?_ | refine z_v10 ?_ | refine z_c ?_ | refine z_op ?_ | refine z_un ?_ | refine z_call ?_ | refine z_callK ?_ | refine z_cons ?_ | refine z_nil ?_ | refine z_tup ?_ | refine z_lst ?_ | refine z_and ?_ | refine z_or ?_ | refine z_not ?_ | refine z_if ?_ | refine z_chain ?_ | refine z_sl ?_ | refine z_nop ?_ | refine z_prt ?_ | refine z_prti ?_ | refine z_mt ?_ | refine z_mstr ?_ | refine z_lc ?_ | refine z_tst ?_ | refine z_tb ?_ | refine z_tru ?_ | refine z_tand ?_ | refine z_tor ?_ | refine z_tnot ?_ | refine z_yes ?_ | refine z_trb ?_ | refine z_trn ?_ | refine z_T ?_ | refine z_F ?_ | refine z_NF ?_ | refine z_NT ?_ | refine z_eqi ?_ | refine z_eqs ?_ | refine z_nei ?_ | refine z_nes ?_ | refine z_le ?_ | refine z_lt ?_ | refine z_gtt ?_ | refine z_ge ?_ | refine z_add ?_ | refine z_sub ?_ | refine z_p15 ?_ | refine z_p30 ?_ | refine z_p18 ?_ | refine z_neg ?_ | refine z_ix0 ?_ | refine z_ix1 ?_ | refine z_ix2 ?_ | refine z_ix3 ?_ | refine z_lent ?_ | refine z_slt ?_ | refine z_lenc ?_ | refine z_inb ?_ | refine z_min ?_ | refine z_max ?_ | refine z_its ?_ | refine z_rng1 ?_ | refine z_dict0 ?_ | refine z_dict ?_ | refine z_wpc ?_ | refine z_wpn ?_ | refine z_list0 ?_ | refine z_gt (by with_unfolding_all rfl) ?_ | refine z_sz (by with_unfolding_all rfl) ?_)
    refine z_repr (hP M2 l e2) ?_
    repeat (with_reducible first | refine z_seq ?_ | refine z_ifs ?_ | refine z_ret ?_ | refine z_retN ?_ | refine z_next ?_ | refine z_drop ?_ | refine z_asg ?_ | refine z_par ?_ | refine z_for ?_ | refine z_break ?_ | refine z_cont ?_ | refine z_g0 ?_ | refine z_g1 ?_ | refine z_g2 ?_ | refine z_g3 ?_ | refine z_g4 ?_ | refine z_g5 ?_ | refine z_g6 ?_ | refine z_g7 ?_ | refine z_g8 ?_ | refine z_g9 ?_ | refine z_g10 ?_ | refine z_gc ?_ | refine z_gn ?_ | refine z_gst ?_ | refine z_v0 ?_ | refine z_v1 ?_ | refine z_v2 ?_ | refine z_v3 ?_ | refine z_v4 ?_ | refine z_v5 ?_ | refine z_v6 ?_ | refine z_v7 ?_ | refine z_v8 ?_ | refine z_v9 ?_ | refine z_v10 ?_ | refine z_c ?_ | refine z_op ?_ | refine z_un ?_ | refine z_call ?_ | refine z_callK ?_ | refine z_cons ?_ | refine z_nil ?_ | refine z_tup ?_ | refine z_lst ?_ | refine z_and ?_ | refine z_or ?_ | refine z_not ?_ | refine z_if ?_ | refine z_chain ?_ | refine z_sl ?_ | refine z_nop ?_ | refine z_prt ?_ | refine z_prti ?_ | refine z_mt ?_ | refine z_mstr ?_ | refine z_lc ?_ | refine z_tst ?_ | refine z_tb ?_ | refine z_tru ?_ | refine z_tand ?_ | refine z_tor ?_ | refine z_tnot ?_ | refine z_yes ?_ | refine z_trb ?_ | refine z_trn ?_ | refine z_T ?_ | refine z_F ?_ | refine z_NF ?_ | refine z_NT ?_ | refine z_eqi ?_ | refine z_eqs ?_ | refine z_nei ?_ | refine z_nes ?_ | refine z_le ?_ | refine z_lt ?_ | refine z_gtt ?_ | refine z_ge ?_ | refine z_add ?_ | refine z_sub ?_ | refine z_p15 ?_ | refine z_p30 ?_ | refine z_p18 ?_ | refine z_neg ?_ | refine z_ix0 ?_ | refine z_ix1 ?_ | refine z_ix2 ?_ | refine z_ix3 ?_ | refine z_lent ?_ | refine z_slt ?_ | refine z_lenc ?_ | refine z_inb ?_ | refine z_min ?_ | refine z_max ?_ | refine z_its ?_ | refine z_rng1 ?_ | refine z_dict0 ?_ | refine z_dict ?_ | refine z_wpc ?_ | refine z_wpn ?_ | refine z_list0 ?_ | refine z_gt (by with_unfolding_all rfl) ?_ | refine z_sz (by with_unfolding_all rfl) ?_)
    have e3 := f2 _ _ (by simp) (f1 _ _ (by simp) en)
    rw [← hn rfl] at e3
    refine z_repr (hP M2 nl e3) ?_
    refine z_eqself ?_
    exact q M2 (f1.trans f2)
theorem z_half {c : Int} {M : Mp} {Q : DQ} (h0 : 0 ≤ c) (h : Q (.int (c / 2)) M) : bDiv (.int c) (.int 2) M Q := z_div (div_small (by decide) (by decide)) h
theorem L_numbers_ok {c : Int} {n : Str} {M : Mp} {Q : DQ} (h2 : 2 ≤ c) (h3 : c < 1000000000000000) (q : ∀ l M' items, M l = none → Fr [] M M' → M' l = some (.lst items) → (∀ x ∈ items, ∃ d b, x = .tup [d, .bl b] ∧ FO d ∧ uptoD c d = b) → Q (.ref l) M') : W_L_numbers [.tup [.int c, .str n]] M Q := by
  have U : ∀ i : Int, uptoD c (.int i) = (decide (0 ≤ i) && decide (i < c)) := fun i => rfl
  unfold W_L_numbers; refine z_d21 ?_; repeat (with_reducible first | refine z_seq ?_ | refine z_ifs ?_ | refine z_ret ?_ | refine z_retN ?_ | refine z_next ?_ | refine z_drop ?_ | refine z_asg ?_ | refine z_par ?_ | refine z_for ?_ | refine z_break ?_ | refine z_cont ?_ | refine z_g0 ?_ | refine z_g1 ?_ | refine z_g2 ?_ | refine z_g3 ?_ | refine z_g4 ?_ | refine z_g5 ?_ | refine z_g6 ?_ | refine z_g7 ?_ | refine z_g8 ?_ | refine z_g9 ?_ | refine z_g10 ?_ | refine z_gc ?_ | refine z_gn ?_ | refine z_gst ?_ | refine z_v0 ?_ | refine z_v1 ?_ | refine z_v2 ?_ | refine z_v3 ?_ | refine z_v4 ?_ | refine z_v5 ?_ | refine z_v6 ?_ | refine z_v7 ?_ | refine z_v8 ?_ | refine z_v9 ?_ | refine z_v10 ?_ | refine z_c ?_ | refine z_op ?_ | refine z_un ?_ | refine z_call ?_ | refine z_callK ?_ | refine z_cons ?_ | refine z_nil ?_ | refine z_tup ?_ | refine z_lst ?_ | refine z_and ?_ | refine z_or ?_ | refine z_not ?_ | refine z_if ?_ | refine z_chain ?_ | refine z_sl ?_ | refine z_nop ?_ | refine z_prt ?_ | refine z_prti ?_ | refine z_mt ?_ | refine z_mstr ?_ | refine z_lc ?_ | refine z_tst ?_ | refine z_tb ?_ | refine z_tru ?_ | refine z_tand ?_ | refine z_tor ?_ | refine z_tnot ?_ | refine z_yes ?_ | refine z_trb ?_ | refine z_trn ?_ | refine z_T ?_ | refine z_F ?_ | refine z_NF ?_ | refine z_NT ?_ | refine z_eqi ?_ | refine z_eqs ?_ | refine z_nei ?_ | refine z_nes ?_ | refine z_le ?_ | refine z_lt ?_ | refine z_gtt ?_ | refine z_ge ?_ | refine z_add ?_ | refine z_sub ?_ | refine z_p15 ?_ | refine z_p30 ?_ | refine z_p18 ?_ | refine z_neg ?_ | refine z_ix0 ?_ | refine z_ix1 ?_ | refine z_ix2 ?_ | refine z_ix3 ?_ | refine z_lent ?_ | refine z_slt ?_ | refine z_lenc ?_ | refine z_inb ?_ | refine z_min ?_ | refine z_max ?_ | refine z_its ?_ | refine z_rng1 ?_ | refine z_dict0 ?_ | refine z_dict ?_ | refine z_wpc ?_ | refine z_wpn ?_ | refine z_list0 ?_ | refine z_gt (by with_unfolding_all rfl) ?_ | refine z_sz (by with_unfolding_all rfl) ?_)
  refine z_half (by omega) ?_
  repeat (with_reducible first | refine z_seq ?_ | refine z_ifs ?_ | refine z_ret ?_ | refine z_retN ?_ | refine z_next ?_ | refine z_drop ?_ | refine z_asg ?_ | refine z_par ?_ | refine z_for ?_ | refine z_break ?_ | refine z_cont ?_ | refine z_g0 ?_ | refine z_g1 ?_ | refine z_g2 ?_ | refine z_g3 ?_ | refine z_g4 ?_ | refine z_g5 ?_ | refine z_g6 ?_ | refine z_g7 ?_ | refine z_g8 ?_ | refine z_g9 ?_ | refine z_g10 ?_ | refine z_gc ?_ | refine z_gn ?_ | refine z_gst ?_ | refine z_v0 ?_ | refine z_v1 ?_ | refine z_v2 ?_ | refine z_v3 ?_ | refine z_v4 ?_ | refine z_v5 ?_ | refine z_v6 ?_ | refine z_v7 ?_ | refine z_v8 ?_ | refine z_v9 ?_ | refine z_v10 ?_ | refine z_c ?_ | refine z_op ?_ | refine z_un ?_ | refine z_call ?_ | refine z_callK ?_ | refine z_cons ?_ | refine z_nil ?_ | refine z_tup ?_ | refine z_lst ?_ | refine z_and ?_ | refine z_or ?_ | refine z_not ?_ | refine z_if ?_ | refine z_chain ?_ | refine z_sl ?_ | refine z_nop ?_ | refine z_prt ?_ | refine z_prti ?_ | refine z_mt ?_ | refine z_mstr ?_ | refine z_lc ?_ | refine z_tst ?_ | refine z_tb ?_ | refine z_tru ?_ | refine z_tand ?_ | refine z_tor ?_ | refine z_tnot ?_ | refine z_yes ?_ | refine z_trb ?_ | refine z_trn ?_ | refine z_T ?_ | refine z_F ?_ | refine z_NF ?_ | refine z_NT ?_ | refine z_eqi ?_ | refine z_eqs ?_ | refine z_nei ?_ | refine z_nes ?_ | refine z_le ?_ | refine z_lt ?_ | refine z_gtt ?_ | refine z_ge ?_ | refine z_add ?_ | refine z_sub ?_ | refine z_p15 ?_ | refine z_p30 ?_ | refine z_p18 ?_ | refine z_neg ?_ | refine z_ix0 ?_ | refine z_ix1 ?_ | refine z_ix2 ?_ | refine z_ix3 ?_ | refine z_lent ?_ | refine z_slt ?_ | refine z_lenc ?_ | refine z_inb ?_ | refine z_min ?_ | refine z_max ?_ | refine z_its ?_ | refine z_rng1 ?_ | refine z_dict0 ?_ | refine z_dict ?_ | refine z_wpc ?_ | refine z_wpn ?_ | refine z_list0 ?_ | refine z_gt (by with_unfolding_all rfl) ?_ | refine z_sz (by with_unfolding_all rfl) ?_)
  refine fun l M1 hl el fl => q l M1 _ hl fl el ?_
  have T : ∀ i : Int, 0 ≤ i → i < c → ∃ d b, (.tup [.int i, .bl true] : D) = .tup [d, .bl b] ∧ FO d ∧ uptoD c d = b := fun i h0 h1 => ⟨_, _, rfl, .int (by omega), by rw [U, decide_eq_true h0, decide_eq_true h1]; rfl⟩
  have F : ∀ i : Int, (i < 0 ∨ c ≤ i) → i.natAbs < 10 ^ 40 → ∃ d b, (.tup [.int i, .bl false] : D) = .tup [d, .bl b] ∧ FO d ∧ uptoD c d = b := fun i h0 h1 => ⟨_, _, rfl, .int h1, by
    rw [U]
    rcases h0 with h | h
    · rw [decide_eq_false (by omega)]; rfl
    · rw [decide_eq_false (p := i < c) (by omega), Bool.and_false]⟩
  exact all_cons (T _ (by omega) (by omega)) (all_cons (F _ (by omega) (by omega)) (all_cons (F _ (by omega) (by omega)) (all_cons (T _ (by omega) (by omega)) (all_cons (F _ (by omega) (by omega)) (all_cons ⟨_, _, rfl, .bl _, rfl⟩ (all_cons (T _ (by omega) (by omega)) all_nil))))))
theorem one_good {x : Str} (h : nameB x = true) : GoodS 1 x := ⟨by decide, by decide, h⟩
theorem z_name : nameB (("z" : String) : Str) = true := by decide +kernel
theorem b_name : nameB (("b" : String) : Str) = true := by decide +kernel
theorem no_stamp0 : isStampD (.tup [.int 0, .str ""]) = false := by decide +kernel
theorem good_yes {i : Int} {x : Str} (h : GoodS i x) : isStampD (.tup [.int i, .str x]) = true := good_stamp h
theorem mk_made {s b : D} {x : Str} {r : List D} {M : Mp} (hs : Plain s) (hb : Plain b) (hx : FO (.str x)) (hr : r.length ≤ 3) (h : ∀ y ∈ r, Sh false 1600 1 M y ∧ PartOk y) : Made (.tup [s, b, .tup (.str x :: r)]) M := by
  have hw : Sh false 6411 2 M (.tup (.str x :: r)) := Sh.tup (c := 1600) (k := 1) (n := 4) (all_cons ((Plain.pn (.inl hx)).sh.le (by decide) (by decide)) fun y hy => (h y hy).1) (by simpa using hr)
  refine ⟨(Sh.tup (s := false) (c := 6411) (k := 2) (n := 3) (all_cons (hs.pn.sh.le (by decide) (by decide)) (all_cons (hb.pn.sh.le (by decide) (by decide)) (all_cons hw all_nil))) (Nat.le_refl _)).thing (by decide) (by decide), fun s' b' w' e => ?_⟩
  cases e
  intro ds e
  cases e
  exact ⟨by simp only [List.length_cons]; omega, all_cons (fo_part hx) fun y hy => (h y hy).2⟩
theorem plain_sp {M : Mp} {y : D} (h : Plain y) : Sh false 1600 1 M y ∧ PartOk y := ⟨h.pn.sh.le (by decide) (by decide), plain_part h⟩
theorem stamp_pl {c : Int} {n : Str} (hg : GoodS c n) : Plain (.tup [.int c, .str n]) := .t2 (good_fo hg).1 (good_fo hg).2
theorem take_fo : FO (.str (("take" : String) : Str)) := fo_str (by decide +kernel)
theorem undo_fo : FO (.str (("undo" : String) : Str)) := fo_str (by decide +kernel)
theorem seen_fo : FO (.str (("seen" : String) : Str)) := fo_str (by decide +kernel)
theorem put_fo : FO (.str (("put" : String) : Str)) := fo_str (by decide +kernel)
theorem move_fo : FO (.str (("move" : String) : Str)) := fo_str (by decide +kernel)
theorem L_numbers_right_ok {c : Int} {n : Str} {M : Mp} {Q : DQ} (hg : GoodS c n) (h2 : 2 ≤ c) (q : ∀ M', Fr [] M M' → Q (.bl true) M') : W_L_numbers_right [.tup [.int c, .str n]] M Q := by
  have g1 : GoodS 1 "z" := one_good z_name
  have ez : earlierD c n (.tup [.int 1, .str "z"]) = true := by rw [earl_lt g1, lts_lo (by omega)]
  unfold W_L_numbers_right; refine z_d31 ?_; repeat (with_reducible first | refine z_seq ?_ | refine z_ifs ?_ | refine z_ret ?_ | refine z_retN ?_ | refine z_next ?_ | refine z_drop ?_ | refine z_asg ?_ | refine z_par ?_ | refine z_for ?_ | refine z_break ?_ | refine z_cont ?_ | refine z_g0 ?_ | refine z_g1 ?_ | refine z_g2 ?_ | refine z_g3 ?_ | refine z_g4 ?_ | refine z_g5 ?_ | refine z_g6 ?_ | refine z_g7 ?_ | refine z_g8 ?_ | refine z_g9 ?_ | refine z_g10 ?_ | refine z_gc ?_ | refine z_gn ?_ | refine z_gst ?_ | refine z_v0 ?_ | refine z_v1 ?_ | refine z_v2 ?_ | refine z_v3 ?_ | refine z_v4 ?_ | refine z_v5 ?_ | refine z_v6 ?_ | refine z_v7 ?_ | refine z_v8 ?_ | refine z_v9 ?_ | refine z_v10 ?_ | refine z_c ?_ | refine z_op ?_ | refine z_un ?_ | refine z_call ?_ | refine z_callK ?_ | refine z_cons ?_ | refine z_nil ?_ | refine z_tup ?_ | refine z_lst ?_ | refine z_and ?_ | refine z_or ?_ | refine z_not ?_ | refine z_if ?_ | refine z_chain ?_ | refine z_sl ?_ | refine z_nop ?_ | refine z_prt ?_ | refine z_prti ?_ | refine z_mt ?_ | refine z_mstr ?_ | refine z_lc ?_ | refine z_tst ?_ | refine z_tb ?_ | refine z_tru ?_ | refine z_tand ?_ | refine z_tor ?_ | refine z_tnot ?_ | refine z_yes ?_ | refine z_trb ?_ | refine z_trn ?_ | refine z_T ?_ | refine z_F ?_ | refine z_NF ?_ | refine z_NT ?_ | refine z_eqi ?_ | refine z_eqs ?_ | refine z_nei ?_ | refine z_nes ?_ | refine z_le ?_ | refine z_lt ?_ | refine z_gtt ?_ | refine z_ge ?_ | refine z_add ?_ | refine z_sub ?_ | refine z_p15 ?_ | refine z_p30 ?_ | refine z_p18 ?_ | refine z_neg ?_ | refine z_ix0 ?_ | refine z_ix1 ?_ | refine z_ix2 ?_ | refine z_ix3 ?_ | refine z_lent ?_ | refine z_slt ?_ | refine z_lenc ?_ | refine z_inb ?_ | refine z_min ?_ | refine z_max ?_ | refine z_its ?_ | refine z_rng1 ?_ | refine z_dict0 ?_ | refine z_dict ?_ | refine z_wpc ?_ | refine z_wpn ?_ | refine z_list0 ?_ | refine z_gt (by with_unfolding_all rfl) ?_ | refine z_sz (by with_unfolding_all rfl) ?_)
  refine L_numbers_ok h2 hg.2.1 fun l M1 items hl f1 e1 hi => ?_
  refine z_itl e1 ?_
  refine run_all (fun env M' => (∃ a b, env = [some (.tup [.int c, .str n]), a, b]) ∧ Fr [] M1 M') ⟨⟨_, _, rfl⟩, .refl⟩ (fun d env M2 k hd hP next => ⟨hP.2 _ _ (by simp) e1, ?_⟩) fun env M2 hP => ⟨hP.2 _ _ (by simp) e1, ?_⟩
  · obtain ⟨⟨a, b, rfl⟩, f2⟩ := hP
    obtain ⟨d, b, rfl, hd, hb⟩ := hi d hd
    repeat (with_reducible first | refine z_seq ?_ | refine z_ifs ?_ | refine z_ret ?_ | refine z_retN ?_ | refine z_next ?_ | refine z_drop ?_ | refine z_asg ?_ | refine z_par ?_ | refine z_for ?_ | refine z_break ?_ | refine z_cont ?_ | refine z_g0 ?_ | refine z_g1 ?_ | refine z_g2 ?_ | refine z_g3 ?_ | refine z_g4 ?_ | refine z_g5 ?_ | refine z_g6 ?_ | refine z_g7 ?_ | refine z_g8 ?_ | refine z_g9 ?_ | refine z_g10 ?_ | refine z_gc ?_ | refine z_gn ?_ | refine z_gst ?_ | refine z_v0 ?_ | refine z_v1 ?_ | refine z_v2 ?_ | refine z_v3 ?_ | refine z_v4 ?_ | refine z_v5 ?_ | refine z_v6 ?_ | refine z_v7 ?_ | refine z_v8 ?_ | refine z_v9 ?_ | refine z_v10 ?_ | refine z_c ?_ | refine z_op ?_ | refine z_un ?_ | refine z_call ?_ | refine z_callK ?_ | refine z_cons ?_ | refine z_nil ?_ | refine z_tup ?_ | refine z_lst ?_ | refine z_and ?_ | refine z_or ?_ | refine z_not ?_ | refine z_if ?_ | refine z_chain ?_ | refine z_sl ?_ | refine z_nop ?_ | refine z_prt ?_ | refine z_prti ?_ | refine z_mt ?_ | refine z_mstr ?_ | refine z_lc ?_ | refine z_tst ?_ | refine z_tb ?_ | refine z_tru ?_ | refine z_tand ?_ | refine z_tor ?_ | refine z_tnot ?_ | refine z_yes ?_ | refine z_trb ?_ | refine z_trn ?_ | refine z_T ?_ | refine z_F ?_ | refine z_NF ?_ | refine z_NT ?_ | refine z_eqi ?_ | refine z_eqs ?_ | refine z_nei ?_ | refine z_nes ?_ | refine z_le ?_ | refine z_lt ?_ | refine z_gtt ?_ | refine z_ge ?_ | refine z_add ?_ | refine z_sub ?_ | refine z_p15 ?_ | refine z_p30 ?_ | refine z_p18 ?_ | refine z_neg ?_ | refine z_ix0 ?_ | refine z_ix1 ?_ | refine z_ix2 ?_ | refine z_ix3 ?_ | refine z_lent ?_ | refine z_slt ?_ | refine z_lenc ?_ | refine z_inb ?_ | refine z_min ?_ | refine z_max ?_ | refine z_its ?_ | refine z_rng1 ?_ | refine z_dict0 ?_ | refine z_dict ?_ | refine z_wpc ?_ | refine z_wpn ?_ | refine z_list0 ?_ | refine z_gt (by with_unfolding_all rfl) ?_ | refine z_sz (by with_unfolding_all rfl) ?_)
    refine fun l1 M3 hl1 e3 f3 => ?_
    repeat (with_reducible first | refine z_seq ?_ | refine z_ifs ?_ | refine z_ret ?_ | refine z_retN ?_ | refine z_next ?_ | refine z_drop ?_ | refine z_asg ?_ | refine z_par ?_ | refine z_for ?_ | refine z_break ?_ | refine z_cont ?_ | refine z_g0 ?_ | refine z_g1 ?_ | refine z_g2 ?_ | refine z_g3 ?_ | refine z_g4 ?_ | refine z_g5 ?_ | refine z_g6 ?_ | refine z_g7 ?_ | refine z_g8 ?_ | refine z_g9 ?_ | refine z_g10 ?_ | refine z_gc ?_ | refine z_gn ?_ | refine z_gst ?_ | refine z_v0 ?_ | refine z_v1 ?_ | refine z_v2 ?_ | refine z_v3 ?_ | refine z_v4 ?_ | refine z_v5 ?_ | refine z_v6 ?_ | refine z_v7 ?_ | refine z_v8 ?_ | refine z_v9 ?_ | refine z_v10 ?_ | refine z_c ?_ | refine z_op ?_ | refine z_un ?_ | refine z_call ?_ | refine z_callK ?_ | refine z_cons ?_ | refine z_nil ?_ | refine z_tup ?_ | refine z_lst ?_ | refine z_and ?_ | refine z_or ?_ | refine z_not ?_ | refine z_if ?_ | refine z_chain ?_ | refine z_sl ?_ | refine z_nop ?_ | refine z_prt ?_ | refine z_prti ?_ | refine z_mt ?_ | refine z_mstr ?_ | refine z_lc ?_ | refine z_tst ?_ | refine z_tb ?_ | refine z_tru ?_ | refine z_tand ?_ | refine z_tor ?_ | refine z_tnot ?_ | refine z_yes ?_ | refine z_trb ?_ | refine z_trn ?_ | refine z_T ?_ | refine z_F ?_ | refine z_NF ?_ | refine z_NT ?_ | refine z_eqi ?_ | refine z_eqs ?_ | refine z_nei ?_ | refine z_nes ?_ | refine z_le ?_ | refine z_lt ?_ | refine z_gtt ?_ | refine z_ge ?_ | refine z_add ?_ | refine z_sub ?_ | refine z_p15 ?_ | refine z_p30 ?_ | refine z_p18 ?_ | refine z_neg ?_ | refine z_ix0 ?_ | refine z_ix1 ?_ | refine z_ix2 ?_ | refine z_ix3 ?_ | refine z_lent ?_ | refine z_slt ?_ | refine z_lenc ?_ | refine z_inb ?_ | refine z_min ?_ | refine z_max ?_ | refine z_its ?_ | refine z_rng1 ?_ | refine z_dict0 ?_ | refine z_dict ?_ | refine z_wpc ?_ | refine z_wpn ?_ | refine z_list0 ?_ | refine z_gt (by with_unfolding_all rfl) ?_ | refine z_sz (by with_unfolding_all rfl) ?_)
    refine L_right_ok (mk_made (stamp_pl hg) (.inl hd) take_fo (by decide) (all_cons (plain_sp (stamp_pl g1)) all_nil)) (by decide) (by rw [deed_b hg (by rw [words_take' (.inl rfl), ez]), hb]) e3 (fun _ => by simp only [List.filter_cons, good_yes g1, if_true, List.filter_nil]) fun M4 f4 => ?_
    repeat (with_reducible first | refine z_seq ?_ | refine z_ifs ?_ | refine z_ret ?_ | refine z_retN ?_ | refine z_next ?_ | refine z_drop ?_ | refine z_asg ?_ | refine z_par ?_ | refine z_for ?_ | refine z_break ?_ | refine z_cont ?_ | refine z_g0 ?_ | refine z_g1 ?_ | refine z_g2 ?_ | refine z_g3 ?_ | refine z_g4 ?_ | refine z_g5 ?_ | refine z_g6 ?_ | refine z_g7 ?_ | refine z_g8 ?_ | refine z_g9 ?_ | refine z_g10 ?_ | refine z_gc ?_ | refine z_gn ?_ | refine z_gst ?_ | refine z_v0 ?_ | refine z_v1 ?_ | refine z_v2 ?_ | refine z_v3 ?_ | refine z_v4 ?_ | refine z_v5 ?_ | refine z_v6 ?_ | refine z_v7 ?_ | refine z_v8 ?_ | refine z_v9 ?_ | refine z_v10 ?_ | refine z_c ?_ | refine z_op ?_ | refine z_un ?_ | refine z_call ?_ | refine z_callK ?_ | refine z_cons ?_ | refine z_nil ?_ | refine z_tup ?_ | refine z_lst ?_ | refine z_and ?_ | refine z_or ?_ | refine z_not ?_ | refine z_if ?_ | refine z_chain ?_ | refine z_sl ?_ | refine z_nop ?_ | refine z_prt ?_ | refine z_prti ?_ | refine z_mt ?_ | refine z_mstr ?_ | refine z_lc ?_ | refine z_tst ?_ | refine z_tb ?_ | refine z_tru ?_ | refine z_tand ?_ | refine z_tor ?_ | refine z_tnot ?_ | refine z_yes ?_ | refine z_trb ?_ | refine z_trn ?_ | refine z_T ?_ | refine z_F ?_ | refine z_NF ?_ | refine z_NT ?_ | refine z_eqi ?_ | refine z_eqs ?_ | refine z_nei ?_ | refine z_nes ?_ | refine z_le ?_ | refine z_lt ?_ | refine z_gtt ?_ | refine z_ge ?_ | refine z_add ?_ | refine z_sub ?_ | refine z_p15 ?_ | refine z_p30 ?_ | refine z_p18 ?_ | refine z_neg ?_ | refine z_ix0 ?_ | refine z_ix1 ?_ | refine z_ix2 ?_ | refine z_ix3 ?_ | refine z_lent ?_ | refine z_slt ?_ | refine z_lenc ?_ | refine z_inb ?_ | refine z_min ?_ | refine z_max ?_ | refine z_its ?_ | refine z_rng1 ?_ | refine z_dict0 ?_ | refine z_dict ?_ | refine z_wpc ?_ | refine z_wpn ?_ | refine z_list0 ?_ | refine z_gt (by with_unfolding_all rfl) ?_ | refine z_sz (by with_unfolding_all rfl) ?_)
    refine fun l2 M5 hl2 e5 f5 => ?_
    repeat (with_reducible first | refine z_seq ?_ | refine z_ifs ?_ | refine z_ret ?_ | refine z_retN ?_ | refine z_next ?_ | refine z_drop ?_ | refine z_asg ?_ | refine z_par ?_ | refine z_for ?_ | refine z_break ?_ | refine z_cont ?_ | refine z_g0 ?_ | refine z_g1 ?_ | refine z_g2 ?_ | refine z_g3 ?_ | refine z_g4 ?_ | refine z_g5 ?_ | refine z_g6 ?_ | refine z_g7 ?_ | refine z_g8 ?_ | refine z_g9 ?_ | refine z_g10 ?_ | refine z_gc ?_ | refine z_gn ?_ | refine z_gst ?_ | refine z_v0 ?_ | refine z_v1 ?_ | refine z_v2 ?_ | refine z_v3 ?_ | refine z_v4 ?_ | refine z_v5 ?_ | refine z_v6 ?_ | refine z_v7 ?_ | refine z_v8 ?_ | refine z_v9 ?_ | refine z_v10 ?_ | refine z_c ?_ | refine z_op ?_ | refine z_un ?_ | refine z_call ?_ | refine z_callK ?_ | refine z_cons ?_ | refine z_nil ?_ | refine z_tup ?_ | refine z_lst ?_ | refine z_and ?_ | refine z_or ?_ | refine z_not ?_ | refine z_if ?_ | refine z_chain ?_ | refine z_sl ?_ | refine z_nop ?_ | refine z_prt ?_ | refine z_prti ?_ | refine z_mt ?_ | refine z_mstr ?_ | refine z_lc ?_ | refine z_tst ?_ | refine z_tb ?_ | refine z_tru ?_ | refine z_tand ?_ | refine z_tor ?_ | refine z_tnot ?_ | refine z_yes ?_ | refine z_trb ?_ | refine z_trn ?_ | refine z_T ?_ | refine z_F ?_ | refine z_NF ?_ | refine z_NT ?_ | refine z_eqi ?_ | refine z_eqs ?_ | refine z_nei ?_ | refine z_nes ?_ | refine z_le ?_ | refine z_lt ?_ | refine z_gtt ?_ | refine z_ge ?_ | refine z_add ?_ | refine z_sub ?_ | refine z_p15 ?_ | refine z_p30 ?_ | refine z_p18 ?_ | refine z_neg ?_ | refine z_ix0 ?_ | refine z_ix1 ?_ | refine z_ix2 ?_ | refine z_ix3 ?_ | refine z_lent ?_ | refine z_slt ?_ | refine z_lenc ?_ | refine z_inb ?_ | refine z_min ?_ | refine z_max ?_ | refine z_its ?_ | refine z_rng1 ?_ | refine z_dict0 ?_ | refine z_dict ?_ | refine z_wpc ?_ | refine z_wpn ?_ | refine z_list0 ?_ | refine z_gt (by with_unfolding_all rfl) ?_ | refine z_sz (by with_unfolding_all rfl) ?_)
    refine L_right_ok (mk_made (stamp_pl hg) (.inl (.int (by decide))) seen_fo (Nat.le_of_ble_eq_true rfl) (all_cons (plain_sp (.inl hd)) all_nil)) (Nat.le_of_ble_eq_true rfl) (by rw [deed_w hg (upto_int (by decide) (by omega)), words_seen', hb]) e5 (fun _ => ?_) fun M6 f6 => ?_
    · have : isStampD d = false := by
        cases d with
        | tup ds => exact hd.notup.elim
        | _ => rfl
      simp only [List.filter_cons, this, Bool.false_eq_true, if_false, List.filter_nil]
    · repeat (with_reducible first | refine z_seq ?_ | refine z_ifs ?_ | refine z_ret ?_ | refine z_retN ?_ | refine z_next ?_ | refine z_drop ?_ | refine z_asg ?_ | refine z_par ?_ | refine z_for ?_ | refine z_break ?_ | refine z_cont ?_ | refine z_g0 ?_ | refine z_g1 ?_ | refine z_g2 ?_ | refine z_g3 ?_ | refine z_g4 ?_ | refine z_g5 ?_ | refine z_g6 ?_ | refine z_g7 ?_ | refine z_g8 ?_ | refine z_g9 ?_ | refine z_g10 ?_ | refine z_gc ?_ | refine z_gn ?_ | refine z_gst ?_ | refine z_v0 ?_ | refine z_v1 ?_ | refine z_v2 ?_ | refine z_v3 ?_ | refine z_v4 ?_ | refine z_v5 ?_ | refine z_v6 ?_ | refine z_v7 ?_ | refine z_v8 ?_ | refine z_v9 ?_ | refine z_v10 ?_ | refine z_c ?_ | refine z_op ?_ | refine z_un ?_ | refine z_call ?_ | refine z_callK ?_ | refine z_cons ?_ | refine z_nil ?_ | refine z_tup ?_ | refine z_lst ?_ | refine z_and ?_ | refine z_or ?_ | refine z_not ?_ | refine z_if ?_ | refine z_chain ?_ | refine z_sl ?_ | refine z_nop ?_ | refine z_prt ?_ | refine z_prti ?_ | refine z_mt ?_ | refine z_mstr ?_ | refine z_lc ?_ | refine z_tst ?_ | refine z_tb ?_ | refine z_tru ?_ | refine z_tand ?_ | refine z_tor ?_ | refine z_tnot ?_ | refine z_yes ?_ | refine z_trb ?_ | refine z_trn ?_ | refine z_T ?_ | refine z_F ?_ | refine z_NF ?_ | refine z_NT ?_ | refine z_eqi ?_ | refine z_eqs ?_ | refine z_nei ?_ | refine z_nes ?_ | refine z_le ?_ | refine z_lt ?_ | refine z_gtt ?_ | refine z_ge ?_ | refine z_add ?_ | refine z_sub ?_ | refine z_p15 ?_ | refine z_p30 ?_ | refine z_p18 ?_ | refine z_neg ?_ | refine z_ix0 ?_ | refine z_ix1 ?_ | refine z_ix2 ?_ | refine z_ix3 ?_ | refine z_lent ?_ | refine z_slt ?_ | refine z_lenc ?_ | refine z_inb ?_ | refine z_min ?_ | refine z_max ?_ | refine z_its ?_ | refine z_rng1 ?_ | refine z_dict0 ?_ | refine z_dict ?_ | refine z_wpc ?_ | refine z_wpn ?_ | refine z_list0 ?_ | refine z_gt (by with_unfolding_all rfl) ?_ | refine z_sz (by with_unfolding_all rfl) ?_)
      exact next _ _ ⟨⟨_, _, rfl⟩, (((f2.trans f3).trans f4).trans f5).trans f6⟩
  · obtain ⟨⟨a, b, rfl⟩, f2⟩ := hP
    repeat (with_reducible first | refine z_seq ?_ | refine z_ifs ?_ | refine z_ret ?_ | refine z_retN ?_ | refine z_next ?_ | refine z_drop ?_ | refine z_asg ?_ | refine z_par ?_ | refine z_for ?_ | refine z_break ?_ | refine z_cont ?_ | refine z_g0 ?_ | refine z_g1 ?_ | refine z_g2 ?_ | refine z_g3 ?_ | refine z_g4 ?_ | refine z_g5 ?_ | refine z_g6 ?_ | refine z_g7 ?_ | refine z_g8 ?_ | refine z_g9 ?_ | refine z_g10 ?_ | refine z_gc ?_ | refine z_gn ?_ | refine z_gst ?_ | refine z_v0 ?_ | refine z_v1 ?_ | refine z_v2 ?_ | refine z_v3 ?_ | refine z_v4 ?_ | refine z_v5 ?_ | refine z_v6 ?_ | refine z_v7 ?_ | refine z_v8 ?_ | refine z_v9 ?_ | refine z_v10 ?_ | refine z_c ?_ | refine z_op ?_ | refine z_un ?_ | refine z_call ?_ | refine z_callK ?_ | refine z_cons ?_ | refine z_nil ?_ | refine z_tup ?_ | refine z_lst ?_ | refine z_and ?_ | refine z_or ?_ | refine z_not ?_ | refine z_if ?_ | refine z_chain ?_ | refine z_sl ?_ | refine z_nop ?_ | refine z_prt ?_ | refine z_prti ?_ | refine z_mt ?_ | refine z_mstr ?_ | refine z_lc ?_ | refine z_tst ?_ | refine z_tb ?_ | refine z_tru ?_ | refine z_tand ?_ | refine z_tor ?_ | refine z_tnot ?_ | refine z_yes ?_ | refine z_trb ?_ | refine z_trn ?_ | refine z_T ?_ | refine z_F ?_ | refine z_NF ?_ | refine z_NT ?_ | refine z_eqi ?_ | refine z_eqs ?_ | refine z_nei ?_ | refine z_nes ?_ | refine z_le ?_ | refine z_lt ?_ | refine z_gtt ?_ | refine z_ge ?_ | refine z_add ?_ | refine z_sub ?_ | refine z_p15 ?_ | refine z_p30 ?_ | refine z_p18 ?_ | refine z_neg ?_ | refine z_ix0 ?_ | refine z_ix1 ?_ | refine z_ix2 ?_ | refine z_ix3 ?_ | refine z_lent ?_ | refine z_slt ?_ | refine z_lenc ?_ | refine z_inb ?_ | refine z_min ?_ | refine z_max ?_ | refine z_its ?_ | refine z_rng1 ?_ | refine z_dict0 ?_ | refine z_dict ?_ | refine z_wpc ?_ | refine z_wpn ?_ | refine z_list0 ?_ | refine z_gt (by with_unfolding_all rfl) ?_ | refine z_sz (by with_unfolding_all rfl) ?_)
    exact q M2 (f1.trans f2)
/-! the stamps -/
theorem cutlast_good {i : Int} {n : Str} (hn : nameB n = true) (h : 1 < n.length) : nameB (cutS n none (some (-1))) = true ∧ decide ((cutS n none (some (-1))).cps.toList < n.cps.toList) = true := by
  have e := cut_last (n := n)
  have hl := str_len (x := n)
  have hl2 := str_len (x := cutS n none (some (-1)))
  rw [e, List.length_take] at hl2
  constructor
  · unfold nameB at hn ⊢
    simp only [Bool.and_eq_true, decide_eq_true_eq, List.all_eq_true] at hn ⊢
    exact ⟨⟨by omega, by omega⟩, fun c hc => hn.2 c (List.mem_of_mem_take (by rw [← e]; exact hc))⟩
  · rw [e, decide_eq_true_eq]
    have : n.cps.toList = n.cps.toList.take (n.length - 1) ++ n.cps.toList.drop (n.length - 1) := (List.take_append_drop _ _).symm
    have h2 := lt_app (n.cps.toList.take (n.length - 1)) (n.cps.toList.drop (n.length - 1)) (fun z => by
      have := congrArg List.length z
      rw [List.length_drop, ← hl] at this
      simp only [List.length_nil] at this
      omega)
    rwa [← this] at h2
theorem empty_no : nameB (("" : String) : Str) = false := by decide +kernel
theorem L_stamps_ok {p : Addr} {c : Int} {n : Str} {M : Mp} {Q : DQ} (hp : Pot p M) (hg : GoodS c n) (h2 : 2 ≤ c) (q : ∀ l M' items, Pot p M' → Fr [p] M M' → l ≠ p → M' l = some (.lst items) → (∀ x ∈ items, ∃ o b, x = .tup [o, .bl b] ∧ Ot c n (hid p M') o b) → Q (.ref l) M') : W_L_stamps [.ref p, .tup [.int c, .str n]] M Q := by
  have c1 := hg.2.1
  have hn := hg.2.2
  have tn := name_tx hn
  have fn := name_fo hn
  have fa : FO (.str (("a" : String) : Str)) := fo_str (by decide +kernel)
  have fA : FO (.str (("A" : String) : Str)) := fo_str (by decide +kernel)
  have l1 : (("a" : String) : Str).length = 1 := by decide +kernel
  have l2 : (("A" : String) : Str).length = 1 := by decide +kernel
  have le1 : ∀ k : Nat, k ≤ 100 → k ≤ sizeLine := fun k h => Nat.le_trans h (by decide)
  unfold W_L_stamps; refine z_d62 ?_; repeat (with_reducible first | refine z_seq ?_ | refine z_ifs ?_ | refine z_ret ?_ | refine z_retN ?_ | refine z_next ?_ | refine z_drop ?_ | refine z_asg ?_ | refine z_par ?_ | refine z_for ?_ | refine z_break ?_ | refine z_cont ?_ | refine z_g0 ?_ | refine z_g1 ?_ | refine z_g2 ?_ | refine z_g3 ?_ | refine z_g4 ?_ | refine z_g5 ?_ | refine z_g6 ?_ | refine z_g7 ?_ | refine z_g8 ?_ | refine z_g9 ?_ | refine z_g10 ?_ | refine z_gc ?_ | refine z_gn ?_ | refine z_gst ?_ | refine z_v0 ?_ | refine z_v1 ?_ | refine z_v2 ?_ | refine z_v3 ?_ | refine z_v4 ?_ | refine z_v5 ?_ | refine z_v6 ?_ | refine z_v7 ?_ | refine z_v8 ?_ | refine z_v9 ?_ | refine z_v10 ?_ | refine z_c ?_ | refine z_op ?_ | refine z_un ?_ | refine z_call ?_ | refine z_callK ?_ | refine z_cons ?_ | refine z_nil ?_ | refine z_tup ?_ | refine z_lst ?_ | refine z_and ?_ | refine z_or ?_ | refine z_not ?_ | refine z_if ?_ | refine z_chain ?_ | refine z_sl ?_ | refine z_nop ?_ | refine z_prt ?_ | refine z_prti ?_ | refine z_mt ?_ | refine z_mstr ?_ | refine z_lc ?_ | refine z_tst ?_ | refine z_tb ?_ | refine z_tru ?_ | refine z_tand ?_ | refine z_tor ?_ | refine z_tnot ?_ | refine z_yes ?_ | refine z_trb ?_ | refine z_trn ?_ | refine z_T ?_ | refine z_F ?_ | refine z_NF ?_ | refine z_NT ?_ | refine z_eqi ?_ | refine z_eqs ?_ | refine z_nei ?_ | refine z_nes ?_ | refine z_le ?_ | refine z_lt ?_ | refine z_gtt ?_ | refine z_ge ?_ | refine z_add ?_ | refine z_sub ?_ | refine z_p15 ?_ | refine z_p30 ?_ | refine z_p18 ?_ | refine z_neg ?_ | refine z_ix0 ?_ | refine z_ix1 ?_ | refine z_ix2 ?_ | refine z_ix3 ?_ | refine z_lent ?_ | refine z_slt ?_ | refine z_lenc ?_ | refine z_inb ?_ | refine z_min ?_ | refine z_max ?_ | refine z_its ?_ | refine z_rng1 ?_ | refine z_dict0 ?_ | refine z_dict ?_ | refine z_wpc ?_ | refine z_wpn ?_ | refine z_list0 ?_ | refine z_gt (by with_unfolding_all rfl) ?_ | refine z_sz (by with_unfolding_all rfl) ?_)
  refine L_name_ok hp fun x M1 p1 f1 hx => ?_
  have tx := name_tx hx
  have fx := name_fo hx
  repeat (with_reducible first | refine z_seq ?_ | refine z_ifs ?_ | refine z_ret ?_ | refine z_retN ?_ | refine z_next ?_ | refine z_drop ?_ | refine z_asg ?_ | refine z_par ?_ | refine z_for ?_ | refine z_break ?_ | refine z_cont ?_ | refine z_g0 ?_ | refine z_g1 ?_ | refine z_g2 ?_ | refine z_g3 ?_ | refine z_g4 ?_ | refine z_g5 ?_ | refine z_g6 ?_ | refine z_g7 ?_ | refine z_g8 ?_ | refine z_g9 ?_ | refine z_g10 ?_ | refine z_gc ?_ | refine z_gn ?_ | refine z_gst ?_ | refine z_v0 ?_ | refine z_v1 ?_ | refine z_v2 ?_ | refine z_v3 ?_ | refine z_v4 ?_ | refine z_v5 ?_ | refine z_v6 ?_ | refine z_v7 ?_ | refine z_v8 ?_ | refine z_v9 ?_ | refine z_v10 ?_ | refine z_c ?_ | refine z_op ?_ | refine z_un ?_ | refine z_call ?_ | refine z_callK ?_ | refine z_cons ?_ | refine z_nil ?_ | refine z_tup ?_ | refine z_lst ?_ | refine z_and ?_ | refine z_or ?_ | refine z_not ?_ | refine z_if ?_ | refine z_chain ?_ | refine z_sl ?_ | refine z_nop ?_ | refine z_prt ?_ | refine z_prti ?_ | refine z_mt ?_ | refine z_mstr ?_ | refine z_lc ?_ | refine z_tst ?_ | refine z_tb ?_ | refine z_tru ?_ | refine z_tand ?_ | refine z_tor ?_ | refine z_tnot ?_ | refine z_yes ?_ | refine z_trb ?_ | refine z_trn ?_ | refine z_T ?_ | refine z_F ?_ | refine z_NF ?_ | refine z_NT ?_ | refine z_eqi ?_ | refine z_eqs ?_ | refine z_nei ?_ | refine z_nes ?_ | refine z_le ?_ | refine z_lt ?_ | refine z_gtt ?_ | refine z_ge ?_ | refine z_add ?_ | refine z_sub ?_ | refine z_p15 ?_ | refine z_p30 ?_ | refine z_p18 ?_ | refine z_neg ?_ | refine z_ix0 ?_ | refine z_ix1 ?_ | refine z_ix2 ?_ | refine z_ix3 ?_ | refine z_lent ?_ | refine z_slt ?_ | refine z_lenc ?_ | refine z_inb ?_ | refine z_min ?_ | refine z_max ?_ | refine z_its ?_ | refine z_rng1 ?_ | refine z_dict0 ?_ | refine z_dict ?_ | refine z_wpc ?_ | refine z_wpn ?_ | refine z_list0 ?_ | refine z_gt (by with_unfolding_all rfl) ?_ | refine z_sz (by with_unfolding_all rfl) ?_)
  refine z_lts ?_
  repeat (with_reducible first | refine z_seq ?_ | refine z_ifs ?_ | refine z_ret ?_ | refine z_retN ?_ | refine z_next ?_ | refine z_drop ?_ | refine z_asg ?_ | refine z_par ?_ | refine z_for ?_ | refine z_break ?_ | refine z_cont ?_ | refine z_g0 ?_ | refine z_g1 ?_ | refine z_g2 ?_ | refine z_g3 ?_ | refine z_g4 ?_ | refine z_g5 ?_ | refine z_g6 ?_ | refine z_g7 ?_ | refine z_g8 ?_ | refine z_g9 ?_ | refine z_g10 ?_ | refine z_gc ?_ | refine z_gn ?_ | refine z_gst ?_ | refine z_v0 ?_ | refine z_v1 ?_ | refine z_v2 ?_ | refine z_v3 ?_ | refine z_v4 ?_ | refine z_v5 ?_ | refine z_v6 ?_ | refine z_v7 ?_ | refine z_v8 ?_ | refine z_v9 ?_ | refine z_v10 ?_ | refine z_c ?_ | refine z_op ?_ | refine z_un ?_ | refine z_call ?_ | refine z_callK ?_ | refine z_cons ?_ | refine z_nil ?_ | refine z_tup ?_ | refine z_lst ?_ | refine z_and ?_ | refine z_or ?_ | refine z_not ?_ | refine z_if ?_ | refine z_chain ?_ | refine z_sl ?_ | refine z_nop ?_ | refine z_prt ?_ | refine z_prti ?_ | refine z_mt ?_ | refine z_mstr ?_ | refine z_lc ?_ | refine z_tst ?_ | refine z_tb ?_ | refine z_tru ?_ | refine z_tand ?_ | refine z_tor ?_ | refine z_tnot ?_ | refine z_yes ?_ | refine z_trb ?_ | refine z_trn ?_ | refine z_T ?_ | refine z_F ?_ | refine z_NF ?_ | refine z_NT ?_ | refine z_eqi ?_ | refine z_eqs ?_ | refine z_nei ?_ | refine z_nes ?_ | refine z_le ?_ | refine z_lt ?_ | refine z_gtt ?_ | refine z_ge ?_ | refine z_add ?_ | refine z_sub ?_ | refine z_p15 ?_ | refine z_p30 ?_ | refine z_p18 ?_ | refine z_neg ?_ | refine z_ix0 ?_ | refine z_ix1 ?_ | refine z_ix2 ?_ | refine z_ix3 ?_ | refine z_lent ?_ | refine z_slt ?_ | refine z_lenc ?_ | refine z_inb ?_ | refine z_min ?_ | refine z_max ?_ | refine z_its ?_ | refine z_rng1 ?_ | refine z_dict0 ?_ | refine z_dict ?_ | refine z_wpc ?_ | refine z_wpn ?_ | refine z_list0 ?_ | refine z_gt (by with_unfolding_all rfl) ?_ | refine z_sz (by with_unfolding_all rfl) ?_)
  refine fun s1 M2 hs1 es1 fs1 => ?_
  repeat (with_reducible first | refine z_seq ?_ | refine z_ifs ?_ | refine z_ret ?_ | refine z_retN ?_ | refine z_next ?_ | refine z_drop ?_ | refine z_asg ?_ | refine z_par ?_ | refine z_for ?_ | refine z_break ?_ | refine z_cont ?_ | refine z_g0 ?_ | refine z_g1 ?_ | refine z_g2 ?_ | refine z_g3 ?_ | refine z_g4 ?_ | refine z_g5 ?_ | refine z_g6 ?_ | refine z_g7 ?_ | refine z_g8 ?_ | refine z_g9 ?_ | refine z_g10 ?_ | refine z_gc ?_ | refine z_gn ?_ | refine z_gst ?_ | refine z_v0 ?_ | refine z_v1 ?_ | refine z_v2 ?_ | refine z_v3 ?_ | refine z_v4 ?_ | refine z_v5 ?_ | refine z_v6 ?_ | refine z_v7 ?_ | refine z_v8 ?_ | refine z_v9 ?_ | refine z_v10 ?_ | refine z_c ?_ | refine z_op ?_ | refine z_un ?_ | refine z_call ?_ | refine z_callK ?_ | refine z_cons ?_ | refine z_nil ?_ | refine z_tup ?_ | refine z_lst ?_ | refine z_and ?_ | refine z_or ?_ | refine z_not ?_ | refine z_if ?_ | refine z_chain ?_ | refine z_sl ?_ | refine z_nop ?_ | refine z_prt ?_ | refine z_prti ?_ | refine z_mt ?_ | refine z_mstr ?_ | refine z_lc ?_ | refine z_tst ?_ | refine z_tb ?_ | refine z_tru ?_ | refine z_tand ?_ | refine z_tor ?_ | refine z_tnot ?_ | refine z_yes ?_ | refine z_trb ?_ | refine z_trn ?_ | refine z_T ?_ | refine z_F ?_ | refine z_NF ?_ | refine z_NT ?_ | refine z_eqi ?_ | refine z_eqs ?_ | refine z_nei ?_ | refine z_nes ?_ | refine z_le ?_ | refine z_lt ?_ | refine z_gtt ?_ | refine z_ge ?_ | refine z_add ?_ | refine z_sub ?_ | refine z_p15 ?_ | refine z_p30 ?_ | refine z_p18 ?_ | refine z_neg ?_ | refine z_ix0 ?_ | refine z_ix1 ?_ | refine z_ix2 ?_ | refine z_ix3 ?_ | refine z_lent ?_ | refine z_slt ?_ | refine z_lenc ?_ | refine z_inb ?_ | refine z_min ?_ | refine z_max ?_ | refine z_its ?_ | refine z_rng1 ?_ | refine z_dict0 ?_ | refine z_dict ?_ | refine z_wpc ?_ | refine z_wpn ?_ | refine z_list0 ?_ | refine z_gt (by with_unfolding_all rfl) ?_ | refine z_sz (by with_unfolding_all rfl) ?_)
  refine z_lts ?_
  repeat (with_reducible first | refine z_seq ?_ | refine z_ifs ?_ | refine z_ret ?_ | refine z_retN ?_ | refine z_next ?_ | refine z_drop ?_ | refine z_asg ?_ | refine z_par ?_ | refine z_for ?_ | refine z_break ?_ | refine z_cont ?_ | refine z_g0 ?_ | refine z_g1 ?_ | refine z_g2 ?_ | refine z_g3 ?_ | refine z_g4 ?_ | refine z_g5 ?_ | refine z_g6 ?_ | refine z_g7 ?_ | refine z_g8 ?_ | refine z_g9 ?_ | refine z_g10 ?_ | refine z_gc ?_ | refine z_gn ?_ | refine z_gst ?_ | refine z_v0 ?_ | refine z_v1 ?_ | refine z_v2 ?_ | refine z_v3 ?_ | refine z_v4 ?_ | refine z_v5 ?_ | refine z_v6 ?_ | refine z_v7 ?_ | refine z_v8 ?_ | refine z_v9 ?_ | refine z_v10 ?_ | refine z_c ?_ | refine z_op ?_ | refine z_un ?_ | refine z_call ?_ | refine z_callK ?_ | refine z_cons ?_ | refine z_nil ?_ | refine z_tup ?_ | refine z_lst ?_ | refine z_and ?_ | refine z_or ?_ | refine z_not ?_ | refine z_if ?_ | refine z_chain ?_ | refine z_sl ?_ | refine z_nop ?_ | refine z_prt ?_ | refine z_prti ?_ | refine z_mt ?_ | refine z_mstr ?_ | refine z_lc ?_ | refine z_tst ?_ | refine z_tb ?_ | refine z_tru ?_ | refine z_tand ?_ | refine z_tor ?_ | refine z_tnot ?_ | refine z_yes ?_ | refine z_trb ?_ | refine z_trn ?_ | refine z_T ?_ | refine z_F ?_ | refine z_NF ?_ | refine z_NT ?_ | refine z_eqi ?_ | refine z_eqs ?_ | refine z_nei ?_ | refine z_nes ?_ | refine z_le ?_ | refine z_lt ?_ | refine z_gtt ?_ | refine z_ge ?_ | refine z_add ?_ | refine z_sub ?_ | refine z_p15 ?_ | refine z_p30 ?_ | refine z_p18 ?_ | refine z_neg ?_ | refine z_ix0 ?_ | refine z_ix1 ?_ | refine z_ix2 ?_ | refine z_ix3 ?_ | refine z_lent ?_ | refine z_slt ?_ | refine z_lenc ?_ | refine z_inb ?_ | refine z_min ?_ | refine z_max ?_ | refine z_its ?_ | refine z_rng1 ?_ | refine z_dict0 ?_ | refine z_dict ?_ | refine z_wpc ?_ | refine z_wpn ?_ | refine z_list0 ?_ | refine z_gt (by with_unfolding_all rfl) ?_ | refine z_sz (by with_unfolding_all rfl) ?_)
  refine z_adds (by rw [l2]; exact le1 _ (by omega)) ?_
  repeat (with_reducible first | refine z_seq ?_ | refine z_ifs ?_ | refine z_ret ?_ | refine z_retN ?_ | refine z_next ?_ | refine z_drop ?_ | refine z_asg ?_ | refine z_par ?_ | refine z_for ?_ | refine z_break ?_ | refine z_cont ?_ | refine z_g0 ?_ | refine z_g1 ?_ | refine z_g2 ?_ | refine z_g3 ?_ | refine z_g4 ?_ | refine z_g5 ?_ | refine z_g6 ?_ | refine z_g7 ?_ | refine z_g8 ?_ | refine z_g9 ?_ | refine z_g10 ?_ | refine z_gc ?_ | refine z_gn ?_ | refine z_gst ?_ | refine z_v0 ?_ | refine z_v1 ?_ | refine z_v2 ?_ | refine z_v3 ?_ | refine z_v4 ?_ | refine z_v5 ?_ | refine z_v6 ?_ | refine z_v7 ?_ | refine z_v8 ?_ | refine z_v9 ?_ | refine z_v10 ?_ | refine z_c ?_ | refine z_op ?_ | refine z_un ?_ | refine z_call ?_ | refine z_callK ?_ | refine z_cons ?_ | refine z_nil ?_ | refine z_tup ?_ | refine z_lst ?_ | refine z_and ?_ | refine z_or ?_ | refine z_not ?_ | refine z_if ?_ | refine z_chain ?_ | refine z_sl ?_ | refine z_nop ?_ | refine z_prt ?_ | refine z_prti ?_ | refine z_mt ?_ | refine z_mstr ?_ | refine z_lc ?_ | refine z_tst ?_ | refine z_tb ?_ | refine z_tru ?_ | refine z_tand ?_ | refine z_tor ?_ | refine z_tnot ?_ | refine z_yes ?_ | refine z_trb ?_ | refine z_trn ?_ | refine z_T ?_ | refine z_F ?_ | refine z_NF ?_ | refine z_NT ?_ | refine z_eqi ?_ | refine z_eqs ?_ | refine z_nei ?_ | refine z_nes ?_ | refine z_le ?_ | refine z_lt ?_ | refine z_gtt ?_ | refine z_ge ?_ | refine z_add ?_ | refine z_sub ?_ | refine z_p15 ?_ | refine z_p30 ?_ | refine z_p18 ?_ | refine z_neg ?_ | refine z_ix0 ?_ | refine z_ix1 ?_ | refine z_ix2 ?_ | refine z_ix3 ?_ | refine z_lent ?_ | refine z_slt ?_ | refine z_lenc ?_ | refine z_inb ?_ | refine z_min ?_ | refine z_max ?_ | refine z_its ?_ | refine z_rng1 ?_ | refine z_dict0 ?_ | refine z_dict ?_ | refine z_wpc ?_ | refine z_wpn ?_ | refine z_list0 ?_ | refine z_gt (by with_unfolding_all rfl) ?_ | refine z_sz (by with_unfolding_all rfl) ?_)
  refine fun s2 M3 hs2 es2 fs2 => ?_
  repeat (with_reducible first | refine z_seq ?_ | refine z_ifs ?_ | refine z_ret ?_ | refine z_retN ?_ | refine z_next ?_ | refine z_drop ?_ | refine z_asg ?_ | refine z_par ?_ | refine z_for ?_ | refine z_break ?_ | refine z_cont ?_ | refine z_g0 ?_ | refine z_g1 ?_ | refine z_g2 ?_ | refine z_g3 ?_ | refine z_g4 ?_ | refine z_g5 ?_ | refine z_g6 ?_ | refine z_g7 ?_ | refine z_g8 ?_ | refine z_g9 ?_ | refine z_g10 ?_ | refine z_gc ?_ | refine z_gn ?_ | refine z_gst ?_ | refine z_v0 ?_ | refine z_v1 ?_ | refine z_v2 ?_ | refine z_v3 ?_ | refine z_v4 ?_ | refine z_v5 ?_ | refine z_v6 ?_ | refine z_v7 ?_ | refine z_v8 ?_ | refine z_v9 ?_ | refine z_v10 ?_ | refine z_c ?_ | refine z_op ?_ | refine z_un ?_ | refine z_call ?_ | refine z_callK ?_ | refine z_cons ?_ | refine z_nil ?_ | refine z_tup ?_ | refine z_lst ?_ | refine z_and ?_ | refine z_or ?_ | refine z_not ?_ | refine z_if ?_ | refine z_chain ?_ | refine z_sl ?_ | refine z_nop ?_ | refine z_prt ?_ | refine z_prti ?_ | refine z_mt ?_ | refine z_mstr ?_ | refine z_lc ?_ | refine z_tst ?_ | refine z_tb ?_ | refine z_tru ?_ | refine z_tand ?_ | refine z_tor ?_ | refine z_tnot ?_ | refine z_yes ?_ | refine z_trb ?_ | refine z_trn ?_ | refine z_T ?_ | refine z_F ?_ | refine z_NF ?_ | refine z_NT ?_ | refine z_eqi ?_ | refine z_eqs ?_ | refine z_nei ?_ | refine z_nes ?_ | refine z_le ?_ | refine z_lt ?_ | refine z_gtt ?_ | refine z_ge ?_ | refine z_add ?_ | refine z_sub ?_ | refine z_p15 ?_ | refine z_p30 ?_ | refine z_p18 ?_ | refine z_neg ?_ | refine z_ix0 ?_ | refine z_ix1 ?_ | refine z_ix2 ?_ | refine z_ix3 ?_ | refine z_lent ?_ | refine z_slt ?_ | refine z_lenc ?_ | refine z_inb ?_ | refine z_min ?_ | refine z_max ?_ | refine z_its ?_ | refine z_rng1 ?_ | refine z_dict0 ?_ | refine z_dict ?_ | refine z_wpc ?_ | refine z_wpn ?_ | refine z_list0 ?_ | refine z_gt (by with_unfolding_all rfl) ?_ | refine z_sz (by with_unfolding_all rfl) ?_)
  refine z_addl (fs2 _ _ (by simp) es1) es2 (le1 _ (Nat.le_of_ble_eq_true rfl)) fun s3 M4 hs3 es3 fs3 => ?_
  repeat (with_reducible first | refine z_seq ?_ | refine z_ifs ?_ | refine z_ret ?_ | refine z_retN ?_ | refine z_next ?_ | refine z_drop ?_ | refine z_asg ?_ | refine z_par ?_ | refine z_for ?_ | refine z_break ?_ | refine z_cont ?_ | refine z_g0 ?_ | refine z_g1 ?_ | refine z_g2 ?_ | refine z_g3 ?_ | refine z_g4 ?_ | refine z_g5 ?_ | refine z_g6 ?_ | refine z_g7 ?_ | refine z_g8 ?_ | refine z_g9 ?_ | refine z_g10 ?_ | refine z_gc ?_ | refine z_gn ?_ | refine z_gst ?_ | refine z_v0 ?_ | refine z_v1 ?_ | refine z_v2 ?_ | refine z_v3 ?_ | refine z_v4 ?_ | refine z_v5 ?_ | refine z_v6 ?_ | refine z_v7 ?_ | refine z_v8 ?_ | refine z_v9 ?_ | refine z_v10 ?_ | refine z_c ?_ | refine z_op ?_ | refine z_un ?_ | refine z_call ?_ | refine z_callK ?_ | refine z_cons ?_ | refine z_nil ?_ | refine z_tup ?_ | refine z_lst ?_ | refine z_and ?_ | refine z_or ?_ | refine z_not ?_ | refine z_if ?_ | refine z_chain ?_ | refine z_sl ?_ | refine z_nop ?_ | refine z_prt ?_ | refine z_prti ?_ | refine z_mt ?_ | refine z_mstr ?_ | refine z_lc ?_ | refine z_tst ?_ | refine z_tb ?_ | refine z_tru ?_ | refine z_tand ?_ | refine z_tor ?_ | refine z_tnot ?_ | refine z_yes ?_ | refine z_trb ?_ | refine z_trn ?_ | refine z_T ?_ | refine z_F ?_ | refine z_NF ?_ | refine z_NT ?_ | refine z_eqi ?_ | refine z_eqs ?_ | refine z_nei ?_ | refine z_nes ?_ | refine z_le ?_ | refine z_lt ?_ | refine z_gtt ?_ | refine z_ge ?_ | refine z_add ?_ | refine z_sub ?_ | refine z_p15 ?_ | refine z_p30 ?_ | refine z_p18 ?_ | refine z_neg ?_ | refine z_ix0 ?_ | refine z_ix1 ?_ | refine z_ix2 ?_ | refine z_ix3 ?_ | refine z_lent ?_ | refine z_slt ?_ | refine z_lenc ?_ | refine z_inb ?_ | refine z_min ?_ | refine z_max ?_ | refine z_its ?_ | refine z_rng1 ?_ | refine z_dict0 ?_ | refine z_dict ?_ | refine z_wpc ?_ | refine z_wpn ?_ | refine z_list0 ?_ | refine z_gt (by with_unfolding_all rfl) ?_ | refine z_sz (by with_unfolding_all rfl) ?_)
  refine z_adds (by rw [l1]; exact le1 _ (by omega)) ?_
  repeat (with_reducible first | refine z_seq ?_ | refine z_ifs ?_ | refine z_ret ?_ | refine z_retN ?_ | refine z_next ?_ | refine z_drop ?_ | refine z_asg ?_ | refine z_par ?_ | refine z_for ?_ | refine z_break ?_ | refine z_cont ?_ | refine z_g0 ?_ | refine z_g1 ?_ | refine z_g2 ?_ | refine z_g3 ?_ | refine z_g4 ?_ | refine z_g5 ?_ | refine z_g6 ?_ | refine z_g7 ?_ | refine z_g8 ?_ | refine z_g9 ?_ | refine z_g10 ?_ | refine z_gc ?_ | refine z_gn ?_ | refine z_gst ?_ | refine z_v0 ?_ | refine z_v1 ?_ | refine z_v2 ?_ | refine z_v3 ?_ | refine z_v4 ?_ | refine z_v5 ?_ | refine z_v6 ?_ | refine z_v7 ?_ | refine z_v8 ?_ | refine z_v9 ?_ | refine z_v10 ?_ | refine z_c ?_ | refine z_op ?_ | refine z_un ?_ | refine z_call ?_ | refine z_callK ?_ | refine z_cons ?_ | refine z_nil ?_ | refine z_tup ?_ | refine z_lst ?_ | refine z_and ?_ | refine z_or ?_ | refine z_not ?_ | refine z_if ?_ | refine z_chain ?_ | refine z_sl ?_ | refine z_nop ?_ | refine z_prt ?_ | refine z_prti ?_ | refine z_mt ?_ | refine z_mstr ?_ | refine z_lc ?_ | refine z_tst ?_ | refine z_tb ?_ | refine z_tru ?_ | refine z_tand ?_ | refine z_tor ?_ | refine z_tnot ?_ | refine z_yes ?_ | refine z_trb ?_ | refine z_trn ?_ | refine z_T ?_ | refine z_F ?_ | refine z_NF ?_ | refine z_NT ?_ | refine z_eqi ?_ | refine z_eqs ?_ | refine z_nei ?_ | refine z_nes ?_ | refine z_le ?_ | refine z_lt ?_ | refine z_gtt ?_ | refine z_ge ?_ | refine z_add ?_ | refine z_sub ?_ | refine z_p15 ?_ | refine z_p30 ?_ | refine z_p18 ?_ | refine z_neg ?_ | refine z_ix0 ?_ | refine z_ix1 ?_ | refine z_ix2 ?_ | refine z_ix3 ?_ | refine z_lent ?_ | refine z_slt ?_ | refine z_lenc ?_ | refine z_inb ?_ | refine z_min ?_ | refine z_max ?_ | refine z_its ?_ | refine z_rng1 ?_ | refine z_dict0 ?_ | refine z_dict ?_ | refine z_wpc ?_ | refine z_wpn ?_ | refine z_list0 ?_ | refine z_gt (by with_unfolding_all rfl) ?_ | refine z_sz (by with_unfolding_all rfl) ?_)
  refine z_sls (by rw [strLen_append, l1]; exact le1 _ (by omega)) ?_
  repeat (with_reducible first | refine z_seq ?_ | refine z_ifs ?_ | refine z_ret ?_ | refine z_retN ?_ | refine z_next ?_ | refine z_drop ?_ | refine z_asg ?_ | refine z_par ?_ | refine z_for ?_ | refine z_break ?_ | refine z_cont ?_ | refine z_g0 ?_ | refine z_g1 ?_ | refine z_g2 ?_ | refine z_g3 ?_ | refine z_g4 ?_ | refine z_g5 ?_ | refine z_g6 ?_ | refine z_g7 ?_ | refine z_g8 ?_ | refine z_g9 ?_ | refine z_g10 ?_ | refine z_gc ?_ | refine z_gn ?_ | refine z_gst ?_ | refine z_v0 ?_ | refine z_v1 ?_ | refine z_v2 ?_ | refine z_v3 ?_ | refine z_v4 ?_ | refine z_v5 ?_ | refine z_v6 ?_ | refine z_v7 ?_ | refine z_v8 ?_ | refine z_v9 ?_ | refine z_v10 ?_ | refine z_c ?_ | refine z_op ?_ | refine z_un ?_ | refine z_call ?_ | refine z_callK ?_ | refine z_cons ?_ | refine z_nil ?_ | refine z_tup ?_ | refine z_lst ?_ | refine z_and ?_ | refine z_or ?_ | refine z_not ?_ | refine z_if ?_ | refine z_chain ?_ | refine z_sl ?_ | refine z_nop ?_ | refine z_prt ?_ | refine z_prti ?_ | refine z_mt ?_ | refine z_mstr ?_ | refine z_lc ?_ | refine z_tst ?_ | refine z_tb ?_ | refine z_tru ?_ | refine z_tand ?_ | refine z_tor ?_ | refine z_tnot ?_ | refine z_yes ?_ | refine z_trb ?_ | refine z_trn ?_ | refine z_T ?_ | refine z_F ?_ | refine z_NF ?_ | refine z_NT ?_ | refine z_eqi ?_ | refine z_eqs ?_ | refine z_nei ?_ | refine z_nes ?_ | refine z_le ?_ | refine z_lt ?_ | refine z_gtt ?_ | refine z_ge ?_ | refine z_add ?_ | refine z_sub ?_ | refine z_p15 ?_ | refine z_p30 ?_ | refine z_p18 ?_ | refine z_neg ?_ | refine z_ix0 ?_ | refine z_ix1 ?_ | refine z_ix2 ?_ | refine z_ix3 ?_ | refine z_lent ?_ | refine z_slt ?_ | refine z_lenc ?_ | refine z_inb ?_ | refine z_min ?_ | refine z_max ?_ | refine z_its ?_ | refine z_rng1 ?_ | refine z_dict0 ?_ | refine z_dict ?_ | refine z_wpc ?_ | refine z_wpn ?_ | refine z_list0 ?_ | refine z_gt (by with_unfolding_all rfl) ?_ | refine z_sz (by with_unfolding_all rfl) ?_)
  refine fun s4 M5 hs4 es4 fs4 => ?_
  repeat (with_reducible first | refine z_seq ?_ | refine z_ifs ?_ | refine z_ret ?_ | refine z_retN ?_ | refine z_next ?_ | refine z_drop ?_ | refine z_asg ?_ | refine z_par ?_ | refine z_for ?_ | refine z_break ?_ | refine z_cont ?_ | refine z_g0 ?_ | refine z_g1 ?_ | refine z_g2 ?_ | refine z_g3 ?_ | refine z_g4 ?_ | refine z_g5 ?_ | refine z_g6 ?_ | refine z_g7 ?_ | refine z_g8 ?_ | refine z_g9 ?_ | refine z_g10 ?_ | refine z_gc ?_ | refine z_gn ?_ | refine z_gst ?_ | refine z_v0 ?_ | refine z_v1 ?_ | refine z_v2 ?_ | refine z_v3 ?_ | refine z_v4 ?_ | refine z_v5 ?_ | refine z_v6 ?_ | refine z_v7 ?_ | refine z_v8 ?_ | refine z_v9 ?_ | refine z_v10 ?_ | refine z_c ?_ | refine z_op ?_ | refine z_un ?_ | refine z_call ?_ | refine z_callK ?_ | refine z_cons ?_ | refine z_nil ?_ | refine z_tup ?_ | refine z_lst ?_ | refine z_and ?_ | refine z_or ?_ | refine z_not ?_ | refine z_if ?_ | refine z_chain ?_ | refine z_sl ?_ | refine z_nop ?_ | refine z_prt ?_ | refine z_prti ?_ | refine z_mt ?_ | refine z_mstr ?_ | refine z_lc ?_ | refine z_tst ?_ | refine z_tb ?_ | refine z_tru ?_ | refine z_tand ?_ | refine z_tor ?_ | refine z_tnot ?_ | refine z_yes ?_ | refine z_trb ?_ | refine z_trn ?_ | refine z_T ?_ | refine z_F ?_ | refine z_NF ?_ | refine z_NT ?_ | refine z_eqi ?_ | refine z_eqs ?_ | refine z_nei ?_ | refine z_nes ?_ | refine z_le ?_ | refine z_lt ?_ | refine z_gtt ?_ | refine z_ge ?_ | refine z_add ?_ | refine z_sub ?_ | refine z_p15 ?_ | refine z_p30 ?_ | refine z_p18 ?_ | refine z_neg ?_ | refine z_ix0 ?_ | refine z_ix1 ?_ | refine z_ix2 ?_ | refine z_ix3 ?_ | refine z_lent ?_ | refine z_slt ?_ | refine z_lenc ?_ | refine z_inb ?_ | refine z_min ?_ | refine z_max ?_ | refine z_its ?_ | refine z_rng1 ?_ | refine z_dict0 ?_ | refine z_dict ?_ | refine z_wpc ?_ | refine z_wpn ?_ | refine z_list0 ?_ | refine z_gt (by with_unfolding_all rfl) ?_ | refine z_sz (by with_unfolding_all rfl) ?_)
  refine z_addl (fs4 _ _ (by simp) es3) es4 (le1 _ (Nat.le_of_ble_eq_true rfl)) fun s5 M6 hs5 es5 fs5 => ?_
  repeat (with_reducible first | refine z_seq ?_ | refine z_ifs ?_ | refine z_ret ?_ | refine z_retN ?_ | refine z_next ?_ | refine z_drop ?_ | refine z_asg ?_ | refine z_par ?_ | refine z_for ?_ | refine z_break ?_ | refine z_cont ?_ | refine z_g0 ?_ | refine z_g1 ?_ | refine z_g2 ?_ | refine z_g3 ?_ | refine z_g4 ?_ | refine z_g5 ?_ | refine z_g6 ?_ | refine z_g7 ?_ | refine z_g8 ?_ | refine z_g9 ?_ | refine z_g10 ?_ | refine z_gc ?_ | refine z_gn ?_ | refine z_gst ?_ | refine z_v0 ?_ | refine z_v1 ?_ | refine z_v2 ?_ | refine z_v3 ?_ | refine z_v4 ?_ | refine z_v5 ?_ | refine z_v6 ?_ | refine z_v7 ?_ | refine z_v8 ?_ | refine z_v9 ?_ | refine z_v10 ?_ | refine z_c ?_ | refine z_op ?_ | refine z_un ?_ | refine z_call ?_ | refine z_callK ?_ | refine z_cons ?_ | refine z_nil ?_ | refine z_tup ?_ | refine z_lst ?_ | refine z_and ?_ | refine z_or ?_ | refine z_not ?_ | refine z_if ?_ | refine z_chain ?_ | refine z_sl ?_ | refine z_nop ?_ | refine z_prt ?_ | refine z_prti ?_ | refine z_mt ?_ | refine z_mstr ?_ | refine z_lc ?_ | refine z_tst ?_ | refine z_tb ?_ | refine z_tru ?_ | refine z_tand ?_ | refine z_tor ?_ | refine z_tnot ?_ | refine z_yes ?_ | refine z_trb ?_ | refine z_trn ?_ | refine z_T ?_ | refine z_F ?_ | refine z_NF ?_ | refine z_NT ?_ | refine z_eqi ?_ | refine z_eqs ?_ | refine z_nei ?_ | refine z_nes ?_ | refine z_le ?_ | refine z_lt ?_ | refine z_gtt ?_ | refine z_ge ?_ | refine z_add ?_ | refine z_sub ?_ | refine z_p15 ?_ | refine z_p30 ?_ | refine z_p18 ?_ | refine z_neg ?_ | refine z_ix0 ?_ | refine z_ix1 ?_ | refine z_ix2 ?_ | refine z_ix3 ?_ | refine z_lent ?_ | refine z_slt ?_ | refine z_lenc ?_ | refine z_inb ?_ | refine z_min ?_ | refine z_max ?_ | refine z_its ?_ | refine z_rng1 ?_ | refine z_dict0 ?_ | refine z_dict ?_ | refine z_wpc ?_ | refine z_wpn ?_ | refine z_list0 ?_ | refine z_gt (by with_unfolding_all rfl) ?_ | refine z_sz (by with_unfolding_all rfl) ?_)
  refine z_sls (le1 _ (by omega)) ?_
  repeat (with_reducible first | refine z_seq ?_ | refine z_ifs ?_ | refine z_ret ?_ | refine z_retN ?_ | refine z_next ?_ | refine z_drop ?_ | refine z_asg ?_ | refine z_par ?_ | refine z_for ?_ | refine z_break ?_ | refine z_cont ?_ | refine z_g0 ?_ | refine z_g1 ?_ | refine z_g2 ?_ | refine z_g3 ?_ | refine z_g4 ?_ | refine z_g5 ?_ | refine z_g6 ?_ | refine z_g7 ?_ | refine z_g8 ?_ | refine z_g9 ?_ | refine z_g10 ?_ | refine z_gc ?_ | refine z_gn ?_ | refine z_gst ?_ | refine z_v0 ?_ | refine z_v1 ?_ | refine z_v2 ?_ | refine z_v3 ?_ | refine z_v4 ?_ | refine z_v5 ?_ | refine z_v6 ?_ | refine z_v7 ?_ | refine z_v8 ?_ | refine z_v9 ?_ | refine z_v10 ?_ | refine z_c ?_ | refine z_op ?_ | refine z_un ?_ | refine z_call ?_ | refine z_callK ?_ | refine z_cons ?_ | refine z_nil ?_ | refine z_tup ?_ | refine z_lst ?_ | refine z_and ?_ | refine z_or ?_ | refine z_not ?_ | refine z_if ?_ | refine z_chain ?_ | refine z_sl ?_ | refine z_nop ?_ | refine z_prt ?_ | refine z_prti ?_ | refine z_mt ?_ | refine z_mstr ?_ | refine z_lc ?_ | refine z_tst ?_ | refine z_tb ?_ | refine z_tru ?_ | refine z_tand ?_ | refine z_tor ?_ | refine z_tnot ?_ | refine z_yes ?_ | refine z_trb ?_ | refine z_trn ?_ | refine z_T ?_ | refine z_F ?_ | refine z_NF ?_ | refine z_NT ?_ | refine z_eqi ?_ | refine z_eqs ?_ | refine z_nei ?_ | refine z_nes ?_ | refine z_le ?_ | refine z_lt ?_ | refine z_gtt ?_ | refine z_ge ?_ | refine z_add ?_ | refine z_sub ?_ | refine z_p15 ?_ | refine z_p30 ?_ | refine z_p18 ?_ | refine z_neg ?_ | refine z_ix0 ?_ | refine z_ix1 ?_ | refine z_ix2 ?_ | refine z_ix3 ?_ | refine z_lent ?_ | refine z_slt ?_ | refine z_lenc ?_ | refine z_inb ?_ | refine z_min ?_ | refine z_max ?_ | refine z_its ?_ | refine z_rng1 ?_ | refine z_dict0 ?_ | refine z_dict ?_ | refine z_wpc ?_ | refine z_wpn ?_ | refine z_list0 ?_ | refine z_gt (by with_unfolding_all rfl) ?_ | refine z_sz (by with_unfolding_all rfl) ?_)
  refine z_lens (le1 _ (by omega)) ?_
  repeat (with_reducible first | refine z_seq ?_ | refine z_ifs ?_ | refine z_ret ?_ | refine z_retN ?_ | refine z_next ?_ | refine z_drop ?_ | refine z_asg ?_ | refine z_par ?_ | refine z_for ?_ | refine z_break ?_ | refine z_cont ?_ | refine z_g0 ?_ | refine z_g1 ?_ | refine z_g2 ?_ | refine z_g3 ?_ | refine z_g4 ?_ | refine z_g5 ?_ | refine z_g6 ?_ | refine z_g7 ?_ | refine z_g8 ?_ | refine z_g9 ?_ | refine z_g10 ?_ | refine z_gc ?_ | refine z_gn ?_ | refine z_gst ?_ | refine z_v0 ?_ | refine z_v1 ?_ | refine z_v2 ?_ | refine z_v3 ?_ | refine z_v4 ?_ | refine z_v5 ?_ | refine z_v6 ?_ | refine z_v7 ?_ | refine z_v8 ?_ | refine z_v9 ?_ | refine z_v10 ?_ | refine z_c ?_ | refine z_op ?_ | refine z_un ?_ | refine z_call ?_ | refine z_callK ?_ | refine z_cons ?_ | refine z_nil ?_ | refine z_tup ?_ | refine z_lst ?_ | refine z_and ?_ | refine z_or ?_ | refine z_not ?_ | refine z_if ?_ | refine z_chain ?_ | refine z_sl ?_ | refine z_nop ?_ | refine z_prt ?_ | refine z_prti ?_ | refine z_mt ?_ | refine z_mstr ?_ | refine z_lc ?_ | refine z_tst ?_ | refine z_tb ?_ | refine z_tru ?_ | refine z_tand ?_ | refine z_tor ?_ | refine z_tnot ?_ | refine z_yes ?_ | refine z_trb ?_ | refine z_trn ?_ | refine z_T ?_ | refine z_F ?_ | refine z_NF ?_ | refine z_NT ?_ | refine z_eqi ?_ | refine z_eqs ?_ | refine z_nei ?_ | refine z_nes ?_ | refine z_le ?_ | refine z_lt ?_ | refine z_gtt ?_ | refine z_ge ?_ | refine z_add ?_ | refine z_sub ?_ | refine z_p15 ?_ | refine z_p30 ?_ | refine z_p18 ?_ | refine z_neg ?_ | refine z_ix0 ?_ | refine z_ix1 ?_ | refine z_ix2 ?_ | refine z_ix3 ?_ | refine z_lent ?_ | refine z_slt ?_ | refine z_lenc ?_ | refine z_inb ?_ | refine z_min ?_ | refine z_max ?_ | refine z_its ?_ | refine z_rng1 ?_ | refine z_dict0 ?_ | refine z_dict ?_ | refine z_wpc ?_ | refine z_wpn ?_ | refine z_list0 ?_ | refine z_gt (by with_unfolding_all rfl) ?_ | refine z_sz (by with_unfolding_all rfl) ?_)
  refine fun ld M7 hld eld fld => ?_
  repeat (with_reducible first | refine z_seq ?_ | refine z_ifs ?_ | refine z_ret ?_ | refine z_retN ?_ | refine z_next ?_ | refine z_drop ?_ | refine z_asg ?_ | refine z_par ?_ | refine z_for ?_ | refine z_break ?_ | refine z_cont ?_ | refine z_g0 ?_ | refine z_g1 ?_ | refine z_g2 ?_ | refine z_g3 ?_ | refine z_g4 ?_ | refine z_g5 ?_ | refine z_g6 ?_ | refine z_g7 ?_ | refine z_g8 ?_ | refine z_g9 ?_ | refine z_g10 ?_ | refine z_gc ?_ | refine z_gn ?_ | refine z_gst ?_ | refine z_v0 ?_ | refine z_v1 ?_ | refine z_v2 ?_ | refine z_v3 ?_ | refine z_v4 ?_ | refine z_v5 ?_ | refine z_v6 ?_ | refine z_v7 ?_ | refine z_v8 ?_ | refine z_v9 ?_ | refine z_v10 ?_ | refine z_c ?_ | refine z_op ?_ | refine z_un ?_ | refine z_call ?_ | refine z_callK ?_ | refine z_cons ?_ | refine z_nil ?_ | refine z_tup ?_ | refine z_lst ?_ | refine z_and ?_ | refine z_or ?_ | refine z_not ?_ | refine z_if ?_ | refine z_chain ?_ | refine z_sl ?_ | refine z_nop ?_ | refine z_prt ?_ | refine z_prti ?_ | refine z_mt ?_ | refine z_mstr ?_ | refine z_lc ?_ | refine z_tst ?_ | refine z_tb ?_ | refine z_tru ?_ | refine z_tand ?_ | refine z_tor ?_ | refine z_tnot ?_ | refine z_yes ?_ | refine z_trb ?_ | refine z_trn ?_ | refine z_T ?_ | refine z_F ?_ | refine z_NF ?_ | refine z_NT ?_ | refine z_eqi ?_ | refine z_eqs ?_ | refine z_nei ?_ | refine z_nes ?_ | refine z_le ?_ | refine z_lt ?_ | refine z_gtt ?_ | refine z_ge ?_ | refine z_add ?_ | refine z_sub ?_ | refine z_p15 ?_ | refine z_p30 ?_ | refine z_p18 ?_ | refine z_neg ?_ | refine z_ix0 ?_ | refine z_ix1 ?_ | refine z_ix2 ?_ | refine z_ix3 ?_ | refine z_lent ?_ | refine z_slt ?_ | refine z_lenc ?_ | refine z_inb ?_ | refine z_min ?_ | refine z_max ?_ | refine z_its ?_ | refine z_rng1 ?_ | refine z_dict0 ?_ | refine z_dict ?_ | refine z_wpc ?_ | refine z_wpn ?_ | refine z_list0 ?_ | refine z_gt (by with_unfolding_all rfl) ?_ | refine z_sz (by with_unfolding_all rfl) ?_)
  refine fun s6 M8 hs6 es6 fs6 => ?_
  repeat (with_reducible first | refine z_seq ?_ | refine z_ifs ?_ | refine z_ret ?_ | refine z_retN ?_ | refine z_next ?_ | refine z_drop ?_ | refine z_asg ?_ | refine z_par ?_ | refine z_for ?_ | refine z_break ?_ | refine z_cont ?_ | refine z_g0 ?_ | refine z_g1 ?_ | refine z_g2 ?_ | refine z_g3 ?_ | refine z_g4 ?_ | refine z_g5 ?_ | refine z_g6 ?_ | refine z_g7 ?_ | refine z_g8 ?_ | refine z_g9 ?_ | refine z_g10 ?_ | refine z_gc ?_ | refine z_gn ?_ | refine z_gst ?_ | refine z_v0 ?_ | refine z_v1 ?_ | refine z_v2 ?_ | refine z_v3 ?_ | refine z_v4 ?_ | refine z_v5 ?_ | refine z_v6 ?_ | refine z_v7 ?_ | refine z_v8 ?_ | refine z_v9 ?_ | refine z_v10 ?_ | refine z_c ?_ | refine z_op ?_ | refine z_un ?_ | refine z_call ?_ | refine z_callK ?_ | refine z_cons ?_ | refine z_nil ?_ | refine z_tup ?_ | refine z_lst ?_ | refine z_and ?_ | refine z_or ?_ | refine z_not ?_ | refine z_if ?_ | refine z_chain ?_ | refine z_sl ?_ | refine z_nop ?_ | refine z_prt ?_ | refine z_prti ?_ | refine z_mt ?_ | refine z_mstr ?_ | refine z_lc ?_ | refine z_tst ?_ | refine z_tb ?_ | refine z_tru ?_ | refine z_tand ?_ | refine z_tor ?_ | refine z_tnot ?_ | refine z_yes ?_ | refine z_trb ?_ | refine z_trn ?_ | refine z_T ?_ | refine z_F ?_ | refine z_NF ?_ | refine z_NT ?_ | refine z_eqi ?_ | refine z_eqs ?_ | refine z_nei ?_ | refine z_nes ?_ | refine z_le ?_ | refine z_lt ?_ | refine z_gtt ?_ | refine z_ge ?_ | refine z_add ?_ | refine z_sub ?_ | refine z_p15 ?_ | refine z_p30 ?_ | refine z_p18 ?_ | refine z_neg ?_ | refine z_ix0 ?_ | refine z_ix1 ?_ | refine z_ix2 ?_ | refine z_ix3 ?_ | refine z_lent ?_ | refine z_slt ?_ | refine z_lenc ?_ | refine z_inb ?_ | refine z_min ?_ | refine z_max ?_ | refine z_its ?_ | refine z_rng1 ?_ | refine z_dict0 ?_ | refine z_dict ?_ | refine z_wpc ?_ | refine z_wpn ?_ | refine z_list0 ?_ | refine z_gt (by with_unfolding_all rfl) ?_ | refine z_sz (by with_unfolding_all rfl) ?_)
  refine z_addl (fs6 _ _ (by simp) (fld _ _ (by simp) es5)) es6 (le1 _ (Nat.le_of_ble_eq_true rfl)) fun s7 M9 hs7 es7 fs7 => ?_
  have p8 : Pot p M8 := (((((((p1.new fs1).new fs2).new fs3).new fs4).new fs5).new fld).new fs6)
  have p6 : Pot p M6 := ((((p1.new fs1).new fs2).new fs3).new fs4).new fs5
  refine q s7 M9 _ (p8.new fs7) ((((((((f1.trans fs1.nil).trans fs2.nil).trans fs3.nil).trans fs4.nil).trans fs5.nil).trans fld.nil).trans fs6.nil).trans fs7.nil) (p8.ne hs7) es7 ?_
  have g : ∀ i : Int, 1 ≤ i → i ≤ c → GoodS i x := fun i h h' => ⟨h, by omega, hx⟩
  have nn : n ≠ "" := fun z => by rw [z] at hn; rw [empty_no] at hn; cases hn
  have A : n.cps.toList ++ (("A" : String) : Str).cps.toList = (n ++ (("A" : String) : Str)).cps.toList := str_app.symm
  have hA : nameB (n ++ (("A" : String) : Str)) = false := name_no (c := 65) (by rw [← A]; exact List.mem_append_right _ (by decide +kernel)) (by decide +kernel)
  obtain ⟨t, ht⟩ := cut8_list tn.1
  have h8 : decide ((cutS (n ++ (("a" : String) : Str)) none (some 8)).cps.toList < n.cps.toList) = false := by
    rw [ht]; exact decide_eq_false (app_nlt _ _)
  have f8 : FO (.str (cutS (n ++ (("a" : String) : Str)) none (some 8))) := by
    have fna := FO.app fn fa (by rw [l1]; omega)
    refine .str (Nat.le_trans (cutS_length _ _ _) (by rw [strLen_append, l1]; omega)) fun d hd => (fna.tx _ rfl).2 d ?_
    have e : (cutS (n ++ (("a" : String) : Str)) none (some 8)).cps.toList = ((n ++ (("a" : String) : Str)).cps.toList.drop 0).take (HT.sIx (n ++ (("a" : String) : Str)).length (n ++ (("a" : String) : Str)).length (some 8) - 0) := rfl
    rw [e] at hd
    exact List.mem_of_mem_drop (List.mem_of_mem_take hd)
  have fl : FO (.str (cutS n none (some (-1)))) := by
    refine .str (Nat.le_trans (cutS_length _ _ _) (by omega)) fun d hd => tn.2 d ?_
    rw [cut_last] at hd
    exact List.mem_of_mem_take hd
  have el : earlierD c n (.tup [.int c, .str (cutS n none (some (-1)))]) = decide ((1 : Int) < (n.length : Int)) := by
    by_cases h : 1 < n.length
    · obtain ⟨h5, h6⟩ := cutlast_good (i := c) hn h
      rw [earl_lt ⟨by omega, c1, h5⟩, lts_c, h6, decide_eq_true (by omega)]
    · have : nameB (cutS n none (some (-1))) = false := by
        cases e : nameB (cutS n none (some (-1))) with
        | false => rfl
        | true =>
          unfold nameB at e
          simp only [Bool.and_eq_true, decide_eq_true_eq] at e
          have h3 := str_len (x := cutS n none (some (-1)))
          rw [cut_last, List.length_take] at h3
          omega
      rw [earl_nn this, decide_eq_false (by omega)]
  have hld : Ot c n (hid p M9) (.ref ld) false := by
    have e := fs7 _ _ (by simp) (fs6 _ _ (by simp) eld)
    exact ⟨(Pn.lst (n := 2) (c := 500) (k := 0) (hid_at e (p6.ne hld)) (all_cons (FO.int (by omega)).pn (all_cons fx.pn all_nil)) (Nat.le_of_ble_eq_true rfl)).le (by decide) (by decide), ref_part, ref_words, rfl, rfl, rfl⟩
  have hbx : Ot c n (hid p M9) (.tup [.bl true, .str x]) false := ⟨(Plain.t2 (.bl true) fx).pn.sh.le (by decide) (by decide), plain_part (.t2 (.bl true) fx), plain_words (.t2 (.bl true) fx), rfl, rfl, rfl⟩
  refine all_app (all_app (all_app ?_ ?_) ?_) ?_
  · exact all_cons ⟨_, _, rfl, .of (by omega) fx (by rw [earl_lt (g _ (by omega) (by omega)), lts_lo (by omega)]) (by omega)⟩
      (all_cons ⟨_, _, rfl, .of (by omega) fn (earl_no (by rw [lts_c]; exact decide_eq_false (List.lt_irrefl _))) (by omega)⟩
      (all_cons ⟨_, _, rfl, .of (by omega) fx (earl_no (lts_hi (by omega))) (by omega)⟩
      (all_cons ⟨_, _, rfl, .of (by omega) fa (by rw [earl_lt ⟨by omega, c1, a_name⟩, lts_c]) (by omega)⟩ all_nil)))
  · exact all_cons ⟨_, _, rfl, .of (by omega) fx (by rw [earl_lt (g _ (by omega) (by omega)), lts_c]) (by omega)⟩
      (all_cons ⟨_, _, rfl, .of (by omega) fx (by rw [earl_lt (g _ (by omega) (by omega)), lts_lo (by omega)]) (by omega)⟩
      (all_cons ⟨_, _, rfl, .of (by omega) fn (earl_ni (by omega)) (fun _ => nn)⟩
      (all_cons ⟨_, _, rfl, .of (by omega) (FO.app fn fA (by rw [l2]; omega)) (earl_nn hA) (by omega)⟩ all_nil)))
  · exact all_cons ⟨_, _, rfl, .of (by omega) f8 (earl_no (by rw [lts_c]; exact h8)) (by omega)⟩
      (all_cons ⟨_, _, rfl, hbx⟩
      (all_cons ⟨_, _, rfl, .of (by omega) (fo_str (by decide +kernel)) (earl_nn empty_no) (by omega)⟩ all_nil))
  · exact all_cons ⟨_, _, rfl, .of (by omega) fl el (by omega)⟩
      (all_cons ⟨_, _, rfl, hld⟩ all_nil)
end L2.Dl.G

namespace L2.Dl.G
open PySem PySem.Spec PyProof.Rows
theorem ne_fresh {M : Mp} {a b : Addr} {o : MO} (h1 : M a = none) (h2 : M b = some o) : a ≠ b := fun z => by rw [z, h2] at h1; cases h1
/-- words that are right just where b, and what they name then -/
def WT (c : Int) (n : Str) (b : Bool) (M : Mp) (it : D) : Prop := ∃ x r nl ns, it = .tup [.tup (.str x :: r), .ref nl] ∧ M nl = some (.lst ns) ∧ FO (.str x) ∧ r.length ≤ 3 ∧ (∀ y ∈ r, Sh false 1600 1 M y ∧ PartOk y) ∧ wordsD c n (.tup (.str x :: r)) = b ∧ (b = true → r.filter isStampD = ns)
theorem Ot.st {c : Int} {n : Str} {M : Mp} {d : D} (h : Ot c n M d true) : isStampD d = true := by
  have := h.e
  unfold earlierD at this
  rw [Bool.and_eq_true] at this
  exact this.1
theorem field_nst {d : D} (h : isFieldD d = true) : isStampD d = false := by
  cases d with
  | str x => rfl
  | _ => cases h
theorem what_nst {d : D} (h : isWhatD d = true) : isStampD d = false := by
  unfold isWhatD at h
  split at h
  · rfl
  · rfl
  · cases h
theorem field_pla {c : Int} {n : Str} {d : D} (h : isFieldD d = true) : placeD c n d = true := by unfold placeD; rw [h]; rfl
theorem one_b {c : Int} {n : Str} (h : 2 ≤ c) : earlierD c n (.tup [.int 1, .str "b"]) = true := by rw [earl_lt (one_good b_name), lts_lo (by omega)]
theorem root_pl : Plain (.tup [.int 0, .str (("" : String) : Str)]) := .t2 (.int (by decide)) (fo_str (by decide +kernel))
theorem L_stamps_right_ok {p : Addr} {c : Int} {n f : Str} {M : Mp} {Q : DQ} (hp : Pot p M) (hg : GoodS c n) (h2 : 2 ≤ c) (hf : fieldB f = true) (q : ∀ M', Pot p M' → Fr [p] M M' → Q (.bl true) M') : W_L_stamps_right [.ref p, .tup [.int c, .str n], .str f] M Q := by
  have c1 := hg.2.1
  have hf : isFieldD (.str f) = true := hf
  have ff := field_fo hf
  unfold W_L_stamps_right; refine z_d103 ?_; repeat (with_reducible first | refine z_seq ?_ | refine z_ifs ?_ | refine z_ret ?_ | refine z_retN ?_ | refine z_next ?_ | refine z_drop ?_ | refine z_asg ?_ | refine z_par ?_ | refine z_for ?_ | refine z_break ?_ | refine z_cont ?_ | refine z_g0 ?_ | refine z_g1 ?_ | refine z_g2 ?_ | refine z_g3 ?_ | refine z_g4 ?_ | refine z_g5 ?_ | refine z_g6 ?_ | refine z_g7 ?_ | refine z_g8 ?_ | refine z_g9 ?_ | refine z_g10 ?_ | refine z_gc ?_ | refine z_gn ?_ | refine z_gst ?_ | refine z_v0 ?_ | refine z_v1 ?_ | refine z_v2 ?_ | refine z_v3 ?_ | refine z_v4 ?_ | refine z_v5 ?_ | refine z_v6 ?_ | refine z_v7 ?_ | refine z_v8 ?_ | refine z_v9 ?_ | refine z_v10 ?_ | refine z_c ?_ | refine z_op ?_ | refine z_un ?_ | refine z_call ?_ | refine z_callK ?_ | refine z_cons ?_ | refine z_nil ?_ | refine z_tup ?_ | refine z_lst ?_ | refine z_and ?_ | refine z_or ?_ | refine z_not ?_ | refine z_if ?_ | refine z_chain ?_ | refine z_sl ?_ | refine z_nop ?_ | refine z_prt ?_ | refine z_prti ?_ | refine z_mt ?_ | refine z_mstr ?_ | refine z_lc ?_ | refine z_tst ?_ | refine z_tb ?_ | refine z_tru ?_ | refine z_tand ?_ | refine z_tor ?_ | refine z_tnot ?_ | refine z_yes ?_ | refine z_trb ?_ | refine z_trn ?_ | refine z_T ?_ | refine z_F ?_ | refine z_NF ?_ | refine z_NT ?_ | refine z_eqi ?_ | refine z_eqs ?_ | refine z_nei ?_ | refine z_nes ?_ | refine z_le ?_ | refine z_lt ?_ | refine z_gtt ?_ | refine z_ge ?_ | refine z_add ?_ | refine z_sub ?_ | refine z_p15 ?_ | refine z_p30 ?_ | refine z_p18 ?_ | refine z_neg ?_ | refine z_ix0 ?_ | refine z_ix1 ?_ | refine z_ix2 ?_ | refine z_ix3 ?_ | refine z_lent ?_ | refine z_slt ?_ | refine z_lenc ?_ | refine z_inb ?_ | refine z_min ?_ | refine z_max ?_ | refine z_its ?_ | refine z_rng1 ?_ | refine z_dict0 ?_ | refine z_dict ?_ | refine z_wpc ?_ | refine z_wpn ?_ | refine z_list0 ?_ | refine z_gt (by with_unfolding_all rfl) ?_ | refine z_sz (by with_unfolding_all rfl) ?_)
  refine L_stamps_ok hp hg h2 fun l M1 items p1 f1 hl e1 hi => ?_
  refine z_itl e1 ?_
  refine run_all (fun env M' => (∃ a b d e g h i, env = [some (.ref p), some (.tup [.int c, .str n]), some (.str f), a, b, d, e, g, h, i]) ∧ Pot p M' ∧ Fr [p] M1 M') ⟨⟨_, _, _, _, _, _, _, rfl⟩, p1, .refl⟩ (fun d env M2 k hd hP next => ⟨hP.2.2 _ _ (by simpa using hl) e1, ?_⟩) fun env M2 hP => ⟨hP.2.2 _ _ (by simpa using hl) e1, ?_⟩
  · obtain ⟨⟨_, _, _, _, _, _, _, rfl⟩, p2, f2⟩ := hP
    obtain ⟨o, b, rfl, ho⟩ := hi d hd
    repeat (with_reducible first | refine z_seq ?_ | refine z_ifs ?_ | refine z_ret ?_ | refine z_retN ?_ | refine z_next ?_ | refine z_drop ?_ | refine z_asg ?_ | refine z_par ?_ | refine z_for ?_ | refine z_break ?_ | refine z_cont ?_ | refine z_g0 ?_ | refine z_g1 ?_ | refine z_g2 ?_ | refine z_g3 ?_ | refine z_g4 ?_ | refine z_g5 ?_ | refine z_g6 ?_ | refine z_g7 ?_ | refine z_g8 ?_ | refine z_g9 ?_ | refine z_g10 ?_ | refine z_gc ?_ | refine z_gn ?_ | refine z_gst ?_ | refine z_v0 ?_ | refine z_v1 ?_ | refine z_v2 ?_ | refine z_v3 ?_ | refine z_v4 ?_ | refine z_v5 ?_ | refine z_v6 ?_ | refine z_v7 ?_ | refine z_v8 ?_ | refine z_v9 ?_ | refine z_v10 ?_ | refine z_c ?_ | refine z_op ?_ | refine z_un ?_ | refine z_call ?_ | refine z_callK ?_ | refine z_cons ?_ | refine z_nil ?_ | refine z_tup ?_ | refine z_lst ?_ | refine z_and ?_ | refine z_or ?_ | refine z_not ?_ | refine z_if ?_ | refine z_chain ?_ | refine z_sl ?_ | refine z_nop ?_ | refine z_prt ?_ | refine z_prti ?_ | refine z_mt ?_ | refine z_mstr ?_ | refine z_lc ?_ | refine z_tst ?_ | refine z_tb ?_ | refine z_tru ?_ | refine z_tand ?_ | refine z_tor ?_ | refine z_tnot ?_ | refine z_yes ?_ | refine z_trb ?_ | refine z_trn ?_ | refine z_T ?_ | refine z_F ?_ | refine z_NF ?_ | refine z_NT ?_ | refine z_eqi ?_ | refine z_eqs ?_ | refine z_nei ?_ | refine z_nes ?_ | refine z_le ?_ | refine z_lt ?_ | refine z_gtt ?_ | refine z_ge ?_ | refine z_add ?_ | refine z_sub ?_ | refine z_p15 ?_ | refine z_p30 ?_ | refine z_p18 ?_ | refine z_neg ?_ | refine z_ix0 ?_ | refine z_ix1 ?_ | refine z_ix2 ?_ | refine z_ix3 ?_ | refine z_lent ?_ | refine z_slt ?_ | refine z_lenc ?_ | refine z_inb ?_ | refine z_min ?_ | refine z_max ?_ | refine z_its ?_ | refine z_rng1 ?_ | refine z_dict0 ?_ | refine z_dict ?_ | refine z_wpc ?_ | refine z_wpn ?_ | refine z_list0 ?_ | refine z_gt (by with_unfolding_all rfl) ?_ | refine z_sz (by with_unfolding_all rfl) ?_)
    refine fun lw M3 hlw elw flw => ?_
    repeat (with_reducible first | refine z_seq ?_ | refine z_ifs ?_ | refine z_ret ?_ | refine z_retN ?_ | refine z_next ?_ | refine z_drop ?_ | refine z_asg ?_ | refine z_par ?_ | refine z_for ?_ | refine z_break ?_ | refine z_cont ?_ | refine z_g0 ?_ | refine z_g1 ?_ | refine z_g2 ?_ | refine z_g3 ?_ | refine z_g4 ?_ | refine z_g5 ?_ | refine z_g6 ?_ | refine z_g7 ?_ | refine z_g8 ?_ | refine z_g9 ?_ | refine z_g10 ?_ | refine z_gc ?_ | refine z_gn ?_ | refine z_gst ?_ | refine z_v0 ?_ | refine z_v1 ?_ | refine z_v2 ?_ | refine z_v3 ?_ | refine z_v4 ?_ | refine z_v5 ?_ | refine z_v6 ?_ | refine z_v7 ?_ | refine z_v8 ?_ | refine z_v9 ?_ | refine z_v10 ?_ | refine z_c ?_ | refine z_op ?_ | refine z_un ?_ | refine z_call ?_ | refine z_callK ?_ | refine z_cons ?_ | refine z_nil ?_ | refine z_tup ?_ | refine z_lst ?_ | refine z_and ?_ | refine z_or ?_ | refine z_not ?_ | refine z_if ?_ | refine z_chain ?_ | refine z_sl ?_ | refine z_nop ?_ | refine z_prt ?_ | refine z_prti ?_ | refine z_mt ?_ | refine z_mstr ?_ | refine z_lc ?_ | refine z_tst ?_ | refine z_tb ?_ | refine z_tru ?_ | refine z_tand ?_ | refine z_tor ?_ | refine z_tnot ?_ | refine z_yes ?_ | refine z_trb ?_ | refine z_trn ?_ | refine z_T ?_ | refine z_F ?_ | refine z_NF ?_ | refine z_NT ?_ | refine z_eqi ?_ | refine z_eqs ?_ | refine z_nei ?_ | refine z_nes ?_ | refine z_le ?_ | refine z_lt ?_ | refine z_gtt ?_ | refine z_ge ?_ | refine z_add ?_ | refine z_sub ?_ | refine z_p15 ?_ | refine z_p30 ?_ | refine z_p18 ?_ | refine z_neg ?_ | refine z_ix0 ?_ | refine z_ix1 ?_ | refine z_ix2 ?_ | refine z_ix3 ?_ | refine z_lent ?_ | refine z_slt ?_ | refine z_lenc ?_ | refine z_inb ?_ | refine z_min ?_ | refine z_max ?_ | refine z_its ?_ | refine z_rng1 ?_ | refine z_dict0 ?_ | refine z_dict ?_ | refine z_wpc ?_ | refine z_wpn ?_ | refine z_list0 ?_ | refine z_gt (by with_unfolding_all rfl) ?_ | refine z_sz (by with_unfolding_all rfl) ?_)
    refine dig (p2.new flw) (by decide) (by decide) fun j M4 j0 j1 p4 f4 => ?_
    have ew := f4 lw _ (by simpa using p2.ne hlw) elw
    refine pick_lst (P := fun d => isWhatD d = true) ew j0 j1 (all_cons (what_hold (by decide +kernel)) (all_cons (what_leaf (leaf_int (by decide) (by decide))) (all_cons (what_leaf (leaf_int (by decide) (by decide))) (all_cons (what_sign (c := 126) (by decide +kernel)) all_nil)))) fun w hw => ?_
    have pw := what_plain hw
    repeat (with_reducible first | refine z_seq ?_ | refine z_ifs ?_ | refine z_ret ?_ | refine z_retN ?_ | refine z_next ?_ | refine z_drop ?_ | refine z_asg ?_ | refine z_par ?_ | refine z_for ?_ | refine z_break ?_ | refine z_cont ?_ | refine z_g0 ?_ | refine z_g1 ?_ | refine z_g2 ?_ | refine z_g3 ?_ | refine z_g4 ?_ | refine z_g5 ?_ | refine z_g6 ?_ | refine z_g7 ?_ | refine z_g8 ?_ | refine z_g9 ?_ | refine z_g10 ?_ | refine z_gc ?_ | refine z_gn ?_ | refine z_gst ?_ | refine z_v0 ?_ | refine z_v1 ?_ | refine z_v2 ?_ | refine z_v3 ?_ | refine z_v4 ?_ | refine z_v5 ?_ | refine z_v6 ?_ | refine z_v7 ?_ | refine z_v8 ?_ | refine z_v9 ?_ | refine z_v10 ?_ | refine z_c ?_ | refine z_op ?_ | refine z_un ?_ | refine z_call ?_ | refine z_callK ?_ | refine z_cons ?_ | refine z_nil ?_ | refine z_tup ?_ | refine z_lst ?_ | refine z_and ?_ | refine z_or ?_ | refine z_not ?_ | refine z_if ?_ | refine z_chain ?_ | refine z_sl ?_ | refine z_nop ?_ | refine z_prt ?_ | refine z_prti ?_ | refine z_mt ?_ | refine z_mstr ?_ | refine z_lc ?_ | refine z_tst ?_ | refine z_tb ?_ | refine z_tru ?_ | refine z_tand ?_ | refine z_tor ?_ | refine z_tnot ?_ | refine z_yes ?_ | refine z_trb ?_ | refine z_trn ?_ | refine z_T ?_ | refine z_F ?_ | refine z_NF ?_ | refine z_NT ?_ | refine z_eqi ?_ | refine z_eqs ?_ | refine z_nei ?_ | refine z_nes ?_ | refine z_le ?_ | refine z_lt ?_ | refine z_gtt ?_ | refine z_ge ?_ | refine z_add ?_ | refine z_sub ?_ | refine z_p15 ?_ | refine z_p30 ?_ | refine z_p18 ?_ | refine z_neg ?_ | refine z_ix0 ?_ | refine z_ix1 ?_ | refine z_ix2 ?_ | refine z_ix3 ?_ | refine z_lent ?_ | refine z_slt ?_ | refine z_lenc ?_ | refine z_inb ?_ | refine z_min ?_ | refine z_max ?_ | refine z_its ?_ | refine z_rng1 ?_ | refine z_dict0 ?_ | refine z_dict ?_ | refine z_wpc ?_ | refine z_wpn ?_ | refine z_list0 ?_ | refine z_gt (by with_unfolding_all rfl) ?_ | refine z_sz (by with_unfolding_all rfl) ?_)
    refine fun s1 M5 hs1 es1 fs1 => ?_
    repeat (with_reducible first | refine z_seq ?_ | refine z_ifs ?_ | refine z_ret ?_ | refine z_retN ?_ | refine z_next ?_ | refine z_drop ?_ | refine z_asg ?_ | refine z_par ?_ | refine z_for ?_ | refine z_break ?_ | refine z_cont ?_ | refine z_g0 ?_ | refine z_g1 ?_ | refine z_g2 ?_ | refine z_g3 ?_ | refine z_g4 ?_ | refine z_g5 ?_ | refine z_g6 ?_ | refine z_g7 ?_ | refine z_g8 ?_ | refine z_g9 ?_ | refine z_g10 ?_ | refine z_gc ?_ | refine z_gn ?_ | refine z_gst ?_ | refine z_v0 ?_ | refine z_v1 ?_ | refine z_v2 ?_ | refine z_v3 ?_ | refine z_v4 ?_ | refine z_v5 ?_ | refine z_v6 ?_ | refine z_v7 ?_ | refine z_v8 ?_ | refine z_v9 ?_ | refine z_v10 ?_ | refine z_c ?_ | refine z_op ?_ | refine z_un ?_ | refine z_call ?_ | refine z_callK ?_ | refine z_cons ?_ | refine z_nil ?_ | refine z_tup ?_ | refine z_lst ?_ | refine z_and ?_ | refine z_or ?_ | refine z_not ?_ | refine z_if ?_ | refine z_chain ?_ | refine z_sl ?_ | refine z_nop ?_ | refine z_prt ?_ | refine z_prti ?_ | refine z_mt ?_ | refine z_mstr ?_ | refine z_lc ?_ | refine z_tst ?_ | refine z_tb ?_ | refine z_tru ?_ | refine z_tand ?_ | refine z_tor ?_ | refine z_tnot ?_ | refine z_yes ?_ | refine z_trb ?_ | refine z_trn ?_ | refine z_T ?_ | refine z_F ?_ | refine z_NF ?_ | refine z_NT ?_ | refine z_eqi ?_ | refine z_eqs ?_ | refine z_nei ?_ | refine z_nes ?_ | refine z_le ?_ | refine z_lt ?_ | refine z_gtt ?_ | refine z_ge ?_ | refine z_add ?_ | refine z_sub ?_ | refine z_p15 ?_ | refine z_p30 ?_ | refine z_p18 ?_ | refine z_neg ?_ | refine z_ix0 ?_ | refine z_ix1 ?_ | refine z_ix2 ?_ | refine z_ix3 ?_ | refine z_lent ?_ | refine z_slt ?_ | refine z_lenc ?_ | refine z_inb ?_ | refine z_min ?_ | refine z_max ?_ | refine z_its ?_ | refine z_rng1 ?_ | refine z_dict0 ?_ | refine z_dict ?_ | refine z_wpc ?_ | refine z_wpn ?_ | refine z_list0 ?_ | refine z_gt (by with_unfolding_all rfl) ?_ | refine z_sz (by with_unfolding_all rfl) ?_)
    refine fun t1 M6 ht1 et1 ft1 => ?_
    repeat (with_reducible first | refine z_seq ?_ | refine z_ifs ?_ | refine z_ret ?_ | refine z_retN ?_ | refine z_next ?_ | refine z_drop ?_ | refine z_asg ?_ | refine z_par ?_ | refine z_for ?_ | refine z_break ?_ | refine z_cont ?_ | refine z_g0 ?_ | refine z_g1 ?_ | refine z_g2 ?_ | refine z_g3 ?_ | refine z_g4 ?_ | refine z_g5 ?_ | refine z_g6 ?_ | refine z_g7 ?_ | refine z_g8 ?_ | refine z_g9 ?_ | refine z_g10 ?_ | refine z_gc ?_ | refine z_gn ?_ | refine z_gst ?_ | refine z_v0 ?_ | refine z_v1 ?_ | refine z_v2 ?_ | refine z_v3 ?_ | refine z_v4 ?_ | refine z_v5 ?_ | refine z_v6 ?_ | refine z_v7 ?_ | refine z_v8 ?_ | refine z_v9 ?_ | refine z_v10 ?_ | refine z_c ?_ | refine z_op ?_ | refine z_un ?_ | refine z_call ?_ | refine z_callK ?_ | refine z_cons ?_ | refine z_nil ?_ | refine z_tup ?_ | refine z_lst ?_ | refine z_and ?_ | refine z_or ?_ | refine z_not ?_ | refine z_if ?_ | refine z_chain ?_ | refine z_sl ?_ | refine z_nop ?_ | refine z_prt ?_ | refine z_prti ?_ | refine z_mt ?_ | refine z_mstr ?_ | refine z_lc ?_ | refine z_tst ?_ | refine z_tb ?_ | refine z_tru ?_ | refine z_tand ?_ | refine z_tor ?_ | refine z_tnot ?_ | refine z_yes ?_ | refine z_trb ?_ | refine z_trn ?_ | refine z_T ?_ | refine z_F ?_ | refine z_NF ?_ | refine z_NT ?_ | refine z_eqi ?_ | refine z_eqs ?_ | refine z_nei ?_ | refine z_nes ?_ | refine z_le ?_ | refine z_lt ?_ | refine z_gtt ?_ | refine z_ge ?_ | refine z_add ?_ | refine z_sub ?_ | refine z_p15 ?_ | refine z_p30 ?_ | refine z_p18 ?_ | refine z_neg ?_ | refine z_ix0 ?_ | refine z_ix1 ?_ | refine z_ix2 ?_ | refine z_ix3 ?_ | refine z_lent ?_ | refine z_slt ?_ | refine z_lenc ?_ | refine z_inb ?_ | refine z_min ?_ | refine z_max ?_ | refine z_its ?_ | refine z_rng1 ?_ | refine z_dict0 ?_ | refine z_dict ?_ | refine z_wpc ?_ | refine z_wpn ?_ | refine z_list0 ?_ | refine z_gt (by with_unfolding_all rfl) ?_ | refine z_sz (by with_unfolding_all rfl) ?_)
    refine z_addl (ft1 _ _ (by simp) es1) et1 (Nat.le_trans (Nat.le_of_ble_eq_true (m := 100) rfl) (by decide)) fun s2 M7 hs2 es2 fs2 => ?_
    repeat (with_reducible first | refine z_seq ?_ | refine z_ifs ?_ | refine z_ret ?_ | refine z_retN ?_ | refine z_next ?_ | refine z_drop ?_ | refine z_asg ?_ | refine z_par ?_ | refine z_for ?_ | refine z_break ?_ | refine z_cont ?_ | refine z_g0 ?_ | refine z_g1 ?_ | refine z_g2 ?_ | refine z_g3 ?_ | refine z_g4 ?_ | refine z_g5 ?_ | refine z_g6 ?_ | refine z_g7 ?_ | refine z_g8 ?_ | refine z_g9 ?_ | refine z_g10 ?_ | refine z_gc ?_ | refine z_gn ?_ | refine z_gst ?_ | refine z_v0 ?_ | refine z_v1 ?_ | refine z_v2 ?_ | refine z_v3 ?_ | refine z_v4 ?_ | refine z_v5 ?_ | refine z_v6 ?_ | refine z_v7 ?_ | refine z_v8 ?_ | refine z_v9 ?_ | refine z_v10 ?_ | refine z_c ?_ | refine z_op ?_ | refine z_un ?_ | refine z_call ?_ | refine z_callK ?_ | refine z_cons ?_ | refine z_nil ?_ | refine z_tup ?_ | refine z_lst ?_ | refine z_and ?_ | refine z_or ?_ | refine z_not ?_ | refine z_if ?_ | refine z_chain ?_ | refine z_sl ?_ | refine z_nop ?_ | refine z_prt ?_ | refine z_prti ?_ | refine z_mt ?_ | refine z_mstr ?_ | refine z_lc ?_ | refine z_tst ?_ | refine z_tb ?_ | refine z_tru ?_ | refine z_tand ?_ | refine z_tor ?_ | refine z_tnot ?_ | refine z_yes ?_ | refine z_trb ?_ | refine z_trn ?_ | refine z_T ?_ | refine z_F ?_ | refine z_NF ?_ | refine z_NT ?_ | refine z_eqi ?_ | refine z_eqs ?_ | refine z_nei ?_ | refine z_nes ?_ | refine z_le ?_ | refine z_lt ?_ | refine z_gtt ?_ | refine z_ge ?_ | refine z_add ?_ | refine z_sub ?_ | refine z_p15 ?_ | refine z_p30 ?_ | refine z_p18 ?_ | refine z_neg ?_ | refine z_ix0 ?_ | refine z_ix1 ?_ | refine z_ix2 ?_ | refine z_ix3 ?_ | refine z_lent ?_ | refine z_slt ?_ | refine z_lenc ?_ | refine z_inb ?_ | refine z_min ?_ | refine z_max ?_ | refine z_its ?_ | refine z_rng1 ?_ | refine z_dict0 ?_ | refine z_dict ?_ | refine z_wpc ?_ | refine z_wpn ?_ | refine z_list0 ?_ | refine z_gt (by with_unfolding_all rfl) ?_ | refine z_sz (by with_unfolding_all rfl) ?_)
    refine fun n1 M8 hn1 en1 fn1 => ?_
    repeat (with_reducible first | refine z_seq ?_ | refine z_ifs ?_ | refine z_ret ?_ | refine z_retN ?_ | refine z_next ?_ | refine z_drop ?_ | refine z_asg ?_ | refine z_par ?_ | refine z_for ?_ | refine z_break ?_ | refine z_cont ?_ | refine z_g0 ?_ | refine z_g1 ?_ | refine z_g2 ?_ | refine z_g3 ?_ | refine z_g4 ?_ | refine z_g5 ?_ | refine z_g6 ?_ | refine z_g7 ?_ | refine z_g8 ?_ | refine z_g9 ?_ | refine z_g10 ?_ | refine z_gc ?_ | refine z_gn ?_ | refine z_gst ?_ | refine z_v0 ?_ | refine z_v1 ?_ | refine z_v2 ?_ | refine z_v3 ?_ | refine z_v4 ?_ | refine z_v5 ?_ | refine z_v6 ?_ | refine z_v7 ?_ | refine z_v8 ?_ | refine z_v9 ?_ | refine z_v10 ?_ | refine z_c ?_ | refine z_op ?_ | refine z_un ?_ | refine z_call ?_ | refine z_callK ?_ | refine z_cons ?_ | refine z_nil ?_ | refine z_tup ?_ | refine z_lst ?_ | refine z_and ?_ | refine z_or ?_ | refine z_not ?_ | refine z_if ?_ | refine z_chain ?_ | refine z_sl ?_ | refine z_nop ?_ | refine z_prt ?_ | refine z_prti ?_ | refine z_mt ?_ | refine z_mstr ?_ | refine z_lc ?_ | refine z_tst ?_ | refine z_tb ?_ | refine z_tru ?_ | refine z_tand ?_ | refine z_tor ?_ | refine z_tnot ?_ | refine z_yes ?_ | refine z_trb ?_ | refine z_trn ?_ | refine z_T ?_ | refine z_F ?_ | refine z_NF ?_ | refine z_NT ?_ | refine z_eqi ?_ | refine z_eqs ?_ | refine z_nei ?_ | refine z_nes ?_ | refine z_le ?_ | refine z_lt ?_ | refine z_gtt ?_ | refine z_ge ?_ | refine z_add ?_ | refine z_sub ?_ | refine z_p15 ?_ | refine z_p30 ?_ | refine z_p18 ?_ | refine z_neg ?_ | refine z_ix0 ?_ | refine z_ix1 ?_ | refine z_ix2 ?_ | refine z_ix3 ?_ | refine z_lent ?_ | refine z_slt ?_ | refine z_lenc ?_ | refine z_inb ?_ | refine z_min ?_ | refine z_max ?_ | refine z_its ?_ | refine z_rng1 ?_ | refine z_dict0 ?_ | refine z_dict ?_ | refine z_wpc ?_ | refine z_wpn ?_ | refine z_list0 ?_ | refine z_gt (by with_unfolding_all rfl) ?_ | refine z_sz (by with_unfolding_all rfl) ?_)
    refine fun l1 M9 hl1 el1 fl1 => ?_
    repeat (with_reducible first | refine z_seq ?_ | refine z_ifs ?_ | refine z_ret ?_ | refine z_retN ?_ | refine z_next ?_ | refine z_drop ?_ | refine z_asg ?_ | refine z_par ?_ | refine z_for ?_ | refine z_break ?_ | refine z_cont ?_ | refine z_g0 ?_ | refine z_g1 ?_ | refine z_g2 ?_ | refine z_g3 ?_ | refine z_g4 ?_ | refine z_g5 ?_ | refine z_g6 ?_ | refine z_g7 ?_ | refine z_g8 ?_ | refine z_g9 ?_ | refine z_g10 ?_ | refine z_gc ?_ | refine z_gn ?_ | refine z_gst ?_ | refine z_v0 ?_ | refine z_v1 ?_ | refine z_v2 ?_ | refine z_v3 ?_ | refine z_v4 ?_ | refine z_v5 ?_ | refine z_v6 ?_ | refine z_v7 ?_ | refine z_v8 ?_ | refine z_v9 ?_ | refine z_v10 ?_ | refine z_c ?_ | refine z_op ?_ | refine z_un ?_ | refine z_call ?_ | refine z_callK ?_ | refine z_cons ?_ | refine z_nil ?_ | refine z_tup ?_ | refine z_lst ?_ | refine z_and ?_ | refine z_or ?_ | refine z_not ?_ | refine z_if ?_ | refine z_chain ?_ | refine z_sl ?_ | refine z_nop ?_ | refine z_prt ?_ | refine z_prti ?_ | refine z_mt ?_ | refine z_mstr ?_ | refine z_lc ?_ | refine z_tst ?_ | refine z_tb ?_ | refine z_tru ?_ | refine z_tand ?_ | refine z_tor ?_ | refine z_tnot ?_ | refine z_yes ?_ | refine z_trb ?_ | refine z_trn ?_ | refine z_T ?_ | refine z_F ?_ | refine z_NF ?_ | refine z_NT ?_ | refine z_eqi ?_ | refine z_eqs ?_ | refine z_nei ?_ | refine z_nes ?_ | refine z_le ?_ | refine z_lt ?_ | refine z_gtt ?_ | refine z_ge ?_ | refine z_add ?_ | refine z_sub ?_ | refine z_p15 ?_ | refine z_p30 ?_ | refine z_p18 ?_ | refine z_neg ?_ | refine z_ix0 ?_ | refine z_ix1 ?_ | refine z_ix2 ?_ | refine z_ix3 ?_ | refine z_lent ?_ | refine z_slt ?_ | refine z_lenc ?_ | refine z_inb ?_ | refine z_min ?_ | refine z_max ?_ | refine z_its ?_ | refine z_rng1 ?_ | refine z_dict0 ?_ | refine z_dict ?_ | refine z_wpc ?_ | refine z_wpn ?_ | refine z_list0 ?_ | refine z_gt (by with_unfolding_all rfl) ?_ | refine z_sz (by with_unfolding_all rfl) ?_)
    refine z_mull el1 (by decide) (by decide) (Nat.le_of_ble_eq_true rfl) fun m1 M10 hm1 em1 fm1 => ?_
    repeat (with_reducible first | refine z_seq ?_ | refine z_ifs ?_ | refine z_ret ?_ | refine z_retN ?_ | refine z_next ?_ | refine z_drop ?_ | refine z_asg ?_ | refine z_par ?_ | refine z_for ?_ | refine z_break ?_ | refine z_cont ?_ | refine z_g0 ?_ | refine z_g1 ?_ | refine z_g2 ?_ | refine z_g3 ?_ | refine z_g4 ?_ | refine z_g5 ?_ | refine z_g6 ?_ | refine z_g7 ?_ | refine z_g8 ?_ | refine z_g9 ?_ | refine z_g10 ?_ | refine z_gc ?_ | refine z_gn ?_ | refine z_gst ?_ | refine z_v0 ?_ | refine z_v1 ?_ | refine z_v2 ?_ | refine z_v3 ?_ | refine z_v4 ?_ | refine z_v5 ?_ | refine z_v6 ?_ | refine z_v7 ?_ | refine z_v8 ?_ | refine z_v9 ?_ | refine z_v10 ?_ | refine z_c ?_ | refine z_op ?_ | refine z_un ?_ | refine z_call ?_ | refine z_callK ?_ | refine z_cons ?_ | refine z_nil ?_ | refine z_tup ?_ | refine z_lst ?_ | refine z_and ?_ | refine z_or ?_ | refine z_not ?_ | refine z_if ?_ | refine z_chain ?_ | refine z_sl ?_ | refine z_nop ?_ | refine z_prt ?_ | refine z_prti ?_ | refine z_mt ?_ | refine z_mstr ?_ | refine z_lc ?_ | refine z_tst ?_ | refine z_tb ?_ | refine z_tru ?_ | refine z_tand ?_ | refine z_tor ?_ | refine z_tnot ?_ | refine z_yes ?_ | refine z_trb ?_ | refine z_trn ?_ | refine z_T ?_ | refine z_F ?_ | refine z_NF ?_ | refine z_NT ?_ | refine z_eqi ?_ | refine z_eqs ?_ | refine z_nei ?_ | refine z_nes ?_ | refine z_le ?_ | refine z_lt ?_ | refine z_gtt ?_ | refine z_ge ?_ | refine z_add ?_ | refine z_sub ?_ | refine z_p15 ?_ | refine z_p30 ?_ | refine z_p18 ?_ | refine z_neg ?_ | refine z_ix0 ?_ | refine z_ix1 ?_ | refine z_ix2 ?_ | refine z_ix3 ?_ | refine z_lent ?_ | refine z_slt ?_ | refine z_lenc ?_ | refine z_inb ?_ | refine z_min ?_ | refine z_max ?_ | refine z_its ?_ | refine z_rng1 ?_ | refine z_dict0 ?_ | refine z_dict ?_ | refine z_wpc ?_ | refine z_wpn ?_ | refine z_list0 ?_ | refine z_gt (by with_unfolding_all rfl) ?_ | refine z_sz (by with_unfolding_all rfl) ?_)
    refine fun n2 M11 hn2 en2 fn2 => ?_
    repeat (with_reducible first | refine z_seq ?_ | refine z_ifs ?_ | refine z_ret ?_ | refine z_retN ?_ | refine z_next ?_ | refine z_drop ?_ | refine z_asg ?_ | refine z_par ?_ | refine z_for ?_ | refine z_break ?_ | refine z_cont ?_ | refine z_g0 ?_ | refine z_g1 ?_ | refine z_g2 ?_ | refine z_g3 ?_ | refine z_g4 ?_ | refine z_g5 ?_ | refine z_g6 ?_ | refine z_g7 ?_ | refine z_g8 ?_ | refine z_g9 ?_ | refine z_g10 ?_ | refine z_gc ?_ | refine z_gn ?_ | refine z_gst ?_ | refine z_v0 ?_ | refine z_v1 ?_ | refine z_v2 ?_ | refine z_v3 ?_ | refine z_v4 ?_ | refine z_v5 ?_ | refine z_v6 ?_ | refine z_v7 ?_ | refine z_v8 ?_ | refine z_v9 ?_ | refine z_v10 ?_ | refine z_c ?_ | refine z_op ?_ | refine z_un ?_ | refine z_call ?_ | refine z_callK ?_ | refine z_cons ?_ | refine z_nil ?_ | refine z_tup ?_ | refine z_lst ?_ | refine z_and ?_ | refine z_or ?_ | refine z_not ?_ | refine z_if ?_ | refine z_chain ?_ | refine z_sl ?_ | refine z_nop ?_ | refine z_prt ?_ | refine z_prti ?_ | refine z_mt ?_ | refine z_mstr ?_ | refine z_lc ?_ | refine z_tst ?_ | refine z_tb ?_ | refine z_tru ?_ | refine z_tand ?_ | refine z_tor ?_ | refine z_tnot ?_ | refine z_yes ?_ | refine z_trb ?_ | refine z_trn ?_ | refine z_T ?_ | refine z_F ?_ | refine z_NF ?_ | refine z_NT ?_ | refine z_eqi ?_ | refine z_eqs ?_ | refine z_nei ?_ | refine z_nes ?_ | refine z_le ?_ | refine z_lt ?_ | refine z_gtt ?_ | refine z_ge ?_ | refine z_add ?_ | refine z_sub ?_ | refine z_p15 ?_ | refine z_p30 ?_ | refine z_p18 ?_ | refine z_neg ?_ | refine z_ix0 ?_ | refine z_ix1 ?_ | refine z_ix2 ?_ | refine z_ix3 ?_ | refine z_lent ?_ | refine z_slt ?_ | refine z_lenc ?_ | refine z_inb ?_ | refine z_min ?_ | refine z_max ?_ | refine z_its ?_ | refine z_rng1 ?_ | refine z_dict0 ?_ | refine z_dict ?_ | refine z_wpc ?_ | refine z_wpn ?_ | refine z_list0 ?_ | refine z_gt (by with_unfolding_all rfl) ?_ | refine z_sz (by with_unfolding_all rfl) ?_)
    refine fun l2 M12 hl2 el2 fl2 => ?_
    repeat (with_reducible first | refine z_seq ?_ | refine z_ifs ?_ | refine z_ret ?_ | refine z_retN ?_ | refine z_next ?_ | refine z_drop ?_ | refine z_asg ?_ | refine z_par ?_ | refine z_for ?_ | refine z_break ?_ | refine z_cont ?_ | refine z_g0 ?_ | refine z_g1 ?_ | refine z_g2 ?_ | refine z_g3 ?_ | refine z_g4 ?_ | refine z_g5 ?_ | refine z_g6 ?_ | refine z_g7 ?_ | refine z_g8 ?_ | refine z_g9 ?_ | refine z_g10 ?_ | refine z_gc ?_ | refine z_gn ?_ | refine z_gst ?_ | refine z_v0 ?_ | refine z_v1 ?_ | refine z_v2 ?_ | refine z_v3 ?_ | refine z_v4 ?_ | refine z_v5 ?_ | refine z_v6 ?_ | refine z_v7 ?_ | refine z_v8 ?_ | refine z_v9 ?_ | refine z_v10 ?_ | refine z_c ?_ | refine z_op ?_ | refine z_un ?_ | refine z_call ?_ | refine z_callK ?_ | refine z_cons ?_ | refine z_nil ?_ | refine z_tup ?_ | refine z_lst ?_ | refine z_and ?_ | refine z_or ?_ | refine z_not ?_ | refine z_if ?_ | refine z_chain ?_ | refine z_sl ?_ | refine z_nop ?_ | refine z_prt ?_ | refine z_prti ?_ | refine z_mt ?_ | refine z_mstr ?_ | refine z_lc ?_ | refine z_tst ?_ | refine z_tb ?_ | refine z_tru ?_ | refine z_tand ?_ | refine z_tor ?_ | refine z_tnot ?_ | refine z_yes ?_ | refine z_trb ?_ | refine z_trn ?_ | refine z_T ?_ | refine z_F ?_ | refine z_NF ?_ | refine z_NT ?_ | refine z_eqi ?_ | refine z_eqs ?_ | refine z_nei ?_ | refine z_nes ?_ | refine z_le ?_ | refine z_lt ?_ | refine z_gtt ?_ | refine z_ge ?_ | refine z_add ?_ | refine z_sub ?_ | refine z_p15 ?_ | refine z_p30 ?_ | refine z_p18 ?_ | refine z_neg ?_ | refine z_ix0 ?_ | refine z_ix1 ?_ | refine z_ix2 ?_ | refine z_ix3 ?_ | refine z_lent ?_ | refine z_slt ?_ | refine z_lenc ?_ | refine z_inb ?_ | refine z_min ?_ | refine z_max ?_ | refine z_its ?_ | refine z_rng1 ?_ | refine z_dict0 ?_ | refine z_dict ?_ | refine z_wpc ?_ | refine z_wpn ?_ | refine z_list0 ?_ | refine z_gt (by with_unfolding_all rfl) ?_ | refine z_sz (by with_unfolding_all rfl) ?_)
    refine z_addl (fl2 _ _ (by simp) (fn2 _ _ (by simp) em1)) el2 (Nat.le_trans (Nat.le_of_ble_eq_true (m := 100) rfl) (by decide)) fun nm M13 hnm enm fnm => ?_
    repeat (with_reducible first | refine z_seq ?_ | refine z_ifs ?_ | refine z_ret ?_ | refine z_retN ?_ | refine z_next ?_ | refine z_drop ?_ | refine z_asg ?_ | refine z_par ?_ | refine z_for ?_ | refine z_break ?_ | refine z_cont ?_ | refine z_g0 ?_ | refine z_g1 ?_ | refine z_g2 ?_ | refine z_g3 ?_ | refine z_g4 ?_ | refine z_g5 ?_ | refine z_g6 ?_ | refine z_g7 ?_ | refine z_g8 ?_ | refine z_g9 ?_ | refine z_g10 ?_ | refine z_gc ?_ | refine z_gn ?_ | refine z_gst ?_ | refine z_v0 ?_ | refine z_v1 ?_ | refine z_v2 ?_ | refine z_v3 ?_ | refine z_v4 ?_ | refine z_v5 ?_ | refine z_v6 ?_ | refine z_v7 ?_ | refine z_v8 ?_ | refine z_v9 ?_ | refine z_v10 ?_ | refine z_c ?_ | refine z_op ?_ | refine z_un ?_ | refine z_call ?_ | refine z_callK ?_ | refine z_cons ?_ | refine z_nil ?_ | refine z_tup ?_ | refine z_lst ?_ | refine z_and ?_ | refine z_or ?_ | refine z_not ?_ | refine z_if ?_ | refine z_chain ?_ | refine z_sl ?_ | refine z_nop ?_ | refine z_prt ?_ | refine z_prti ?_ | refine z_mt ?_ | refine z_mstr ?_ | refine z_lc ?_ | refine z_tst ?_ | refine z_tb ?_ | refine z_tru ?_ | refine z_tand ?_ | refine z_tor ?_ | refine z_tnot ?_ | refine z_yes ?_ | refine z_trb ?_ | refine z_trn ?_ | refine z_T ?_ | refine z_F ?_ | refine z_NF ?_ | refine z_NT ?_ | refine z_eqi ?_ | refine z_eqs ?_ | refine z_nei ?_ | refine z_nes ?_ | refine z_le ?_ | refine z_lt ?_ | refine z_gtt ?_ | refine z_ge ?_ | refine z_add ?_ | refine z_sub ?_ | refine z_p15 ?_ | refine z_p30 ?_ | refine z_p18 ?_ | refine z_neg ?_ | refine z_ix0 ?_ | refine z_ix1 ?_ | refine z_ix2 ?_ | refine z_ix3 ?_ | refine z_lent ?_ | refine z_slt ?_ | refine z_lenc ?_ | refine z_inb ?_ | refine z_min ?_ | refine z_max ?_ | refine z_its ?_ | refine z_rng1 ?_ | refine z_dict0 ?_ | refine z_dict ?_ | refine z_wpc ?_ | refine z_wpn ?_ | refine z_list0 ?_ | refine z_gt (by with_unfolding_all rfl) ?_ | refine z_sz (by with_unfolding_all rfl) ?_)
    have f7_13 : Fr [] M7 M13 := ((((fn1.trans fl1).trans fm1).trans fn2).trans fl2).trans fnm
    have es13 := f7_13 _ _ (by simp) es2
    refine z_ml es13 ?_
    repeat (with_reducible first | refine z_seq ?_ | refine z_ifs ?_ | refine z_ret ?_ | refine z_retN ?_ | refine z_next ?_ | refine z_drop ?_ | refine z_asg ?_ | refine z_par ?_ | refine z_for ?_ | refine z_break ?_ | refine z_cont ?_ | refine z_g0 ?_ | refine z_g1 ?_ | refine z_g2 ?_ | refine z_g3 ?_ | refine z_g4 ?_ | refine z_g5 ?_ | refine z_g6 ?_ | refine z_g7 ?_ | refine z_g8 ?_ | refine z_g9 ?_ | refine z_g10 ?_ | refine z_gc ?_ | refine z_gn ?_ | refine z_gst ?_ | refine z_v0 ?_ | refine z_v1 ?_ | refine z_v2 ?_ | refine z_v3 ?_ | refine z_v4 ?_ | refine z_v5 ?_ | refine z_v6 ?_ | refine z_v7 ?_ | refine z_v8 ?_ | refine z_v9 ?_ | refine z_v10 ?_ | refine z_c ?_ | refine z_op ?_ | refine z_un ?_ | refine z_call ?_ | refine z_callK ?_ | refine z_cons ?_ | refine z_nil ?_ | refine z_tup ?_ | refine z_lst ?_ | refine z_and ?_ | refine z_or ?_ | refine z_not ?_ | refine z_if ?_ | refine z_chain ?_ | refine z_sl ?_ | refine z_nop ?_ | refine z_prt ?_ | refine z_prti ?_ | refine z_mt ?_ | refine z_mstr ?_ | refine z_lc ?_ | refine z_tst ?_ | refine z_tb ?_ | refine z_tru ?_ | refine z_tand ?_ | refine z_tor ?_ | refine z_tnot ?_ | refine z_yes ?_ | refine z_trb ?_ | refine z_trn ?_ | refine z_T ?_ | refine z_F ?_ | refine z_NF ?_ | refine z_NT ?_ | refine z_eqi ?_ | refine z_eqs ?_ | refine z_nei ?_ | refine z_nes ?_ | refine z_le ?_ | refine z_lt ?_ | refine z_gtt ?_ | refine z_ge ?_ | refine z_add ?_ | refine z_sub ?_ | refine z_p15 ?_ | refine z_p30 ?_ | refine z_p18 ?_ | refine z_neg ?_ | refine z_ix0 ?_ | refine z_ix1 ?_ | refine z_ix2 ?_ | refine z_ix3 ?_ | refine z_lent ?_ | refine z_slt ?_ | refine z_lenc ?_ | refine z_inb ?_ | refine z_min ?_ | refine z_max ?_ | refine z_its ?_ | refine z_rng1 ?_ | refine z_dict0 ?_ | refine z_dict ?_ | refine z_wpc ?_ | refine z_wpn ?_ | refine z_list0 ?_ | refine z_gt (by with_unfolding_all rfl) ?_ | refine z_sz (by with_unfolding_all rfl) ?_)
    refine z_ap es13 (Nat.le_of_ble_eq_true rfl) fun M14 e14 f14 => ?_
    repeat (with_reducible first | refine z_seq ?_ | refine z_ifs ?_ | refine z_ret ?_ | refine z_retN ?_ | refine z_next ?_ | refine z_drop ?_ | refine z_asg ?_ | refine z_par ?_ | refine z_for ?_ | refine z_break ?_ | refine z_cont ?_ | refine z_g0 ?_ | refine z_g1 ?_ | refine z_g2 ?_ | refine z_g3 ?_ | refine z_g4 ?_ | refine z_g5 ?_ | refine z_g6 ?_ | refine z_g7 ?_ | refine z_g8 ?_ | refine z_g9 ?_ | refine z_g10 ?_ | refine z_gc ?_ | refine z_gn ?_ | refine z_gst ?_ | refine z_v0 ?_ | refine z_v1 ?_ | refine z_v2 ?_ | refine z_v3 ?_ | refine z_v4 ?_ | refine z_v5 ?_ | refine z_v6 ?_ | refine z_v7 ?_ | refine z_v8 ?_ | refine z_v9 ?_ | refine z_v10 ?_ | refine z_c ?_ | refine z_op ?_ | refine z_un ?_ | refine z_call ?_ | refine z_callK ?_ | refine z_cons ?_ | refine z_nil ?_ | refine z_tup ?_ | refine z_lst ?_ | refine z_and ?_ | refine z_or ?_ | refine z_not ?_ | refine z_if ?_ | refine z_chain ?_ | refine z_sl ?_ | refine z_nop ?_ | refine z_prt ?_ | refine z_prti ?_ | refine z_mt ?_ | refine z_mstr ?_ | refine z_lc ?_ | refine z_tst ?_ | refine z_tb ?_ | refine z_tru ?_ | refine z_tand ?_ | refine z_tor ?_ | refine z_tnot ?_ | refine z_yes ?_ | refine z_trb ?_ | refine z_trn ?_ | refine z_T ?_ | refine z_F ?_ | refine z_NF ?_ | refine z_NT ?_ | refine z_eqi ?_ | refine z_eqs ?_ | refine z_nei ?_ | refine z_nes ?_ | refine z_le ?_ | refine z_lt ?_ | refine z_gtt ?_ | refine z_ge ?_ | refine z_add ?_ | refine z_sub ?_ | refine z_p15 ?_ | refine z_p30 ?_ | refine z_p18 ?_ | refine z_neg ?_ | refine z_ix0 ?_ | refine z_ix1 ?_ | refine z_ix2 ?_ | refine z_ix3 ?_ | refine z_lent ?_ | refine z_slt ?_ | refine z_lenc ?_ | refine z_inb ?_ | refine z_min ?_ | refine z_max ?_ | refine z_its ?_ | refine z_rng1 ?_ | refine z_dict0 ?_ | refine z_dict ?_ | refine z_wpc ?_ | refine z_wpn ?_ | refine z_list0 ?_ | refine z_gt (by with_unfolding_all rfl) ?_ | refine z_sz (by with_unfolding_all rfl) ?_)
    have nes : nm ≠ s2 := ne_fresh hnm (((((fn1.trans fl1).trans fm1).trans fn2).trans fl2) _ _ (by simp) es2)
    have enm14 := f14 _ _ (by simpa using nes) enm
    refine z_ml enm14 ?_
    repeat (with_reducible first | refine z_seq ?_ | refine z_ifs ?_ | refine z_ret ?_ | refine z_retN ?_ | refine z_next ?_ | refine z_drop ?_ | refine z_asg ?_ | refine z_par ?_ | refine z_for ?_ | refine z_break ?_ | refine z_cont ?_ | refine z_g0 ?_ | refine z_g1 ?_ | refine z_g2 ?_ | refine z_g3 ?_ | refine z_g4 ?_ | refine z_g5 ?_ | refine z_g6 ?_ | refine z_g7 ?_ | refine z_g8 ?_ | refine z_g9 ?_ | refine z_g10 ?_ | refine z_gc ?_ | refine z_gn ?_ | refine z_gst ?_ | refine z_v0 ?_ | refine z_v1 ?_ | refine z_v2 ?_ | refine z_v3 ?_ | refine z_v4 ?_ | refine z_v5 ?_ | refine z_v6 ?_ | refine z_v7 ?_ | refine z_v8 ?_ | refine z_v9 ?_ | refine z_v10 ?_ | refine z_c ?_ | refine z_op ?_ | refine z_un ?_ | refine z_call ?_ | refine z_callK ?_ | refine z_cons ?_ | refine z_nil ?_ | refine z_tup ?_ | refine z_lst ?_ | refine z_and ?_ | refine z_or ?_ | refine z_not ?_ | refine z_if ?_ | refine z_chain ?_ | refine z_sl ?_ | refine z_nop ?_ | refine z_prt ?_ | refine z_prti ?_ | refine z_mt ?_ | refine z_mstr ?_ | refine z_lc ?_ | refine z_tst ?_ | refine z_tb ?_ | refine z_tru ?_ | refine z_tand ?_ | refine z_tor ?_ | refine z_tnot ?_ | refine z_yes ?_ | refine z_trb ?_ | refine z_trn ?_ | refine z_T ?_ | refine z_F ?_ | refine z_NF ?_ | refine z_NT ?_ | refine z_eqi ?_ | refine z_eqs ?_ | refine z_nei ?_ | refine z_nes ?_ | refine z_le ?_ | refine z_lt ?_ | refine z_gtt ?_ | refine z_ge ?_ | refine z_add ?_ | refine z_sub ?_ | refine z_p15 ?_ | refine z_p30 ?_ | refine z_p18 ?_ | refine z_neg ?_ | refine z_ix0 ?_ | refine z_ix1 ?_ | refine z_ix2 ?_ | refine z_ix3 ?_ | refine z_lent ?_ | refine z_slt ?_ | refine z_lenc ?_ | refine z_inb ?_ | refine z_min ?_ | refine z_max ?_ | refine z_its ?_ | refine z_rng1 ?_ | refine z_dict0 ?_ | refine z_dict ?_ | refine z_wpc ?_ | refine z_wpn ?_ | refine z_list0 ?_ | refine z_gt (by with_unfolding_all rfl) ?_ | refine z_sz (by with_unfolding_all rfl) ?_)
    refine fun l3 M15 hl3 el3 fl3 => ?_
    repeat (with_reducible first | refine z_seq ?_ | refine z_ifs ?_ | refine z_ret ?_ | refine z_retN ?_ | refine z_next ?_ | refine z_drop ?_ | refine z_asg ?_ | refine z_par ?_ | refine z_for ?_ | refine z_break ?_ | refine z_cont ?_ | refine z_g0 ?_ | refine z_g1 ?_ | refine z_g2 ?_ | refine z_g3 ?_ | refine z_g4 ?_ | refine z_g5 ?_ | refine z_g6 ?_ | refine z_g7 ?_ | refine z_g8 ?_ | refine z_g9 ?_ | refine z_g10 ?_ | refine z_gc ?_ | refine z_gn ?_ | refine z_gst ?_ | refine z_v0 ?_ | refine z_v1 ?_ | refine z_v2 ?_ | refine z_v3 ?_ | refine z_v4 ?_ | refine z_v5 ?_ | refine z_v6 ?_ | refine z_v7 ?_ | refine z_v8 ?_ | refine z_v9 ?_ | refine z_v10 ?_ | refine z_c ?_ | refine z_op ?_ | refine z_un ?_ | refine z_call ?_ | refine z_callK ?_ | refine z_cons ?_ | refine z_nil ?_ | refine z_tup ?_ | refine z_lst ?_ | refine z_and ?_ | refine z_or ?_ | refine z_not ?_ | refine z_if ?_ | refine z_chain ?_ | refine z_sl ?_ | refine z_nop ?_ | refine z_prt ?_ | refine z_prti ?_ | refine z_mt ?_ | refine z_mstr ?_ | refine z_lc ?_ | refine z_tst ?_ | refine z_tb ?_ | refine z_tru ?_ | refine z_tand ?_ | refine z_tor ?_ | refine z_tnot ?_ | refine z_yes ?_ | refine z_trb ?_ | refine z_trn ?_ | refine z_T ?_ | refine z_F ?_ | refine z_NF ?_ | refine z_NT ?_ | refine z_eqi ?_ | refine z_eqs ?_ | refine z_nei ?_ | refine z_nes ?_ | refine z_le ?_ | refine z_lt ?_ | refine z_gtt ?_ | refine z_ge ?_ | refine z_add ?_ | refine z_sub ?_ | refine z_p15 ?_ | refine z_p30 ?_ | refine z_p18 ?_ | refine z_neg ?_ | refine z_ix0 ?_ | refine z_ix1 ?_ | refine z_ix2 ?_ | refine z_ix3 ?_ | refine z_lent ?_ | refine z_slt ?_ | refine z_lenc ?_ | refine z_inb ?_ | refine z_min ?_ | refine z_max ?_ | refine z_its ?_ | refine z_rng1 ?_ | refine z_dict0 ?_ | refine z_dict ?_ | refine z_wpc ?_ | refine z_wpn ?_ | refine z_list0 ?_ | refine z_gt (by with_unfolding_all rfl) ?_ | refine z_sz (by with_unfolding_all rfl) ?_)
    refine z_mull el3 (by decide) (by decide) (Nat.le_of_ble_eq_true rfl) fun n3 M16 hn3 en3 fn3 => ?_
    repeat (with_reducible first | refine z_seq ?_ | refine z_ifs ?_ | refine z_ret ?_ | refine z_retN ?_ | refine z_next ?_ | refine z_drop ?_ | refine z_asg ?_ | refine z_par ?_ | refine z_for ?_ | refine z_break ?_ | refine z_cont ?_ | refine z_g0 ?_ | refine z_g1 ?_ | refine z_g2 ?_ | refine z_g3 ?_ | refine z_g4 ?_ | refine z_g5 ?_ | refine z_g6 ?_ | refine z_g7 ?_ | refine z_g8 ?_ | refine z_g9 ?_ | refine z_g10 ?_ | refine z_gc ?_ | refine z_gn ?_ | refine z_gst ?_ | refine z_v0 ?_ | refine z_v1 ?_ | refine z_v2 ?_ | refine z_v3 ?_ | refine z_v4 ?_ | refine z_v5 ?_ | refine z_v6 ?_ | refine z_v7 ?_ | refine z_v8 ?_ | refine z_v9 ?_ | refine z_v10 ?_ | refine z_c ?_ | refine z_op ?_ | refine z_un ?_ | refine z_call ?_ | refine z_callK ?_ | refine z_cons ?_ | refine z_nil ?_ | refine z_tup ?_ | refine z_lst ?_ | refine z_and ?_ | refine z_or ?_ | refine z_not ?_ | refine z_if ?_ | refine z_chain ?_ | refine z_sl ?_ | refine z_nop ?_ | refine z_prt ?_ | refine z_prti ?_ | refine z_mt ?_ | refine z_mstr ?_ | refine z_lc ?_ | refine z_tst ?_ | refine z_tb ?_ | refine z_tru ?_ | refine z_tand ?_ | refine z_tor ?_ | refine z_tnot ?_ | refine z_yes ?_ | refine z_trb ?_ | refine z_trn ?_ | refine z_T ?_ | refine z_F ?_ | refine z_NF ?_ | refine z_NT ?_ | refine z_eqi ?_ | refine z_eqs ?_ | refine z_nei ?_ | refine z_nes ?_ | refine z_le ?_ | refine z_lt ?_ | refine z_gtt ?_ | refine z_ge ?_ | refine z_add ?_ | refine z_sub ?_ | refine z_p15 ?_ | refine z_p30 ?_ | refine z_p18 ?_ | refine z_neg ?_ | refine z_ix0 ?_ | refine z_ix1 ?_ | refine z_ix2 ?_ | refine z_ix3 ?_ | refine z_lent ?_ | refine z_slt ?_ | refine z_lenc ?_ | refine z_inb ?_ | refine z_min ?_ | refine z_max ?_ | refine z_its ?_ | refine z_rng1 ?_ | refine z_dict0 ?_ | refine z_dict ?_ | refine z_wpc ?_ | refine z_wpn ?_ | refine z_list0 ?_ | refine z_gt (by with_unfolding_all rfl) ?_ | refine z_sz (by with_unfolding_all rfl) ?_)
    have enm16 := fn3 _ _ (by simp) (fl3 _ _ (by simp) enm14)
    refine z_ap enm16 (Nat.le_of_ble_eq_true rfl) fun M17 e17 f17 => ?_
    repeat (with_reducible first | refine z_seq ?_ | refine z_ifs ?_ | refine z_ret ?_ | refine z_retN ?_ | refine z_next ?_ | refine z_drop ?_ | refine z_asg ?_ | refine z_par ?_ | refine z_for ?_ | refine z_break ?_ | refine z_cont ?_ | refine z_g0 ?_ | refine z_g1 ?_ | refine z_g2 ?_ | refine z_g3 ?_ | refine z_g4 ?_ | refine z_g5 ?_ | refine z_g6 ?_ | refine z_g7 ?_ | refine z_g8 ?_ | refine z_g9 ?_ | refine z_g10 ?_ | refine z_gc ?_ | refine z_gn ?_ | refine z_gst ?_ | refine z_v0 ?_ | refine z_v1 ?_ | refine z_v2 ?_ | refine z_v3 ?_ | refine z_v4 ?_ | refine z_v5 ?_ | refine z_v6 ?_ | refine z_v7 ?_ | refine z_v8 ?_ | refine z_v9 ?_ | refine z_v10 ?_ | refine z_c ?_ | refine z_op ?_ | refine z_un ?_ | refine z_call ?_ | refine z_callK ?_ | refine z_cons ?_ | refine z_nil ?_ | refine z_tup ?_ | refine z_lst ?_ | refine z_and ?_ | refine z_or ?_ | refine z_not ?_ | refine z_if ?_ | refine z_chain ?_ | refine z_sl ?_ | refine z_nop ?_ | refine z_prt ?_ | refine z_prti ?_ | refine z_mt ?_ | refine z_mstr ?_ | refine z_lc ?_ | refine z_tst ?_ | refine z_tb ?_ | refine z_tru ?_ | refine z_tand ?_ | refine z_tor ?_ | refine z_tnot ?_ | refine z_yes ?_ | refine z_trb ?_ | refine z_trn ?_ | refine z_T ?_ | refine z_F ?_ | refine z_NF ?_ | refine z_NT ?_ | refine z_eqi ?_ | refine z_eqs ?_ | refine z_nei ?_ | refine z_nes ?_ | refine z_le ?_ | refine z_lt ?_ | refine z_gtt ?_ | refine z_ge ?_ | refine z_add ?_ | refine z_sub ?_ | refine z_p15 ?_ | refine z_p30 ?_ | refine z_p18 ?_ | refine z_neg ?_ | refine z_ix0 ?_ | refine z_ix1 ?_ | refine z_ix2 ?_ | refine z_ix3 ?_ | refine z_lent ?_ | refine z_slt ?_ | refine z_lenc ?_ | refine z_inb ?_ | refine z_min ?_ | refine z_max ?_ | refine z_its ?_ | refine z_rng1 ?_ | refine z_dict0 ?_ | refine z_dict ?_ | refine z_wpc ?_ | refine z_wpn ?_ | refine z_list0 ?_ | refine z_gt (by with_unfolding_all rfl) ?_ | refine z_sz (by with_unfolding_all rfl) ?_)
    have n3m : n3 ≠ nm := ne_fresh hn3 (fl3 _ _ (by simp) enm14)
    have es17 := f17 _ _ (by simpa using nes.symm) (fn3 _ _ (by simp) (fl3 _ _ (by simp) e14))
    have n1s : n1 ≠ s2 := ne_fresh hn1 es2
    have n2s : n2 ≠ s2 := ne_fresh hn2 ((((fn1.trans fl1).trans fm1)) _ _ (by simp) es2)
    have f8_12 : Fr [] M8 M12 := ((fl1.trans fm1).trans fn2).trans fl2
    have n1m : n1 ≠ nm := (ne_fresh hnm (f8_12 _ _ (by simp) en1)).symm
    have n2m : n2 ≠ nm := (ne_fresh hnm (fl2 _ _ (by simp) en2)).symm
    have f14_16 : Fr [] M14 M16 := fl3.trans fn3
    have en1' := f17 _ _ (by simpa using n1m) (f14_16 _ _ (by simp) (f14 _ _ (by simpa using n1s) (fnm _ _ (by simp) (f8_12 _ _ (by simp) en1))))
    have en2' := f17 _ _ (by simpa using n2m) (f14_16 _ _ (by simp) (f14 _ _ (by simpa using n2s) (fnm _ _ (by simp) (fl2 _ _ (by simp) en2))))
    have en3' := f17 _ _ (by simpa using n3m) en3
    -- the frames
    have Y : Fr [nm, s2] M13 M17 := ((f14.mono (by simp)).trans f14_16.nil).trans (f17.mono (by simp))
    have Z : Fr [s2] M7 M17 := ((((fn1.trans fl1).trans fm1).trans fn2).trans fl2).nil.trans (Fr.drop hnm fnm Y)
    have W : Fr [] M6 M17 := Fr.drop hs2 fs2 Z
    have F : Fr [p] M2 M17 := ((flw.nil.trans f4).trans (fs1.trans ft1).nil).trans W.nil
    have p17 : Pot p M17 := by
      have p6 : Pot p M6 := (p4.new fs1).new ft1
      exact p6.new W
    have ho17 : Ot c n M17 o b := (ho.mono (f2.trans F).hid1).mono hid_le
    refine ⟨_, _, seq_ref es17, seq_ref e17, ?_⟩
    have ospO : Sh false 1600 1 M17 o ∧ PartOk o := ⟨ho17.sh, ho17.pt⟩
    have ospF : Sh false 1600 1 M17 (.str f) ∧ PartOk (.str f) := plain_sp (.inl ff)
    have ospR : Sh false 1600 1 M17 (.tup [.int 0, .str (("" : String) : Str)]) ∧ PartOk (.tup [.int 0, .str (("" : String) : Str)]) := plain_sp root_pl
    have ospW : Sh false 1600 1 M17 w ∧ PartOk w := plain_sp pw
    have ospB : Sh false 1600 1 M17 (.tup [.int 1, .str (("b" : String) : Str)]) ∧ PartOk (.tup [.int 1, .str (("b" : String) : Str)]) := plain_sp (stamp_pl (one_good b_name))
    have nF := field_nst hf
    have nW := what_nst hw
    have sB := good_yes (one_good b_name)
    have all : ∀ it ∈ zipD (((([.tup [.str "take", o], .tup [.str "undo", o], .tup [.str "move", o, .tup [.int 0, .str ""], .str f], .tup [.str "put", o, .str f, w]] : List D) ++ [.tup [.str "put", .tup [.int 0, .str ""], o, w], .tup [.str "move", .tup [.int 1, .str "b"], o, .str f]]) ++ [.tup [.str "move", o, o, o]]))
        ((((List.replicate (5 : Int).toNat [.ref n1]).flatten ++ [.ref n2]) ++ [.ref n3])), WT c n b M17 it := by
      have w1 : ∀ x, x = (("take" : String) : Str) ∨ x = (("undo" : String) : Str) → FO (.str x) → WT c n b M17 (.tup [.tup [.str x, o], .ref n1]) := fun x hx fx => ⟨_, _, _, _, rfl, en1', fx, Nat.le_of_ble_eq_true rfl, all_cons ospO all_nil, by rw [words_take' hx, ho17.e], fun hb => by
        subst hb; simp only [List.filter_cons, ho17.st, if_true, List.filter_nil]⟩
      refine all_cons (w1 _ (.inl rfl) take_fo) (all_cons (w1 _ (.inr rfl) undo_fo) (all_cons ?_ (all_cons ?_ (all_cons ?_ (all_cons ?_ (all_cons ?_ all_nil))))))
      · refine ⟨_, _, _, _, rfl, en1', move_fo, Nat.le_of_ble_eq_true rfl, all_cons ospO (all_cons ospR (all_cons ospF all_nil)), by rw [words_move', ho17.e, root_par, field_pla hf]; simp, fun hb => ?_⟩
        subst hb; simp only [List.filter_cons, ho17.st, no_stamp0, nF, if_true, if_false, Bool.false_eq_true, List.filter_nil]
      · refine ⟨_, _, _, _, rfl, en1', put_fo, Nat.le_of_ble_eq_true rfl, all_cons ospO (all_cons ospF (all_cons ospW all_nil)), by rw [words_put', ho17.par, field_pla hf, hw]; simp, fun hb => ?_⟩
        subst hb; simp only [List.filter_cons, ho17.st, nW, nF, if_true, if_false, Bool.false_eq_true, List.filter_nil]
      · refine ⟨_, _, _, _, rfl, en1', put_fo, Nat.le_of_ble_eq_true rfl, all_cons ospR (all_cons ospO (all_cons ospW all_nil)), by rw [words_put', ho17.pla, root_par, hw]; simp, fun hb => ?_⟩
        subst hb; simp only [List.filter_cons, ho17.st, no_stamp0, nW, if_true, if_false, Bool.false_eq_true, List.filter_nil]
      · refine ⟨_, _, _, _, rfl, en2', move_fo, Nat.le_of_ble_eq_true rfl, all_cons ospB (all_cons ospO (all_cons ospF all_nil)), by rw [words_move', ho17.par, one_b h2, field_pla hf]; simp, fun hb => ?_⟩
        subst hb; simp only [List.filter_cons, ho17.st, sB, nF, if_true, if_false, Bool.false_eq_true, List.filter_nil]
      · refine ⟨_, _, _, _, rfl, en3', move_fo, Nat.le_of_ble_eq_true rfl, all_cons ospO (all_cons ospO (all_cons ospO all_nil)), by rw [words_move', ho17.par, ho17.e, ho17.pla]; cases b <;> rfl, fun hb => ?_⟩
        subst hb; simp only [List.filter_cons, ho17.st, if_true, List.filter_nil]; rfl
    refine run_all (fun env M' => (∃ x y, env = [some (.ref p), some (.tup [.int c, .str n]), some (.str f), some o, some (.bl b), some w, some (.ref s2), some (.ref nm), x, y]) ∧ Fr [] M17 M') ⟨⟨_, _, rfl⟩, .refl⟩ (fun d env M18 k2 hd hP next2 => ⟨⟨seq_ref (hP.2 _ _ (by simp) es17), seq_ref (hP.2 _ _ (by simp) e17)⟩, ?_⟩) fun env M18 hP => ⟨⟨seq_ref (hP.2 _ _ (by simp) es17), seq_ref (hP.2 _ _ (by simp) e17)⟩, ?_⟩
    · obtain ⟨⟨_, _, rfl⟩, f18⟩ := hP
      obtain ⟨x, r, nl, ns, rfl, enl, hx, hr, hsp, hwd, hns⟩ := all d hd
      repeat (with_reducible first | refine z_seq ?_ | refine z_ifs ?_ | refine z_ret ?_ | refine z_retN ?_ | refine z_next ?_ | refine z_drop ?_ | refine z_asg ?_ | refine z_par ?_ | refine z_for ?_ | refine z_break ?_ | refine z_cont ?_ | refine z_g0 ?_ | refine z_g1 ?_ | refine z_g2 ?_ | refine z_g3 ?_ | refine z_g4 ?_ | refine z_g5 ?_ | refine z_g6 ?_ | refine z_g7 ?_ | refine z_g8 ?_ | refine z_g9 ?_ | refine z_g10 ?_ | refine z_gc ?_ | refine z_gn ?_ | refine z_gst ?_ | refine z_v0 ?_ | refine z_v1 ?_ | refine z_v2 ?_ | refine z_v3 ?_ | refine z_v4 ?_ | refine z_v5 ?_ | refine z_v6 ?_ | refine z_v7 ?_ | refine z_v8 ?_ | refine z_v9 ?_ | refine z_v10 ?_ | refine z_c ?_ | refine z_op ?_ | refine z_un ?_ | refine z_call ?_ | refine z_callK ?_ | refine z_cons ?_ | refine z_nil ?_ | refine z_tup ?_ | refine z_lst ?_ | refine z_and ?_ | refine z_or ?_ | refine z_not ?_ | refine z_if ?_ | refine z_chain ?_ | refine z_sl ?_ | refine z_nop ?_ | refine z_prt ?_ | refine z_prti ?_ | refine z_mt ?_ | refine z_mstr ?_ | refine z_lc ?_ | refine z_tst ?_ | refine z_tb ?_ | refine z_tru ?_ | refine z_tand ?_ | refine z_tor ?_ | refine z_tnot ?_ | refine z_yes ?_ | refine z_trb ?_ | refine z_trn ?_ | refine z_T ?_ | refine z_F ?_ | refine z_NF ?_ | refine z_NT ?_ | refine z_eqi ?_ | refine z_eqs ?_ | refine z_nei ?_ | refine z_nes ?_ | refine z_le ?_ | refine z_lt ?_ | refine z_gtt ?_ | refine z_ge ?_ | refine z_add ?_ | refine z_sub ?_ | refine z_p15 ?_ | refine z_p30 ?_ | refine z_p18 ?_ | refine z_neg ?_ | refine z_ix0 ?_ | refine z_ix1 ?_ | refine z_ix2 ?_ | refine z_ix3 ?_ | refine z_lent ?_ | refine z_slt ?_ | refine z_lenc ?_ | refine z_inb ?_ | refine z_min ?_ | refine z_max ?_ | refine z_its ?_ | refine z_rng1 ?_ | refine z_dict0 ?_ | refine z_dict ?_ | refine z_wpc ?_ | refine z_wpn ?_ | refine z_list0 ?_ | refine z_gt (by with_unfolding_all rfl) ?_ | refine z_sz (by with_unfolding_all rfl) ?_)
      refine L_right_ok (mk_made (stamp_pl hg) (.inl (.int (by omega))) hx hr fun y hy => ⟨(hsp y hy).1.mono f18, (hsp y hy).2⟩) (by omega) (by rw [deed_w hg (upto_int (by omega) (by omega)), hwd]) (f18 _ _ (by simp) enl) hns fun M19 f19 => ?_
      repeat (with_reducible first | refine z_seq ?_ | refine z_ifs ?_ | refine z_ret ?_ | refine z_retN ?_ | refine z_next ?_ | refine z_drop ?_ | refine z_asg ?_ | refine z_par ?_ | refine z_for ?_ | refine z_break ?_ | refine z_cont ?_ | refine z_g0 ?_ | refine z_g1 ?_ | refine z_g2 ?_ | refine z_g3 ?_ | refine z_g4 ?_ | refine z_g5 ?_ | refine z_g6 ?_ | refine z_g7 ?_ | refine z_g8 ?_ | refine z_g9 ?_ | refine z_g10 ?_ | refine z_gc ?_ | refine z_gn ?_ | refine z_gst ?_ | refine z_v0 ?_ | refine z_v1 ?_ | refine z_v2 ?_ | refine z_v3 ?_ | refine z_v4 ?_ | refine z_v5 ?_ | refine z_v6 ?_ | refine z_v7 ?_ | refine z_v8 ?_ | refine z_v9 ?_ | refine z_v10 ?_ | refine z_c ?_ | refine z_op ?_ | refine z_un ?_ | refine z_call ?_ | refine z_callK ?_ | refine z_cons ?_ | refine z_nil ?_ | refine z_tup ?_ | refine z_lst ?_ | refine z_and ?_ | refine z_or ?_ | refine z_not ?_ | refine z_if ?_ | refine z_chain ?_ | refine z_sl ?_ | refine z_nop ?_ | refine z_prt ?_ | refine z_prti ?_ | refine z_mt ?_ | refine z_mstr ?_ | refine z_lc ?_ | refine z_tst ?_ | refine z_tb ?_ | refine z_tru ?_ | refine z_tand ?_ | refine z_tor ?_ | refine z_tnot ?_ | refine z_yes ?_ | refine z_trb ?_ | refine z_trn ?_ | refine z_T ?_ | refine z_F ?_ | refine z_NF ?_ | refine z_NT ?_ | refine z_eqi ?_ | refine z_eqs ?_ | refine z_nei ?_ | refine z_nes ?_ | refine z_le ?_ | refine z_lt ?_ | refine z_gtt ?_ | refine z_ge ?_ | refine z_add ?_ | refine z_sub ?_ | refine z_p15 ?_ | refine z_p30 ?_ | refine z_p18 ?_ | refine z_neg ?_ | refine z_ix0 ?_ | refine z_ix1 ?_ | refine z_ix2 ?_ | refine z_ix3 ?_ | refine z_lent ?_ | refine z_slt ?_ | refine z_lenc ?_ | refine z_inb ?_ | refine z_min ?_ | refine z_max ?_ | refine z_its ?_ | refine z_rng1 ?_ | refine z_dict0 ?_ | refine z_dict ?_ | refine z_wpc ?_ | refine z_wpn ?_ | refine z_list0 ?_ | refine z_gt (by with_unfolding_all rfl) ?_ | refine z_sz (by with_unfolding_all rfl) ?_)
      exact next2 _ _ ⟨⟨_, _, rfl⟩, f18.trans f19⟩
    · obtain ⟨⟨_, _, rfl⟩, f18⟩ := hP
      exact next _ _ ⟨⟨_, _, _, _, _, _, _, rfl⟩, p17.new f18, (f2.trans F).trans f18.nil⟩
  · obtain ⟨⟨_, _, _, _, _, _, _, rfl⟩, p2, f2⟩ := hP
    repeat (with_reducible first | refine z_seq ?_ | refine z_ifs ?_ | refine z_ret ?_ | refine z_retN ?_ | refine z_next ?_ | refine z_drop ?_ | refine z_asg ?_ | refine z_par ?_ | refine z_for ?_ | refine z_break ?_ | refine z_cont ?_ | refine z_g0 ?_ | refine z_g1 ?_ | refine z_g2 ?_ | refine z_g3 ?_ | refine z_g4 ?_ | refine z_g5 ?_ | refine z_g6 ?_ | refine z_g7 ?_ | refine z_g8 ?_ | refine z_g9 ?_ | refine z_g10 ?_ | refine z_gc ?_ | refine z_gn ?_ | refine z_gst ?_ | refine z_v0 ?_ | refine z_v1 ?_ | refine z_v2 ?_ | refine z_v3 ?_ | refine z_v4 ?_ | refine z_v5 ?_ | refine z_v6 ?_ | refine z_v7 ?_ | refine z_v8 ?_ | refine z_v9 ?_ | refine z_v10 ?_ | refine z_c ?_ | refine z_op ?_ | refine z_un ?_ | refine z_call ?_ | refine z_callK ?_ | refine z_cons ?_ | refine z_nil ?_ | refine z_tup ?_ | refine z_lst ?_ | refine z_and ?_ | refine z_or ?_ | refine z_not ?_ | refine z_if ?_ | refine z_chain ?_ | refine z_sl ?_ | refine z_nop ?_ | refine z_prt ?_ | refine z_prti ?_ | refine z_mt ?_ | refine z_mstr ?_ | refine z_lc ?_ | refine z_tst ?_ | refine z_tb ?_ | refine z_tru ?_ | refine z_tand ?_ | refine z_tor ?_ | refine z_tnot ?_ | refine z_yes ?_ | refine z_trb ?_ | refine z_trn ?_ | refine z_T ?_ | refine z_F ?_ | refine z_NF ?_ | refine z_NT ?_ | refine z_eqi ?_ | refine z_eqs ?_ | refine z_nei ?_ | refine z_nes ?_ | refine z_le ?_ | refine z_lt ?_ | refine z_gtt ?_ | refine z_ge ?_ | refine z_add ?_ | refine z_sub ?_ | refine z_p15 ?_ | refine z_p30 ?_ | refine z_p18 ?_ | refine z_neg ?_ | refine z_ix0 ?_ | refine z_ix1 ?_ | refine z_ix2 ?_ | refine z_ix3 ?_ | refine z_lent ?_ | refine z_slt ?_ | refine z_lenc ?_ | refine z_inb ?_ | refine z_min ?_ | refine z_max ?_ | refine z_its ?_ | refine z_rng1 ?_ | refine z_dict0 ?_ | refine z_dict ?_ | refine z_wpc ?_ | refine z_wpn ?_ | refine z_list0 ?_ | refine z_gt (by with_unfolding_all rfl) ?_ | refine z_sz (by with_unfolding_all rfl) ?_)
    exact q M2 p2 (f1.trans f2)
end L2.Dl.G

namespace L2.Dl.G
open PySem PySem.Spec PyProof.Rows
theorem deed_nb {b w : D} {c : Int} {n : Str} (hb : uptoD c b = false) : deedD (.tup [.tup [.int c, .str n], b, w]) = false := by
  show (isStampD (.tup [.int c, .str n]) && (uptoD c b && wordsD c n w)) = _
  rw [hb, Bool.false_and, Bool.and_false]
theorem upto_eq {c i : Int} : uptoD c (.int i) = (decide (0 ≤ i) && decide (i < c)) := rfl
theorem seen_nst {d : D} (h : FO d) : isStampD d = false := by
  cases d with
  | tup ds => exact h.notup.elim
  | _ => rfl
theorem L_first_right_ok {n f : Str} {M : Mp} {Q : DQ} (hn : nameB n = true) (hf : fieldB f = true) (q : ∀ M', Fr [] M M' → Q (.bl true) M') : W_L_first_right [.str n, .str f] M Q := by
  have hf : isFieldD (.str f) = true := hf
  have ff := field_fo hf
  have hg : GoodS 1 n := one_good hn
  have ps := stamp_pl hg
  have nF := field_nst hf
  unfold W_L_first_right; refine z_d82 ?_; repeat (with_reducible first | refine z_seq ?_ | refine z_ifs ?_ | refine z_ret ?_ | refine z_retN ?_ | refine z_next ?_ | refine z_drop ?_ | refine z_asg ?_ | refine z_par ?_ | refine z_for ?_ | refine z_break ?_ | refine z_cont ?_ | refine z_g0 ?_ | refine z_g1 ?_ | refine z_g2 ?_ | refine z_g3 ?_ | refine z_g4 ?_ | refine z_g5 ?_ | refine z_g6 ?_ | refine z_g7 ?_ | refine z_g8 ?_ | refine z_g9 ?_ | refine z_g10 ?_ | refine z_gc ?_ | refine z_gn ?_ | refine z_gst ?_ | refine z_v0 ?_ | refine z_v1 ?_ | refine z_v2 ?_ | refine z_v3 ?_ | refine z_v4 ?_ | refine z_v5 ?_ | refine z_v6 ?_ | refine z_v7 ?_ | refine z_v8 ?_ | refine z_v9 ?_ | refine z_v10 ?_ | refine z_c ?_ | refine z_op ?_ | refine z_un ?_ | refine z_call ?_ | refine z_callK ?_ | refine z_cons ?_ | refine z_nil ?_ | refine z_tup ?_ | refine z_lst ?_ | refine z_and ?_ | refine z_or ?_ | refine z_not ?_ | refine z_if ?_ | refine z_chain ?_ | refine z_sl ?_ | refine z_nop ?_ | refine z_prt ?_ | refine z_prti ?_ | refine z_mt ?_ | refine z_mstr ?_ | refine z_lc ?_ | refine z_tst ?_ | refine z_tb ?_ | refine z_tru ?_ | refine z_tand ?_ | refine z_tor ?_ | refine z_tnot ?_ | refine z_yes ?_ | refine z_trb ?_ | refine z_trn ?_ | refine z_T ?_ | refine z_F ?_ | refine z_NF ?_ | refine z_NT ?_ | refine z_eqi ?_ | refine z_eqs ?_ | refine z_nei ?_ | refine z_nes ?_ | refine z_le ?_ | refine z_lt ?_ | refine z_gtt ?_ | refine z_ge ?_ | refine z_add ?_ | refine z_sub ?_ | refine z_p15 ?_ | refine z_p30 ?_ | refine z_p18 ?_ | refine z_neg ?_ | refine z_ix0 ?_ | refine z_ix1 ?_ | refine z_ix2 ?_ | refine z_ix3 ?_ | refine z_lent ?_ | refine z_slt ?_ | refine z_lenc ?_ | refine z_inb ?_ | refine z_min ?_ | refine z_max ?_ | refine z_its ?_ | refine z_rng1 ?_ | refine z_dict0 ?_ | refine z_dict ?_ | refine z_wpc ?_ | refine z_wpn ?_ | refine z_list0 ?_ | refine z_gt (by with_unfolding_all rfl) ?_ | refine z_sz (by with_unfolding_all rfl) ?_)
  refine fun a1 M1 ha1 ea1 fa1 => ?_
  repeat (with_reducible first | refine z_seq ?_ | refine z_ifs ?_ | refine z_ret ?_ | refine z_retN ?_ | refine z_next ?_ | refine z_drop ?_ | refine z_asg ?_ | refine z_par ?_ | refine z_for ?_ | refine z_break ?_ | refine z_cont ?_ | refine z_g0 ?_ | refine z_g1 ?_ | refine z_g2 ?_ | refine z_g3 ?_ | refine z_g4 ?_ | refine z_g5 ?_ | refine z_g6 ?_ | refine z_g7 ?_ | refine z_g8 ?_ | refine z_g9 ?_ | refine z_g10 ?_ | refine z_gc ?_ | refine z_gn ?_ | refine z_gst ?_ | refine z_v0 ?_ | refine z_v1 ?_ | refine z_v2 ?_ | refine z_v3 ?_ | refine z_v4 ?_ | refine z_v5 ?_ | refine z_v6 ?_ | refine z_v7 ?_ | refine z_v8 ?_ | refine z_v9 ?_ | refine z_v10 ?_ | refine z_c ?_ | refine z_op ?_ | refine z_un ?_ | refine z_call ?_ | refine z_callK ?_ | refine z_cons ?_ | refine z_nil ?_ | refine z_tup ?_ | refine z_lst ?_ | refine z_and ?_ | refine z_or ?_ | refine z_not ?_ | refine z_if ?_ | refine z_chain ?_ | refine z_sl ?_ | refine z_nop ?_ | refine z_prt ?_ | refine z_prti ?_ | refine z_mt ?_ | refine z_mstr ?_ | refine z_lc ?_ | refine z_tst ?_ | refine z_tb ?_ | refine z_tru ?_ | refine z_tand ?_ | refine z_tor ?_ | refine z_tnot ?_ | refine z_yes ?_ | refine z_trb ?_ | refine z_trn ?_ | refine z_T ?_ | refine z_F ?_ | refine z_NF ?_ | refine z_NT ?_ | refine z_eqi ?_ | refine z_eqs ?_ | refine z_nei ?_ | refine z_nes ?_ | refine z_le ?_ | refine z_lt ?_ | refine z_gtt ?_ | refine z_ge ?_ | refine z_add ?_ | refine z_sub ?_ | refine z_p15 ?_ | refine z_p30 ?_ | refine z_p18 ?_ | refine z_neg ?_ | refine z_ix0 ?_ | refine z_ix1 ?_ | refine z_ix2 ?_ | refine z_ix3 ?_ | refine z_lent ?_ | refine z_slt ?_ | refine z_lenc ?_ | refine z_inb ?_ | refine z_min ?_ | refine z_max ?_ | refine z_its ?_ | refine z_rng1 ?_ | refine z_dict0 ?_ | refine z_dict ?_ | refine z_wpc ?_ | refine z_wpn ?_ | refine z_list0 ?_ | refine z_gt (by with_unfolding_all rfl) ?_ | refine z_sz (by with_unfolding_all rfl) ?_)
  refine fun a2 M2 ha2 ea2 fa2 => ?_
  repeat (with_reducible first | refine z_seq ?_ | refine z_ifs ?_ | refine z_ret ?_ | refine z_retN ?_ | refine z_next ?_ | refine z_drop ?_ | refine z_asg ?_ | refine z_par ?_ | refine z_for ?_ | refine z_break ?_ | refine z_cont ?_ | refine z_g0 ?_ | refine z_g1 ?_ | refine z_g2 ?_ | refine z_g3 ?_ | refine z_g4 ?_ | refine z_g5 ?_ | refine z_g6 ?_ | refine z_g7 ?_ | refine z_g8 ?_ | refine z_g9 ?_ | refine z_g10 ?_ | refine z_gc ?_ | refine z_gn ?_ | refine z_gst ?_ | refine z_v0 ?_ | refine z_v1 ?_ | refine z_v2 ?_ | refine z_v3 ?_ | refine z_v4 ?_ | refine z_v5 ?_ | refine z_v6 ?_ | refine z_v7 ?_ | refine z_v8 ?_ | refine z_v9 ?_ | refine z_v10 ?_ | refine z_c ?_ | refine z_op ?_ | refine z_un ?_ | refine z_call ?_ | refine z_callK ?_ | refine z_cons ?_ | refine z_nil ?_ | refine z_tup ?_ | refine z_lst ?_ | refine z_and ?_ | refine z_or ?_ | refine z_not ?_ | refine z_if ?_ | refine z_chain ?_ | refine z_sl ?_ | refine z_nop ?_ | refine z_prt ?_ | refine z_prti ?_ | refine z_mt ?_ | refine z_mstr ?_ | refine z_lc ?_ | refine z_tst ?_ | refine z_tb ?_ | refine z_tru ?_ | refine z_tand ?_ | refine z_tor ?_ | refine z_tnot ?_ | refine z_yes ?_ | refine z_trb ?_ | refine z_trn ?_ | refine z_T ?_ | refine z_F ?_ | refine z_NF ?_ | refine z_NT ?_ | refine z_eqi ?_ | refine z_eqs ?_ | refine z_nei ?_ | refine z_nes ?_ | refine z_le ?_ | refine z_lt ?_ | refine z_gtt ?_ | refine z_ge ?_ | refine z_add ?_ | refine z_sub ?_ | refine z_p15 ?_ | refine z_p30 ?_ | refine z_p18 ?_ | refine z_neg ?_ | refine z_ix0 ?_ | refine z_ix1 ?_ | refine z_ix2 ?_ | refine z_ix3 ?_ | refine z_lent ?_ | refine z_slt ?_ | refine z_lenc ?_ | refine z_inb ?_ | refine z_min ?_ | refine z_max ?_ | refine z_its ?_ | refine z_rng1 ?_ | refine z_dict0 ?_ | refine z_dict ?_ | refine z_wpc ?_ | refine z_wpn ?_ | refine z_list0 ?_ | refine z_gt (by with_unfolding_all rfl) ?_ | refine z_sz (by with_unfolding_all rfl) ?_)
  refine fun a3 M3 ha3 ea3 fa3 => ?_
  repeat (with_reducible first | refine z_seq ?_ | refine z_ifs ?_ | refine z_ret ?_ | refine z_retN ?_ | refine z_next ?_ | refine z_drop ?_ | refine z_asg ?_ | refine z_par ?_ | refine z_for ?_ | refine z_break ?_ | refine z_cont ?_ | refine z_g0 ?_ | refine z_g1 ?_ | refine z_g2 ?_ | refine z_g3 ?_ | refine z_g4 ?_ | refine z_g5 ?_ | refine z_g6 ?_ | refine z_g7 ?_ | refine z_g8 ?_ | refine z_g9 ?_ | refine z_g10 ?_ | refine z_gc ?_ | refine z_gn ?_ | refine z_gst ?_ | refine z_v0 ?_ | refine z_v1 ?_ | refine z_v2 ?_ | refine z_v3 ?_ | refine z_v4 ?_ | refine z_v5 ?_ | refine z_v6 ?_ | refine z_v7 ?_ | refine z_v8 ?_ | refine z_v9 ?_ | refine z_v10 ?_ | refine z_c ?_ | refine z_op ?_ | refine z_un ?_ | refine z_call ?_ | refine z_callK ?_ | refine z_cons ?_ | refine z_nil ?_ | refine z_tup ?_ | refine z_lst ?_ | refine z_and ?_ | refine z_or ?_ | refine z_not ?_ | refine z_if ?_ | refine z_chain ?_ | refine z_sl ?_ | refine z_nop ?_ | refine z_prt ?_ | refine z_prti ?_ | refine z_mt ?_ | refine z_mstr ?_ | refine z_lc ?_ | refine z_tst ?_ | refine z_tb ?_ | refine z_tru ?_ | refine z_tand ?_ | refine z_tor ?_ | refine z_tnot ?_ | refine z_yes ?_ | refine z_trb ?_ | refine z_trn ?_ | refine z_T ?_ | refine z_F ?_ | refine z_NF ?_ | refine z_NT ?_ | refine z_eqi ?_ | refine z_eqs ?_ | refine z_nei ?_ | refine z_nes ?_ | refine z_le ?_ | refine z_lt ?_ | refine z_gtt ?_ | refine z_ge ?_ | refine z_add ?_ | refine z_sub ?_ | refine z_p15 ?_ | refine z_p30 ?_ | refine z_p18 ?_ | refine z_neg ?_ | refine z_ix0 ?_ | refine z_ix1 ?_ | refine z_ix2 ?_ | refine z_ix3 ?_ | refine z_lent ?_ | refine z_slt ?_ | refine z_lenc ?_ | refine z_inb ?_ | refine z_min ?_ | refine z_max ?_ | refine z_its ?_ | refine z_rng1 ?_ | refine z_dict0 ?_ | refine z_dict ?_ | refine z_wpc ?_ | refine z_wpn ?_ | refine z_list0 ?_ | refine z_gt (by with_unfolding_all rfl) ?_ | refine z_sz (by with_unfolding_all rfl) ?_)
  refine fun l M4 hl el fl => ?_
  refine z_itl el ?_
  have e1 := fl _ _ (by simp) (fa3 _ _ (by simp) (fa2 _ _ (by simp) ea1))
  have e2 := fl _ _ (by simp) (fa3 _ _ (by simp) ea2)
  have e3 := fl _ _ (by simp) ea3
  have F4 : Fr [] M M4 := ((fa1.trans fa2).trans fa3).trans fl
  have all : ∀ it ∈ ([.tup [.tup [.str "seen", .int 0], .bl true, .ref a1], .tup [.tup [.str "seen", .int 1], .bl false, .ref a2], .tup [.tup [.str "take", .tup [.int 0, .str ""]], .bl false, .ref a3]] : List D),
      ∃ x r b nl, it = .tup [.tup (.str x :: r), .bl b, .ref nl] ∧ M4 nl = some (.lst []) ∧ FO (.str x) ∧ r.length ≤ 3 ∧ (∀ y ∈ r, Plain y) ∧ wordsD 1 n (.tup (.str x :: r)) = b ∧ (b = true → r.filter isStampD = []) := by
    refine all_cons ⟨_, _, _, _, rfl, e1, seen_fo, Nat.le_of_ble_eq_true rfl, all_cons (.inl (.int (by decide))) all_nil, ?_, fun _ => rfl⟩ (all_cons ⟨_, _, _, _, rfl, e2, seen_fo, Nat.le_of_ble_eq_true rfl, all_cons (.inl (.int (by decide))) all_nil, ?_, fun h => by cases h⟩ (all_cons ⟨_, _, _, _, rfl, e3, take_fo, Nat.le_of_ble_eq_true rfl, all_cons root_pl all_nil, ?_, fun h => by cases h⟩ all_nil))
    · rw [words_seen', upto_eq]; rfl
    · rw [words_seen', upto_eq]; rfl
    · rw [words_take' (.inl rfl), earl_ni (by decide)]
  refine run_all (fun env M' => (∃ s a b c, env = [some (.str n), some (.str f), s, some (.tup [.int 1, .str n]), some (.tup [.int 1, .str "a"]), a, b, c]) ∧ Fr [] M4 M') ⟨⟨_, _, _, _, rfl⟩, .refl⟩ (fun d env M5 k hd hP next => ⟨hP.2 _ _ (by simp) el, ?_⟩) fun env M5 hP => ⟨hP.2 _ _ (by simp) el, ?_⟩
  · obtain ⟨⟨_, _, _, _, rfl⟩, f5⟩ := hP
    obtain ⟨x, r, b, nl, rfl, enl, hx, hr, hpl, hw, hns⟩ := all d hd
    repeat (with_reducible first | refine z_seq ?_ | refine z_ifs ?_ | refine z_ret ?_ | refine z_retN ?_ | refine z_next ?_ | refine z_drop ?_ | refine z_asg ?_ | refine z_par ?_ | refine z_for ?_ | refine z_break ?_ | refine z_cont ?_ | refine z_g0 ?_ | refine z_g1 ?_ | refine z_g2 ?_ | refine z_g3 ?_ | refine z_g4 ?_ | refine z_g5 ?_ | refine z_g6 ?_ | refine z_g7 ?_ | refine z_g8 ?_ | refine z_g9 ?_ | refine z_g10 ?_ | refine z_gc ?_ | refine z_gn ?_ | refine z_gst ?_ | refine z_v0 ?_ | refine z_v1 ?_ | refine z_v2 ?_ | refine z_v3 ?_ | refine z_v4 ?_ | refine z_v5 ?_ | refine z_v6 ?_ | refine z_v7 ?_ | refine z_v8 ?_ | refine z_v9 ?_ | refine z_v10 ?_ | refine z_c ?_ | refine z_op ?_ | refine z_un ?_ | refine z_call ?_ | refine z_callK ?_ | refine z_cons ?_ | refine z_nil ?_ | refine z_tup ?_ | refine z_lst ?_ | refine z_and ?_ | refine z_or ?_ | refine z_not ?_ | refine z_if ?_ | refine z_chain ?_ | refine z_sl ?_ | refine z_nop ?_ | refine z_prt ?_ | refine z_prti ?_ | refine z_mt ?_ | refine z_mstr ?_ | refine z_lc ?_ | refine z_tst ?_ | refine z_tb ?_ | refine z_tru ?_ | refine z_tand ?_ | refine z_tor ?_ | refine z_tnot ?_ | refine z_yes ?_ | refine z_trb ?_ | refine z_trn ?_ | refine z_T ?_ | refine z_F ?_ | refine z_NF ?_ | refine z_NT ?_ | refine z_eqi ?_ | refine z_eqs ?_ | refine z_nei ?_ | refine z_nes ?_ | refine z_le ?_ | refine z_lt ?_ | refine z_gtt ?_ | refine z_ge ?_ | refine z_add ?_ | refine z_sub ?_ | refine z_p15 ?_ | refine z_p30 ?_ | refine z_p18 ?_ | refine z_neg ?_ | refine z_ix0 ?_ | refine z_ix1 ?_ | refine z_ix2 ?_ | refine z_ix3 ?_ | refine z_lent ?_ | refine z_slt ?_ | refine z_lenc ?_ | refine z_inb ?_ | refine z_min ?_ | refine z_max ?_ | refine z_its ?_ | refine z_rng1 ?_ | refine z_dict0 ?_ | refine z_dict ?_ | refine z_wpc ?_ | refine z_wpn ?_ | refine z_list0 ?_ | refine z_gt (by with_unfolding_all rfl) ?_ | refine z_sz (by with_unfolding_all rfl) ?_)
    refine L_right_ok (mk_made ps (.inl (.int (by decide))) hx hr fun y hy => plain_sp (hpl y hy)) (by omega) (by rw [deed_w hg (by rw [upto_eq]; rfl), hw]) (f5 _ _ (by simp) enl) hns fun M6 f6 => ?_
    repeat (with_reducible first | refine z_seq ?_ | refine z_ifs ?_ | refine z_ret ?_ | refine z_retN ?_ | refine z_next ?_ | refine z_drop ?_ | refine z_asg ?_ | refine z_par ?_ | refine z_for ?_ | refine z_break ?_ | refine z_cont ?_ | refine z_g0 ?_ | refine z_g1 ?_ | refine z_g2 ?_ | refine z_g3 ?_ | refine z_g4 ?_ | refine z_g5 ?_ | refine z_g6 ?_ | refine z_g7 ?_ | refine z_g8 ?_ | refine z_g9 ?_ | refine z_g10 ?_ | refine z_gc ?_ | refine z_gn ?_ | refine z_gst ?_ | refine z_v0 ?_ | refine z_v1 ?_ | refine z_v2 ?_ | refine z_v3 ?_ | refine z_v4 ?_ | refine z_v5 ?_ | refine z_v6 ?_ | refine z_v7 ?_ | refine z_v8 ?_ | refine z_v9 ?_ | refine z_v10 ?_ | refine z_c ?_ | refine z_op ?_ | refine z_un ?_ | refine z_call ?_ | refine z_callK ?_ | refine z_cons ?_ | refine z_nil ?_ | refine z_tup ?_ | refine z_lst ?_ | refine z_and ?_ | refine z_or ?_ | refine z_not ?_ | refine z_if ?_ | refine z_chain ?_ | refine z_sl ?_ | refine z_nop ?_ | refine z_prt ?_ | refine z_prti ?_ | refine z_mt ?_ | refine z_mstr ?_ | refine z_lc ?_ | refine z_tst ?_ | refine z_tb ?_ | refine z_tru ?_ | refine z_tand ?_ | refine z_tor ?_ | refine z_tnot ?_ | refine z_yes ?_ | refine z_trb ?_ | refine z_trn ?_ | refine z_T ?_ | refine z_F ?_ | refine z_NF ?_ | refine z_NT ?_ | refine z_eqi ?_ | refine z_eqs ?_ | refine z_nei ?_ | refine z_nes ?_ | refine z_le ?_ | refine z_lt ?_ | refine z_gtt ?_ | refine z_ge ?_ | refine z_add ?_ | refine z_sub ?_ | refine z_p15 ?_ | refine z_p30 ?_ | refine z_p18 ?_ | refine z_neg ?_ | refine z_ix0 ?_ | refine z_ix1 ?_ | refine z_ix2 ?_ | refine z_ix3 ?_ | refine z_lent ?_ | refine z_slt ?_ | refine z_lenc ?_ | refine z_inb ?_ | refine z_min ?_ | refine z_max ?_ | refine z_its ?_ | refine z_rng1 ?_ | refine z_dict0 ?_ | refine z_dict ?_ | refine z_wpc ?_ | refine z_wpn ?_ | refine z_list0 ?_ | refine z_gt (by with_unfolding_all rfl) ?_ | refine z_sz (by with_unfolding_all rfl) ?_)
    refine fun z M7 hz ez fz => ?_
    repeat (with_reducible first | refine z_seq ?_ | refine z_ifs ?_ | refine z_ret ?_ | refine z_retN ?_ | refine z_next ?_ | refine z_drop ?_ | refine z_asg ?_ | refine z_par ?_ | refine z_for ?_ | refine z_break ?_ | refine z_cont ?_ | refine z_g0 ?_ | refine z_g1 ?_ | refine z_g2 ?_ | refine z_g3 ?_ | refine z_g4 ?_ | refine z_g5 ?_ | refine z_g6 ?_ | refine z_g7 ?_ | refine z_g8 ?_ | refine z_g9 ?_ | refine z_g10 ?_ | refine z_gc ?_ | refine z_gn ?_ | refine z_gst ?_ | refine z_v0 ?_ | refine z_v1 ?_ | refine z_v2 ?_ | refine z_v3 ?_ | refine z_v4 ?_ | refine z_v5 ?_ | refine z_v6 ?_ | refine z_v7 ?_ | refine z_v8 ?_ | refine z_v9 ?_ | refine z_v10 ?_ | refine z_c ?_ | refine z_op ?_ | refine z_un ?_ | refine z_call ?_ | refine z_callK ?_ | refine z_cons ?_ | refine z_nil ?_ | refine z_tup ?_ | refine z_lst ?_ | refine z_and ?_ | refine z_or ?_ | refine z_not ?_ | refine z_if ?_ | refine z_chain ?_ | refine z_sl ?_ | refine z_nop ?_ | refine z_prt ?_ | refine z_prti ?_ | refine z_mt ?_ | refine z_mstr ?_ | refine z_lc ?_ | refine z_tst ?_ | refine z_tb ?_ | refine z_tru ?_ | refine z_tand ?_ | refine z_tor ?_ | refine z_tnot ?_ | refine z_yes ?_ | refine z_trb ?_ | refine z_trn ?_ | refine z_T ?_ | refine z_F ?_ | refine z_NF ?_ | refine z_NT ?_ | refine z_eqi ?_ | refine z_eqs ?_ | refine z_nei ?_ | refine z_nes ?_ | refine z_le ?_ | refine z_lt ?_ | refine z_gtt ?_ | refine z_ge ?_ | refine z_add ?_ | refine z_sub ?_ | refine z_p15 ?_ | refine z_p30 ?_ | refine z_p18 ?_ | refine z_neg ?_ | refine z_ix0 ?_ | refine z_ix1 ?_ | refine z_ix2 ?_ | refine z_ix3 ?_ | refine z_lent ?_ | refine z_slt ?_ | refine z_lenc ?_ | refine z_inb ?_ | refine z_min ?_ | refine z_max ?_ | refine z_its ?_ | refine z_rng1 ?_ | refine z_dict0 ?_ | refine z_dict ?_ | refine z_wpc ?_ | refine z_wpn ?_ | refine z_list0 ?_ | refine z_gt (by with_unfolding_all rfl) ?_ | refine z_sz (by with_unfolding_all rfl) ?_)
    refine L_right_ok (mk_made ps (.inl (.int (by decide))) hx hr fun y hy => plain_sp (hpl y hy)) (by omega) (deed_nb (by rw [upto_eq]; rfl)) ez (fun h => by cases h) fun M8 f8 => ?_
    repeat (with_reducible first | refine z_seq ?_ | refine z_ifs ?_ | refine z_ret ?_ | refine z_retN ?_ | refine z_next ?_ | refine z_drop ?_ | refine z_asg ?_ | refine z_par ?_ | refine z_for ?_ | refine z_break ?_ | refine z_cont ?_ | refine z_g0 ?_ | refine z_g1 ?_ | refine z_g2 ?_ | refine z_g3 ?_ | refine z_g4 ?_ | refine z_g5 ?_ | refine z_g6 ?_ | refine z_g7 ?_ | refine z_g8 ?_ | refine z_g9 ?_ | refine z_g10 ?_ | refine z_gc ?_ | refine z_gn ?_ | refine z_gst ?_ | refine z_v0 ?_ | refine z_v1 ?_ | refine z_v2 ?_ | refine z_v3 ?_ | refine z_v4 ?_ | refine z_v5 ?_ | refine z_v6 ?_ | refine z_v7 ?_ | refine z_v8 ?_ | refine z_v9 ?_ | refine z_v10 ?_ | refine z_c ?_ | refine z_op ?_ | refine z_un ?_ | refine z_call ?_ | refine z_callK ?_ | refine z_cons ?_ | refine z_nil ?_ | refine z_tup ?_ | refine z_lst ?_ | refine z_and ?_ | refine z_or ?_ | refine z_not ?_ | refine z_if ?_ | refine z_chain ?_ | refine z_sl ?_ | refine z_nop ?_ | refine z_prt ?_ | refine z_prti ?_ | refine z_mt ?_ | refine z_mstr ?_ | refine z_lc ?_ | refine z_tst ?_ | refine z_tb ?_ | refine z_tru ?_ | refine z_tand ?_ | refine z_tor ?_ | refine z_tnot ?_ | refine z_yes ?_ | refine z_trb ?_ | refine z_trn ?_ | refine z_T ?_ | refine z_F ?_ | refine z_NF ?_ | refine z_NT ?_ | refine z_eqi ?_ | refine z_eqs ?_ | refine z_nei ?_ | refine z_nes ?_ | refine z_le ?_ | refine z_lt ?_ | refine z_gtt ?_ | refine z_ge ?_ | refine z_add ?_ | refine z_sub ?_ | refine z_p15 ?_ | refine z_p30 ?_ | refine z_p18 ?_ | refine z_neg ?_ | refine z_ix0 ?_ | refine z_ix1 ?_ | refine z_ix2 ?_ | refine z_ix3 ?_ | refine z_lent ?_ | refine z_slt ?_ | refine z_lenc ?_ | refine z_inb ?_ | refine z_min ?_ | refine z_max ?_ | refine z_its ?_ | refine z_rng1 ?_ | refine z_dict0 ?_ | refine z_dict ?_ | refine z_wpc ?_ | refine z_wpn ?_ | refine z_list0 ?_ | refine z_gt (by with_unfolding_all rfl) ?_ | refine z_sz (by with_unfolding_all rfl) ?_)
    exact next _ _ ⟨⟨_, _, _, _, rfl⟩, ((f5.trans f6).trans fz).trans f8⟩
  · obtain ⟨⟨_, _, _, _, rfl⟩, f5⟩ := hP
    repeat (with_reducible first | refine z_seq ?_ | refine z_ifs ?_ | refine z_ret ?_ | refine z_retN ?_ | refine z_next ?_ | refine z_drop ?_ | refine z_asg ?_ | refine z_par ?_ | refine z_for ?_ | refine z_break ?_ | refine z_cont ?_ | refine z_g0 ?_ | refine z_g1 ?_ | refine z_g2 ?_ | refine z_g3 ?_ | refine z_g4 ?_ | refine z_g5 ?_ | refine z_g6 ?_ | refine z_g7 ?_ | refine z_g8 ?_ | refine z_g9 ?_ | refine z_g10 ?_ | refine z_gc ?_ | refine z_gn ?_ | refine z_gst ?_ | refine z_v0 ?_ | refine z_v1 ?_ | refine z_v2 ?_ | refine z_v3 ?_ | refine z_v4 ?_ | refine z_v5 ?_ | refine z_v6 ?_ | refine z_v7 ?_ | refine z_v8 ?_ | refine z_v9 ?_ | refine z_v10 ?_ | refine z_c ?_ | refine z_op ?_ | refine z_un ?_ | refine z_call ?_ | refine z_callK ?_ | refine z_cons ?_ | refine z_nil ?_ | refine z_tup ?_ | refine z_lst ?_ | refine z_and ?_ | refine z_or ?_ | refine z_not ?_ | refine z_if ?_ | refine z_chain ?_ | refine z_sl ?_ | refine z_nop ?_ | refine z_prt ?_ | refine z_prti ?_ | refine z_mt ?_ | refine z_mstr ?_ | refine z_lc ?_ | refine z_tst ?_ | refine z_tb ?_ | refine z_tru ?_ | refine z_tand ?_ | refine z_tor ?_ | refine z_tnot ?_ | refine z_yes ?_ | refine z_trb ?_ | refine z_trn ?_ | refine z_T ?_ | refine z_F ?_ | refine z_NF ?_ | refine z_NT ?_ | refine z_eqi ?_ | refine z_eqs ?_ | refine z_nei ?_ | refine z_nes ?_ | refine z_le ?_ | refine z_lt ?_ | refine z_gtt ?_ | refine z_ge ?_ | refine z_add ?_ | refine z_sub ?_ | refine z_p15 ?_ | refine z_p30 ?_ | refine z_p18 ?_ | refine z_neg ?_ | refine z_ix0 ?_ | refine z_ix1 ?_ | refine z_ix2 ?_ | refine z_ix3 ?_ | refine z_lent ?_ | refine z_slt ?_ | refine z_lenc ?_ | refine z_inb ?_ | refine z_min ?_ | refine z_max ?_ | refine z_its ?_ | refine z_rng1 ?_ | refine z_dict0 ?_ | refine z_dict ?_ | refine z_wpc ?_ | refine z_wpn ?_ | refine z_list0 ?_ | refine z_gt (by with_unfolding_all rfl) ?_ | refine z_sz (by with_unfolding_all rfl) ?_)
    refine fun s M6 hs es fs => ?_
    repeat (with_reducible first | refine z_seq ?_ | refine z_ifs ?_ | refine z_ret ?_ | refine z_retN ?_ | refine z_next ?_ | refine z_drop ?_ | refine z_asg ?_ | refine z_par ?_ | refine z_for ?_ | refine z_break ?_ | refine z_cont ?_ | refine z_g0 ?_ | refine z_g1 ?_ | refine z_g2 ?_ | refine z_g3 ?_ | refine z_g4 ?_ | refine z_g5 ?_ | refine z_g6 ?_ | refine z_g7 ?_ | refine z_g8 ?_ | refine z_g9 ?_ | refine z_g10 ?_ | refine z_gc ?_ | refine z_gn ?_ | refine z_gst ?_ | refine z_v0 ?_ | refine z_v1 ?_ | refine z_v2 ?_ | refine z_v3 ?_ | refine z_v4 ?_ | refine z_v5 ?_ | refine z_v6 ?_ | refine z_v7 ?_ | refine z_v8 ?_ | refine z_v9 ?_ | refine z_v10 ?_ | refine z_c ?_ | refine z_op ?_ | refine z_un ?_ | refine z_call ?_ | refine z_callK ?_ | refine z_cons ?_ | refine z_nil ?_ | refine z_tup ?_ | refine z_lst ?_ | refine z_and ?_ | refine z_or ?_ | refine z_not ?_ | refine z_if ?_ | refine z_chain ?_ | refine z_sl ?_ | refine z_nop ?_ | refine z_prt ?_ | refine z_prti ?_ | refine z_mt ?_ | refine z_mstr ?_ | refine z_lc ?_ | refine z_tst ?_ | refine z_tb ?_ | refine z_tru ?_ | refine z_tand ?_ | refine z_tor ?_ | refine z_tnot ?_ | refine z_yes ?_ | refine z_trb ?_ | refine z_trn ?_ | refine z_T ?_ | refine z_F ?_ | refine z_NF ?_ | refine z_NT ?_ | refine z_eqi ?_ | refine z_eqs ?_ | refine z_nei ?_ | refine z_nes ?_ | refine z_le ?_ | refine z_lt ?_ | refine z_gtt ?_ | refine z_ge ?_ | refine z_add ?_ | refine z_sub ?_ | refine z_p15 ?_ | refine z_p30 ?_ | refine z_p18 ?_ | refine z_neg ?_ | refine z_ix0 ?_ | refine z_ix1 ?_ | refine z_ix2 ?_ | refine z_ix3 ?_ | refine z_lent ?_ | refine z_slt ?_ | refine z_lenc ?_ | refine z_inb ?_ | refine z_min ?_ | refine z_max ?_ | refine z_its ?_ | refine z_rng1 ?_ | refine z_dict0 ?_ | refine z_dict ?_ | refine z_wpc ?_ | refine z_wpn ?_ | refine z_list0 ?_ | refine z_gt (by with_unfolding_all rfl) ?_ | refine z_sz (by with_unfolding_all rfl) ?_)
    refine z_ml es ?_
    repeat (with_reducible first | refine z_seq ?_ | refine z_ifs ?_ | refine z_ret ?_ | refine z_retN ?_ | refine z_next ?_ | refine z_drop ?_ | refine z_asg ?_ | refine z_par ?_ | refine z_for ?_ | refine z_break ?_ | refine z_cont ?_ | refine z_g0 ?_ | refine z_g1 ?_ | refine z_g2 ?_ | refine z_g3 ?_ | refine z_g4 ?_ | refine z_g5 ?_ | refine z_g6 ?_ | refine z_g7 ?_ | refine z_g8 ?_ | refine z_g9 ?_ | refine z_g10 ?_ | refine z_gc ?_ | refine z_gn ?_ | refine z_gst ?_ | refine z_v0 ?_ | refine z_v1 ?_ | refine z_v2 ?_ | refine z_v3 ?_ | refine z_v4 ?_ | refine z_v5 ?_ | refine z_v6 ?_ | refine z_v7 ?_ | refine z_v8 ?_ | refine z_v9 ?_ | refine z_v10 ?_ | refine z_c ?_ | refine z_op ?_ | refine z_un ?_ | refine z_call ?_ | refine z_callK ?_ | refine z_cons ?_ | refine z_nil ?_ | refine z_tup ?_ | refine z_lst ?_ | refine z_and ?_ | refine z_or ?_ | refine z_not ?_ | refine z_if ?_ | refine z_chain ?_ | refine z_sl ?_ | refine z_nop ?_ | refine z_prt ?_ | refine z_prti ?_ | refine z_mt ?_ | refine z_mstr ?_ | refine z_lc ?_ | refine z_tst ?_ | refine z_tb ?_ | refine z_tru ?_ | refine z_tand ?_ | refine z_tor ?_ | refine z_tnot ?_ | refine z_yes ?_ | refine z_trb ?_ | refine z_trn ?_ | refine z_T ?_ | refine z_F ?_ | refine z_NF ?_ | refine z_NT ?_ | refine z_eqi ?_ | refine z_eqs ?_ | refine z_nei ?_ | refine z_nes ?_ | refine z_le ?_ | refine z_lt ?_ | refine z_gtt ?_ | refine z_ge ?_ | refine z_add ?_ | refine z_sub ?_ | refine z_p15 ?_ | refine z_p30 ?_ | refine z_p18 ?_ | refine z_neg ?_ | refine z_ix0 ?_ | refine z_ix1 ?_ | refine z_ix2 ?_ | refine z_ix3 ?_ | refine z_lent ?_ | refine z_slt ?_ | refine z_lenc ?_ | refine z_inb ?_ | refine z_min ?_ | refine z_max ?_ | refine z_its ?_ | refine z_rng1 ?_ | refine z_dict0 ?_ | refine z_dict ?_ | refine z_wpc ?_ | refine z_wpn ?_ | refine z_list0 ?_ | refine z_gt (by with_unfolding_all rfl) ?_ | refine z_sz (by with_unfolding_all rfl) ?_)
    refine z_ap es (Nat.le_of_ble_eq_true rfl) fun M7 e7 f7 => ?_
    repeat (with_reducible first | refine z_seq ?_ | refine z_ifs ?_ | refine z_ret ?_ | refine z_retN ?_ | refine z_next ?_ | refine z_drop ?_ | refine z_asg ?_ | refine z_par ?_ | refine z_for ?_ | refine z_break ?_ | refine z_cont ?_ | refine z_g0 ?_ | refine z_g1 ?_ | refine z_g2 ?_ | refine z_g3 ?_ | refine z_g4 ?_ | refine z_g5 ?_ | refine z_g6 ?_ | refine z_g7 ?_ | refine z_g8 ?_ | refine z_g9 ?_ | refine z_g10 ?_ | refine z_gc ?_ | refine z_gn ?_ | refine z_gst ?_ | refine z_v0 ?_ | refine z_v1 ?_ | refine z_v2 ?_ | refine z_v3 ?_ | refine z_v4 ?_ | refine z_v5 ?_ | refine z_v6 ?_ | refine z_v7 ?_ | refine z_v8 ?_ | refine z_v9 ?_ | refine z_v10 ?_ | refine z_c ?_ | refine z_op ?_ | refine z_un ?_ | refine z_call ?_ | refine z_callK ?_ | refine z_cons ?_ | refine z_nil ?_ | refine z_tup ?_ | refine z_lst ?_ | refine z_and ?_ | refine z_or ?_ | refine z_not ?_ | refine z_if ?_ | refine z_chain ?_ | refine z_sl ?_ | refine z_nop ?_ | refine z_prt ?_ | refine z_prti ?_ | refine z_mt ?_ | refine z_mstr ?_ | refine z_lc ?_ | refine z_tst ?_ | refine z_tb ?_ | refine z_tru ?_ | refine z_tand ?_ | refine z_tor ?_ | refine z_tnot ?_ | refine z_yes ?_ | refine z_trb ?_ | refine z_trn ?_ | refine z_T ?_ | refine z_F ?_ | refine z_NF ?_ | refine z_NT ?_ | refine z_eqi ?_ | refine z_eqs ?_ | refine z_nei ?_ | refine z_nes ?_ | refine z_le ?_ | refine z_lt ?_ | refine z_gtt ?_ | refine z_ge ?_ | refine z_add ?_ | refine z_sub ?_ | refine z_p15 ?_ | refine z_p30 ?_ | refine z_p18 ?_ | refine z_neg ?_ | refine z_ix0 ?_ | refine z_ix1 ?_ | refine z_ix2 ?_ | refine z_ix3 ?_ | refine z_lent ?_ | refine z_slt ?_ | refine z_lenc ?_ | refine z_inb ?_ | refine z_min ?_ | refine z_max ?_ | refine z_its ?_ | refine z_rng1 ?_ | refine z_dict0 ?_ | refine z_dict ?_ | refine z_wpc ?_ | refine z_wpn ?_ | refine z_list0 ?_ | refine z_gt (by with_unfolding_all rfl) ?_ | refine z_sz (by with_unfolding_all rfl) ?_)
    refine z_itl e7 ?_
    refine fun t M8 ht et ft => ?_
    have F7 : Fr [] M5 M7 := Fr.drop hs fs f7
    have fa : FO (.str (("a" : String) : Str)) := fo_str (by decide +kernel)
    generalize hk : decide ((("a" : String) : Str).cps.toList < n.cps.toList) = k
    have ek : earlierD 1 n (.tup [.int 1, .str "a"]) = k := by rw [earl_lt (one_good a_name), lts_c, hk]
    have plL : Plain (.tup [.int 1, .str (("a" : String) : Str)]) := stamp_pl (one_good a_name)
    have rL : rootD (.tup [.int 1, .str (("a" : String) : Str)]) = false := rfl
    have sL : isStampD (.tup [.int 1, .str (("a" : String) : Str)]) = true := good_yes (one_good a_name)
    have pL : parentD 1 n (.tup [.int 1, .str "a"]) = k := by unfold parentD; rw [rL, ek]; rfl
    have lL : placeD 1 n (.tup [.int 1, .str "a"]) = k := by
      unfold placeD; rw [pL]
      show (false || k) = k
      rfl
    have wt : isWhatD (.tup [.str (("text" : String) : Str)]) = true := what_hold (by decide +kernel)
    have wl : isWhatD (.tup [.str (("list" : String) : Str)]) = true := what_hold (by decide +kernel)
    have all2 : ∀ it ∈ ([.tup [.str "take", .tup [.int 1, .str "a"]], .tup [.str "undo", .tup [.int 1, .str "a"]], .tup [.str "move", .tup [.int 1, .str "a"], .tup [.int 0, .str ""], .str f], .tup [.str "put", .tup [.int 1, .str "a"], .str f, .tup [.str "text"]]] ++ [.tup [.str "put", .tup [.int 0, .str ""], .tup [.int 1, .str "a"], .tup [.str "list"]]] : List D),
        ∃ x r, it = .tup (.str x :: r) ∧ FO (.str x) ∧ r.length ≤ 3 ∧ (∀ y ∈ r, Plain y) ∧ wordsD 1 n (.tup (.str x :: r)) = k ∧ (k = true → r.filter isStampD = [.tup [.int 1, .str "a"]]) := by
      refine all_cons ⟨_, _, rfl, take_fo, Nat.le_of_ble_eq_true rfl, all_cons plL all_nil, by rw [words_take' (.inl rfl), ek], fun _ => by simp only [List.filter_cons, sL, if_true, List.filter_nil]⟩
        (all_cons ⟨_, _, rfl, undo_fo, Nat.le_of_ble_eq_true rfl, all_cons plL all_nil, by rw [words_take' (.inr rfl), ek], fun _ => by simp only [List.filter_cons, sL, if_true, List.filter_nil]⟩
        (all_cons ⟨_, _, rfl, move_fo, Nat.le_of_ble_eq_true rfl, all_cons plL (all_cons root_pl (all_cons (.inl ff) all_nil)), by rw [words_move', ek, root_par, field_pla hf]; simp, fun _ => by simp only [List.filter_cons, sL, no_stamp0, nF, if_true, if_false, Bool.false_eq_true, List.filter_nil]⟩
        (all_cons ⟨_, _, rfl, put_fo, Nat.le_of_ble_eq_true rfl, all_cons plL (all_cons (.inl ff) (all_cons (what_plain wt) all_nil)), by rw [words_put', pL, field_pla hf, wt]; simp, fun _ => by simp only [List.filter_cons, sL, what_nst wt, nF, if_true, if_false, Bool.false_eq_true, List.filter_nil]⟩
        (all_cons ⟨_, _, rfl, put_fo, Nat.le_of_ble_eq_true rfl, all_cons root_pl (all_cons plL (all_cons (what_plain wl) all_nil)), by rw [words_put', lL, root_par, wl]; simp, fun _ => by simp only [List.filter_cons, sL, what_nst wl, no_stamp0, if_true, if_false, Bool.false_eq_true, List.filter_nil]⟩ all_nil))))
    refine lc_bools ht et ft (Nat.le_of_ble_eq_true rfl) (fun M9 f9 => f9 _ _ (by simp) e7) (fun _ => true) (fun d M9 R hd f9 hR => ?_) fun M9 f9 e9 => ?_
    · obtain ⟨x, r, rfl, hx, hr, hpl, hw, hns⟩ := all2 d hd
      refine z_g5 ?_
      repeat (with_reducible first | refine z_seq ?_ | refine z_ifs ?_ | refine z_ret ?_ | refine z_retN ?_ | refine z_next ?_ | refine z_drop ?_ | refine z_asg ?_ | refine z_par ?_ | refine z_for ?_ | refine z_break ?_ | refine z_cont ?_ | refine z_g0 ?_ | refine z_g1 ?_ | refine z_g2 ?_ | refine z_g3 ?_ | refine z_g4 ?_ | refine z_g5 ?_ | refine z_g6 ?_ | refine z_g7 ?_ | refine z_g8 ?_ | refine z_g9 ?_ | refine z_g10 ?_ | refine z_gc ?_ | refine z_gn ?_ | refine z_gst ?_ | refine z_v0 ?_ | refine z_v1 ?_ | refine z_v2 ?_ | refine z_v3 ?_ | refine z_v4 ?_ | refine z_v5 ?_ | refine z_v6 ?_ | refine z_v7 ?_ | refine z_v8 ?_ | refine z_v9 ?_ | refine z_v10 ?_ | refine z_c ?_ | refine z_op ?_ | refine z_un ?_ | refine z_call ?_ | refine z_callK ?_ | refine z_cons ?_ | refine z_nil ?_ | refine z_tup ?_ | refine z_lst ?_ | refine z_and ?_ | refine z_or ?_ | refine z_not ?_ | refine z_if ?_ | refine z_chain ?_ | refine z_sl ?_ | refine z_nop ?_ | refine z_prt ?_ | refine z_prti ?_ | refine z_mt ?_ | refine z_mstr ?_ | refine z_lc ?_ | refine z_tst ?_ | refine z_tb ?_ | refine z_tru ?_ | refine z_tand ?_ | refine z_tor ?_ | refine z_tnot ?_ | refine z_yes ?_ | refine z_trb ?_ | refine z_trn ?_ | refine z_T ?_ | refine z_F ?_ | refine z_NF ?_ | refine z_NT ?_ | refine z_eqi ?_ | refine z_eqs ?_ | refine z_nei ?_ | refine z_nes ?_ | refine z_le ?_ | refine z_lt ?_ | refine z_gtt ?_ | refine z_ge ?_ | refine z_add ?_ | refine z_sub ?_ | refine z_p15 ?_ | refine z_p30 ?_ | refine z_p18 ?_ | refine z_neg ?_ | refine z_ix0 ?_ | refine z_ix1 ?_ | refine z_ix2 ?_ | refine z_ix3 ?_ | refine z_lent ?_ | refine z_slt ?_ | refine z_lenc ?_ | refine z_inb ?_ | refine z_min ?_ | refine z_max ?_ | refine z_its ?_ | refine z_rng1 ?_ | refine z_dict0 ?_ | refine z_dict ?_ | refine z_wpc ?_ | refine z_wpn ?_ | refine z_list0 ?_ | refine z_gt (by with_unfolding_all rfl) ?_ | refine z_sz (by with_unfolding_all rfl) ?_)
      refine z_lts ?_
      repeat (with_reducible first | refine z_seq ?_ | refine z_ifs ?_ | refine z_ret ?_ | refine z_retN ?_ | refine z_next ?_ | refine z_drop ?_ | refine z_asg ?_ | refine z_par ?_ | refine z_for ?_ | refine z_break ?_ | refine z_cont ?_ | refine z_g0 ?_ | refine z_g1 ?_ | refine z_g2 ?_ | refine z_g3 ?_ | refine z_g4 ?_ | refine z_g5 ?_ | refine z_g6 ?_ | refine z_g7 ?_ | refine z_g8 ?_ | refine z_g9 ?_ | refine z_g10 ?_ | refine z_gc ?_ | refine z_gn ?_ | refine z_gst ?_ | refine z_v0 ?_ | refine z_v1 ?_ | refine z_v2 ?_ | refine z_v3 ?_ | refine z_v4 ?_ | refine z_v5 ?_ | refine z_v6 ?_ | refine z_v7 ?_ | refine z_v8 ?_ | refine z_v9 ?_ | refine z_v10 ?_ | refine z_c ?_ | refine z_op ?_ | refine z_un ?_ | refine z_call ?_ | refine z_callK ?_ | refine z_cons ?_ | refine z_nil ?_ | refine z_tup ?_ | refine z_lst ?_ | refine z_and ?_ | refine z_or ?_ | refine z_not ?_ | refine z_if ?_ | refine z_chain ?_ | refine z_sl ?_ | refine z_nop ?_ | refine z_prt ?_ | refine z_prti ?_ | refine z_mt ?_ | refine z_mstr ?_ | refine z_lc ?_ | refine z_tst ?_ | refine z_tb ?_ | refine z_tru ?_ | refine z_tand ?_ | refine z_tor ?_ | refine z_tnot ?_ | refine z_yes ?_ | refine z_trb ?_ | refine z_trn ?_ | refine z_T ?_ | refine z_F ?_ | refine z_NF ?_ | refine z_NT ?_ | refine z_eqi ?_ | refine z_eqs ?_ | refine z_nei ?_ | refine z_nes ?_ | refine z_le ?_ | refine z_lt ?_ | refine z_gtt ?_ | refine z_ge ?_ | refine z_add ?_ | refine z_sub ?_ | refine z_p15 ?_ | refine z_p30 ?_ | refine z_p18 ?_ | refine z_neg ?_ | refine z_ix0 ?_ | refine z_ix1 ?_ | refine z_ix2 ?_ | refine z_ix3 ?_ | refine z_lent ?_ | refine z_slt ?_ | refine z_lenc ?_ | refine z_inb ?_ | refine z_min ?_ | refine z_max ?_ | refine z_its ?_ | refine z_rng1 ?_ | refine z_dict0 ?_ | refine z_dict ?_ | refine z_wpc ?_ | refine z_wpn ?_ | refine z_list0 ?_ | refine z_gt (by with_unfolding_all rfl) ?_ | refine z_sz (by with_unfolding_all rfl) ?_)
      refine fun z M10 hz ez fz => ?_
      repeat (with_reducible first | refine z_seq ?_ | refine z_ifs ?_ | refine z_ret ?_ | refine z_retN ?_ | refine z_next ?_ | refine z_drop ?_ | refine z_asg ?_ | refine z_par ?_ | refine z_for ?_ | refine z_break ?_ | refine z_cont ?_ | refine z_g0 ?_ | refine z_g1 ?_ | refine z_g2 ?_ | refine z_g3 ?_ | refine z_g4 ?_ | refine z_g5 ?_ | refine z_g6 ?_ | refine z_g7 ?_ | refine z_g8 ?_ | refine z_g9 ?_ | refine z_g10 ?_ | refine z_gc ?_ | refine z_gn ?_ | refine z_gst ?_ | refine z_v0 ?_ | refine z_v1 ?_ | refine z_v2 ?_ | refine z_v3 ?_ | refine z_v4 ?_ | refine z_v5 ?_ | refine z_v6 ?_ | refine z_v7 ?_ | refine z_v8 ?_ | refine z_v9 ?_ | refine z_v10 ?_ | refine z_c ?_ | refine z_op ?_ | refine z_un ?_ | refine z_call ?_ | refine z_callK ?_ | refine z_cons ?_ | refine z_nil ?_ | refine z_tup ?_ | refine z_lst ?_ | refine z_and ?_ | refine z_or ?_ | refine z_not ?_ | refine z_if ?_ | refine z_chain ?_ | refine z_sl ?_ | refine z_nop ?_ | refine z_prt ?_ | refine z_prti ?_ | refine z_mt ?_ | refine z_mstr ?_ | refine z_lc ?_ | refine z_tst ?_ | refine z_tb ?_ | refine z_tru ?_ | refine z_tand ?_ | refine z_tor ?_ | refine z_tnot ?_ | refine z_yes ?_ | refine z_trb ?_ | refine z_trn ?_ | refine z_T ?_ | refine z_F ?_ | refine z_NF ?_ | refine z_NT ?_ | refine z_eqi ?_ | refine z_eqs ?_ | refine z_nei ?_ | refine z_nes ?_ | refine z_le ?_ | refine z_lt ?_ | refine z_gtt ?_ | refine z_ge ?_ | refine z_add ?_ | refine z_sub ?_ | refine z_p15 ?_ | refine z_p30 ?_ | refine z_p18 ?_ | refine z_neg ?_ | refine z_ix0 ?_ | refine z_ix1 ?_ | refine z_ix2 ?_ | refine z_ix3 ?_ | refine z_lent ?_ | refine z_slt ?_ | refine z_lenc ?_ | refine z_inb ?_ | refine z_min ?_ | refine z_max ?_ | refine z_its ?_ | refine z_rng1 ?_ | refine z_dict0 ?_ | refine z_dict ?_ | refine z_wpc ?_ | refine z_wpn ?_ | refine z_list0 ?_ | refine z_gt (by with_unfolding_all rfl) ?_ | refine z_sz (by with_unfolding_all rfl) ?_)
      rw [hk]
      refine L_right_ok (mk_made ps (.inl (.int (by decide))) hx hr fun y hy => plain_sp (hpl y hy)) (by omega) (by rw [deed_w hg (by rw [upto_eq]; rfl), hw]) ez hns fun M11 f11 => ?_
      exact hR M11 (fz.trans f11)
    · repeat (with_reducible first | refine z_seq ?_ | refine z_ifs ?_ | refine z_ret ?_ | refine z_retN ?_ | refine z_next ?_ | refine z_drop ?_ | refine z_asg ?_ | refine z_par ?_ | refine z_for ?_ | refine z_break ?_ | refine z_cont ?_ | refine z_g0 ?_ | refine z_g1 ?_ | refine z_g2 ?_ | refine z_g3 ?_ | refine z_g4 ?_ | refine z_g5 ?_ | refine z_g6 ?_ | refine z_g7 ?_ | refine z_g8 ?_ | refine z_g9 ?_ | refine z_g10 ?_ | refine z_gc ?_ | refine z_gn ?_ | refine z_gst ?_ | refine z_v0 ?_ | refine z_v1 ?_ | refine z_v2 ?_ | refine z_v3 ?_ | refine z_v4 ?_ | refine z_v5 ?_ | refine z_v6 ?_ | refine z_v7 ?_ | refine z_v8 ?_ | refine z_v9 ?_ | refine z_v10 ?_ | refine z_c ?_ | refine z_op ?_ | refine z_un ?_ | refine z_call ?_ | refine z_callK ?_ | refine z_cons ?_ | refine z_nil ?_ | refine z_tup ?_ | refine z_lst ?_ | refine z_and ?_ | refine z_or ?_ | refine z_not ?_ | refine z_if ?_ | refine z_chain ?_ | refine z_sl ?_ | refine z_nop ?_ | refine z_prt ?_ | refine z_prti ?_ | refine z_mt ?_ | refine z_mstr ?_ | refine z_lc ?_ | refine z_tst ?_ | refine z_tb ?_ | refine z_tru ?_ | refine z_tand ?_ | refine z_tor ?_ | refine z_tnot ?_ | refine z_yes ?_ | refine z_trb ?_ | refine z_trn ?_ | refine z_T ?_ | refine z_F ?_ | refine z_NF ?_ | refine z_NT ?_ | refine z_eqi ?_ | refine z_eqs ?_ | refine z_nei ?_ | refine z_nes ?_ | refine z_le ?_ | refine z_lt ?_ | refine z_gtt ?_ | refine z_ge ?_ | refine z_add ?_ | refine z_sub ?_ | refine z_p15 ?_ | refine z_p30 ?_ | refine z_p18 ?_ | refine z_neg ?_ | refine z_ix0 ?_ | refine z_ix1 ?_ | refine z_ix2 ?_ | refine z_ix3 ?_ | refine z_lent ?_ | refine z_slt ?_ | refine z_lenc ?_ | refine z_inb ?_ | refine z_min ?_ | refine z_max ?_ | refine z_its ?_ | refine z_rng1 ?_ | refine z_dict0 ?_ | refine z_dict ?_ | refine z_wpc ?_ | refine z_wpn ?_ | refine z_list0 ?_ | refine z_gt (by with_unfolding_all rfl) ?_ | refine z_sz (by with_unfolding_all rfl) ?_)
      refine z_all e9 rfl ?_
      repeat (with_reducible first | refine z_seq ?_ | refine z_ifs ?_ | refine z_ret ?_ | refine z_retN ?_ | refine z_next ?_ | refine z_drop ?_ | refine z_asg ?_ | refine z_par ?_ | refine z_for ?_ | refine z_break ?_ | refine z_cont ?_ | refine z_g0 ?_ | refine z_g1 ?_ | refine z_g2 ?_ | refine z_g3 ?_ | refine z_g4 ?_ | refine z_g5 ?_ | refine z_g6 ?_ | refine z_g7 ?_ | refine z_g8 ?_ | refine z_g9 ?_ | refine z_g10 ?_ | refine z_gc ?_ | refine z_gn ?_ | refine z_gst ?_ | refine z_v0 ?_ | refine z_v1 ?_ | refine z_v2 ?_ | refine z_v3 ?_ | refine z_v4 ?_ | refine z_v5 ?_ | refine z_v6 ?_ | refine z_v7 ?_ | refine z_v8 ?_ | refine z_v9 ?_ | refine z_v10 ?_ | refine z_c ?_ | refine z_op ?_ | refine z_un ?_ | refine z_call ?_ | refine z_callK ?_ | refine z_cons ?_ | refine z_nil ?_ | refine z_tup ?_ | refine z_lst ?_ | refine z_and ?_ | refine z_or ?_ | refine z_not ?_ | refine z_if ?_ | refine z_chain ?_ | refine z_sl ?_ | refine z_nop ?_ | refine z_prt ?_ | refine z_prti ?_ | refine z_mt ?_ | refine z_mstr ?_ | refine z_lc ?_ | refine z_tst ?_ | refine z_tb ?_ | refine z_tru ?_ | refine z_tand ?_ | refine z_tor ?_ | refine z_tnot ?_ | refine z_yes ?_ | refine z_trb ?_ | refine z_trn ?_ | refine z_T ?_ | refine z_F ?_ | refine z_NF ?_ | refine z_NT ?_ | refine z_eqi ?_ | refine z_eqs ?_ | refine z_nei ?_ | refine z_nes ?_ | refine z_le ?_ | refine z_lt ?_ | refine z_gtt ?_ | refine z_ge ?_ | refine z_add ?_ | refine z_sub ?_ | refine z_p15 ?_ | refine z_p30 ?_ | refine z_p18 ?_ | refine z_neg ?_ | refine z_ix0 ?_ | refine z_ix1 ?_ | refine z_ix2 ?_ | refine z_ix3 ?_ | refine z_lent ?_ | refine z_slt ?_ | refine z_lenc ?_ | refine z_inb ?_ | refine z_min ?_ | refine z_max ?_ | refine z_its ?_ | refine z_rng1 ?_ | refine z_dict0 ?_ | refine z_dict ?_ | refine z_wpc ?_ | refine z_wpn ?_ | refine z_list0 ?_ | refine z_gt (by with_unfolding_all rfl) ?_ | refine z_sz (by with_unfolding_all rfl) ?_)
      refine fun z M10 hz ez fz => ?_
      repeat (with_reducible first | refine z_seq ?_ | refine z_ifs ?_ | refine z_ret ?_ | refine z_retN ?_ | refine z_next ?_ | refine z_drop ?_ | refine z_asg ?_ | refine z_par ?_ | refine z_for ?_ | refine z_break ?_ | refine z_cont ?_ | refine z_g0 ?_ | refine z_g1 ?_ | refine z_g2 ?_ | refine z_g3 ?_ | refine z_g4 ?_ | refine z_g5 ?_ | refine z_g6 ?_ | refine z_g7 ?_ | refine z_g8 ?_ | refine z_g9 ?_ | refine z_g10 ?_ | refine z_gc ?_ | refine z_gn ?_ | refine z_gst ?_ | refine z_v0 ?_ | refine z_v1 ?_ | refine z_v2 ?_ | refine z_v3 ?_ | refine z_v4 ?_ | refine z_v5 ?_ | refine z_v6 ?_ | refine z_v7 ?_ | refine z_v8 ?_ | refine z_v9 ?_ | refine z_v10 ?_ | refine z_c ?_ | refine z_op ?_ | refine z_un ?_ | refine z_call ?_ | refine z_callK ?_ | refine z_cons ?_ | refine z_nil ?_ | refine z_tup ?_ | refine z_lst ?_ | refine z_and ?_ | refine z_or ?_ | refine z_not ?_ | refine z_if ?_ | refine z_chain ?_ | refine z_sl ?_ | refine z_nop ?_ | refine z_prt ?_ | refine z_prti ?_ | refine z_mt ?_ | refine z_mstr ?_ | refine z_lc ?_ | refine z_tst ?_ | refine z_tb ?_ | refine z_tru ?_ | refine z_tand ?_ | refine z_tor ?_ | refine z_tnot ?_ | refine z_yes ?_ | refine z_trb ?_ | refine z_trn ?_ | refine z_T ?_ | refine z_F ?_ | refine z_NF ?_ | refine z_NT ?_ | refine z_eqi ?_ | refine z_eqs ?_ | refine z_nei ?_ | refine z_nes ?_ | refine z_le ?_ | refine z_lt ?_ | refine z_gtt ?_ | refine z_ge ?_ | refine z_add ?_ | refine z_sub ?_ | refine z_p15 ?_ | refine z_p30 ?_ | refine z_p18 ?_ | refine z_neg ?_ | refine z_ix0 ?_ | refine z_ix1 ?_ | refine z_ix2 ?_ | refine z_ix3 ?_ | refine z_lent ?_ | refine z_slt ?_ | refine z_lenc ?_ | refine z_inb ?_ | refine z_min ?_ | refine z_max ?_ | refine z_its ?_ | refine z_rng1 ?_ | refine z_dict0 ?_ | refine z_dict ?_ | refine z_wpc ?_ | refine z_wpn ?_ | refine z_list0 ?_ | refine z_gt (by with_unfolding_all rfl) ?_ | refine z_sz (by with_unfolding_all rfl) ?_)
      have wo : isWhatD (.tup [.str (("object" : String) : Str)]) = true := what_hold (by decide +kernel)
      refine L_right_ok (mk_made ps (.inl (.int (by decide))) put_fo (Nat.le_of_ble_eq_true rfl) (all_cons (plain_sp root_pl) (all_cons (plain_sp root_pl) (all_cons (plain_sp (what_plain wo)) all_nil)))) (Nat.le_of_ble_eq_true rfl) (by rw [deed_w hg (by rw [upto_eq]; rfl), words_put', root_par, wo]; unfold placeD; rw [root_par]; rfl) ez (fun _ => by simp only [List.filter_cons, no_stamp0, what_nst wo, if_false, Bool.false_eq_true, List.filter_nil]) fun M11 f11 => ?_
      exact q M11 (((((F4.trans f5).trans F7).trans f9).trans fz).trans f11)
theorem law_holds (ns : List Int) (h : ns.length ≤ 63) (hb : ∀ z ∈ ns, Builtin.Int.intBits z ≤ 1048576) : W_law [.clst (ns.map .int)] (fun _ => none) fun v _ => v = .bl true := by
  unfold W_law; refine z_d71 ?_; repeat (with_reducible first | refine z_seq ?_ | refine z_ifs ?_ | refine z_ret ?_ | refine z_retN ?_ | refine z_next ?_ | refine z_drop ?_ | refine z_asg ?_ | refine z_par ?_ | refine z_for ?_ | refine z_break ?_ | refine z_cont ?_ | refine z_g0 ?_ | refine z_g1 ?_ | refine z_g2 ?_ | refine z_g3 ?_ | refine z_g4 ?_ | refine z_g5 ?_ | refine z_g6 ?_ | refine z_g7 ?_ | refine z_g8 ?_ | refine z_g9 ?_ | refine z_g10 ?_ | refine z_gc ?_ | refine z_gn ?_ | refine z_gst ?_ | refine z_v0 ?_ | refine z_v1 ?_ | refine z_v2 ?_ | refine z_v3 ?_ | refine z_v4 ?_ | refine z_v5 ?_ | refine z_v6 ?_ | refine z_v7 ?_ | refine z_v8 ?_ | refine z_v9 ?_ | refine z_v10 ?_ | refine z_c ?_ | refine z_op ?_ | refine z_un ?_ | refine z_call ?_ | refine z_callK ?_ | refine z_cons ?_ | refine z_nil ?_ | refine z_tup ?_ | refine z_lst ?_ | refine z_and ?_ | refine z_or ?_ | refine z_not ?_ | refine z_if ?_ | refine z_chain ?_ | refine z_sl ?_ | refine z_nop ?_ | refine z_prt ?_ | refine z_prti ?_ | refine z_mt ?_ | refine z_mstr ?_ | refine z_lc ?_ | refine z_tst ?_ | refine z_tb ?_ | refine z_tru ?_ | refine z_tand ?_ | refine z_tor ?_ | refine z_tnot ?_ | refine z_yes ?_ | refine z_trb ?_ | refine z_trn ?_ | refine z_T ?_ | refine z_F ?_ | refine z_NF ?_ | refine z_NT ?_ | refine z_eqi ?_ | refine z_eqs ?_ | refine z_nei ?_ | refine z_nes ?_ | refine z_le ?_ | refine z_lt ?_ | refine z_gtt ?_ | refine z_ge ?_ | refine z_add ?_ | refine z_sub ?_ | refine z_p15 ?_ | refine z_p30 ?_ | refine z_p18 ?_ | refine z_neg ?_ | refine z_ix0 ?_ | refine z_ix1 ?_ | refine z_ix2 ?_ | refine z_ix3 ?_ | refine z_lent ?_ | refine z_slt ?_ | refine z_lenc ?_ | refine z_inb ?_ | refine z_min ?_ | refine z_max ?_ | refine z_its ?_ | refine z_rng1 ?_ | refine z_dict0 ?_ | refine z_dict ?_ | refine z_wpc ?_ | refine z_wpn ?_ | refine z_list0 ?_ | refine z_gt (by with_unfolding_all rfl) ?_ | refine z_sz (by with_unfolding_all rfl) ?_)
  obtain ⟨n, hn, e⟩ := cap (m := 10) (by decide) (ns.map D.int).length
  rw [e]
  refine z_rngM (by omega) (by omega) ?_
  refine run_for (fun i env M' => ∃ a b c d e f, env = [some (.clst (ns.map .int)), a, b, c, d, e, f]) ⟨_, _, _, _, _, _, rfl⟩ (fun i x r env M1 hx hP next => ⟨trivial, ?_⟩) fun env M1 hP => ⟨trivial, ?_⟩
  · obtain ⟨a, b, c, d, e, f, rfl⟩ := hP
    obtain ⟨hi, rfl⟩ := rng_at hx
    rw [show (0 : Int) + (i : Nat) = ((i : Nat) : Int) by omega]
    repeat (with_reducible first | refine z_seq ?_ | refine z_ifs ?_ | refine z_ret ?_ | refine z_retN ?_ | refine z_next ?_ | refine z_drop ?_ | refine z_asg ?_ | refine z_par ?_ | refine z_for ?_ | refine z_break ?_ | refine z_cont ?_ | refine z_g0 ?_ | refine z_g1 ?_ | refine z_g2 ?_ | refine z_g3 ?_ | refine z_g4 ?_ | refine z_g5 ?_ | refine z_g6 ?_ | refine z_g7 ?_ | refine z_g8 ?_ | refine z_g9 ?_ | refine z_g10 ?_ | refine z_gc ?_ | refine z_gn ?_ | refine z_gst ?_ | refine z_v0 ?_ | refine z_v1 ?_ | refine z_v2 ?_ | refine z_v3 ?_ | refine z_v4 ?_ | refine z_v5 ?_ | refine z_v6 ?_ | refine z_v7 ?_ | refine z_v8 ?_ | refine z_v9 ?_ | refine z_v10 ?_ | refine z_c ?_ | refine z_op ?_ | refine z_un ?_ | refine z_call ?_ | refine z_callK ?_ | refine z_cons ?_ | refine z_nil ?_ | refine z_tup ?_ | refine z_lst ?_ | refine z_and ?_ | refine z_or ?_ | refine z_not ?_ | refine z_if ?_ | refine z_chain ?_ | refine z_sl ?_ | refine z_nop ?_ | refine z_prt ?_ | refine z_prti ?_ | refine z_mt ?_ | refine z_mstr ?_ | refine z_lc ?_ | refine z_tst ?_ | refine z_tb ?_ | refine z_tru ?_ | refine z_tand ?_ | refine z_tor ?_ | refine z_tnot ?_ | refine z_yes ?_ | refine z_trb ?_ | refine z_trn ?_ | refine z_T ?_ | refine z_F ?_ | refine z_NF ?_ | refine z_NT ?_ | refine z_eqi ?_ | refine z_eqs ?_ | refine z_nei ?_ | refine z_nes ?_ | refine z_le ?_ | refine z_lt ?_ | refine z_gtt ?_ | refine z_ge ?_ | refine z_add ?_ | refine z_sub ?_ | refine z_p15 ?_ | refine z_p30 ?_ | refine z_p18 ?_ | refine z_neg ?_ | refine z_ix0 ?_ | refine z_ix1 ?_ | refine z_ix2 ?_ | refine z_ix3 ?_ | refine z_lent ?_ | refine z_slt ?_ | refine z_lenc ?_ | refine z_inb ?_ | refine z_min ?_ | refine z_max ?_ | refine z_its ?_ | refine z_rng1 ?_ | refine z_dict0 ?_ | refine z_dict ?_ | refine z_wpc ?_ | refine z_wpn ?_ | refine z_list0 ?_ | refine z_gt (by with_unfolding_all rfl) ?_ | refine z_sz (by with_unfolding_all rfl) ?_)
    refine pot_ok (by omega) fun l M2 hl pl fl => ?_
    repeat (with_reducible first | refine z_seq ?_ | refine z_ifs ?_ | refine z_ret ?_ | refine z_retN ?_ | refine z_next ?_ | refine z_drop ?_ | refine z_asg ?_ | refine z_par ?_ | refine z_for ?_ | refine z_break ?_ | refine z_cont ?_ | refine z_g0 ?_ | refine z_g1 ?_ | refine z_g2 ?_ | refine z_g3 ?_ | refine z_g4 ?_ | refine z_g5 ?_ | refine z_g6 ?_ | refine z_g7 ?_ | refine z_g8 ?_ | refine z_g9 ?_ | refine z_g10 ?_ | refine z_gc ?_ | refine z_gn ?_ | refine z_gst ?_ | refine z_v0 ?_ | refine z_v1 ?_ | refine z_v2 ?_ | refine z_v3 ?_ | refine z_v4 ?_ | refine z_v5 ?_ | refine z_v6 ?_ | refine z_v7 ?_ | refine z_v8 ?_ | refine z_v9 ?_ | refine z_v10 ?_ | refine z_c ?_ | refine z_op ?_ | refine z_un ?_ | refine z_call ?_ | refine z_callK ?_ | refine z_cons ?_ | refine z_nil ?_ | refine z_tup ?_ | refine z_lst ?_ | refine z_and ?_ | refine z_or ?_ | refine z_not ?_ | refine z_if ?_ | refine z_chain ?_ | refine z_sl ?_ | refine z_nop ?_ | refine z_prt ?_ | refine z_prti ?_ | refine z_mt ?_ | refine z_mstr ?_ | refine z_lc ?_ | refine z_tst ?_ | refine z_tb ?_ | refine z_tru ?_ | refine z_tand ?_ | refine z_tor ?_ | refine z_tnot ?_ | refine z_yes ?_ | refine z_trb ?_ | refine z_trn ?_ | refine z_T ?_ | refine z_F ?_ | refine z_NF ?_ | refine z_NT ?_ | refine z_eqi ?_ | refine z_eqs ?_ | refine z_nei ?_ | refine z_nes ?_ | refine z_le ?_ | refine z_lt ?_ | refine z_gtt ?_ | refine z_ge ?_ | refine z_add ?_ | refine z_sub ?_ | refine z_p15 ?_ | refine z_p30 ?_ | refine z_p18 ?_ | refine z_neg ?_ | refine z_ix0 ?_ | refine z_ix1 ?_ | refine z_ix2 ?_ | refine z_ix3 ?_ | refine z_lent ?_ | refine z_slt ?_ | refine z_lenc ?_ | refine z_inb ?_ | refine z_min ?_ | refine z_max ?_ | refine z_its ?_ | refine z_rng1 ?_ | refine z_dict0 ?_ | refine z_dict ?_ | refine z_wpc ?_ | refine z_wpn ?_ | refine z_list0 ?_ | refine z_gt (by with_unfolding_all rfl) ?_ | refine z_sz (by with_unfolding_all rfl) ?_)
    refine L_count_ok pl fun c M3 p3 f3 c0 c1 => ?_
    repeat (with_reducible first | refine z_seq ?_ | refine z_ifs ?_ | refine z_ret ?_ | refine z_retN ?_ | refine z_next ?_ | refine z_drop ?_ | refine z_asg ?_ | refine z_par ?_ | refine z_for ?_ | refine z_break ?_ | refine z_cont ?_ | refine z_g0 ?_ | refine z_g1 ?_ | refine z_g2 ?_ | refine z_g3 ?_ | refine z_g4 ?_ | refine z_g5 ?_ | refine z_g6 ?_ | refine z_g7 ?_ | refine z_g8 ?_ | refine z_g9 ?_ | refine z_g10 ?_ | refine z_gc ?_ | refine z_gn ?_ | refine z_gst ?_ | refine z_v0 ?_ | refine z_v1 ?_ | refine z_v2 ?_ | refine z_v3 ?_ | refine z_v4 ?_ | refine z_v5 ?_ | refine z_v6 ?_ | refine z_v7 ?_ | refine z_v8 ?_ | refine z_v9 ?_ | refine z_v10 ?_ | refine z_c ?_ | refine z_op ?_ | refine z_un ?_ | refine z_call ?_ | refine z_callK ?_ | refine z_cons ?_ | refine z_nil ?_ | refine z_tup ?_ | refine z_lst ?_ | refine z_and ?_ | refine z_or ?_ | refine z_not ?_ | refine z_if ?_ | refine z_chain ?_ | refine z_sl ?_ | refine z_nop ?_ | refine z_prt ?_ | refine z_prti ?_ | refine z_mt ?_ | refine z_mstr ?_ | refine z_lc ?_ | refine z_tst ?_ | refine z_tb ?_ | refine z_tru ?_ | refine z_tand ?_ | refine z_tor ?_ | refine z_tnot ?_ | refine z_yes ?_ | refine z_trb ?_ | refine z_trn ?_ | refine z_T ?_ | refine z_F ?_ | refine z_NF ?_ | refine z_NT ?_ | refine z_eqi ?_ | refine z_eqs ?_ | refine z_nei ?_ | refine z_nes ?_ | refine z_le ?_ | refine z_lt ?_ | refine z_gtt ?_ | refine z_ge ?_ | refine z_add ?_ | refine z_sub ?_ | refine z_p15 ?_ | refine z_p30 ?_ | refine z_p18 ?_ | refine z_neg ?_ | refine z_ix0 ?_ | refine z_ix1 ?_ | refine z_ix2 ?_ | refine z_ix3 ?_ | refine z_lent ?_ | refine z_slt ?_ | refine z_lenc ?_ | refine z_inb ?_ | refine z_min ?_ | refine z_max ?_ | refine z_its ?_ | refine z_rng1 ?_ | refine z_dict0 ?_ | refine z_dict ?_ | refine z_wpc ?_ | refine z_wpn ?_ | refine z_list0 ?_ | refine z_gt (by with_unfolding_all rfl) ?_ | refine z_sz (by with_unfolding_all rfl) ?_)
    refine L_name_ok p3 fun x M4 p4 f4 hx => ?_
    repeat (with_reducible first | refine z_seq ?_ | refine z_ifs ?_ | refine z_ret ?_ | refine z_retN ?_ | refine z_next ?_ | refine z_drop ?_ | refine z_asg ?_ | refine z_par ?_ | refine z_for ?_ | refine z_break ?_ | refine z_cont ?_ | refine z_g0 ?_ | refine z_g1 ?_ | refine z_g2 ?_ | refine z_g3 ?_ | refine z_g4 ?_ | refine z_g5 ?_ | refine z_g6 ?_ | refine z_g7 ?_ | refine z_g8 ?_ | refine z_g9 ?_ | refine z_g10 ?_ | refine z_gc ?_ | refine z_gn ?_ | refine z_gst ?_ | refine z_v0 ?_ | refine z_v1 ?_ | refine z_v2 ?_ | refine z_v3 ?_ | refine z_v4 ?_ | refine z_v5 ?_ | refine z_v6 ?_ | refine z_v7 ?_ | refine z_v8 ?_ | refine z_v9 ?_ | refine z_v10 ?_ | refine z_c ?_ | refine z_op ?_ | refine z_un ?_ | refine z_call ?_ | refine z_callK ?_ | refine z_cons ?_ | refine z_nil ?_ | refine z_tup ?_ | refine z_lst ?_ | refine z_and ?_ | refine z_or ?_ | refine z_not ?_ | refine z_if ?_ | refine z_chain ?_ | refine z_sl ?_ | refine z_nop ?_ | refine z_prt ?_ | refine z_prti ?_ | refine z_mt ?_ | refine z_mstr ?_ | refine z_lc ?_ | refine z_tst ?_ | refine z_tb ?_ | refine z_tru ?_ | refine z_tand ?_ | refine z_tor ?_ | refine z_tnot ?_ | refine z_yes ?_ | refine z_trb ?_ | refine z_trn ?_ | refine z_T ?_ | refine z_F ?_ | refine z_NF ?_ | refine z_NT ?_ | refine z_eqi ?_ | refine z_eqs ?_ | refine z_nei ?_ | refine z_nes ?_ | refine z_le ?_ | refine z_lt ?_ | refine z_gtt ?_ | refine z_ge ?_ | refine z_add ?_ | refine z_sub ?_ | refine z_p15 ?_ | refine z_p30 ?_ | refine z_p18 ?_ | refine z_neg ?_ | refine z_ix0 ?_ | refine z_ix1 ?_ | refine z_ix2 ?_ | refine z_ix3 ?_ | refine z_lent ?_ | refine z_slt ?_ | refine z_lenc ?_ | refine z_inb ?_ | refine z_min ?_ | refine z_max ?_ | refine z_its ?_ | refine z_rng1 ?_ | refine z_dict0 ?_ | refine z_dict ?_ | refine z_wpc ?_ | refine z_wpn ?_ | refine z_list0 ?_ | refine z_gt (by with_unfolding_all rfl) ?_ | refine z_sz (by with_unfolding_all rfl) ?_)
    refine L_field_ok p4 fun y M5 p5 f5 hy => ?_
    repeat (with_reducible first | refine z_seq ?_ | refine z_ifs ?_ | refine z_ret ?_ | refine z_retN ?_ | refine z_next ?_ | refine z_drop ?_ | refine z_asg ?_ | refine z_par ?_ | refine z_for ?_ | refine z_break ?_ | refine z_cont ?_ | refine z_g0 ?_ | refine z_g1 ?_ | refine z_g2 ?_ | refine z_g3 ?_ | refine z_g4 ?_ | refine z_g5 ?_ | refine z_g6 ?_ | refine z_g7 ?_ | refine z_g8 ?_ | refine z_g9 ?_ | refine z_g10 ?_ | refine z_gc ?_ | refine z_gn ?_ | refine z_gst ?_ | refine z_v0 ?_ | refine z_v1 ?_ | refine z_v2 ?_ | refine z_v3 ?_ | refine z_v4 ?_ | refine z_v5 ?_ | refine z_v6 ?_ | refine z_v7 ?_ | refine z_v8 ?_ | refine z_v9 ?_ | refine z_v10 ?_ | refine z_c ?_ | refine z_op ?_ | refine z_un ?_ | refine z_call ?_ | refine z_callK ?_ | refine z_cons ?_ | refine z_nil ?_ | refine z_tup ?_ | refine z_lst ?_ | refine z_and ?_ | refine z_or ?_ | refine z_not ?_ | refine z_if ?_ | refine z_chain ?_ | refine z_sl ?_ | refine z_nop ?_ | refine z_prt ?_ | refine z_prti ?_ | refine z_mt ?_ | refine z_mstr ?_ | refine z_lc ?_ | refine z_tst ?_ | refine z_tb ?_ | refine z_tru ?_ | refine z_tand ?_ | refine z_tor ?_ | refine z_tnot ?_ | refine z_yes ?_ | refine z_trb ?_ | refine z_trn ?_ | refine z_T ?_ | refine z_F ?_ | refine z_NF ?_ | refine z_NT ?_ | refine z_eqi ?_ | refine z_eqs ?_ | refine z_nei ?_ | refine z_nes ?_ | refine z_le ?_ | refine z_lt ?_ | refine z_gtt ?_ | refine z_ge ?_ | refine z_add ?_ | refine z_sub ?_ | refine z_p15 ?_ | refine z_p30 ?_ | refine z_p18 ?_ | refine z_neg ?_ | refine z_ix0 ?_ | refine z_ix1 ?_ | refine z_ix2 ?_ | refine z_ix3 ?_ | refine z_lent ?_ | refine z_slt ?_ | refine z_lenc ?_ | refine z_inb ?_ | refine z_min ?_ | refine z_max ?_ | refine z_its ?_ | refine z_rng1 ?_ | refine z_dict0 ?_ | refine z_dict ?_ | refine z_wpc ?_ | refine z_wpn ?_ | refine z_list0 ?_ | refine z_gt (by with_unfolding_all rfl) ?_ | refine z_sz (by with_unfolding_all rfl) ?_)
    have hg : GoodS c x := ⟨by omega, c1, hx⟩
    refine L_first_right_ok hx hy fun M6 f6 => ?_
    repeat (with_reducible first | refine z_seq ?_ | refine z_ifs ?_ | refine z_ret ?_ | refine z_retN ?_ | refine z_next ?_ | refine z_drop ?_ | refine z_asg ?_ | refine z_par ?_ | refine z_for ?_ | refine z_break ?_ | refine z_cont ?_ | refine z_g0 ?_ | refine z_g1 ?_ | refine z_g2 ?_ | refine z_g3 ?_ | refine z_g4 ?_ | refine z_g5 ?_ | refine z_g6 ?_ | refine z_g7 ?_ | refine z_g8 ?_ | refine z_g9 ?_ | refine z_g10 ?_ | refine z_gc ?_ | refine z_gn ?_ | refine z_gst ?_ | refine z_v0 ?_ | refine z_v1 ?_ | refine z_v2 ?_ | refine z_v3 ?_ | refine z_v4 ?_ | refine z_v5 ?_ | refine z_v6 ?_ | refine z_v7 ?_ | refine z_v8 ?_ | refine z_v9 ?_ | refine z_v10 ?_ | refine z_c ?_ | refine z_op ?_ | refine z_un ?_ | refine z_call ?_ | refine z_callK ?_ | refine z_cons ?_ | refine z_nil ?_ | refine z_tup ?_ | refine z_lst ?_ | refine z_and ?_ | refine z_or ?_ | refine z_not ?_ | refine z_if ?_ | refine z_chain ?_ | refine z_sl ?_ | refine z_nop ?_ | refine z_prt ?_ | refine z_prti ?_ | refine z_mt ?_ | refine z_mstr ?_ | refine z_lc ?_ | refine z_tst ?_ | refine z_tb ?_ | refine z_tru ?_ | refine z_tand ?_ | refine z_tor ?_ | refine z_tnot ?_ | refine z_yes ?_ | refine z_trb ?_ | refine z_trn ?_ | refine z_T ?_ | refine z_F ?_ | refine z_NF ?_ | refine z_NT ?_ | refine z_eqi ?_ | refine z_eqs ?_ | refine z_nei ?_ | refine z_nes ?_ | refine z_le ?_ | refine z_lt ?_ | refine z_gtt ?_ | refine z_ge ?_ | refine z_add ?_ | refine z_sub ?_ | refine z_p15 ?_ | refine z_p30 ?_ | refine z_p18 ?_ | refine z_neg ?_ | refine z_ix0 ?_ | refine z_ix1 ?_ | refine z_ix2 ?_ | refine z_ix3 ?_ | refine z_lent ?_ | refine z_slt ?_ | refine z_lenc ?_ | refine z_inb ?_ | refine z_min ?_ | refine z_max ?_ | refine z_its ?_ | refine z_rng1 ?_ | refine z_dict0 ?_ | refine z_dict ?_ | refine z_wpc ?_ | refine z_wpn ?_ | refine z_list0 ?_ | refine z_gt (by with_unfolding_all rfl) ?_ | refine z_sz (by with_unfolding_all rfl) ?_)
    refine L_numbers_right_ok hg c0 fun M7 f7 => ?_
    repeat (with_reducible first | refine z_seq ?_ | refine z_ifs ?_ | refine z_ret ?_ | refine z_retN ?_ | refine z_next ?_ | refine z_drop ?_ | refine z_asg ?_ | refine z_par ?_ | refine z_for ?_ | refine z_break ?_ | refine z_cont ?_ | refine z_g0 ?_ | refine z_g1 ?_ | refine z_g2 ?_ | refine z_g3 ?_ | refine z_g4 ?_ | refine z_g5 ?_ | refine z_g6 ?_ | refine z_g7 ?_ | refine z_g8 ?_ | refine z_g9 ?_ | refine z_g10 ?_ | refine z_gc ?_ | refine z_gn ?_ | refine z_gst ?_ | refine z_v0 ?_ | refine z_v1 ?_ | refine z_v2 ?_ | refine z_v3 ?_ | refine z_v4 ?_ | refine z_v5 ?_ | refine z_v6 ?_ | refine z_v7 ?_ | refine z_v8 ?_ | refine z_v9 ?_ | refine z_v10 ?_ | refine z_c ?_ | refine z_op ?_ | refine z_un ?_ | refine z_call ?_ | refine z_callK ?_ | refine z_cons ?_ | refine z_nil ?_ | refine z_tup ?_ | refine z_lst ?_ | refine z_and ?_ | refine z_or ?_ | refine z_not ?_ | refine z_if ?_ | refine z_chain ?_ | refine z_sl ?_ | refine z_nop ?_ | refine z_prt ?_ | refine z_prti ?_ | refine z_mt ?_ | refine z_mstr ?_ | refine z_lc ?_ | refine z_tst ?_ | refine z_tb ?_ | refine z_tru ?_ | refine z_tand ?_ | refine z_tor ?_ | refine z_tnot ?_ | refine z_yes ?_ | refine z_trb ?_ | refine z_trn ?_ | refine z_T ?_ | refine z_F ?_ | refine z_NF ?_ | refine z_NT ?_ | refine z_eqi ?_ | refine z_eqs ?_ | refine z_nei ?_ | refine z_nes ?_ | refine z_le ?_ | refine z_lt ?_ | refine z_gtt ?_ | refine z_ge ?_ | refine z_add ?_ | refine z_sub ?_ | refine z_p15 ?_ | refine z_p30 ?_ | refine z_p18 ?_ | refine z_neg ?_ | refine z_ix0 ?_ | refine z_ix1 ?_ | refine z_ix2 ?_ | refine z_ix3 ?_ | refine z_lent ?_ | refine z_slt ?_ | refine z_lenc ?_ | refine z_inb ?_ | refine z_min ?_ | refine z_max ?_ | refine z_its ?_ | refine z_rng1 ?_ | refine z_dict0 ?_ | refine z_dict ?_ | refine z_wpc ?_ | refine z_wpn ?_ | refine z_list0 ?_ | refine z_gt (by with_unfolding_all rfl) ?_ | refine z_sz (by with_unfolding_all rfl) ?_)
    refine L_stamps_right_ok ((p5.new f6).new f7) hg c0 hy fun M8 p8 f8 => ?_
    repeat (with_reducible first | refine z_seq ?_ | refine z_ifs ?_ | refine z_ret ?_ | refine z_retN ?_ | refine z_next ?_ | refine z_drop ?_ | refine z_asg ?_ | refine z_par ?_ | refine z_for ?_ | refine z_break ?_ | refine z_cont ?_ | refine z_g0 ?_ | refine z_g1 ?_ | refine z_g2 ?_ | refine z_g3 ?_ | refine z_g4 ?_ | refine z_g5 ?_ | refine z_g6 ?_ | refine z_g7 ?_ | refine z_g8 ?_ | refine z_g9 ?_ | refine z_g10 ?_ | refine z_gc ?_ | refine z_gn ?_ | refine z_gst ?_ | refine z_v0 ?_ | refine z_v1 ?_ | refine z_v2 ?_ | refine z_v3 ?_ | refine z_v4 ?_ | refine z_v5 ?_ | refine z_v6 ?_ | refine z_v7 ?_ | refine z_v8 ?_ | refine z_v9 ?_ | refine z_v10 ?_ | refine z_c ?_ | refine z_op ?_ | refine z_un ?_ | refine z_call ?_ | refine z_callK ?_ | refine z_cons ?_ | refine z_nil ?_ | refine z_tup ?_ | refine z_lst ?_ | refine z_and ?_ | refine z_or ?_ | refine z_not ?_ | refine z_if ?_ | refine z_chain ?_ | refine z_sl ?_ | refine z_nop ?_ | refine z_prt ?_ | refine z_prti ?_ | refine z_mt ?_ | refine z_mstr ?_ | refine z_lc ?_ | refine z_tst ?_ | refine z_tb ?_ | refine z_tru ?_ | refine z_tand ?_ | refine z_tor ?_ | refine z_tnot ?_ | refine z_yes ?_ | refine z_trb ?_ | refine z_trn ?_ | refine z_T ?_ | refine z_F ?_ | refine z_NF ?_ | refine z_NT ?_ | refine z_eqi ?_ | refine z_eqs ?_ | refine z_nei ?_ | refine z_nes ?_ | refine z_le ?_ | refine z_lt ?_ | refine z_gtt ?_ | refine z_ge ?_ | refine z_add ?_ | refine z_sub ?_ | refine z_p15 ?_ | refine z_p30 ?_ | refine z_p18 ?_ | refine z_neg ?_ | refine z_ix0 ?_ | refine z_ix1 ?_ | refine z_ix2 ?_ | refine z_ix3 ?_ | refine z_lent ?_ | refine z_slt ?_ | refine z_lenc ?_ | refine z_inb ?_ | refine z_min ?_ | refine z_max ?_ | refine z_its ?_ | refine z_rng1 ?_ | refine z_dict0 ?_ | refine z_dict ?_ | refine z_wpc ?_ | refine z_wpn ?_ | refine z_list0 ?_ | refine z_gt (by with_unfolding_all rfl) ?_ | refine z_sz (by with_unfolding_all rfl) ?_)
    refine fun s M9 hs es fs => ?_
    refine z_itl es ?_
    have hy' : isFieldD (.str y) = true := hy
    have fy := field_fo hy'
    have leaf : ∀ it ∈ ([.tup [.int (1000000000000000000000000000000 - 1), .bl true], .tup [.int 1000000000000000000000000000000, .bl false], .tup [.int (1 - 1000000000000000000000000000000), .bl true], .tup [.int (-1000000000000000000000000000000), .bl false]] : List D),
        ∃ (i : Int) (b : Bool), it = .tup [.int i, .bl b] ∧ i.natAbs < 10 ^ 40 ∧ isLeafD (.int i) = b := by
      refine all_cons ⟨_, _, rfl, by decide, by decide +kernel⟩ (all_cons ⟨_, _, rfl, by decide, by decide +kernel⟩ (all_cons ⟨_, _, rfl, by decide, by decide +kernel⟩ (all_cons ⟨_, _, rfl, by decide, by decide +kernel⟩ all_nil)))
    refine run_all (fun env M' => (∃ a b, env = [some (.clst (ns.map .int)), some (.int i), some (.ref l), some (.tup [.int c, .str x]), some (.str y), a, b]) ∧ Fr [] M9 M') ⟨⟨_, _, rfl⟩, .refl⟩ (fun d env M10 k hd hP next2 => ⟨hP.2 _ _ (by simp) es, ?_⟩) fun env M10 hP => ⟨hP.2 _ _ (by simp) es, ?_⟩
    · obtain ⟨⟨_, _, rfl⟩, f10⟩ := hP
      obtain ⟨v, b, rfl, hv, hb⟩ := leaf d hd
      repeat (with_reducible first | refine z_seq ?_ | refine z_ifs ?_ | refine z_ret ?_ | refine z_retN ?_ | refine z_next ?_ | refine z_drop ?_ | refine z_asg ?_ | refine z_par ?_ | refine z_for ?_ | refine z_break ?_ | refine z_cont ?_ | refine z_g0 ?_ | refine z_g1 ?_ | refine z_g2 ?_ | refine z_g3 ?_ | refine z_g4 ?_ | refine z_g5 ?_ | refine z_g6 ?_ | refine z_g7 ?_ | refine z_g8 ?_ | refine z_g9 ?_ | refine z_g10 ?_ | refine z_gc ?_ | refine z_gn ?_ | refine z_gst ?_ | refine z_v0 ?_ | refine z_v1 ?_ | refine z_v2 ?_ | refine z_v3 ?_ | refine z_v4 ?_ | refine z_v5 ?_ | refine z_v6 ?_ | refine z_v7 ?_ | refine z_v8 ?_ | refine z_v9 ?_ | refine z_v10 ?_ | refine z_c ?_ | refine z_op ?_ | refine z_un ?_ | refine z_call ?_ | refine z_callK ?_ | refine z_cons ?_ | refine z_nil ?_ | refine z_tup ?_ | refine z_lst ?_ | refine z_and ?_ | refine z_or ?_ | refine z_not ?_ | refine z_if ?_ | refine z_chain ?_ | refine z_sl ?_ | refine z_nop ?_ | refine z_prt ?_ | refine z_prti ?_ | refine z_mt ?_ | refine z_mstr ?_ | refine z_lc ?_ | refine z_tst ?_ | refine z_tb ?_ | refine z_tru ?_ | refine z_tand ?_ | refine z_tor ?_ | refine z_tnot ?_ | refine z_yes ?_ | refine z_trb ?_ | refine z_trn ?_ | refine z_T ?_ | refine z_F ?_ | refine z_NF ?_ | refine z_NT ?_ | refine z_eqi ?_ | refine z_eqs ?_ | refine z_nei ?_ | refine z_nes ?_ | refine z_le ?_ | refine z_lt ?_ | refine z_gtt ?_ | refine z_ge ?_ | refine z_add ?_ | refine z_sub ?_ | refine z_p15 ?_ | refine z_p30 ?_ | refine z_p18 ?_ | refine z_neg ?_ | refine z_ix0 ?_ | refine z_ix1 ?_ | refine z_ix2 ?_ | refine z_ix3 ?_ | refine z_lent ?_ | refine z_slt ?_ | refine z_lenc ?_ | refine z_inb ?_ | refine z_min ?_ | refine z_max ?_ | refine z_its ?_ | refine z_rng1 ?_ | refine z_dict0 ?_ | refine z_dict ?_ | refine z_wpc ?_ | refine z_wpn ?_ | refine z_list0 ?_ | refine z_gt (by with_unfolding_all rfl) ?_ | refine z_sz (by with_unfolding_all rfl) ?_)
      refine fun z M11 hz ez fz => ?_
      repeat (with_reducible first | refine z_seq ?_ | refine z_ifs ?_ | refine z_ret ?_ | refine z_retN ?_ | refine z_next ?_ | refine z_drop ?_ | refine z_asg ?_ | refine z_par ?_ | refine z_for ?_ | refine z_break ?_ | refine z_cont ?_ | refine z_g0 ?_ | refine z_g1 ?_ | refine z_g2 ?_ | refine z_g3 ?_ | refine z_g4 ?_ | refine z_g5 ?_ | refine z_g6 ?_ | refine z_g7 ?_ | refine z_g8 ?_ | refine z_g9 ?_ | refine z_g10 ?_ | refine z_gc ?_ | refine z_gn ?_ | refine z_gst ?_ | refine z_v0 ?_ | refine z_v1 ?_ | refine z_v2 ?_ | refine z_v3 ?_ | refine z_v4 ?_ | refine z_v5 ?_ | refine z_v6 ?_ | refine z_v7 ?_ | refine z_v8 ?_ | refine z_v9 ?_ | refine z_v10 ?_ | refine z_c ?_ | refine z_op ?_ | refine z_un ?_ | refine z_call ?_ | refine z_callK ?_ | refine z_cons ?_ | refine z_nil ?_ | refine z_tup ?_ | refine z_lst ?_ | refine z_and ?_ | refine z_or ?_ | refine z_not ?_ | refine z_if ?_ | refine z_chain ?_ | refine z_sl ?_ | refine z_nop ?_ | refine z_prt ?_ | refine z_prti ?_ | refine z_mt ?_ | refine z_mstr ?_ | refine z_lc ?_ | refine z_tst ?_ | refine z_tb ?_ | refine z_tru ?_ | refine z_tand ?_ | refine z_tor ?_ | refine z_tnot ?_ | refine z_yes ?_ | refine z_trb ?_ | refine z_trn ?_ | refine z_T ?_ | refine z_F ?_ | refine z_NF ?_ | refine z_NT ?_ | refine z_eqi ?_ | refine z_eqs ?_ | refine z_nei ?_ | refine z_nes ?_ | refine z_le ?_ | refine z_lt ?_ | refine z_gtt ?_ | refine z_ge ?_ | refine z_add ?_ | refine z_sub ?_ | refine z_p15 ?_ | refine z_p30 ?_ | refine z_p18 ?_ | refine z_neg ?_ | refine z_ix0 ?_ | refine z_ix1 ?_ | refine z_ix2 ?_ | refine z_ix3 ?_ | refine z_lent ?_ | refine z_slt ?_ | refine z_lenc ?_ | refine z_inb ?_ | refine z_min ?_ | refine z_max ?_ | refine z_its ?_ | refine z_rng1 ?_ | refine z_dict0 ?_ | refine z_dict ?_ | refine z_wpc ?_ | refine z_wpn ?_ | refine z_list0 ?_ | refine z_gt (by with_unfolding_all rfl) ?_ | refine z_sz (by with_unfolding_all rfl) ?_)
      have pv : Plain (.tup [.str (("leaf" : String) : Str), .int v]) := .t2 (fo_str (by decide +kernel)) (.int hv)
      have wv : isWhatD (.tup [.str (("leaf" : String) : Str), .int v]) = b := by
        have e : isWhatD (.tup [.str "leaf", .int v]) = if ("leaf" : Str) = "sign" then isSignD (.int v) else if ("leaf" : Str) = "leaf" then isLeafD (.int v) else false := rfl
        rw [e, if_neg (by decide +kernel), if_pos rfl]; exact hb
      have nv : isStampD (.tup [.str (("leaf" : String) : Str), .int v]) = false := rfl
      refine L_right_ok (mk_made (stamp_pl hg) (.inl (.int (by decide))) put_fo (Nat.le_of_ble_eq_true rfl) (all_cons (plain_sp root_pl) (all_cons (plain_sp (.inl fy)) (all_cons (plain_sp pv) all_nil)))) (Nat.le_of_ble_eq_true rfl) (by rw [deed_w hg (upto_int (by decide) (by omega)), words_put', root_par, field_pla hy', wv]; simp) ez (fun _ => by simp only [List.filter_cons, no_stamp0, field_nst hy', nv, if_false, Bool.false_eq_true, List.filter_nil]) fun M12 f12 => ?_
      repeat (with_reducible first | refine z_seq ?_ | refine z_ifs ?_ | refine z_ret ?_ | refine z_retN ?_ | refine z_next ?_ | refine z_drop ?_ | refine z_asg ?_ | refine z_par ?_ | refine z_for ?_ | refine z_break ?_ | refine z_cont ?_ | refine z_g0 ?_ | refine z_g1 ?_ | refine z_g2 ?_ | refine z_g3 ?_ | refine z_g4 ?_ | refine z_g5 ?_ | refine z_g6 ?_ | refine z_g7 ?_ | refine z_g8 ?_ | refine z_g9 ?_ | refine z_g10 ?_ | refine z_gc ?_ | refine z_gn ?_ | refine z_gst ?_ | refine z_v0 ?_ | refine z_v1 ?_ | refine z_v2 ?_ | refine z_v3 ?_ | refine z_v4 ?_ | refine z_v5 ?_ | refine z_v6 ?_ | refine z_v7 ?_ | refine z_v8 ?_ | refine z_v9 ?_ | refine z_v10 ?_ | refine z_c ?_ | refine z_op ?_ | refine z_un ?_ | refine z_call ?_ | refine z_callK ?_ | refine z_cons ?_ | refine z_nil ?_ | refine z_tup ?_ | refine z_lst ?_ | refine z_and ?_ | refine z_or ?_ | refine z_not ?_ | refine z_if ?_ | refine z_chain ?_ | refine z_sl ?_ | refine z_nop ?_ | refine z_prt ?_ | refine z_prti ?_ | refine z_mt ?_ | refine z_mstr ?_ | refine z_lc ?_ | refine z_tst ?_ | refine z_tb ?_ | refine z_tru ?_ | refine z_tand ?_ | refine z_tor ?_ | refine z_tnot ?_ | refine z_yes ?_ | refine z_trb ?_ | refine z_trn ?_ | refine z_T ?_ | refine z_F ?_ | refine z_NF ?_ | refine z_NT ?_ | refine z_eqi ?_ | refine z_eqs ?_ | refine z_nei ?_ | refine z_nes ?_ | refine z_le ?_ | refine z_lt ?_ | refine z_gtt ?_ | refine z_ge ?_ | refine z_add ?_ | refine z_sub ?_ | refine z_p15 ?_ | refine z_p30 ?_ | refine z_p18 ?_ | refine z_neg ?_ | refine z_ix0 ?_ | refine z_ix1 ?_ | refine z_ix2 ?_ | refine z_ix3 ?_ | refine z_lent ?_ | refine z_slt ?_ | refine z_lenc ?_ | refine z_inb ?_ | refine z_min ?_ | refine z_max ?_ | refine z_its ?_ | refine z_rng1 ?_ | refine z_dict0 ?_ | refine z_dict ?_ | refine z_wpc ?_ | refine z_wpn ?_ | refine z_list0 ?_ | refine z_gt (by with_unfolding_all rfl) ?_ | refine z_sz (by with_unfolding_all rfl) ?_)
      exact next2 _ _ ⟨⟨_, _, rfl⟩, (f10.trans fz).trans f12⟩
    · obtain ⟨⟨_, _, rfl⟩, f10⟩ := hP
      exact next _ _ ⟨_, _, _, _, _, _, rfl⟩
  · obtain ⟨a, b, c, d, e, f, rfl⟩ := hP
    repeat (with_reducible first | refine z_seq ?_ | refine z_ifs ?_ | refine z_ret ?_ | refine z_retN ?_ | refine z_next ?_ | refine z_drop ?_ | refine z_asg ?_ | refine z_par ?_ | refine z_for ?_ | refine z_break ?_ | refine z_cont ?_ | refine z_g0 ?_ | refine z_g1 ?_ | refine z_g2 ?_ | refine z_g3 ?_ | refine z_g4 ?_ | refine z_g5 ?_ | refine z_g6 ?_ | refine z_g7 ?_ | refine z_g8 ?_ | refine z_g9 ?_ | refine z_g10 ?_ | refine z_gc ?_ | refine z_gn ?_ | refine z_gst ?_ | refine z_v0 ?_ | refine z_v1 ?_ | refine z_v2 ?_ | refine z_v3 ?_ | refine z_v4 ?_ | refine z_v5 ?_ | refine z_v6 ?_ | refine z_v7 ?_ | refine z_v8 ?_ | refine z_v9 ?_ | refine z_v10 ?_ | refine z_c ?_ | refine z_op ?_ | refine z_un ?_ | refine z_call ?_ | refine z_callK ?_ | refine z_cons ?_ | refine z_nil ?_ | refine z_tup ?_ | refine z_lst ?_ | refine z_and ?_ | refine z_or ?_ | refine z_not ?_ | refine z_if ?_ | refine z_chain ?_ | refine z_sl ?_ | refine z_nop ?_ | refine z_prt ?_ | refine z_prti ?_ | refine z_mt ?_ | refine z_mstr ?_ | refine z_lc ?_ | refine z_tst ?_ | refine z_tb ?_ | refine z_tru ?_ | refine z_tand ?_ | refine z_tor ?_ | refine z_tnot ?_ | refine z_yes ?_ | refine z_trb ?_ | refine z_trn ?_ | refine z_T ?_ | refine z_F ?_ | refine z_NF ?_ | refine z_NT ?_ | refine z_eqi ?_ | refine z_eqs ?_ | refine z_nei ?_ | refine z_nes ?_ | refine z_le ?_ | refine z_lt ?_ | refine z_gtt ?_ | refine z_ge ?_ | refine z_add ?_ | refine z_sub ?_ | refine z_p15 ?_ | refine z_p30 ?_ | refine z_p18 ?_ | refine z_neg ?_ | refine z_ix0 ?_ | refine z_ix1 ?_ | refine z_ix2 ?_ | refine z_ix3 ?_ | refine z_lent ?_ | refine z_slt ?_ | refine z_lenc ?_ | refine z_inb ?_ | refine z_min ?_ | refine z_max ?_ | refine z_its ?_ | refine z_rng1 ?_ | refine z_dict0 ?_ | refine z_dict ?_ | refine z_wpc ?_ | refine z_wpn ?_ | refine z_list0 ?_ | refine z_gt (by with_unfolding_all rfl) ?_ | refine z_sz (by with_unfolding_all rfl) ?_)
    rfl
end L2.Dl.G

namespace L2.Dl.G
open PySem PySem.Spec PyProof.Rows
def fx_is_whole {K : PySem.W.Frag} {h : Heap} {mg : Str → Option Value} {f : Addr} {od an : Option Addr} {sl : Array (Option Value)} {oc kV dc pm cd ct : Value} (X : K.In h) (G : h.Ns mainGlobals mg) (a : PySem.W.nsIn K mainGlobals "is_whole" = some (some (.ref f))) (l : K.lookup f = some ⟨oc, od, .func (PySem.W.fnOf "is_whole" "is_whole" (defArgs s_is_whole) (defBody s_is_whole) (defScope s_is_whole) .none kV dc pm an cd ct), sl⟩) (c : PySem.W.codeIn K cd "is_whole" = true) (k : PySem.W.keepIn K (.ref f) = true) : Fx K mg "is_whole" s_is_whole ["thing"] :=
  have F := fun_mk (st := s_is_whole) l c k
  ⟨_, _, F, PySem.W.mg_of X G a, pb_of (ps := ["thing"]) F fun _ _ _ _ _ _ us hl => match us, hl with | [_], _ => rfl⟩
def fx_is_name {K : PySem.W.Frag} {h : Heap} {mg : Str → Option Value} {f : Addr} {od an : Option Addr} {sl : Array (Option Value)} {oc kV dc pm cd ct : Value} (X : K.In h) (G : h.Ns mainGlobals mg) (a : PySem.W.nsIn K mainGlobals "is_name" = some (some (.ref f))) (l : K.lookup f = some ⟨oc, od, .func (PySem.W.fnOf "is_name" "is_name" (defArgs s_is_name) (defBody s_is_name) (defScope s_is_name) .none kV dc pm an cd ct), sl⟩) (c : PySem.W.codeIn K cd "is_name" = true) (k : PySem.W.keepIn K (.ref f) = true) : Fx K mg "is_name" s_is_name ["thing"] :=
  have F := fun_mk (st := s_is_name) l c k
  ⟨_, _, F, PySem.W.mg_of X G a, pb_of (ps := ["thing"]) F fun _ _ _ _ _ _ us hl => match us, hl with | [_], _ => rfl⟩
def fx_is_field {K : PySem.W.Frag} {h : Heap} {mg : Str → Option Value} {f : Addr} {od an : Option Addr} {sl : Array (Option Value)} {oc kV dc pm cd ct : Value} (X : K.In h) (G : h.Ns mainGlobals mg) (a : PySem.W.nsIn K mainGlobals "is_field" = some (some (.ref f))) (l : K.lookup f = some ⟨oc, od, .func (PySem.W.fnOf "is_field" "is_field" (defArgs s_is_field) (defBody s_is_field) (defScope s_is_field) .none kV dc pm an cd ct), sl⟩) (c : PySem.W.codeIn K cd "is_field" = true) (k : PySem.W.keepIn K (.ref f) = true) : Fx K mg "is_field" s_is_field ["thing"] :=
  have F := fun_mk (st := s_is_field) l c k
  ⟨_, _, F, PySem.W.mg_of X G a, pb_of (ps := ["thing"]) F fun _ _ _ _ _ _ us hl => match us, hl with | [_], _ => rfl⟩
def fx_is_stamp {K : PySem.W.Frag} {h : Heap} {mg : Str → Option Value} {f : Addr} {od an : Option Addr} {sl : Array (Option Value)} {oc kV dc pm cd ct : Value} (X : K.In h) (G : h.Ns mainGlobals mg) (a : PySem.W.nsIn K mainGlobals "is_stamp" = some (some (.ref f))) (l : K.lookup f = some ⟨oc, od, .func (PySem.W.fnOf "is_stamp" "is_stamp" (defArgs s_is_stamp) (defBody s_is_stamp) (defScope s_is_stamp) .none kV dc pm an cd ct), sl⟩) (c : PySem.W.codeIn K cd "is_stamp" = true) (k : PySem.W.keepIn K (.ref f) = true) : Fx K mg "is_stamp" s_is_stamp ["thing"] :=
  have F := fun_mk (st := s_is_stamp) l c k
  ⟨_, _, F, PySem.W.mg_of X G a, pb_of (ps := ["thing"]) F fun _ _ _ _ _ _ us hl => match us, hl with | [_], _ => rfl⟩
def fx_is_root {K : PySem.W.Frag} {h : Heap} {mg : Str → Option Value} {f : Addr} {od an : Option Addr} {sl : Array (Option Value)} {oc kV dc pm cd ct : Value} (X : K.In h) (G : h.Ns mainGlobals mg) (a : PySem.W.nsIn K mainGlobals "is_root" = some (some (.ref f))) (l : K.lookup f = some ⟨oc, od, .func (PySem.W.fnOf "is_root" "is_root" (defArgs s_is_root) (defBody s_is_root) (defScope s_is_root) .none kV dc pm an cd ct), sl⟩) (c : PySem.W.codeIn K cd "is_root" = true) (k : PySem.W.keepIn K (.ref f) = true) : Fx K mg "is_root" s_is_root ["thing"] :=
  have F := fun_mk (st := s_is_root) l c k
  ⟨_, _, F, PySem.W.mg_of X G a, pb_of (ps := ["thing"]) F fun _ _ _ _ _ _ us hl => match us, hl with | [_], _ => rfl⟩
def fx_is_sign {K : PySem.W.Frag} {h : Heap} {mg : Str → Option Value} {f : Addr} {od an : Option Addr} {sl : Array (Option Value)} {oc kV dc pm cd ct : Value} (X : K.In h) (G : h.Ns mainGlobals mg) (a : PySem.W.nsIn K mainGlobals "is_sign" = some (some (.ref f))) (l : K.lookup f = some ⟨oc, od, .func (PySem.W.fnOf "is_sign" "is_sign" (defArgs s_is_sign) (defBody s_is_sign) (defScope s_is_sign) .none kV dc pm an cd ct), sl⟩) (c : PySem.W.codeIn K cd "is_sign" = true) (k : PySem.W.keepIn K (.ref f) = true) : Fx K mg "is_sign" s_is_sign ["thing"] :=
  have F := fun_mk (st := s_is_sign) l c k
  ⟨_, _, F, PySem.W.mg_of X G a, pb_of (ps := ["thing"]) F fun _ _ _ _ _ _ us hl => match us, hl with | [_], _ => rfl⟩
def fx_is_leaf {K : PySem.W.Frag} {h : Heap} {mg : Str → Option Value} {f : Addr} {od an : Option Addr} {sl : Array (Option Value)} {oc kV dc pm cd ct : Value} (X : K.In h) (G : h.Ns mainGlobals mg) (a : PySem.W.nsIn K mainGlobals "is_leaf" = some (some (.ref f))) (l : K.lookup f = some ⟨oc, od, .func (PySem.W.fnOf "is_leaf" "is_leaf" (defArgs s_is_leaf) (defBody s_is_leaf) (defScope s_is_leaf) .none kV dc pm an cd ct), sl⟩) (c : PySem.W.codeIn K cd "is_leaf" = true) (k : PySem.W.keepIn K (.ref f) = true) : Fx K mg "is_leaf" s_is_leaf ["thing"] :=
  have F := fun_mk (st := s_is_leaf) l c k
  ⟨_, _, F, PySem.W.mg_of X G a, pb_of (ps := ["thing"]) F fun _ _ _ _ _ _ us hl => match us, hl with | [_], _ => rfl⟩
def fx_is_what {K : PySem.W.Frag} {h : Heap} {mg : Str → Option Value} {f : Addr} {od an : Option Addr} {sl : Array (Option Value)} {oc kV dc pm cd ct : Value} (X : K.In h) (G : h.Ns mainGlobals mg) (a : PySem.W.nsIn K mainGlobals "is_what" = some (some (.ref f))) (l : K.lookup f = some ⟨oc, od, .func (PySem.W.fnOf "is_what" "is_what" (defArgs s_is_what) (defBody s_is_what) (defScope s_is_what) .none kV dc pm an cd ct), sl⟩) (c : PySem.W.codeIn K cd "is_what" = true) (k : PySem.W.keepIn K (.ref f) = true) : Fx K mg "is_what" s_is_what ["thing"] :=
  have F := fun_mk (st := s_is_what) l c k
  ⟨_, _, F, PySem.W.mg_of X G a, pb_of (ps := ["thing"]) F fun _ _ _ _ _ _ us hl => match us, hl with | [_], _ => rfl⟩
def fx_is_earlier {K : PySem.W.Frag} {h : Heap} {mg : Str → Option Value} {f : Addr} {od an : Option Addr} {sl : Array (Option Value)} {oc kV dc pm cd ct : Value} (X : K.In h) (G : h.Ns mainGlobals mg) (a : PySem.W.nsIn K mainGlobals "is_earlier" = some (some (.ref f))) (l : K.lookup f = some ⟨oc, od, .func (PySem.W.fnOf "is_earlier" "is_earlier" (defArgs s_is_earlier) (defBody s_is_earlier) (defScope s_is_earlier) .none kV dc pm an cd ct), sl⟩) (c : PySem.W.codeIn K cd "is_earlier" = true) (k : PySem.W.keepIn K (.ref f) = true) : Fx K mg "is_earlier" s_is_earlier ["thing", "stamp"] :=
  have F := fun_mk (st := s_is_earlier) l c k
  ⟨_, _, F, PySem.W.mg_of X G a, pb_of (ps := ["thing", "stamp"]) F fun _ _ _ _ _ _ us hl => match us, hl with | [_, _], _ => rfl⟩
def fx_is_part {K : PySem.W.Frag} {h : Heap} {mg : Str → Option Value} {f : Addr} {od an : Option Addr} {sl : Array (Option Value)} {oc kV dc pm cd ct : Value} (X : K.In h) (G : h.Ns mainGlobals mg) (a : PySem.W.nsIn K mainGlobals "is_part" = some (some (.ref f))) (l : K.lookup f = some ⟨oc, od, .func (PySem.W.fnOf "is_part" "is_part" (defArgs s_is_part) (defBody s_is_part) (defScope s_is_part) .none kV dc pm an cd ct), sl⟩) (c : PySem.W.codeIn K cd "is_part" = true) (k : PySem.W.keepIn K (.ref f) = true) : Fx K mg "is_part" s_is_part ["sort", "thing", "stamp"] :=
  have F := fun_mk (st := s_is_part) l c k
  ⟨_, _, F, PySem.W.mg_of X G a, pb_of (ps := ["sort", "thing", "stamp"]) F fun _ _ _ _ _ _ us hl => match us, hl with | [_, _, _], _ => rfl⟩
def fx_are_words {K : PySem.W.Frag} {h : Heap} {mg : Str → Option Value} {f : Addr} {od an : Option Addr} {sl : Array (Option Value)} {oc kV dc pm cd ct : Value} (X : K.In h) (G : h.Ns mainGlobals mg) (a : PySem.W.nsIn K mainGlobals "are_words" = some (some (.ref f))) (l : K.lookup f = some ⟨oc, od, .func (PySem.W.fnOf "are_words" "are_words" (defArgs s_are_words) (defBody s_are_words) (defScope s_are_words) .none kV dc pm an cd ct), sl⟩) (c : PySem.W.codeIn K cd "are_words" = true) (k : PySem.W.keepIn K (.ref f) = true) : Fx K mg "are_words" s_are_words ["thing", "stamp"] :=
  have F := fun_mk (st := s_are_words) l c k
  ⟨_, _, F, PySem.W.mg_of X G a, pb_of (ps := ["thing", "stamp"]) F fun _ _ _ _ _ _ us hl => match us, hl with | [_, _], _ => rfl⟩
def fx_is_deed {K : PySem.W.Frag} {h : Heap} {mg : Str → Option Value} {f : Addr} {od an : Option Addr} {sl : Array (Option Value)} {oc kV dc pm cd ct : Value} (X : K.In h) (G : h.Ns mainGlobals mg) (a : PySem.W.nsIn K mainGlobals "is_deed" = some (some (.ref f))) (l : K.lookup f = some ⟨oc, od, .func (PySem.W.fnOf "is_deed" "is_deed" (defArgs s_is_deed) (defBody s_is_deed) (defScope s_is_deed) .none kV dc pm an cd ct), sl⟩) (c : PySem.W.codeIn K cd "is_deed" = true) (k : PySem.W.keepIn K (.ref f) = true) : Fx K mg "is_deed" s_is_deed ["thing"] :=
  have F := fun_mk (st := s_is_deed) l c k
  ⟨_, _, F, PySem.W.mg_of X G a, pb_of (ps := ["thing"]) F fun _ _ _ _ _ _ us hl => match us, hl with | [_], _ => rfl⟩
def fx_named {K : PySem.W.Frag} {h : Heap} {mg : Str → Option Value} {f : Addr} {od an : Option Addr} {sl : Array (Option Value)} {oc kV dc pm cd ct : Value} (X : K.In h) (G : h.Ns mainGlobals mg) (a : PySem.W.nsIn K mainGlobals "named" = some (some (.ref f))) (l : K.lookup f = some ⟨oc, od, .func (PySem.W.fnOf "named" "named" (defArgs s_named) (defBody s_named) (defScope s_named) .none kV dc pm an cd ct), sl⟩) (c : PySem.W.codeIn K cd "named" = true) (k : PySem.W.keepIn K (.ref f) = true) : Fx K mg "named" s_named ["deed"] :=
  have F := fun_mk (st := s_named) l c k
  ⟨_, _, F, PySem.W.mg_of X G a, pb_of (ps := ["deed"]) F fun _ _ _ _ _ _ us hl => match us, hl with | [_], _ => rfl⟩
def fx_L_pot {K : PySem.W.Frag} {h : Heap} {mg : Str → Option Value} {f : Addr} {od an : Option Addr} {sl : Array (Option Value)} {oc kV dc pm cd ct : Value} (X : K.In h) (G : h.Ns mainGlobals mg) (a : PySem.W.nsIn K mainGlobals "_law_pot" = some (some (.ref f))) (l : K.lookup f = some ⟨oc, od, .func (PySem.W.fnOf "_law_pot" "_law_pot" (defArgs s_L_pot) (defBody s_L_pot) (defScope s_L_pot) .none kV dc pm an cd ct), sl⟩) (c : PySem.W.codeIn K cd "_law_pot" = true) (k : PySem.W.keepIn K (.ref f) = true) : Fx K mg "_law_pot" s_L_pot ["_law_script", "_law_k"] :=
  have F := fun_mk (st := s_L_pot) l c k
  ⟨_, _, F, PySem.W.mg_of X G a, pb_of (ps := ["_law_script", "_law_k"]) F fun _ _ _ _ _ _ us hl => match us, hl with | [_, _], _ => rfl⟩
def fx_L_digit {K : PySem.W.Frag} {h : Heap} {mg : Str → Option Value} {f : Addr} {od an : Option Addr} {sl : Array (Option Value)} {oc kV dc pm cd ct : Value} (X : K.In h) (G : h.Ns mainGlobals mg) (a : PySem.W.nsIn K mainGlobals "_law_digit" = some (some (.ref f))) (l : K.lookup f = some ⟨oc, od, .func (PySem.W.fnOf "_law_digit" "_law_digit" (defArgs s_L_digit) (defBody s_L_digit) (defScope s_L_digit) .none kV dc pm an cd ct), sl⟩) (c : PySem.W.codeIn K cd "_law_digit" = true) (k : PySem.W.keepIn K (.ref f) = true) : Fx K mg "_law_digit" s_L_digit ["_law_pot_here", "_law_many"] :=
  have F := fun_mk (st := s_L_digit) l c k
  ⟨_, _, F, PySem.W.mg_of X G a, pb_of (ps := ["_law_pot_here", "_law_many"]) F fun _ _ _ _ _ _ us hl => match us, hl with | [_, _], _ => rfl⟩
def fx_L_name {K : PySem.W.Frag} {h : Heap} {mg : Str → Option Value} {f : Addr} {od an : Option Addr} {sl : Array (Option Value)} {oc kV dc pm cd ct : Value} (X : K.In h) (G : h.Ns mainGlobals mg) (a : PySem.W.nsIn K mainGlobals "_law_name" = some (some (.ref f))) (l : K.lookup f = some ⟨oc, od, .func (PySem.W.fnOf "_law_name" "_law_name" (defArgs s_L_name) (defBody s_L_name) (defScope s_L_name) .none kV dc pm an cd ct), sl⟩) (c : PySem.W.codeIn K cd "_law_name" = true) (k : PySem.W.keepIn K (.ref f) = true) : Fx K mg "_law_name" s_L_name ["_law_pot_here"] :=
  have F := fun_mk (st := s_L_name) l c k
  ⟨_, _, F, PySem.W.mg_of X G a, pb_of (ps := ["_law_pot_here"]) F fun _ _ _ _ _ _ us hl => match us, hl with | [_], _ => rfl⟩
def fx_L_field {K : PySem.W.Frag} {h : Heap} {mg : Str → Option Value} {f : Addr} {od an : Option Addr} {sl : Array (Option Value)} {oc kV dc pm cd ct : Value} (X : K.In h) (G : h.Ns mainGlobals mg) (a : PySem.W.nsIn K mainGlobals "_law_field" = some (some (.ref f))) (l : K.lookup f = some ⟨oc, od, .func (PySem.W.fnOf "_law_field" "_law_field" (defArgs s_L_field) (defBody s_L_field) (defScope s_L_field) .none kV dc pm an cd ct), sl⟩) (c : PySem.W.codeIn K cd "_law_field" = true) (k : PySem.W.keepIn K (.ref f) = true) : Fx K mg "_law_field" s_L_field ["_law_pot_here"] :=
  have F := fun_mk (st := s_L_field) l c k
  ⟨_, _, F, PySem.W.mg_of X G a, pb_of (ps := ["_law_pot_here"]) F fun _ _ _ _ _ _ us hl => match us, hl with | [_], _ => rfl⟩
def fx_L_count {K : PySem.W.Frag} {h : Heap} {mg : Str → Option Value} {f : Addr} {od an : Option Addr} {sl : Array (Option Value)} {oc kV dc pm cd ct : Value} (X : K.In h) (G : h.Ns mainGlobals mg) (a : PySem.W.nsIn K mainGlobals "_law_count" = some (some (.ref f))) (l : K.lookup f = some ⟨oc, od, .func (PySem.W.fnOf "_law_count" "_law_count" (defArgs s_L_count) (defBody s_L_count) (defScope s_L_count) .none kV dc pm an cd ct), sl⟩) (c : PySem.W.codeIn K cd "_law_count" = true) (k : PySem.W.keepIn K (.ref f) = true) : Fx K mg "_law_count" s_L_count ["_law_pot_here"] :=
  have F := fun_mk (st := s_L_count) l c k
  ⟨_, _, F, PySem.W.mg_of X G a, pb_of (ps := ["_law_pot_here"]) F fun _ _ _ _ _ _ us hl => match us, hl with | [_], _ => rfl⟩
def fx_L_numbers {K : PySem.W.Frag} {h : Heap} {mg : Str → Option Value} {f : Addr} {od an : Option Addr} {sl : Array (Option Value)} {oc kV dc pm cd ct : Value} (X : K.In h) (G : h.Ns mainGlobals mg) (a : PySem.W.nsIn K mainGlobals "_law_numbers" = some (some (.ref f))) (l : K.lookup f = some ⟨oc, od, .func (PySem.W.fnOf "_law_numbers" "_law_numbers" (defArgs s_L_numbers) (defBody s_L_numbers) (defScope s_L_numbers) .none kV dc pm an cd ct), sl⟩) (c : PySem.W.codeIn K cd "_law_numbers" = true) (k : PySem.W.keepIn K (.ref f) = true) : Fx K mg "_law_numbers" s_L_numbers ["_law_stamp"] :=
  have F := fun_mk (st := s_L_numbers) l c k
  ⟨_, _, F, PySem.W.mg_of X G a, pb_of (ps := ["_law_stamp"]) F fun _ _ _ _ _ _ us hl => match us, hl with | [_], _ => rfl⟩
def fx_L_stamps {K : PySem.W.Frag} {h : Heap} {mg : Str → Option Value} {f : Addr} {od an : Option Addr} {sl : Array (Option Value)} {oc kV dc pm cd ct : Value} (X : K.In h) (G : h.Ns mainGlobals mg) (a : PySem.W.nsIn K mainGlobals "_law_stamps" = some (some (.ref f))) (l : K.lookup f = some ⟨oc, od, .func (PySem.W.fnOf "_law_stamps" "_law_stamps" (defArgs s_L_stamps) (defBody s_L_stamps) (defScope s_L_stamps) .none kV dc pm an cd ct), sl⟩) (c : PySem.W.codeIn K cd "_law_stamps" = true) (k : PySem.W.keepIn K (.ref f) = true) : Fx K mg "_law_stamps" s_L_stamps ["_law_pot_here", "_law_stamp"] :=
  have F := fun_mk (st := s_L_stamps) l c k
  ⟨_, _, F, PySem.W.mg_of X G a, pb_of (ps := ["_law_pot_here", "_law_stamp"]) F fun _ _ _ _ _ _ us hl => match us, hl with | [_, _], _ => rfl⟩
def fx_L_right {K : PySem.W.Frag} {h : Heap} {mg : Str → Option Value} {f : Addr} {od an : Option Addr} {sl : Array (Option Value)} {oc kV dc pm cd ct : Value} (X : K.In h) (G : h.Ns mainGlobals mg) (a : PySem.W.nsIn K mainGlobals "_law_right" = some (some (.ref f))) (l : K.lookup f = some ⟨oc, od, .func (PySem.W.fnOf "_law_right" "_law_right" (defArgs s_L_right) (defBody s_L_right) (defScope s_L_right) .none kV dc pm an cd ct), sl⟩) (c : PySem.W.codeIn K cd "_law_right" = true) (k : PySem.W.keepIn K (.ref f) = true) : Fx K mg "_law_right" s_L_right ["_law_deed", "_law_due", "_law_names"] :=
  have F := fun_mk (st := s_L_right) l c k
  ⟨_, _, F, PySem.W.mg_of X G a, pb_of (ps := ["_law_deed", "_law_due", "_law_names"]) F fun _ _ _ _ _ _ us hl => match us, hl with | [_, _, _], _ => rfl⟩
def fx_L_numbers_right {K : PySem.W.Frag} {h : Heap} {mg : Str → Option Value} {f : Addr} {od an : Option Addr} {sl : Array (Option Value)} {oc kV dc pm cd ct : Value} (X : K.In h) (G : h.Ns mainGlobals mg) (a : PySem.W.nsIn K mainGlobals "_law_numbers_right" = some (some (.ref f))) (l : K.lookup f = some ⟨oc, od, .func (PySem.W.fnOf "_law_numbers_right" "_law_numbers_right" (defArgs s_L_numbers_right) (defBody s_L_numbers_right) (defScope s_L_numbers_right) .none kV dc pm an cd ct), sl⟩) (c : PySem.W.codeIn K cd "_law_numbers_right" = true) (k : PySem.W.keepIn K (.ref f) = true) : Fx K mg "_law_numbers_right" s_L_numbers_right ["_law_stamp"] :=
  have F := fun_mk (st := s_L_numbers_right) l c k
  ⟨_, _, F, PySem.W.mg_of X G a, pb_of (ps := ["_law_stamp"]) F fun _ _ _ _ _ _ us hl => match us, hl with | [_], _ => rfl⟩
def fx_L_stamps_right {K : PySem.W.Frag} {h : Heap} {mg : Str → Option Value} {f : Addr} {od an : Option Addr} {sl : Array (Option Value)} {oc kV dc pm cd ct : Value} (X : K.In h) (G : h.Ns mainGlobals mg) (a : PySem.W.nsIn K mainGlobals "_law_stamps_right" = some (some (.ref f))) (l : K.lookup f = some ⟨oc, od, .func (PySem.W.fnOf "_law_stamps_right" "_law_stamps_right" (defArgs s_L_stamps_right) (defBody s_L_stamps_right) (defScope s_L_stamps_right) .none kV dc pm an cd ct), sl⟩) (c : PySem.W.codeIn K cd "_law_stamps_right" = true) (k : PySem.W.keepIn K (.ref f) = true) : Fx K mg "_law_stamps_right" s_L_stamps_right ["_law_pot_here", "_law_stamp", "_law_field_here"] :=
  have F := fun_mk (st := s_L_stamps_right) l c k
  ⟨_, _, F, PySem.W.mg_of X G a, pb_of (ps := ["_law_pot_here", "_law_stamp", "_law_field_here"]) F fun _ _ _ _ _ _ us hl => match us, hl with | [_, _, _], _ => rfl⟩
def fx_L_first_right {K : PySem.W.Frag} {h : Heap} {mg : Str → Option Value} {f : Addr} {od an : Option Addr} {sl : Array (Option Value)} {oc kV dc pm cd ct : Value} (X : K.In h) (G : h.Ns mainGlobals mg) (a : PySem.W.nsIn K mainGlobals "_law_first_right" = some (some (.ref f))) (l : K.lookup f = some ⟨oc, od, .func (PySem.W.fnOf "_law_first_right" "_law_first_right" (defArgs s_L_first_right) (defBody s_L_first_right) (defScope s_L_first_right) .none kV dc pm an cd ct), sl⟩) (c : PySem.W.codeIn K cd "_law_first_right" = true) (k : PySem.W.keepIn K (.ref f) = true) : Fx K mg "_law_first_right" s_L_first_right ["_law_name_here", "_law_field_here"] :=
  have F := fun_mk (st := s_L_first_right) l c k
  ⟨_, _, F, PySem.W.mg_of X G a, pb_of (ps := ["_law_name_here", "_law_field_here"]) F fun _ _ _ _ _ _ us hl => match us, hl with | [_, _], _ => rfl⟩
def fx_law {K : PySem.W.Frag} {h : Heap} {mg : Str → Option Value} {f : Addr} {od an : Option Addr} {sl : Array (Option Value)} {oc kV dc pm cd ct : Value} (X : K.In h) (G : h.Ns mainGlobals mg) (a : PySem.W.nsIn K mainGlobals "law" = some (some (.ref f))) (l : K.lookup f = some ⟨oc, od, .func (PySem.W.fnOf "law" "law" (defArgs s_law) (defBody s_law) (defScope s_law) .none kV dc pm an cd ct), sl⟩) (c : PySem.W.codeIn K cd "law" = true) (k : PySem.W.keepIn K (.ref f) = true) : Fx K mg "law" s_law ["_law_script"] :=
  have F := fun_mk (st := s_law) l c k
  ⟨_, _, F, PySem.W.mg_of X G a, pb_of (ps := ["_law_script"]) F fun _ _ _ _ _ _ us hl => match us, hl with | [_], _ => rfl⟩
theorem gl_BELOW_COUNTS {K : PySem.W.Frag} {h : Heap} {mg : Str → Option Value} {tk_BELOW_COUNTS_1 : Tok} (X : K.In h) (G : h.Ns mainGlobals mg) (q : PySem.W.nsIn K mainGlobals "BELOW_COUNTS" = some (some (.int 1000000000000000 tk_BELOW_COUNTS_1)))  : Glo K mg "BELOW_COUNTS" cd_BELOW_COUNTS := ⟨_, (.int 1000000000000000), PySem.W.mg_of X G q, ⟨_, rfl⟩, rfl⟩
theorem gl_BELOW_LEAVES {K : PySem.W.Frag} {h : Heap} {mg : Str → Option Value} {tk_BELOW_LEAVES_1 : Tok} (X : K.In h) (G : h.Ns mainGlobals mg) (q : PySem.W.nsIn K mainGlobals "BELOW_LEAVES" = some (some (.int 1000000000000000000000000000000 tk_BELOW_LEAVES_1)))  : Glo K mg "BELOW_LEAVES" cd_BELOW_LEAVES := ⟨_, (.int 1000000000000000000000000000000), PySem.W.mg_of X G q, ⟨_, rfl⟩, rfl⟩
theorem gl_FIGURES {K : PySem.W.Frag} {h : Heap} {mg : Str → Option Value} {tk_FIGURES_1 : Tok} (X : K.In h) (G : h.Ns mainGlobals mg) (q : PySem.W.nsIn K mainGlobals "FIGURES" = some (some (.str "0123456789" tk_FIGURES_1)))  : Glo K mg "FIGURES" cd_FIGURES := ⟨_, (.str "0123456789"), PySem.W.mg_of X G q, ⟨_, rfl⟩, rfl⟩
theorem gl_HOLDERS {K : PySem.W.Frag} {h : Heap} {mg : Str → Option Value} {tk_HOLDERS_1 : Tok} {tk_HOLDERS_2 : Tok} {tk_HOLDERS_3 : Tok} {p_HOLDERS_4 : Addr} {od_HOLDERS_4 : Option Addr} {nn_HOLDERS_4 : Nat} {sl_HOLDERS_4 : Array (Option Value)} (X : K.In h) (G : h.Ns mainGlobals mg) (q : PySem.W.nsIn K mainGlobals "HOLDERS" = some (some (.ref p_HOLDERS_4))) (u_HOLDERS_4 : K.lookup p_HOLDERS_4 = some ⟨.type "tuple", od_HOLDERS_4, .seq #[(.str "object" tk_HOLDERS_1), (.str "list" tk_HOLDERS_2), (.str "text" tk_HOLDERS_3)] nn_HOLDERS_4, sl_HOLDERS_4⟩) : Glo K mg "HOLDERS" cd_HOLDERS := ⟨_, (.ref p_HOLDERS_4), PySem.W.mg_of X G q, rfl, ⟨p_HOLDERS_4, [(.str "object"), (.str "list"), (.str "text")], rfl, .inr (.inr ⟨_, _, _, u_HOLDERS_4, rfl, rfl, by show 3 ≤ sizeLine; decide, (.cons ⟨_, rfl⟩ (.cons ⟨_, rfl⟩ (.cons ⟨_, rfl⟩ .nil)))⟩), (.cons rfl (.cons rfl (.cons rfl .nil)))⟩⟩
theorem gl_LETTERS {K : PySem.W.Frag} {h : Heap} {mg : Str → Option Value} {tk_LETTERS_1 : Tok} (X : K.In h) (G : h.Ns mainGlobals mg) (q : PySem.W.nsIn K mainGlobals "LETTERS" = some (some (.str "abcdefghijklmnopqrstuvwxyz" tk_LETTERS_1)))  : Glo K mg "LETTERS" cd_LETTERS := ⟨_, (.str "abcdefghijklmnopqrstuvwxyz"), PySem.W.mg_of X G q, ⟨_, rfl⟩, rfl⟩
theorem gl_MOST_LETTERS {K : PySem.W.Frag} {h : Heap} {mg : Str → Option Value} {tk_MOST_LETTERS_1 : Tok} (X : K.In h) (G : h.Ns mainGlobals mg) (q : PySem.W.nsIn K mainGlobals "MOST_LETTERS" = some (some (.int 8 tk_MOST_LETTERS_1)))  : Glo K mg "MOST_LETTERS" cd_MOST_LETTERS := ⟨_, (.int 8), PySem.W.mg_of X G q, ⟨_, rfl⟩, rfl⟩
theorem gl_MOST_SIGNS {K : PySem.W.Frag} {h : Heap} {mg : Str → Option Value} {tk_MOST_SIGNS_1 : Tok} (X : K.In h) (G : h.Ns mainGlobals mg) (q : PySem.W.nsIn K mainGlobals "MOST_SIGNS" = some (some (.int 12 tk_MOST_SIGNS_1)))  : Glo K mg "MOST_SIGNS" cd_MOST_SIGNS := ⟨_, (.int 12), PySem.W.mg_of X G q, ⟨_, rfl⟩, rfl⟩
theorem gl_ROOT {K : PySem.W.Frag} {h : Heap} {mg : Str → Option Value} {tk_ROOT_1 : Tok} {tk_ROOT_2 : Tok} {p_ROOT_3 : Addr} {od_ROOT_3 : Option Addr} {nn_ROOT_3 : Nat} {sl_ROOT_3 : Array (Option Value)} (X : K.In h) (G : h.Ns mainGlobals mg) (q : PySem.W.nsIn K mainGlobals "ROOT" = some (some (.ref p_ROOT_3))) (u_ROOT_3 : K.lookup p_ROOT_3 = some ⟨.type "tuple", od_ROOT_3, .seq #[(.int 0 tk_ROOT_1), (.str "" tk_ROOT_2)] nn_ROOT_3, sl_ROOT_3⟩) : Glo K mg "ROOT" cd_ROOT := ⟨_, (.ref p_ROOT_3), PySem.W.mg_of X G q, rfl, ⟨p_ROOT_3, [(.int 0), (.str "")], rfl, .inr (.inr ⟨_, _, _, u_ROOT_3, rfl, rfl, by show 2 ≤ sizeLine; decide, (.cons ⟨_, rfl⟩ (.cons ⟨_, rfl⟩ .nil))⟩), (.cons rfl (.cons rfl .nil))⟩⟩
theorem gl_SIGNS {K : PySem.W.Frag} {h : Heap} {mg : Str → Option Value} {tk_SIGNS_1 : Tok} (X : K.In h) (G : h.Ns mainGlobals mg) (q : PySem.W.nsIn K mainGlobals "SIGNS" = some (some (.str " !\"#$&'()*+,-./0123456789:;<=>?@ABCDEFGHIJKLMNOPQRSTUVWXYZ[\\]^_`abcdefghijklmnopqrstuvwxyz{|}~" tk_SIGNS_1)))  : Glo K mg "SIGNS" cd_SIGNS := ⟨_, (.str " !\"#$&'()*+,-./0123456789:;<=>?@ABCDEFGHIJKLMNOPQRSTUVWXYZ[\\]^_`abcdefghijklmnopqrstuvwxyz{|}~"), PySem.W.mg_of X G q, ⟨_, rfl⟩, rfl⟩
theorem dk_PARTS {w : World} {K : PySem.W.Frag} {h : Heap} {mg : Str → Option Value} {tk_PARTS_1 : Tok} {tk_PARTS_2 : Tok} {tk_PARTS_3 : Tok} {tk_PARTS_4 : Tok} {p_PARTS_5 : Addr} {od_PARTS_5 : Option Addr} {nn_PARTS_5 : Nat} {sl_PARTS_5 : Array (Option Value)} {tk_PARTS_6 : Tok} {tk_PARTS_7 : Tok} {tk_PARTS_8 : Tok} {tk_PARTS_9 : Tok} {p_PARTS_10 : Addr} {od_PARTS_10 : Option Addr} {nn_PARTS_10 : Nat} {sl_PARTS_10 : Array (Option Value)} {tk_PARTS_11 : Tok} {tk_PARTS_12 : Tok} {p_PARTS_13 : Addr} {od_PARTS_13 : Option Addr} {nn_PARTS_13 : Nat} {sl_PARTS_13 : Array (Option Value)} {tk_PARTS_14 : Tok} {tk_PARTS_15 : Tok} {p_PARTS_16 : Addr} {od_PARTS_16 : Option Addr} {nn_PARTS_16 : Nat} {sl_PARTS_16 : Array (Option Value)} {tk_PARTS_17 : Tok} {tk_PARTS_18 : Tok} {p_PARTS_19 : Addr} {od_PARTS_19 : Option Addr} {nn_PARTS_19 : Nat} {sl_PARTS_19 : Array (Option Value)} {p_PARTS : Addr} {nn_PARTS : Nat} (X : K.In h) (G : h.Ns mainGlobals mg) (q : PySem.W.nsIn K mainGlobals "PARTS" = some (some (.ref p_PARTS))) (u_PARTS_5 : K.lookup p_PARTS_5 = some ⟨.type "tuple", od_PARTS_5, .seq #[(.str "parent" tk_PARTS_2), (.str "place" tk_PARTS_3), (.str "what" tk_PARTS_4)] nn_PARTS_5, sl_PARTS_5⟩) (u_PARTS_10 : K.lookup p_PARTS_10 = some ⟨.type "tuple", od_PARTS_10, .seq #[(.str "stamp" tk_PARTS_7), (.str "parent" tk_PARTS_8), (.str "place" tk_PARTS_9)] nn_PARTS_10, sl_PARTS_10⟩) (u_PARTS_13 : K.lookup p_PARTS_13 = some ⟨.type "tuple", od_PARTS_13, .seq #[(.str "stamp" tk_PARTS_12)] nn_PARTS_13, sl_PARTS_13⟩) (u_PARTS_16 : K.lookup p_PARTS_16 = some ⟨.type "tuple", od_PARTS_16, .seq #[(.str "stamp" tk_PARTS_15)] nn_PARTS_16, sl_PARTS_16⟩) (u_PARTS_19 : K.lookup p_PARTS_19 = some ⟨.type "tuple", od_PARTS_19, .seq #[(.str "upto" tk_PARTS_18)] nn_PARTS_19, sl_PARTS_19⟩) (u_PARTS : K.lookup p_PARTS = some ⟨.type "dict", none, .dict #[⟨PyData.keyHash w.params "put", .str "put" tk_PARTS_1, (.ref p_PARTS_5)⟩, ⟨PyData.keyHash w.params "move", .str "move" tk_PARTS_6, (.ref p_PARTS_10)⟩, ⟨PyData.keyHash w.params "take", .str "take" tk_PARTS_11, (.ref p_PARTS_13)⟩, ⟨PyData.keyHash w.params "undo", .str "undo" tk_PARTS_14, (.ref p_PARTS_16)⟩, ⟨PyData.keyHash w.params "seen", .str "seen" tk_PARTS_17, (.ref p_PARTS_19)⟩] nn_PARTS, #[]⟩) (s_PARTS : (p_PARTS == sysModules) = false) : KD K w.params mg "PARTS" kd_PARTS := ⟨p_PARTS, _, _, PySem.W.mg_of X G q, u_PARTS, ⟨⟨_, _, rfl, rfl⟩, ⟨⟨_, _, rfl, rfl⟩, ⟨⟨_, _, rfl, rfl⟩, ⟨⟨_, _, rfl, rfl⟩, ⟨⟨_, _, rfl, rfl⟩, trivial⟩⟩⟩⟩⟩, s_PARTS, (.cons ⟨⟨_, rfl⟩, (.ref p_PARTS_5), rfl, ⟨p_PARTS_5, [(.str "parent"), (.str "place"), (.str "what")], rfl, .inr (.inr ⟨_, _, _, u_PARTS_5, rfl, rfl, by show 3 ≤ sizeLine; decide, (.cons ⟨_, rfl⟩ (.cons ⟨_, rfl⟩ (.cons ⟨_, rfl⟩ .nil)))⟩), (.cons rfl (.cons rfl (.cons rfl .nil)))⟩⟩ (.cons ⟨⟨_, rfl⟩, (.ref p_PARTS_10), rfl, ⟨p_PARTS_10, [(.str "stamp"), (.str "parent"), (.str "place")], rfl, .inr (.inr ⟨_, _, _, u_PARTS_10, rfl, rfl, by show 3 ≤ sizeLine; decide, (.cons ⟨_, rfl⟩ (.cons ⟨_, rfl⟩ (.cons ⟨_, rfl⟩ .nil)))⟩), (.cons rfl (.cons rfl (.cons rfl .nil)))⟩⟩ (.cons ⟨⟨_, rfl⟩, (.ref p_PARTS_13), rfl, ⟨p_PARTS_13, [(.str "stamp")], rfl, .inr (.inr ⟨_, _, _, u_PARTS_13, rfl, rfl, by show 1 ≤ sizeLine; decide, (.cons ⟨_, rfl⟩ .nil)⟩), (.cons rfl .nil)⟩⟩ (.cons ⟨⟨_, rfl⟩, (.ref p_PARTS_16), rfl, ⟨p_PARTS_16, [(.str "stamp")], rfl, .inr (.inr ⟨_, _, _, u_PARTS_16, rfl, rfl, by show 1 ≤ sizeLine; decide, (.cons ⟨_, rfl⟩ .nil)⟩), (.cons rfl .nil)⟩⟩ (.cons ⟨⟨_, rfl⟩, (.ref p_PARTS_19), rfl, ⟨p_PARTS_19, [(.str "upto")], rfl, .inr (.inr ⟨_, _, _, u_PARTS_19, rfl, rfl, by show 1 ≤ sizeLine; decide, (.cons ⟨_, rfl⟩ .nil)⟩), (.cons rfl .nil)⟩⟩ .nil)))))⟩
theorem fin_mk {P : Program} {w : World} {K : PySem.W.Frag} {mg : Str → Option Value} {fa : Addr} (t : T w K mg) (hmg : mg "law" = some (.ref fa)) : ∃ fd : FuncData, PB K fd ["_law_script"] ∧ ∀ base : Heap, FnG P w K mg base 9 fa fd ["_law_script"] W_law := by
  have e := hmg.symm.trans t.law.g
  cases e
  exact ⟨_, t.law.b, fun base => ok_law t⟩
end L2.Dl.G
open PySem PySem.W PyProof.Rows
set_option maxHeartbeats 0 in
theorem PySem.Challenge.cw_heardalike_k14_whole_edges_of_deeds_holds : PySem.Challenge.rw_heardalike_k14_whole_edges_of_deeds.Holds := by
  w_on; o_law; k_head; (case hw => w_witness2)
  k_fill
  refine L2.Dl.walk_g (l := PySem.Challenge.rw_heardalike_k14_whole_edges_of_deeds) (n := 63) (k := 9) (x := "_law_script") (W := L2.Dl.G.W_law) rfl (by decide) rfl ⟨rfl, by decide, by decide⟩ (fun w h Y => PySem.W.kIn_of Y) ?F L2.Dl.G.law_holds
  case F =>
    intro w mg fa h KX G hmg
    refine' L2.Dl.G.fin_mk (⟨L2.Dl.G.fx_is_whole KX G ?a0 ?l0 ?c0 ?k0,
      L2.Dl.G.fx_is_name KX G ?a1 ?l1 ?c1 ?k1,
      L2.Dl.G.fx_is_field KX G ?a2 ?l2 ?c2 ?k2,
      L2.Dl.G.fx_is_stamp KX G ?a3 ?l3 ?c3 ?k3,
      L2.Dl.G.fx_is_root KX G ?a4 ?l4 ?c4 ?k4,
      L2.Dl.G.fx_is_sign KX G ?a5 ?l5 ?c5 ?k5,
      L2.Dl.G.fx_is_leaf KX G ?a6 ?l6 ?c6 ?k6,
      L2.Dl.G.fx_is_what KX G ?a7 ?l7 ?c7 ?k7,
      L2.Dl.G.fx_is_earlier KX G ?a8 ?l8 ?c8 ?k8,
      L2.Dl.G.fx_is_part KX G ?a9 ?l9 ?c9 ?k9,
      L2.Dl.G.fx_are_words KX G ?a10 ?l10 ?c10 ?k10,
      L2.Dl.G.fx_is_deed KX G ?a11 ?l11 ?c11 ?k11,
      L2.Dl.G.fx_named KX G ?a12 ?l12 ?c12 ?k12,
      L2.Dl.G.fx_L_pot KX G ?a13 ?l13 ?c13 ?k13,
      L2.Dl.G.fx_L_digit KX G ?a14 ?l14 ?c14 ?k14,
      L2.Dl.G.fx_L_name KX G ?a15 ?l15 ?c15 ?k15,
      L2.Dl.G.fx_L_field KX G ?a16 ?l16 ?c16 ?k16,
      L2.Dl.G.fx_L_count KX G ?a17 ?l17 ?c17 ?k17,
      L2.Dl.G.fx_L_numbers KX G ?a18 ?l18 ?c18 ?k18,
      L2.Dl.G.fx_L_stamps KX G ?a19 ?l19 ?c19 ?k19,
      L2.Dl.G.fx_L_right KX G ?a20 ?l20 ?c20 ?k20,
      L2.Dl.G.fx_L_numbers_right KX G ?a21 ?l21 ?c21 ?k21,
      L2.Dl.G.fx_L_stamps_right KX G ?a22 ?l22 ?c22 ?k22,
      L2.Dl.G.fx_L_first_right KX G ?a23 ?l23 ?c23 ?k23,
      L2.Dl.G.fx_law KX G ?a24 ?l24 ?c24 ?k24,
      PySem.W.mg_none_of KX G ?z_abs,
      PySem.W.mg_none_of KX G ?z_all,
      PySem.W.mg_none_of KX G ?z_bool,
      PySem.W.mg_none_of KX G ?z_int,
      PySem.W.mg_none_of KX G ?z_isinstance,
      PySem.W.mg_none_of KX G ?z_len,
      PySem.W.mg_none_of KX G ?z_max,
      PySem.W.mg_none_of KX G ?z_min,
      PySem.W.mg_none_of KX G ?z_range,
      PySem.W.mg_none_of KX G ?z_repr,
      PySem.W.mg_none_of KX G ?z_str,
      PySem.W.mg_none_of KX G ?z_tuple,
      PySem.W.mg_none_of KX G ?z_zip,
      L2.Dl.G.gl_BELOW_COUNTS KX G ?q_BELOW_COUNTS ,
      L2.Dl.G.gl_BELOW_LEAVES KX G ?q_BELOW_LEAVES ,
      L2.Dl.G.gl_FIGURES KX G ?q_FIGURES ,
      L2.Dl.G.gl_HOLDERS KX G ?q_HOLDERS ?u_HOLDERS_4,
      L2.Dl.G.gl_LETTERS KX G ?q_LETTERS ,
      L2.Dl.G.gl_MOST_LETTERS KX G ?q_MOST_LETTERS ,
      L2.Dl.G.gl_MOST_SIGNS KX G ?q_MOST_SIGNS ,
      L2.Dl.G.gl_ROOT KX G ?q_ROOT ?u_ROOT_3,
      L2.Dl.G.gl_SIGNS KX G ?q_SIGNS ,
      L2.Dl.G.dk_PARTS KX G ?q_PARTS ?u_PARTS_5 ?u_PARTS_10 ?u_PARTS_13 ?u_PARTS_16 ?u_PARTS_19 ?u_PARTS ?s_PARTS⟩ : L2.Dl.G.T w _ mg) hmg
    (case a0 => k_is); (case l0 => k_is); (case c0 => k_is); (case k0 => k_is); (case a1 => k_is); (case l1 => k_is); (case c1 => k_is); (case k1 => k_is); (case a2 => k_is); (case l2 => k_is); (case c2 => k_is); (case k2 => k_is); (case a3 => k_is); (case l3 => k_is); (case c3 => k_is); (case k3 => k_is); (case a4 => k_is); (case l4 => k_is); (case c4 => k_is); (case k4 => k_is); (case a5 => k_is); (case l5 => k_is); (case c5 => k_is); (case k5 => k_is); (case a6 => k_is); (case l6 => k_is); (case c6 => k_is); (case k6 => k_is); (case a7 => k_is); (case l7 => k_is); (case c7 => k_is); (case k7 => k_is); (case a8 => k_is); (case l8 => k_is); (case c8 => k_is); (case k8 => k_is); (case a9 => k_is); (case l9 => k_is); (case c9 => k_is); (case k9 => k_is); (case a10 => k_is); (case l10 => k_is); (case c10 => k_is); (case k10 => k_is); (case a11 => k_is); (case l11 => k_is); (case c11 => k_is); (case k11 => k_is); (case a12 => k_is); (case l12 => k_is); (case c12 => k_is); (case k12 => k_is); (case a13 => k_is); (case l13 => k_is); (case c13 => k_is); (case k13 => k_is); (case a14 => k_is); (case l14 => k_is); (case c14 => k_is); (case k14 => k_is); (case a15 => k_is); (case l15 => k_is); (case c15 => k_is); (case k15 => k_is); (case a16 => k_is); (case l16 => k_is); (case c16 => k_is); (case k16 => k_is); (case a17 => k_is); (case l17 => k_is); (case c17 => k_is); (case k17 => k_is); (case a18 => k_is); (case l18 => k_is); (case c18 => k_is); (case k18 => k_is); (case a19 => k_is); (case l19 => k_is); (case c19 => k_is); (case k19 => k_is); (case a20 => k_is); (case l20 => k_is); (case c20 => k_is); (case k20 => k_is); (case a21 => k_is); (case l21 => k_is); (case c21 => k_is); (case k21 => k_is); (case a22 => k_is); (case l22 => k_is); (case c22 => k_is); (case k22 => k_is); (case a23 => k_is); (case l23 => k_is); (case c23 => k_is); (case k23 => k_is); (case a24 => k_is); (case l24 => k_is); (case c24 => k_is); (case k24 => k_is); (case z_abs => k_is); (case z_all => k_is); (case z_bool => k_is); (case z_int => k_is); (case z_isinstance => k_is); (case z_len => k_is); (case z_max => k_is); (case z_min => k_is); (case z_range => k_is); (case z_repr => k_is); (case z_str => k_is); (case z_tuple => k_is); (case z_zip => k_is); (case q_BELOW_COUNTS => k_is); (case q_BELOW_LEAVES => k_is); (case q_FIGURES => k_is); (case q_HOLDERS => k_is); (case u_HOLDERS_4 => k_is); (case q_LETTERS => k_is); (case q_MOST_LETTERS => k_is); (case q_MOST_SIGNS => k_is); (case q_ROOT => k_is); (case u_ROOT_3 => k_is); (case q_SIGNS => k_is); (case q_PARTS => k_is); (case u_PARTS => k_is); (case u_PARTS_5 => k_is); (case u_PARTS_10 => k_is); (case u_PARTS_13 => k_is); (case u_PARTS_16 => k_is); (case u_PARTS_19 => k_is); (case s_PARTS => rfl)
