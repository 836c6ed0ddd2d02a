import PyProof.Rows.All
import Wide.All
import OpenK.AllK
import Wide.FinOn
import HandS.ForMost
import HandS.ForExc
import HandS.Wide
import HandS.IsInst
import HandS.ExcInit
import HandS.ExcField
import HandS.TupAny
import HandS.TupMul
import HandS.Defaults
import HandS.CallSlots
import HandS.MakeKw
import HandS.MakeKwOnly
import HandS.Zip
import HandS.SortOrd
import HandS.SortRule
import HandS.SortKw
import HandS.Flow
import KE.KDictKeyed
import KE.KeyNested
import KE.KDictWalk
import HandS.Lambda
import HandS.HeadHook4
import KE.GoesMore
import KE.GoesEnum
import KE.GoesEnumKw
import HandS.Deep
import HandS.TupLe
import HandS.Style
import KE.KExcIs
import KE.SortData
import HandS.TryOnly
import KE.KUnpackStar
import HandS.RaiseMore
import HandS.Dict
import HandS.TupLen
import PyProof.DictKeyH
import PyProof.DictMoreH
import PyProof.DictRoadsH
import HandS.Head0
import HandS.Head1
import HandS.Head2
import HandS.HeadEnd
import HandS.HeadHook1
import HandS.HeadHook2
import HandS.Iter
import KE.KDictSum
import KE.KExcInit
import PyProof.ExcBaseAll.OverflowError
import KE.KDictCopyH
import PyProof.Transfer
import HandS.OwnEq
import OpenK.KOps
import KE.KEqDict
import KE.SortKeyHeap
import KE.KDictPairs
import PySem.Challenge.RW_roundmoments_k11_whole_one_heap_of_sums
set_option Elab.async false
set_option linter.all false
set_option maxRecDepth 100000
set_option maxHeartbeats 0
/-! DLa: data without addresses (D), a heap of lists, dicts and objects by numbers (DH), how both stand in the layer's abstract heap, and what a reading by functions is. -/
namespace DL
open PySem PySem.Spec PyProof.Rows L2

/-- data: what never changes is told whole; rol: a list that is only read; ref: a list, dict or object of the heap, by its number -/
inductive D where
  | non
  | bl (b : Bool)
  | int (i : Int)
  | str (x : Str)
  | tup (ds : List D)
  | rol (ds : List D)
  | ref (n : Nat)
  deriving Inhabited

inductive OD where
  | lst (ds : List D)
  | dct (lk : Bool) (kvs : List (D × D))
  | ins (c : Str) (fs : List (Str × D))
  /-- the table of the code objects that a def's lambdas have (of the name q) -/
  | tbl (p : Str × Option Str) (q : Str)

abbrev DH := List OD
structure Exn where
  cls : Str
  fs : List (Str × D)

inductive Res (α : Type) where
  | ok (a : α) (h : DH)
  | exc (e : Exn) (h : DH)
  | stuck
abbrev En := List (Option D)
inductive Out where
  | nx (env : En) (h : DH)
  | rt (d : D) (h : DH)
  | bk (env : En) (h : DH)
  | ct (env : En) (h : DH)
  | exc (e : Exn) (env : En) (h : DH)
  | stuck
def Res.bind {α β : Type} (r : Res α) (f : α → DH → Res β) : Res β := match r with
  | .ok a h => f a h
  | .exc e h => .exc e h
  | .stuck => .stuck
abbrev DE := En → DH → Res D
abbrev DA := En → DH → Res (List D)
abbrev DT := En → DH → Res Bool
abbrev DS := En → DH → Out

/-- what all bodies of one program have alike -/
structure Gm where
  P : Program
  w : World
  K : PySem.W.Frag
  mg : Str → Option Value
abbrev gm (X : Cx) : Gm := ⟨X.prog, X.w, X.K, X.mg⟩

/-- a list that nobody writes at -/
def RoL (K : PySem.W.Frag) (H : Hp) (a : Addr) (xs : List V) : Prop :=
  (∃ o, H a = some (.frz o (.lst xs))) ∨ ∃ (o : Obj) (its : Array Value) (n : Nat), K.lookup a = some o ∧ o.cls = .type "list" ∧ o.dict = none ∧ o.data = .seq its n ∧ its.size ≤ sizeLine ∧ Vals xs its.toList
theorem RoL.sq {K : PySem.W.Frag} {H : Hp} {a : Addr} {xs : List V} (h : RoL K H a xs) : SqL K H a xs := by
  rcases h with ⟨o, h⟩ | h
  · exact .inl (.inr ⟨o, h⟩)
  · exact .inr h

mutual
def RD (g : Gm) (ρ : List Addr) (H : Hp) : D → V → Prop
  | .non, v => v = .non
  | .bl b, v => v = .bl b
  | .int i, v => v = .int i
  | .str x, v => v = .str x
  | .tup ds, v => ∃ a vs, v = .ref a ∧ SqT g.K H a vs ∧ RDs g ρ H ds vs
  | .rol ds, v => ∃ a vs, v = .ref a ∧ RoL g.K H a vs ∧ RDs g ρ H ds vs
  | .ref n, v => ∃ a, v = .ref a ∧ ρ[n]? = some a
def RDs (g : Gm) (ρ : List Addr) (H : Hp) : List D → List V → Prop
  | [], vs => vs = []
  | d :: ds, vs => ∃ v r, vs = v :: r ∧ RD g ρ H d v ∧ RDs g ρ H ds r
end

/-- fields by name -/
def RFs (g : Gm) (ρ : List Addr) (H : Hp) : List (Str × D) → List (Str × V) → Prop
  | [], vs => vs = []
  | (f, d) :: ds, vs => ∃ v r, vs = (f, v) :: r ∧ RD g ρ H d v ∧ RFs g ρ H ds r

mutual
def nkey : D → Option NestedKey
  | .non => some .none
  | .int i => some (.num i)
  | .str x => some (.text x)
  | .tup ds => (nkeys ds).map .tup
  | .bl _ => none
  | .rol _ => none
  | .ref _ => none
def nkeys : List D → Option (List NestedKey)
  | [] => some []
  | d :: ds => (nkey d).bind fun k => (nkeys ds).map fun ks => k :: ks
end
/-- a dict's object, entry by entry -/
def rawO (a : Addr) (es : Array DictEntry) (ep : Nat) : HO := .ext fun h => h.DictRaw a es ep
/-- a dict, locked or not -/
def dctO (lk : Bool) (o : Obj) (a : Addr) (es : Array DictEntry) (ep : Nat) : HO := if lk = true then .frz o (rawO a es ep) else rawO a es ep
/-- an entry -/
def REnt (g : Gm) (ρ : List Addr) (H : Hp) (p : D × D) (e : DictEntry) : Prop :=
  ∃ (k : NestedKey) (kv vv : V), nkey p.1 = some k ∧ k.depth ≤ 8 ∧ RD g ρ H p.1 kv ∧ RelV kv e.key ∧ e.hash = k.hash g.w ∧ RD g ρ H p.2 vv ∧ RelV vv e.val
/-- what stands at an address, of the heap's objects -/
def OOk (g : Gm) (ρ : List Addr) (H : Hp) (a : Addr) : OD → Prop
  | .lst ds => ∃ vs, H a = some (.lst vs) ∧ RDs g ρ H ds vs
  | .dct lk kvs => ∃ (ob : Obj) (es : List DictEntry) (ep : Nat), H a = some (dctO lk ob a es.toArray ep) ∧ (a == sysModules) = false ∧ es.length ≤ sizeLine ∧ Paired (REnt g ρ H) kvs es ∧ (kvs.map fun p => nkey p.1).Nodup
  | .ins c fs => ∃ C dx fvs, g.mg c = some (.ref C) ∧ H a = some (.ins C dx fvs) ∧ RFs g ρ H fs fvs
  | .tbl p q => ∃ ps : Array Value, a = (He.cT g.K p).2 ∧ H a = some (.tbl ps) ∧ TriplesOk ps.toList ∧ ∀ (pos : Pos) (cv : Value), codeAmong pos ps.toList = some cv → ∃ c, cv = .ref c ∧ H c = some (LamX.CodeO c q) ∧ c ∉ ρ

structure RH (g : Gm) (ρ : List Addr) (h : DH) (H : Hp) : Prop where
  len : ρ.length = h.length
  nd : ρ.Nodup
  ok : ∀ (n : Nat) (o : OD) (a : Addr), h[n]? = some o → ρ[n]? = some a → OOk g ρ H a o

/-- how an abstract heap has grown: what stands outside ρ stands, ρ's new addresses were free -/
structure Ext (ρ : List Addr) (H : Hp) (ρ' : List Addr) (H' : Hp) : Prop where
  pre : ∃ m, ρ' = ρ ++ m
  new : ∀ a, a ∈ ρ' → a ∉ ρ → H a = none
  frm : ∀ a o, H a = some o → a ∉ ρ → H' a = some o
  fz : ∀ a ob u, H a = some (.frz ob u) → H' a = some (.frz ob u)
theorem Ext.refl (ρ : List Addr) (H : Hp) : Ext ρ H ρ H := ⟨⟨[], by simp⟩, fun a h h' => absurd h h', fun _ _ h _ => h, fun _ _ _ h => h⟩
theorem Ext.trans {ρ ρ1 ρ2 : List Addr} {H H1 H2 : Hp} (x : Ext ρ H ρ1 H1) (y : Ext ρ1 H1 ρ2 H2) : Ext ρ H ρ2 H2 := by
  obtain ⟨m1, e1⟩ := x.pre
  obtain ⟨m2, e2⟩ := y.pre
  refine ⟨⟨m1 ++ m2, by rw [e2, e1, List.append_assoc]⟩, fun a h h' => ?_, fun a o h h' => ?_, fun a ob u h => y.fz a ob u (x.fz a ob u h)⟩
  · by_cases h1 : a ∈ ρ1
    · exact x.new a h1 h'
    · have q := y.new a h h1
      cases z : H a with
      | none => rfl
      | some o => rw [x.frm a o z h'] at q; cases q
  · have q := x.frm a o h h'
    refine y.frm a o q fun h1 => ?_
    rw [x.new a h1 h'] at h; cases h

section
variable {g : Gm} {ρ ρ' : List Addr} {h h' : DH} {H H' : Hp}
theorem RH.there (R : RH g ρ h H) {a : Addr} (ha : a ∈ ρ) : ∃ (n : Nat) (o : OD), h[n]? = some o ∧ ρ[n]? = some a ∧ OOk g ρ H a o := by
  obtain ⟨n, hn, e⟩ := List.getElem_of_mem ha
  have hn' : n < h.length := by rw [← R.len]; exact hn
  have e1 : ρ[n]? = some a := by rw [List.getElem?_eq_getElem hn, e]
  exact ⟨n, h[n], List.getElem?_eq_getElem hn', e1, R.ok n _ a (List.getElem?_eq_getElem hn') e1⟩
/-- no tuple, no locked thing among the heap's objects -/
theorem OOk.no {a : Addr} {o : OD} (x : OOk g ρ H a o) : (∀ vs, H a ≠ some (.tup vs)) ∧ True ∧ (∀ fs, H a ≠ some (.xd fs)) ∧ H a ≠ none ∧ (∀ b, H a ≠ some (.own b)) := by
  cases o with
  | lst ds =>
    obtain ⟨vs, e, _⟩ := x
    rw [e]
    refine ⟨?_, trivial, ?_, ?_, ?_⟩ <;> intros <;> intro z <;> cases z
  | dct lk kvs =>
    obtain ⟨ob, es, ep, e, _⟩ := x
    rw [e]
    unfold dctO rawO
    cases lk <;> (refine ⟨?_, trivial, ?_, ?_, ?_⟩ <;> intros <;> intro z <;> cases z)
  | ins c fs =>
    obtain ⟨C, dx, fvs, _, e, _⟩ := x
    rw [e]
    refine ⟨?_, trivial, ?_, ?_, ?_⟩ <;> intros <;> intro z <;> cases z
  | tbl p q =>
    obtain ⟨ps, _, e, _⟩ := x
    rw [e]
    refine ⟨?_, trivial, ?_, ?_, ?_⟩ <;> intros <;> intro z <;> cases z
theorem RH.not (R : RH g ρ h H) {a : Addr} (ha : H a = none) : a ∉ ρ := fun z => by
  obtain ⟨n, o, _, _, q⟩ := R.there z
  exact q.no.2.2.2.1 ha
theorem Ext.sqT (x : Ext ρ H ρ' H') (R : RH g ρ h H) {a : Addr} {vs : List V} (s : SqT g.K H a vs) : SqT g.K H' a vs := by
  rcases s with (s | ⟨o, s⟩) | s
  · refine .inl (.inl (x.frm a _ s fun z => ?_))
    obtain ⟨n, o, _, _, q⟩ := R.there z
    exact q.no.1 _ s
  · exact .inl (.inr ⟨o, x.fz a _ _ s⟩)
  · exact .inr s
theorem Ext.roL (x : Ext ρ H ρ' H') (R : RH g ρ h H) {a : Addr} {vs : List V} (s : RoL g.K H a vs) : RoL g.K H' a vs := by
  rcases s with ⟨o, s⟩ | s
  · exact .inl ⟨o, x.fz a _ _ s⟩
  · exact .inr s
theorem Ext.get (x : Ext ρ H ρ' H') {n : Nat} {a : Addr} (e : ρ[n]? = some a) : ρ'[n]? = some a := by
  obtain ⟨m, e'⟩ := x.pre
  rw [e', List.getElem?_append_left (by exact (List.getElem?_eq_some_iff.mp e).1)]
  exact e
mutual
theorem RD.mono (x : Ext ρ H ρ' H') (R : RH g ρ h H) : ∀ {d : D} {v : V}, RD g ρ H d v → RD g ρ' H' d v
  | .non, _, r => by simpa [RD] using r
  | .bl _, _, r => by simpa [RD] using r
  | .int _, _, r => by simpa [RD] using r
  | .str _, _, r => by simpa [RD] using r
  | .tup ds, v, r => by
    simp only [RD] at r ⊢
    obtain ⟨a, vs, e, s, q⟩ := r
    exact ⟨a, vs, e, x.sqT R s, RDs.mono x R q⟩
  | .rol ds, v, r => by
    simp only [RD] at r ⊢
    obtain ⟨a, vs, e, s, q⟩ := r
    exact ⟨a, vs, e, x.roL R s, RDs.mono x R q⟩
  | .ref n, v, r => by
    simp only [RD] at r ⊢
    obtain ⟨a, e, s⟩ := r
    exact ⟨a, e, x.get s⟩
theorem RDs.mono (x : Ext ρ H ρ' H') (R : RH g ρ h H) : ∀ {ds : List D} {vs : List V}, RDs g ρ H ds vs → RDs g ρ' H' ds vs
  | [], _, r => by simpa [RDs] using r
  | d :: ds, vs, r => by
    simp only [RDs] at r ⊢
    obtain ⟨v, t, e, q1, q2⟩ := r
    exact ⟨v, t, e, RD.mono x R q1, RDs.mono x R q2⟩
end
theorem RFs.mono (x : Ext ρ H ρ' H') (R : RH g ρ h H) : ∀ {ds : List (Str × D)} {vs : List (Str × V)}, RFs g ρ H ds vs → RFs g ρ' H' ds vs
  | [], _, r => by simpa [RFs] using r
  | (f, d) :: ds, vs, r => by
    simp only [RFs] at r ⊢
    obtain ⟨v, t, e, q1, q2⟩ := r
    exact ⟨v, t, e, q1.mono x R, RFs.mono x R q2⟩
theorem REnt.mono (x : Ext ρ H ρ' H') (R : RH g ρ h H) {p : D × D} {e : DictEntry} (r : REnt g ρ H p e) : REnt g ρ' H' p e := by
  obtain ⟨k, kv, vv, a, a', b, c, d, f, i⟩ := r
  exact ⟨k, kv, vv, a, a', b.mono x R, c, d, f.mono x R, i⟩

/-! ### lists of data -/
theorem RDs.length : ∀ {ds : List D} {vs : List V}, RDs g ρ H ds vs → vs.length = ds.length
  | [], _, r => by simp only [RDs] at r; subst r; rfl
  | d :: ds, vs, r => by
    simp only [RDs] at r
    obtain ⟨v, t, e, _, q⟩ := r
    subst e
    simp [RDs.length q]
theorem RDs.nil : RDs g ρ H [] [] := by simp [RDs]
theorem RDs.cons {d : D} {v : V} {ds : List D} {vs : List V} (r : RD g ρ H d v) (q : RDs g ρ H ds vs) : RDs g ρ H (d :: ds) (v :: vs) := by
  simp only [RDs]; exact ⟨v, vs, rfl, r, q⟩
theorem RDs.append : ∀ {ds es : List D} {vs ws : List V}, RDs g ρ H ds vs → RDs g ρ H es ws → RDs g ρ H (ds ++ es) (vs ++ ws)
  | [], _, _, _, r, q => by simp only [RDs] at r; subst r; exact q
  | d :: ds, es, vs, ws, r, q => by
    simp only [RDs] at r
    obtain ⟨v, t, e, r1, r2⟩ := r
    subst e
    exact RDs.cons r1 (RDs.append r2 q)
theorem RDs.get : ∀ {ds : List D} {vs : List V} {i : Nat} {d : D}, RDs g ρ H ds vs → ds[i]? = some d → ∃ v, vs[i]? = some v ∧ RD g ρ H d v
  | [], _, _, _, _, e => by simp at e
  | d :: ds, vs, i, d', r, e => by
    simp only [RDs] at r
    obtain ⟨v, t, e1, r1, r2⟩ := r
    subst e1
    cases i with
    | zero => simp at e; subst e; exact ⟨v, by simp, r1⟩
    | succ i => simpa using RDs.get (i := i) r2 (by simpa using e)
theorem RDs.get' {ds : List D} {vs : List V} {i : Nat} {v : V} (r : RDs g ρ H ds vs) (e : vs[i]? = some v) : ∃ d, ds[i]? = some d ∧ RD g ρ H d v := by
  have hl := r.length
  have hi : i < ds.length := by rw [← hl]; exact (List.getElem?_eq_some_iff.mp e).1
  obtain ⟨v', e', r'⟩ := r.get (List.getElem?_eq_getElem hi)
  rw [e] at e'; cases e'
  exact ⟨_, List.getElem?_eq_getElem hi, r'⟩
theorem RDs.set : ∀ {ds : List D} {vs : List V} {d : D} {v : V} (i : Nat), RDs g ρ H ds vs → RD g ρ H d v → RDs g ρ H (ds.set i d) (vs.set i v)
  | [], _, _, _, _, r, _ => by simp only [RDs] at r; subst r; exact RDs.nil
  | d :: ds, vs, d', v', i, r, q => by
    simp only [RDs] at r
    obtain ⟨v, t, e, r1, r2⟩ := r
    subst e
    cases i with
    | zero => exact RDs.cons q r2
    | succ i => exact RDs.cons r1 (RDs.set i r2 q)
theorem RDs.take : ∀ {ds : List D} {vs : List V} (i : Nat), RDs g ρ H ds vs → RDs g ρ H (ds.take i) (vs.take i)
  | [], _, i, r => by simp only [RDs] at r; subst r; simp [RDs.nil]
  | d :: ds, vs, i, r => by
    simp only [RDs] at r
    obtain ⟨v, t, e, r1, r2⟩ := r
    subst e
    cases i with
    | zero => simp [RDs.nil]
    | succ i => exact RDs.cons r1 (RDs.take i r2)
theorem RDs.drop : ∀ {ds : List D} {vs : List V} (i : Nat), RDs g ρ H ds vs → RDs g ρ H (ds.drop i) (vs.drop i)
  | [], _, i, r => by simp only [RDs] at r; subst r; simp [RDs.nil]
  | d :: ds, vs, i, r => by
    simp only [RDs] at r
    obtain ⟨v, t, e, r1, r2⟩ := r
    subst e
    cases i with
    | zero => exact RDs.cons r1 r2
    | succ i => exact RDs.drop i r2
theorem RDs.map {α : Type} (f : α → D) (k : α → V) : ∀ {l : List α}, (∀ x ∈ l, RD g ρ H (f x) (k x)) → RDs g ρ H (l.map f) (l.map k)
  | [], _ => RDs.nil
  | x :: l, h => RDs.cons (h x (by simp)) (RDs.map f k fun y hy => h y (by simp [hy]))
/-- whole numbers -/
theorem RDs.ints (ns : List Int) : RDs g ρ H (ns.map .int) (ns.map V.int) := RDs.map _ _ fun x _ => by simp [RD]
theorem RDs.of_ints : ∀ {ns : List Int} {vs : List V}, RDs g ρ H (ns.map .int) vs → vs = ns.map V.int
  | [], vs, r => by simpa [RDs] using r
  | n :: ns, vs, r => by
    simp only [List.map_cons, RDs, RD] at r
    obtain ⟨v, t, e, r1, r2⟩ := r
    subst e; subst r1
    rw [RDs.of_ints r2, List.map_cons]
theorem RDs.of_bls : ∀ {bs : List Bool} {vs : List V}, RDs g ρ H (bs.map .bl) vs → vs = bs.map V.bl
  | [], vs, r => by simpa [RDs] using r
  | n :: ns, vs, r => by
    simp only [List.map_cons, RDs, RD] at r
    obtain ⟨v, t, e, r1, r2⟩ := r
    subst e; subst r1
    rw [RDs.of_bls r2, List.map_cons]

/-! ### the heap: a new object, a written one -/
theorem OOk.mono (x : Ext ρ H ρ' H') (R : RH g ρ h H) {a : Addr} {o : OD} (q : OOk g ρ H a o) (e : H' a = H a) : OOk g ρ' H' a o := by
  cases o with
  | lst ds =>
    obtain ⟨vs, e1, r⟩ := q
    exact ⟨vs, e.trans e1, r.mono x R⟩
  | dct lk kvs =>
    obtain ⟨ob, es, ep, e1, n, z, r, nd⟩ := q
    exact ⟨ob, es, ep, e.trans e1, n, z, Paired.mapP r fun _ _ y => y.mono x R, nd⟩
  | ins c fs =>
    obtain ⟨C, dx, fvs, m, e1, r⟩ := q
    exact ⟨C, dx, fvs, m, e.trans e1, r.mono x R⟩
  | tbl p n =>
    obtain ⟨ps, e0, e1, t, cs⟩ := q
    refine ⟨ps, e0, e.trans e1, t, fun pos cv hc => ?_⟩
    obtain ⟨c, ec, hc2, hn⟩ := cs pos cv hc
    exact ⟨c, ec, x.frm c _ hc2 hn, fun z => by have := x.new c z hn; rw [hc2] at this; cases this⟩
/-- something new that isn't among the heap's objects (a tuple) -/
theorem Ext.tup {p : Addr} {o : HO} (hp : H p = none) : Ext ρ H ρ (upd H p o) :=
  ⟨⟨[], by simp⟩, fun a h h' => absurd h h', fun a u e _ => by rw [upd_ne (ne_of_none e hp)]; exact e, fun a _ _ e => by rw [upd_ne (ne_of_none e hp)]; exact e⟩
theorem RH.tup (R : RH g ρ h H) {p : Addr} {o : HO} (hp : H p = none) : RH g ρ h (upd H p o) :=
  ⟨R.len, R.nd, fun n ob a e1 e2 => (R.ok n ob a e1 e2).mono (Ext.tup hp) R (upd_ne fun z => by
    subst z; exact (R.ok n ob _ e1 e2).no.2.2.2.1 hp)⟩
/-- a new object of the heap -/
theorem Ext.new1 {p : Addr} {o : HO} (R : RH g ρ h H) (hp : H p = none) : Ext ρ H (ρ ++ [p]) (upd H p o) :=
  ⟨⟨[p], rfl⟩, fun a h h' => by
    rcases List.mem_append.mp h with z | z
    · exact absurd z h'
    · have : a = p := by simpa using z
      rw [this]; exact hp, fun a u e _ => by rw [upd_ne (ne_of_none e hp)]; exact e, fun a _ _ e => by rw [upd_ne (ne_of_none e hp)]; exact e⟩
theorem RH.new1 (R : RH g ρ h H) {p : Addr} {o : HO} {od : OD} (hp : H p = none) (q : OOk g (ρ ++ [p]) (upd H p o) p od) : RH g (ρ ++ [p]) (h ++ [od]) (upd H p o) := by
  have np : p ∉ ρ := R.not hp
  have x : Ext ρ H (ρ ++ [p]) (upd H p o) := Ext.new1 R hp
  refine ⟨by simp [R.len], ?_, fun n ob a e1 e2 => ?_⟩
  · exact List.nodup_append.mpr ⟨R.nd, by simp, fun a ha b hb z => by
      have : b = p := by simpa using hb
      rw [z, this] at ha; exact np ha⟩
  · by_cases hn : n < ρ.length
    · rw [List.getElem?_append_left hn] at e2
      rw [List.getElem?_append_left (by rw [← R.len]; exact hn)] at e1
      exact (R.ok n ob a e1 e2).mono x R (upd_ne fun z => by subst z; exact np (List.mem_of_getElem? e2))
    · have hl : n < (ρ ++ [p]).length := (List.getElem?_eq_some_iff.mp e2).1
      have hn' : n = ρ.length := by simp at hl; omega
      subst hn'
      rw [List.getElem?_append_right (Nat.le_refl _)] at e2
      rw [List.getElem?_append_right (by rw [R.len]; exact Nat.le_refl _)] at e1
      simp at e2
      simp [R.len] at e1
      subst e1; subst e2
      exact q
/-- an object of the heap is written at -/
theorem Ext.set {n : Nat} {p : Addr} {o : HO} (e : ρ[n]? = some p) (nf : ∀ ob u, H p ≠ some (.frz ob u)) : Ext ρ H ρ (upd H p o) :=
  ⟨⟨[], by simp⟩, fun a h h' => absurd h h', fun a u q hn => by
    rw [upd_ne fun z => hn (by rw [z]; exact List.mem_of_getElem? e)]
    exact q, fun a ob u q => by rw [upd_ne fun z => nf ob u (by rw [← z]; exact q)]; exact q⟩
theorem RH.set (R : RH g ρ h H) {n : Nat} {p : Addr} {o : HO} {od : OD} (e : ρ[n]? = some p) (nf : ∀ ob u, H p ≠ some (.frz ob u)) (q : OOk g ρ (upd H p o) p od) : RH g ρ (h.set n od) (upd H p o) := by
  refine ⟨by simp [R.len], R.nd, fun m ob a e1 e2 => ?_⟩
  by_cases hm : m = n
  · subst hm
    rw [e] at e2; cases e2
    have hl : m < h.length := by rw [← R.len]; exact (List.getElem?_eq_some_iff.mp e).1
    rw [List.getElem?_set_self hl] at e1
    cases e1
    exact q
  · rw [List.getElem?_set_ne (Ne.symm hm)] at e1
    refine (R.ok m ob a e1 e2).mono (Ext.set e nf) R (upd_ne fun z => hm ?_)
    subst z
    obtain ⟨h1, q1⟩ := List.getElem?_eq_some_iff.mp e
    obtain ⟨h2, q2⟩ := List.getElem?_eq_some_iff.mp e2
    exact (List.getElem_inj R.nd).mp (q2.trans q1.symm)
end
end DL
/-! DLb: readings by functions: expressions, tests, arguments, statements, blocks, loops, comprehensions. -/
namespace DL
open PySem PySem.Spec PyProof.Rows L2

/-- an exception as data -/
def XR (g : Gm) (ρ : List Addr) (H : Hp) (e : Exn) (cls : Value) (d : Option Addr) : Prop :=
  ∃ C, g.mg e.cls = some (.ref C) ∧ cls = .ref C ∧ ((e.fs = [] ∧ d = none) ∨ ∃ dd fvs, d = some dd ∧ H dd = some (.xd fvs) ∧ RFs g ρ H e.fs fvs)

/-- what is wanted of a result -/
def RR (g : Gm) (W : XK) (ρ : List Addr) (H : Hp) {α : Type} (r : Res α) (k : α → DH → List Addr → Hp → Prop) : Prop := match r with
  | .ok a h' => ∀ ρ' H', Ext ρ H ρ' H' → RH g ρ' h' H' → k a h' ρ' H'
  | .exc e h' => ∀ ρ' H' cls d, Ext ρ H ρ' H' → RH g ρ' h' H' → XR g ρ' H' e cls d → W cls d H'
  | .stuck => False

/-- an exception that is being handled: its name's place, its address, class, dict, its data -/
structure XA where
  i : Nat
  a : Addr
  cls : Value
  d : Option Addr
  e : Exn
/-- what is wished of exceptions; the one that is being handled -/
structure WB where
  wish : WX
  xa : Option XA
structure REn (g : Gm) (xa : Option XA) (ρ : List Addr) (H : Hp) (e : En) (σ : L2.St) : Prop where
  len : e.length = σ.length
  at_ : ∀ (i : Nat) (d : D), e[i]? = some (some d) → ∃ v, σ[i]? = some (some v) ∧ RD g ρ H d v
  hx : ∀ x, xa = some x → σ[x.i]? = some (some (.ref x.a)) ∧ XR g ρ H x.e x.cls x.d

section
variable {g : Gm} {W : XK} {ρ ρ1 : List Addr} {h h1 : DH} {H H1 : Hp} {α β : Type} {xa : Option XA}
theorem RR.mono {r : Res α} {k : α → DH → List Addr → Hp → Prop} (q : RR g W ρ H r k) (x : Ext ρ H ρ1 H1) : RR g W ρ1 H1 r k := by
  cases r with
  | ok a h' => exact fun ρ' H' y R => q ρ' H' (x.trans y) R
  | exc e h' => exact fun ρ' H' cls d y R z => q ρ' H' cls d (x.trans y) R z
  | stuck => exact q
theorem RR.imp {r : Res α} {k k' : α → DH → List Addr → Hp → Prop} (q : RR g W ρ H r k) (i : ∀ a h' ρ' H', Ext ρ H ρ' H' → RH g ρ' h' H' → k a h' ρ' H' → k' a h' ρ' H') : RR g W ρ H r k' := by
  cases r with
  | ok a h' => exact fun ρ' H' y R => i a h' ρ' H' y R (q ρ' H' y R)
  | exc e h' => exact q
  | stuck => exact q
theorem RR.bind {r : Res α} {f : α → DH → Res β} {k : β → DH → List Addr → Hp → Prop} (q : RR g W ρ H (r.bind f) k) : RR g W ρ H r fun a h1 ρ1 H1 => RR g W ρ1 H1 (f a h1) k := by
  cases r with
  | ok a h' => exact fun ρ' H' x R => RR.mono (show RR g W ρ H (f a h') k from q) x
  | exc e h' => exact q
  | stuck => exact q
theorem XR.mono {ρ' : List Addr} {H' : Hp} {e : Exn} {cls : Value} {d : Option Addr} (z : XR g ρ H e cls d) (x : Ext ρ H ρ' H') (R : RH g ρ h H) : XR g ρ' H' e cls d := by
  obtain ⟨C, m, c, q⟩ := z
  refine ⟨C, m, c, ?_⟩
  rcases q with q | ⟨dd, fvs, e1, e2, r⟩
  · exact .inl q
  · refine .inr ⟨dd, fvs, e1, x.frm dd _ e2 fun hn => ?_, r.mono x R⟩
    obtain ⟨n, o, _, _, q⟩ := R.there hn
    exact q.no.2.2.1 _ e2
theorem REn.mono {ρ' : List Addr} {H' : Hp} {e : En} {σ : L2.St} (E : REn g xa ρ H e σ) (x : Ext ρ H ρ' H') (R : RH g ρ h H) : REn g xa ρ' H' e σ :=
  ⟨E.len, fun i d q => let ⟨v, q1, r⟩ := E.at_ i d q; ⟨v, q1, r.mono x R⟩, fun y hy => ⟨(E.hx y hy).1, (E.hx y hy).2.mono x R⟩⟩
theorem REn.set {e : En} {σ : L2.St} {d : D} {v : V} (E : REn g xa ρ H e σ) (i : Nat) (r : RD g ρ H d v) (ni : ∀ x, xa = some x → x.i ≠ i) : REn g xa ρ H (e.set i (some d)) (σ.set i (some v)) := by
  refine ⟨by simp [E.len], fun j d' q => ?_, fun x hx => ⟨by rw [List.getElem?_set_ne (Ne.symm (ni x hx))]; exact (E.hx x hx).1, (E.hx x hx).2⟩⟩
  by_cases hj : j = i
  · subst hj
    have hl : j < e.length := by
      have := (List.getElem?_eq_some_iff.mp q).1
      simpa using this
    rw [List.getElem?_set_self hl] at q
    cases q
    exact ⟨v, by rw [List.getElem?_set_self (by rw [← E.len]; exact hl)], r⟩
  · rw [List.getElem?_set_ne (Ne.symm hj)] at q
    obtain ⟨w, q1, q2⟩ := E.at_ j d' q
    exact ⟨w, by rw [List.getElem?_set_ne (Ne.symm hj)]; exact q1, q2⟩
theorem REn.none {e : En} {σ : L2.St} (E : REn g xa ρ H e σ) (i : Nat) (s : Option V) : REn g Option.none ρ H (e.set i Option.none) (σ.set i s) := by
  refine ⟨by simp [E.len], fun j d' q => ?_, fun x hx => by cases hx⟩
  by_cases hj : j = i
  · subst hj
    have hl : j < e.length := by
      have := (List.getElem?_eq_some_iff.mp q).1
      simpa using this
    rw [List.getElem?_set_self hl] at q
    cases q
  · rw [List.getElem?_set_ne (Ne.symm hj)] at q
    obtain ⟨w, q1, q2⟩ := E.at_ j d' q
    exact ⟨w, by rw [List.getElem?_set_ne (Ne.symm hj)]; exact q1, q2⟩
theorem REn.plain {e : En} {σ : L2.St} (E : REn g xa ρ H e σ) : REn g Option.none ρ H e σ := ⟨E.len, E.at_, fun x hx => by cases hx⟩
end

/-- what is free behind was free ahead -/
theorem Ext.fresh {g : Gm} {ρ ρ1 : List Addr} {h h1 : DH} {H H1 : Hp} (x : Ext ρ H ρ1 H1) (R : RH g ρ h H) (R1 : RH g ρ1 h1 H1) {a : Addr} (e : H1 a = none) : H a = none := by
  cases z : H a with
  | none => rfl
  | some o =>
    by_cases ha : a ∈ ρ
    · obtain ⟨m, e2⟩ := x.pre
      exact absurd (by rw [e2]; exact List.mem_append_left _ ha) (R1.not e)
    · rw [x.frm a o z ha] at e; cases e
/-! ### lifts -/
section
variable (g : Gm) (W : WB)
def lE (t : DE) : TE := fun σ H Q => ∃ ρ env h, RH g ρ h H ∧ REn g W.xa ρ H env σ ∧ RR g (fun c d H' => W.wish c d σ H') ρ H (t env h) fun d _ ρ' H' => ∀ v, RD g ρ' H' d v → Q v H'
def lA (t : DA) : TA := fun σ H Q => ∃ ρ env h, RH g ρ h H ∧ REn g W.xa ρ H env σ ∧ RR g (fun c d H' => W.wish c d σ H') ρ H (t env h) fun ds _ ρ' H' => ∀ vs, RDs g ρ' H' ds vs → Q vs H'
def lT (t : DT) : TT := fun σ H Q => ∃ ρ env h, RH g ρ h H ∧ REn g W.xa ρ H env σ ∧ RR g (fun c d H' => W.wish c d σ H') ρ H (t env h) fun b _ _ H' => Q b H'
/-- a list that nobody else holds, its items -/
def lQ (t : DA) : TE := fun σ H Q => ∃ ρ env h, RH g ρ h H ∧ REn g W.xa ρ H env σ ∧ RR g (fun c d H' => W.wish c d σ H') ρ H (t env h) fun ds _ ρ' H' => ∀ a vs, H' a = some (.lst vs) → a ∉ ρ' → H a = none → RDs g ρ' H' ds vs → Q (.ref a) H'
/-- a list that is read, its items -/
def lV (t : DA) : TE := fun σ H Q => ∃ ρ env h, RH g ρ h H ∧ REn g W.xa ρ H env σ ∧ RR g (fun c d H' => W.wish c d σ H') ρ H (t env h) fun ds _ ρ' H' => ∀ a vs, SqL g.K H' a vs → RDs g ρ' H' ds vs → Q (.ref a) H'
def RO (ρ : List Addr) (H : Hp) (o : Out) (D : Ends) : Prop := match o with
  | .nx env h' => ∀ ρ' H' σ', Ext ρ H ρ' H' → RH g ρ' h' H' → REn g W.xa ρ' H' env σ' → D.nx σ' H'
  | .rt d h' => ∀ ρ' H' v, Ext ρ H ρ' H' → RH g ρ' h' H' → RD g ρ' H' d v → D.rt v H'
  | .bk env h' => ∀ ρ' H' σ', Ext ρ H ρ' H' → RH g ρ' h' H' → REn g W.xa ρ' H' env σ' → D.bk σ' H'
  | .ct env h' => ∀ ρ' H' σ', Ext ρ H ρ' H' → RH g ρ' h' H' → REn g W.xa ρ' H' env σ' → D.ct σ' H'
  | .exc e env h' => ∀ ρ' H' σ' cls d, Ext ρ H ρ' H' → RH g ρ' h' H' → REn g W.xa ρ' H' env σ' → XR g ρ' H' e cls d → W.wish cls d σ' H'
  | .stuck => False
def lS (t : DS) : TS := fun D σ H => ∃ ρ env h, RH g ρ h H ∧ REn g W.xa ρ H env σ ∧ RO g W ρ H (t env h) D
end
theorem RO.mono {g : Gm} {W : WB} {ρ ρ1 : List Addr} {H H1 : Hp} {o : Out} {Dn : Ends} (q : RO g W ρ H o Dn) (x : Ext ρ H ρ1 H1) : RO g W ρ1 H1 o Dn := by
  cases o with
  | nx e h' => exact fun ρ' H' σ' y => q ρ' H' σ' (x.trans y)
  | rt e h' => exact fun ρ' H' σ' y => q ρ' H' σ' (x.trans y)
  | bk e h' => exact fun ρ' H' σ' y => q ρ' H' σ' (x.trans y)
  | ct e h' => exact fun ρ' H' σ' y => q ρ' H' σ' (x.trans y)
  | exc e env h' => exact fun ρ' H' σ' cls d y => q ρ' H' σ' cls d (x.trans y)
  | stuck => exact q

/-! ### the judgements -/
abbrev DEx (X : Cx) (W : WB) (e : Expr) (t : DE) : Prop := PE X e (lE (gm X) W t)
abbrev DTx (X : Cx) (W : WB) (e : Expr) (t : DT) : Prop := PT X e (lT (gm X) W t)
abbrev DWx (X : Cx) (W : WB) (e : Expr) (t : DT) : Prop := PW X e (lT (gm X) W t)
abbrev DAx (X : Cx) (W : WB) (es : List Expr) (t : DA) : Prop := PA X es (lA (gm X) W t)
abbrev DQx (X : Cx) (W : WB) (e : Expr) (t : DA) : Prop := PE X e (lQ (gm X) W t)
abbrev DVx (X : Cx) (W : WB) (e : Expr) (t : DA) : Prop := PE X e (lV (gm X) W t)
abbrev DSx (X : Cx) (W : WB) (st : Stmt) (t : DS) : Prop := PS X st (lS (gm X) W t)
abbrev DSsx (X : Cx) (W : WB) (st : List Stmt) (t : DS) : Prop := PSs X st (lS (gm X) W t)

theorem PE.imp {X : Cx} {e : Expr} {t t' : TE} (p : PE X e t) (i : ∀ σ H Q, t' σ H Q → t σ H Q) : PE X e t' := ⟨fun pins s σ H Q I h => p.run pins s σ H Q I (i _ _ _ h)⟩
theorem PT.imp {X : Cx} {e : Expr} {t t' : TT} (p : PT X e t) (i : ∀ σ H Q, t' σ H Q → t σ H Q) : PT X e t' := ⟨fun pins s σ H Q I h => p.run pins s σ H Q I (i _ _ _ h)⟩
theorem PW.imp {X : Cx} {e : Expr} {t t' : TT} (p : PW X e t) (i : ∀ σ H Q, t' σ H Q → t σ H Q) : PW X e t' := ⟨fun wh pins s σ H Q I h => p.run wh pins s σ H Q I (i _ _ _ h)⟩
theorem PA.imp {X : Cx} {e : List Expr} {t t' : TA} (p : PA X e t) (i : ∀ σ H Q, t' σ H Q → t σ H Q) : PA X e t' := ⟨fun pos pins s σ H Q I h => p.run pos pins s σ H Q I (i _ _ _ h)⟩
theorem PS.imp {X : Cx} {e : Stmt} {t t' : TS} (p : PS X e t) (i : ∀ D σ H, t' D σ H → t D σ H) : PS X e t' := ⟨fun pins s σ H D I h => p.run pins s σ H D I (i _ _ _ h)⟩
theorem PSs.imp {X : Cx} {e : List Stmt} {t t' : TS} (p : PSs X e t) (i : ∀ D σ H, t' D σ H → t D σ H) : PSs X e t' := ⟨fun pins s σ H D I h => p.run pins s σ H D I (i _ _ _ h)⟩
theorem PG.imp {X : Cx} {e : Expr} {t t' : TG} (p : PG X e t) (i : ∀ v σ H Q, t' v σ H Q → t v σ H Q) : PG X e t' := ⟨fun pins s σ H v u Q I r h => p.run pins s σ H v u Q I r (i _ _ _ _ h)⟩
theorem PI.imp {X : Cx} {tg e : Expr} {t t' : TI} (p : PI X tg e t) (i : ∀ σ H Q, t' σ H Q → t σ H Q) : PI X tg e t' := ⟨fun pins s σ H Q I h => p.run pins s σ H Q I (i _ _ _ h)⟩

/-! ### one after another -/
section
variable {g : Gm} {W : WB} {ρ : List Addr} {h : DH} {H : Hp} {env : En} {σ : L2.St} {β : Type} {k : β → DH → List Addr → Hp → Prop} {Wk : XK}
theorem lE.plug (R : RH g ρ h H) (E : REn g W.xa ρ H env σ) {ta : DE} {f : D → DH → Res β} {Q' : VK} (q : RR g (fun c d H' => W.wish c d σ H') ρ H ((ta env h).bind f) k)
    (hq : ∀ d h1 ρ1 H1 v, Ext ρ H ρ1 H1 → RH g ρ1 h1 H1 → REn g W.xa ρ1 H1 env σ → RD g ρ1 H1 d v → RR g (fun c d H' => W.wish c d σ H') ρ1 H1 (f d h1) k → Q' v H1) : lE g W ta σ H Q' :=
  ⟨ρ, env, h, R, E, (RR.bind q).imp fun d h1 ρ1 H1 x R1 z v r => hq d h1 ρ1 H1 v x R1 (E.mono x R) r z⟩
theorem lV.plug (R : RH g ρ h H) (E : REn g W.xa ρ H env σ) {ta : DA} {f : List D → DH → Res β} {Q' : VK} (q : RR g (fun c d H' => W.wish c d σ H') ρ H ((ta env h).bind f) k)
    (hq : ∀ d h1 ρ1 H1 a vs, Ext ρ H ρ1 H1 → RH g ρ1 h1 H1 → REn g W.xa ρ1 H1 env σ → SqL g.K H1 a vs → RDs g ρ1 H1 d vs → RR g (fun c d H' => W.wish c d σ H') ρ1 H1 (f d h1) k → Q' (.ref a) H1) : lV g W ta σ H Q' :=
  ⟨ρ, env, h, R, E, (RR.bind q).imp fun d h1 ρ1 H1 x R1 z a vs s r => hq d h1 ρ1 H1 a vs x R1 (E.mono x R) s r z⟩
theorem lA.plug (R : RH g ρ h H) (E : REn g W.xa ρ H env σ) {ta : DA} {f : List D → DH → Res β} {Q' : List V → Hp → Prop} (q : RR g (fun c d H' => W.wish c d σ H') ρ H ((ta env h).bind f) k)
    (hq : ∀ d h1 ρ1 H1 vs, Ext ρ H ρ1 H1 → RH g ρ1 h1 H1 → REn g W.xa ρ1 H1 env σ → RDs g ρ1 H1 d vs → RR g (fun c d H' => W.wish c d σ H') ρ1 H1 (f d h1) k → Q' vs H1) : lA g W ta σ H Q' :=
  ⟨ρ, env, h, R, E, (RR.bind q).imp fun d h1 ρ1 H1 x R1 z v r => hq d h1 ρ1 H1 v x R1 (E.mono x R) r z⟩
theorem lT.plug (R : RH g ρ h H) (E : REn g W.xa ρ H env σ) {ta : DT} {f : Bool → DH → Res β} {Q' : Bool → Hp → Prop} (q : RR g (fun c d H' => W.wish c d σ H') ρ H ((ta env h).bind f) k)
    (hq : ∀ d h1 ρ1 H1, Ext ρ H ρ1 H1 → RH g ρ1 h1 H1 → REn g W.xa ρ1 H1 env σ → RR g (fun c d H' => W.wish c d σ H') ρ1 H1 (f d h1) k → Q' d H1) : lT g W ta σ H Q' :=
  ⟨ρ, env, h, R, E, (RR.bind q).imp fun d h1 ρ1 H1 x R1 z => hq d h1 ρ1 H1 x R1 (E.mono x R) z⟩
end
def Res.out {α : Type} (r : Res α) (env : En) (f : α → DH → Out) : Out := match r with
  | .ok a h => f a h
  | .exc e h => .exc e env h
  | .stuck => .stuck
section
variable {g : Gm} {W : WB} {ρ : List Addr} {h : DH} {H : Hp} {env : En} {σ : L2.St} {Dn : Ends}
theorem RO.res {α : Type} {r : Res α} {f : α → DH → Out} (R : RH g ρ h H) (E : REn g W.xa ρ H env σ) (q : RO g W ρ H (r.out env f) Dn) : RR g (fun c d H' => W.wish c d σ H') ρ H r fun a h1 ρ1 H1 => RO g W ρ1 H1 (f a h1) Dn := by
  cases r with
  | ok a h' => exact fun ρ' H' x R' => RO.mono (show RO g W ρ H (f a h') Dn from q) x
  | exc e h' => exact fun ρ' H' cls d x R' z => q ρ' H' σ cls d x R' (E.mono x R) z
  | stuck => exact q
theorem lE.plugS (R : RH g ρ h H) (E : REn g W.xa ρ H env σ) {ta : DE} {f : D → DH → Out} {Q' : VK} (q : RO g W ρ H ((ta env h).out env f) Dn)
    (hq : ∀ d h1 ρ1 H1 v, Ext ρ H ρ1 H1 → RH g ρ1 h1 H1 → REn g W.xa ρ1 H1 env σ → RD g ρ1 H1 d v → RO g W ρ1 H1 (f d h1) Dn → Q' v H1) : lE g W ta σ H Q' :=
  ⟨ρ, env, h, R, E, (RO.res R E q).imp fun d h1 ρ1 H1 x R1 z v r => hq d h1 ρ1 H1 v x R1 (E.mono x R) r z⟩
theorem lT.plugS (R : RH g ρ h H) (E : REn g W.xa ρ H env σ) {ta : DT} {f : Bool → DH → Out} {Q' : Bool → Hp → Prop} (q : RO g W ρ H ((ta env h).out env f) Dn)
    (hq : ∀ d h1 ρ1 H1, Ext ρ H ρ1 H1 → RH g ρ1 h1 H1 → REn g W.xa ρ1 H1 env σ → RO g W ρ1 H1 (f d h1) Dn → Q' d H1) : lT g W ta σ H Q' :=
  ⟨ρ, env, h, R, E, (RO.res R E q).imp fun d h1 ρ1 H1 x R1 z => hq d h1 ρ1 H1 x R1 (E.mono x R) z⟩
theorem lA.plugS (R : RH g ρ h H) (E : REn g W.xa ρ H env σ) {ta : DA} {f : List D → DH → Out} {Q' : List V → Hp → Prop} (q : RO g W ρ H ((ta env h).out env f) Dn)
    (hq : ∀ d h1 ρ1 H1 vs, Ext ρ H ρ1 H1 → RH g ρ1 h1 H1 → REn g W.xa ρ1 H1 env σ → RDs g ρ1 H1 d vs → RO g W ρ1 H1 (f d h1) Dn → Q' vs H1) : lA g W ta σ H Q' :=
  ⟨ρ, env, h, R, E, (RO.res R E q).imp fun d h1 ρ1 H1 x R1 z v r => hq d h1 ρ1 H1 v x R1 (E.mono x R) r z⟩
end

/-! ### names, constants -/
section
variable {X : Cx} {W : WB} {e a b c : Expr} {es : List Expr} {pos : Pos}
def dVar (i : Nat) : DE := fun env h => match env[i]? with
  | some (some d) => .ok d h
  | _ => .stuck
def dC (d : D) : DE := fun _ h => .ok d h
theorem d_var {i : Nat} (p : PE X e (tVar i)) : DEx X W e (dVar i) := PE.imp p fun σ H Q ⟨ρ, env, h, R, E, q⟩ => by
  unfold dVar at q
  split at q
  · obtain ⟨v, e1, r⟩ := E.at_ i _ (by assumption)
    exact ⟨v, e1, q ρ H (Ext.refl _ _) R v r⟩
  · exact q.elim
theorem d_c {v : V} {d : D} (p : PE X e (tC v)) (r : ∀ ρ H, RD (gm X) ρ H d v) : DEx X W e (dC d) := PE.imp p fun σ H Q ⟨ρ, env, h, R, E, q⟩ => q ρ H (Ext.refl _ _) R v (r ρ H)
theorem d_int {i j pos} : DEx X W (.Constant (.int i) j pos) (dC (.int i)) := d_c pe_int fun _ _ => by simp [RD]
theorem d_bl {b j pos} : DEx X W (.Constant (.bool b) j pos) (dC (.bl b)) := d_c pe_bl fun _ _ => by simp [RD]
theorem d_non {j pos} : DEx X W (.Constant .none j pos) (dC .non) := d_c pe_non fun _ _ => by simp [RD]
theorem d_str {x j pos} : DEx X W (.Constant (.str x) j pos) (dC (.str x)) := d_c pe_str fun _ _ => by simp [RD]
theorem d_globI {x : Str} {i : Int} {t : Tok} {pos : Pos} (hg : Gl X x) (hm : X.mg x = some (.int i t)) (hd : (x == ("__debug__" : Str)) = false := by decide) : DEx X W (.Name x pos) (dC (.int i)) :=
  d_c (pe_glob (v := .int i) hg hm ⟨t, rfl⟩ hd) fun _ _ => by simp [RD]
theorem d_globS {x : Str} {i : Str} {t : Tok} {pos : Pos} (hg : Gl X x) (hm : X.mg x = some (.str i t)) (hd : (x == ("__debug__" : Str)) = false := by decide) : DEx X W (.Name x pos) (dC (.str i)) :=
  d_c (pe_glob (v := .str i) hg hm ⟨t, rfl⟩ hd) fun _ _ => by simp [RD]

/-! ### operators -/
def dOp (f : D → D → DH → Res D) (ta tb : DE) : DE := fun env h => (ta env h).bind fun x h1 => (tb env h1).bind fun y h2 => f x y h2
/-- an operator by data over an operator by values -/
def OpD (g : Gm) (r : R2) (f : D → D → DH → Res D) : Prop := ∀ (W : XK) (ρ : List Addr) (h : DH) (H : Hp) (x y : D) (v u : V) (Q : VK), RH g ρ h H → RD g ρ H x v → RD g ρ H y u →
  RR g W ρ H (f x y h) (fun d _ ρ' H' => ∀ v, RD g ρ' H' d v → Q v H') → r v u H Q
theorem lift_op {r : R2} {f : D → D → DH → Res D} {ta tb : DE} (o : OpD (gm X) r f) (σ : L2.St) (H : Hp) (Q : VK) (l : lE (gm X) W (dOp f ta tb) σ H Q) : tOp r (lE (gm X) W ta) (lE (gm X) W tb) σ H Q := by
  obtain ⟨ρ, env, h, R, E, q⟩ := l
  exact lE.plug R E q fun x h1 ρ1 H1 v x1 R1 E1 r1 q1 => lE.plug R1 E1 q1 fun y h2 ρ2 H2 u x2 R2 E2 r2 q2 => o _ ρ2 h2 H2 x y v u Q R2 (r1.mono x2 R1) r2 q2
theorem d_bin {op : Operator} {r : R2} {f : D → D → DH → Res D} {ta tb : DE} (ho : OpR X (binaryOp op) r) (o : OpD (gm X) r f) (ha : DEx X W a ta) (hb : DEx X W b tb) : DEx X W (.BinOp a op b pos) (dOp f ta tb) :=
  PE.imp (pe_op ho ha hb) (lift_op o)
theorem d_cmp {op : CmpOp} {r : R2} {f : D → D → DH → Res D} {ta tb : DE} (ho : OpR X (compareOp op) r) (o : OpD (gm X) r f) (ha : DEx X W a ta) (hb : DEx X W b tb) (hm : behindInMarks op b = false := by first | exact nomark _ | rfl) : DEx X W (.Compare a [op] [b] pos) (dOp f ta tb) :=
  PE.imp (pe_cmpR ho ha hb hm) (lift_op o)
def dChain (f f' : D → D → DH → Res D) (ta tb tc : DE) : DE := fun env h => (ta env h).bind fun x h1 => (tb env h1).bind fun y h2 => (f x y h2).bind fun z h3 => match z with
  | .bl true => (tc env h3).bind fun w h4 => f' y w h4
  | .bl false => .ok (.bl false) h3
  | _ => .stuck
theorem d_chain {op op' : CmpOp} {r r' : R2} {f f' : D → D → DH → Res D} {ta tb tc : DE} (ho : OpR X (compareOp op) r) (o : OpD (gm X) r f) (ho' : OpR X (compareOp op') r') (o' : OpD (gm X) r' f') (ha : DEx X W a ta) (hb : DEx X W b tb) (hc : DEx X W c tc)
    (p : PE X (.Compare a [op, op'] [b, c] pos) (tChain r r' (lE (gm X) W ta) (lE (gm X) W tb) (lE (gm X) W tc))) : DEx X W (.Compare a [op, op'] [b, c] pos) (dChain f f' ta tb tc) :=
  PE.imp p fun σ H Q ⟨ρ, env, h, R, E, q⟩ => by
    refine lE.plug R E q fun x h1 ρ1 H1 v x1 R1 E1 r1 q1 => lE.plug R1 E1 q1 fun y h2 ρ2 H2 u x2 R2 E2 r2 q2 => ?_
    refine o _ ρ2 h2 H2 x y v u _ R2 (r1.mono x2 R1) r2 ((RR.bind q2).imp fun z h3 ρ3 H3 x3 R3 q3 w rw' => ?_)
    have E3 := E2.mono x3 R2
    cases z with
    | bl k =>
      simp only [RD] at rw'
      subst rw'
      refine ⟨k, rfl, ?_⟩
      cases k with
      | true =>
        rw [if_pos rfl]
        exact lE.plug R3 E3 q3 fun w h4 ρ4 H4 v4 x4 R4 E4 r4 q4 => o' _ ρ4 h4 H4 y w u v4 Q R4 ((r2.mono x3 R2).mono x4 R3) r4 q4
      | false =>
        rw [if_neg Bool.false_ne_true]
        exact q3 ρ3 H3 (Ext.refl _ _) R3 _ (by simp [RD])
    | _ => exact q3.elim
/-- a test -/
def dB (t : DE) : DT := fun env h => (t env h).bind fun d h1 => match d with
  | .bl b => .ok b h1
  | _ => .stuck
theorem d_test {t : DE} (p : DEx X W e t) (he : ∀ whole, isTrue e X.env whole = (do let v ← whole; standAt e.pos; holding [v] (truthy v)) := by intro _; rfl) : DTx X W e (dB t) :=
  PT.imp (pt_val p he) fun σ H Q ⟨ρ, env, h, R, E, q⟩ => lE.plug R E q fun d h1 ρ1 H1 v x1 R1 E1 r1 q1 => by
    cases d with
    | bl b =>
      simp only [RD] at r1
      exact ⟨b, r1, q1 ρ1 H1 (Ext.refl _ _) R1⟩
    | _ => exact q1.elim
theorem d_testc {op : CmpOp} {r : R2} {f : D → D → DH → Res D} {ta tb : DE} (ho : OpR X (compareOp op) r) (o : OpD (gm X) r f) (ha : DEx X W a ta) (hb : DEx X W b tb) (hm : behindInMarks op b = false := by first | exact nomark _ | rfl) : DTx X W (.Compare a [op] [b] pos) (dB (dOp f ta tb)) :=
  PT.imp (pt_cmpR ho ha hb hm) fun σ H Q ⟨ρ, env, h, R, E, q⟩ => by
    show tOp r _ _ σ H _
    refine lift_op o σ H _ ⟨ρ, env, h, R, E, (RR.bind q).imp fun d h1 ρ1 H1 x1 R1 q1 v r1 => ?_⟩
    cases d with
    | bl b =>
      simp only [RD] at r1
      exact ⟨b, r1, q1 ρ1 H1 (Ext.refl _ _) R1⟩
    | _ => exact q1.elim
theorem d_testch {op op' : CmpOp} {r r' : R2} {f f' : D → D → DH → Res D} {ta tb tc : DE} (ho : OpR X (compareOp op) r) (o : OpD (gm X) r f) (ho' : OpR X (compareOp op') r') (o' : OpD (gm X) r' f')
    (p : PT X (.Compare a [op, op'] [b, c] pos) (tTest (tChain r r' (lE (gm X) W ta) (lE (gm X) W tb) (lE (gm X) W tc)))) : DTx X W (.Compare a [op, op'] [b, c] pos) (dB (dChain f f' ta tb tc)) :=
  PT.imp p fun σ H Q ⟨ρ, env, h, R, E, q⟩ => by
    have q := RR.bind q
    refine lE.plug R E (k := _) (f := _) (show RR _ _ ρ H (dChain f f' ta tb tc env h) _ from q) fun x h1 ρ1 H1 v x1 R1 E1 r1 q1 => lE.plug R1 E1 q1 fun y h2 ρ2 H2 u x2 R2 E2 r2 q2 => ?_
    refine o _ ρ2 h2 H2 x y v u _ R2 (r1.mono x2 R1) r2 ((RR.bind q2).imp fun z h3 ρ3 H3 x3 R3 q3 w rw' => ?_)
    have E3 := E2.mono x3 R2
    have fin : ∀ (d : D) (h5 : DH) (ρ5 : List Addr) (H5 : Hp) (v5 : V), RH (gm X) ρ5 h5 H5 → RD (gm X) ρ5 H5 d v5 → RR (gm X) (fun c d H' => W.wish c d σ H') ρ5 H5 ((fun d h1 => match d with | .bl b => Res.ok b h1 | _ => .stuck) d h5) (fun b _ _ H' => Q b H') → ∃ k, v5 = .bl k ∧ Q k H5 := fun d h5 ρ5 H5 v5 R5 r5 q5 => by
      cases d with
      | bl b =>
        simp only [RD] at r5
        exact ⟨b, r5, q5 ρ5 H5 (Ext.refl _ _) R5⟩
      | _ => exact q5.elim
    cases z with
    | bl k =>
      simp only [RD] at rw'
      subst rw'
      refine ⟨k, rfl, ?_⟩
      cases k with
      | true =>
        rw [if_pos rfl]
        refine lE.plug R3 E3 q3 fun w h4 ρ4 H4 v4 x4 R4 E4 r4 q4 => o' _ ρ4 h4 H4 y w u v4 _ R4 ((r2.mono x3 R2).mono x4 R3) r4 (q4.imp fun d h5 ρ5 H5 x5 R5 q5 v5 r5 => fin d h5 ρ5 H5 v5 R5 r5 q5)
      | false =>
        rw [if_neg Bool.false_ne_true]
        exact fin (.bl false) h3 ρ3 H3 _ R3 (by simp [RD]) (q3 ρ3 H3 (Ext.refl _ _) R3)
    | _ => exact q3.elim
def dNot (t : DT) : DT := fun env h => (t env h).bind fun b h1 => .ok (!b) h1
def dAnd (t u : DT) : DT := fun env h => (t env h).bind fun b h1 => if b then u env h1 else .ok false h1
def dOr (t u : DT) : DT := fun env h => (t env h).bind fun b h1 => if b then .ok true h1 else u env h1
variable {ta tb : DT} {rest : List Expr}
theorem d_not (p : DTx X W e ta) : DTx X W (.UnaryOp .Not e pos) (dNot ta) := PT.imp (pt_not p) fun σ H Q ⟨ρ, env, h, R, E, q⟩ => lT.plug R E q fun b h1 ρ1 H1 x1 R1 E1 q1 => q1 ρ1 H1 (Ext.refl _ _) R1
theorem w_and1 (p : DTx X W e ta) : DWx X W (.BoolOp .And [e] pos) ta := pw_and1 p
theorem w_or1 (p : DTx X W e ta) : DWx X W (.BoolOp .Or [e] pos) ta := pw_or1 p
theorem w_and (p : DTx X W e ta) (p' : DWx X W (.BoolOp .And (b :: rest) pos) tb) : DWx X W (.BoolOp .And (e :: b :: rest) pos) (dAnd ta tb) := PW.imp (pw_and p p') fun σ H Q ⟨ρ, env, h, R, E, q⟩ => lT.plug R E q fun b h1 ρ1 H1 x1 R1 E1 q1 => by
  cases b with
  | true => rw [if_pos rfl]; exact ⟨ρ1, env, h1, R1, E1, q1⟩
  | false => rw [if_neg Bool.false_ne_true]; exact q1 ρ1 H1 (Ext.refl _ _) R1
theorem w_or (p : DTx X W e ta) (p' : DWx X W (.BoolOp .Or (b :: rest) pos) tb) : DWx X W (.BoolOp .Or (e :: b :: rest) pos) (dOr ta tb) := PW.imp (pw_or p p') fun σ H Q ⟨ρ, env, h, R, E, q⟩ => lT.plug R E q fun b h1 ρ1 H1 x1 R1 E1 q1 => by
  cases b with
  | true => rw [if_pos rfl]; exact q1 ρ1 H1 (Ext.refl _ _) R1
  | false => rw [if_neg Bool.false_ne_true]; exact ⟨ρ1, env, h1, R1, E1, q1⟩
theorem d_w (p : DWx X W e ta) : DTx X W e ta := p.pt
end
/-! as values -/
section
variable {X : Cx} {W : WB} {e a b c : Expr} {rest : List Expr} {pos : Pos} {ta tb : DE} {tc : DT}
def dNotV (t : DE) : DE := fun env h => (t env h).bind fun d h1 => match d with
  | .bl b => .ok (.bl (!b)) h1
  | _ => .stuck
def dAndV (t u : DE) : DE := fun env h => (t env h).bind fun d h1 => match d with
  | .bl b => if b then u env h1 else .ok (.bl false) h1
  | _ => .stuck
def dOrV (t u : DE) : DE := fun env h => (t env h).bind fun d h1 => match d with
  | .bl b => if b then .ok (.bl true) h1 else u env h1
  | _ => .stuck
theorem d_notV (p : DEx X W e ta) : DEx X W (.UnaryOp .Not e pos) (dNotV ta) := PE.imp (pe_not p) fun σ H Q ⟨ρ, env, h, R, E, q⟩ => lE.plug R E q fun d h1 ρ1 H1 v x1 R1 E1 r1 q1 => by
  cases d with
  | bl b =>
    simp only [RD] at r1
    exact ⟨b, r1, q1 ρ1 H1 (Ext.refl _ _) R1 _ (by simp [RD])⟩
  | _ => exact q1.elim
theorem v_one {op} (p : DEx X W e ta) : DEx X W (.BoolOp op [e] pos) ta := pe_one p
theorem v_and (p : DEx X W e ta) (p' : DEx X W (.BoolOp .And (b :: rest) pos) tb) : DEx X W (.BoolOp .And (e :: b :: rest) pos) (dAndV ta tb) := PE.imp (pe_and p p') fun σ H Q ⟨ρ, env, h, R, E, q⟩ => lE.plug R E q fun d h1 ρ1 H1 v x1 R1 E1 r1 q1 => by
  cases d with
  | bl b =>
    simp only [RD] at r1
    refine ⟨b, r1, ?_⟩
    cases b with
    | true => rw [if_pos rfl]; exact ⟨ρ1, env, h1, R1, E1, q1⟩
    | false => rw [if_neg Bool.false_ne_true]; exact q1 ρ1 H1 (Ext.refl _ _) R1 _ (by simp [RD])
  | _ => exact q1.elim
theorem v_or (p : DEx X W e ta) (p' : DEx X W (.BoolOp .Or (b :: rest) pos) tb) : DEx X W (.BoolOp .Or (e :: b :: rest) pos) (dOrV ta tb) := PE.imp (pe_or p p') fun σ H Q ⟨ρ, env, h, R, E, q⟩ => lE.plug R E q fun d h1 ρ1 H1 v x1 R1 E1 r1 q1 => by
  cases d with
  | bl b =>
    simp only [RD] at r1
    refine ⟨b, r1, ?_⟩
    cases b with
    | true => rw [if_pos rfl]; exact q1 ρ1 H1 (Ext.refl _ _) R1 _ (by simp [RD])
    | false => rw [if_neg Bool.false_ne_true]; exact ⟨ρ1, env, h1, R1, E1, q1⟩
  | _ => exact q1.elim
def dIfE (c : DT) (t u : DE) : DE := fun env h => (c env h).bind fun b h1 => if b then t env h1 else u env h1
theorem d_ife (pc : DTx X W c tc) (pa : DEx X W a ta) (pb : DEx X W b tb) : DEx X W (.IfExp c a b pos) (dIfE tc ta tb) := PE.imp (pe_ifExp pc pa pb) fun σ H Q ⟨ρ, env, h, R, E, q⟩ => lT.plug R E q fun b h1 ρ1 H1 x1 R1 E1 q1 => by
  cases b with
  | true => rw [if_pos rfl]; exact ⟨ρ1, env, h1, R1, E1, q1⟩
  | false => rw [if_neg Bool.false_ne_true]; exact ⟨ρ1, env, h1, R1, E1, q1⟩
end

/-! ### arguments, displays -/
section
variable {X : Cx} {W : WB} {e : Expr} {es : List Expr} {pos : Pos} {te : DE} {t : DA}
def aNil : DA := fun _ h => .ok [] h
def aCons (te : DE) (t : DA) : DA := fun env h => (te env h).bind fun d h1 => (t env h1).bind fun ds h2 => .ok (d :: ds) h2
theorem a_nil : DAx X W [] aNil := PA.imp pa_nil fun σ H Q ⟨ρ, env, h, R, E, q⟩ => q ρ H (Ext.refl _ _) R [] RDs.nil
theorem a_cons (p : DEx X W e te) (p' : DAx X W es t) (hs : starEach (e :: es) X.env = (false, eval e X.env) :: starEach es X.env := by rfl) : DAx X W (e :: es) (aCons te t) :=
  PA.imp (pa_cons p p' hs) fun σ H Q ⟨ρ, env, h, R, E, q⟩ => lE.plug R E q fun d h1 ρ1 H1 v x1 R1 E1 r1 q1 => lA.plug R1 E1 q1 fun ds h2 ρ2 H2 vs x2 R2 E2 r2 q2 => q2 ρ2 H2 (Ext.refl _ _) R2 _ (RDs.cons (r1.mono x2 R1) r2)
def small (n : Nat) : Bool := decide (n ≤ 16777216)
theorem small_le {n : Nat} (h : small n = true) : n ≤ sizeLine := by
  rw [sizeLine_eq]
  simpa [small] using h
def dTup (t : DA) : DE := fun env h => (t env h).bind fun ds h1 => if small ds.length then .ok (.tup ds) h1 else .stuck
theorem d_tup {x1} (p : DAx X W es t) : DEx X W (.Tuple es x1 pos) (dTup t) := PE.imp (pe_tup p) fun σ H Q ⟨ρ, env, h, R, E, q⟩ => lA.plug R E q fun ds h1 ρ1 H1 vs x1 R1 E1 r1 q1 => by
  by_cases z : small ds.length = true
  · rw [if_pos z] at q1
    refine ⟨by rw [r1.length]; exact small_le z, fun p hp => q1 ρ1 _ (Ext.tup hp) (R1.tup hp) _ ?_⟩
    simp only [RD]
    exact ⟨p, vs, rfl, SqT.of upd_same, r1.mono (Ext.tup hp) R1⟩
  · rw [if_neg z] at q1
    exact q1.elim
/-- a list's display: as something to be read at once; as a new list of the heap -/
def qLst (t : DA) : DA := fun env h => (t env h).bind fun ds h1 => if small ds.length then .ok ds h1 else .stuck
theorem q_lst (p : DAx X W es t) : DQx X W (.List es pos) (qLst t) := PE.imp (pe_lst p) fun σ H Q ⟨ρ, env, h, R, E, q⟩ => lA.plug R E q fun ds h1 ρ1 H1 vs x1 R1 E1 r1 q1 => by
  by_cases z : small ds.length = true
  · rw [if_pos z] at q1
    refine ⟨by rw [r1.length]; exact small_le z, fun p hp => q1 ρ1 _ (Ext.tup hp) (R1.tup hp) p vs upd_same (R1.not hp) (x1.fresh R R1 hp) (r1.mono (Ext.tup hp) R1)⟩
  · rw [if_neg z] at q1
    exact q1.elim
/-- what is new may be kept -/
def dNew (t : DA) : DE := fun env h => (t env h).bind fun ds h1 => .ok (.ref h1.length) (h1 ++ [.lst ds])
theorem RH.adopt {g : Gm} {ρ : List Addr} {h : DH} {H : Hp} (R : RH g ρ h H) {a : Addr} {vs : List V} {ds : List D} (e : H a = some (.lst vs)) (n : a ∉ ρ) (r : RDs g ρ H ds vs) : RH g (ρ ++ [a]) (h ++ [.lst ds]) H := by
  have up : ∀ {d : D} {v : V}, RD g ρ H d v → RD g (ρ ++ [a]) H d v := by
    intro d
    refine D.rec (motive_1 := fun d => ∀ {v : V}, RD g ρ H d v → RD g (ρ ++ [a]) H d v) (motive_2 := fun ds => ∀ {vs : List V}, RDs g ρ H ds vs → RDs g (ρ ++ [a]) H ds vs) ?_ ?_ ?_ ?_ ?_ ?_ ?_ ?_ ?_ d
    · intro v r; simpa [RD] using r
    · intro _ v r; simpa [RD] using r
    · intro _ v r; simpa [RD] using r
    · intro _ v r; simpa [RD] using r
    · intro ds ih v r; simp only [RD] at r ⊢; obtain ⟨a, vs, e, s, q⟩ := r; exact ⟨a, vs, e, s, ih q⟩
    · intro ds ih v r; simp only [RD] at r ⊢; obtain ⟨a, vs, e, s, q⟩ := r; exact ⟨a, vs, e, s, ih q⟩
    · intro n v r; simp only [RD] at r ⊢; obtain ⟨b, e, s⟩ := r; exact ⟨b, e, by rw [List.getElem?_append_left (List.getElem?_eq_some_iff.mp s).1]; exact s⟩
    · intro vs r; simpa [RDs] using r
    · intro d ds i1 i2 vs r; simp only [RDs] at r ⊢; obtain ⟨v, t, e, q1, q2⟩ := r; exact ⟨v, t, e, i1 q1, i2 q2⟩
  have ups : ∀ {ds : List D} {vs : List V}, RDs g ρ H ds vs → RDs g (ρ ++ [a]) H ds vs := by
    intro ds
    induction ds with
    | nil => intro vs r; simpa [RDs] using r
    | cons d ds ih => intro vs r; simp only [RDs] at r ⊢; obtain ⟨v, t, e, q1, q2⟩ := r; exact ⟨v, t, e, up q1, ih q2⟩
  have upf : ∀ {ds : List (Str × D)} {vs : List (Str × V)}, RFs g ρ H ds vs → RFs g (ρ ++ [a]) H ds vs := by
    intro ds
    induction ds with
    | nil => intro vs r; simpa [RFs] using r
    | cons d ds ih => obtain ⟨f, d⟩ := d; intro vs r; simp only [RFs] at r ⊢; obtain ⟨v, t, e, q1, q2⟩ := r; exact ⟨v, t, e, up q1, ih q2⟩
  refine ⟨by simp [R.len], List.nodup_append.mpr ⟨R.nd, by simp, fun x hx y hy z => ?_⟩, fun m ob b e1 e2 => ?_⟩
  · have : y = a := by simpa using hy
    rw [z, this] at hx; exact n hx
  · by_cases hm : m < ρ.length
    · rw [List.getElem?_append_left hm] at e2
      rw [List.getElem?_append_left (by rw [← R.len]; exact hm)] at e1
      have q := R.ok m ob b e1 e2
      cases ob with
      | lst ds => obtain ⟨vs, e1, r⟩ := q; exact ⟨vs, e1, ups r⟩
      | dct lk kvs => obtain ⟨ob, es, ep, e1, n, z, r, nd⟩ := q; exact ⟨ob, es, ep, e1, n, z, Paired.mapP r fun _ _ ⟨k, kv, vv, a1, a2, a3, a4, a5, a6, a7⟩ => ⟨k, kv, vv, a1, a2, up a3, a4, a5, up a6, a7⟩, nd⟩
      | ins c fs => obtain ⟨C, dx, fvs, m, e1, r⟩ := q; exact ⟨C, dx, fvs, m, e1, upf r⟩
      | tbl p l =>
        obtain ⟨ps, e0, e1, t, cs⟩ := q
        refine ⟨ps, e0, e1, t, fun pos cv hc => ?_⟩
        obtain ⟨c, ec, hc2, hn⟩ := cs pos cv hc
        refine ⟨c, ec, hc2, fun z => ?_⟩
        rcases List.mem_append.mp z with z | z
        · exact hn z
        · rw [List.mem_singleton.mp z, e] at hc2
          unfold LamX.CodeO at hc2
          cases hc2
    · have hl : m < (ρ ++ [a]).length := (List.getElem?_eq_some_iff.mp e2).1
      have hm' : m = ρ.length := by simp at hl; omega
      subst hm'
      rw [List.getElem?_append_right (Nat.le_refl _)] at e2
      rw [List.getElem?_append_right (by rw [R.len]; exact Nat.le_refl _)] at e1
      simp at e2
      simp [R.len] at e1
      subst e1; subst e2
      exact ⟨vs, e, ups r⟩
end
end DL
/-! DLc: statements, blocks, loops, comprehensions. -/
namespace DL
open PySem PySem.Spec PyProof.Rows L2

section
variable {X : Cx} {W : WB} {st : Stmt} {rest body : List Stmt} {e c : Expr} {pos : Pos} {t u : DS} {te : DE} {tc : DT}
def sNil : DS := fun env h => .nx env h
def sSeq (t u : DS) : DS := fun env h => match t env h with
  | .nx env' h' => u env' h'
  | o => o
theorem ss_nil : DSsx X W [] sNil := PSs.imp pss_nil fun Dn σ H ⟨ρ, env, h, R, E, q⟩ => q ρ H σ (Ext.refl _ _) R E
theorem ss_cons (p : DSx X W st t) (p' : DSsx X W rest u) : DSsx X W (st :: rest) (sSeq t u) := PSs.imp (pss_cons p p') fun Dn σ H ⟨ρ, env, h, R, E, q⟩ => by
  refine ⟨ρ, env, h, R, E, ?_⟩
  unfold sSeq at q
  cases z : t env h with
  | nx env' h' =>
    rw [z] at q
    exact fun ρ' H' σ' x R' E' => ⟨ρ', env', h', R', E', RO.mono (show RO (gm X) W ρ H (u env' h') Dn from q) x⟩
  | rt d h' => rw [z] at q; exact q
  | bk env' h' => rw [z] at q; exact q
  | ct env' h' => rw [z] at q; exact q
  | exc x env' h' => rw [z] at q; exact q
  | stuck => rw [z] at q; exact q
theorem ss_one (p : DSx X W st t) : DSsx X W [st] t := pss_one p
def sPass : DS := fun env h => .nx env h
def sBreak : DS := fun env h => .bk env h
def sCont : DS := fun env h => .ct env h
theorem s_pass : DSx X W (.Pass pos) sPass := PS.imp ps_pass fun Dn σ H ⟨ρ, env, h, R, E, q⟩ => q ρ H σ (Ext.refl _ _) R E
theorem s_break : DSx X W (.Break pos) sBreak := PS.imp ps_break fun Dn σ H ⟨ρ, env, h, R, E, q⟩ => q ρ H σ (Ext.refl _ _) R E
theorem s_cont : DSx X W (.Continue pos) sCont := PS.imp ps_continue fun Dn σ H ⟨ρ, env, h, R, E, q⟩ => q ρ H σ (Ext.refl _ _) R E
def sExpr (te : DE) : DS := fun env h => (te env h).out env fun _ h1 => .nx env h1
theorem s_expr (p : DEx X W e te) (hs : swapsWith e none pos.line X.env = pure false := by rfl) : DSx X W (.Expr e pos) (sExpr te) := PS.imp (ps_expr p hs) fun Dn σ H ⟨ρ, env, h, R, E, q⟩ =>
  lE.plugS R E q fun d h1 ρ1 H1 v x1 R1 E1 r1 q1 => q1 ρ1 H1 σ (Ext.refl _ _) R1 E1
def sRet (te : DE) : DS := fun env h => (te env h).out env fun d h1 => .rt d h1
theorem s_ret (p : DEx X W e te) : DSx X W (.Return (some e) pos) (sRet te) := PS.imp (ps_ret p) fun Dn σ H ⟨ρ, env, h, R, E, q⟩ =>
  lE.plugS R E q fun d h1 ρ1 H1 v x1 R1 E1 r1 q1 => q1 ρ1 H1 v (Ext.refl _ _) R1 r1
def sRetN : DS := fun _ h => .rt .non h
theorem s_retN : DSx X W (.Return none pos) sRetN := PS.imp ps_retN fun Dn σ H ⟨ρ, env, h, R, E, q⟩ => q ρ H _ (Ext.refl _ _) R (by simp [RD])
def sIf (c : DT) (t u : DS) : DS := fun env h => (c env h).out env fun b h1 => if b then t env h1 else u env h1
theorem s_if {a b : List Stmt} (pc : DTx X W c tc) (pa : DSsx X W a t) (pb : DSsx X W b u) : DSx X W (.If c a b pos) (sIf tc t u) := PS.imp (ps_if pc pa pb) fun Dn σ H ⟨ρ, env, h, R, E, q⟩ =>
  lT.plugS R E q fun b h1 ρ1 H1 x1 R1 E1 q1 => by
    cases b with
    | true => rw [if_pos rfl]; exact ⟨ρ1, env, h1, R1, E1, q1⟩
    | false => rw [if_neg Bool.false_ne_true]; exact ⟨ρ1, env, h1, R1, E1, q1⟩
end

/-! ### targets -/
abbrev DG := D → En → Option En
abbrev DGs := List D → En → Option En
def lG (g : Gm) (W : WB) (t : DG) : TG := fun v σ H Q => ∃ ρ env h d env', RH g ρ h H ∧ REn g W.xa ρ H env σ ∧ RD g ρ H d v ∧ t d env = some env' ∧ ∀ σ', REn g W.xa ρ H env' σ' → Q σ' H
def lGs (g : Gm) (W : WB) (t : DGs) : TGs := fun vs σ H Q => ∃ ρ env h ds env', RH g ρ h H ∧ REn g W.xa ρ H env σ ∧ RDs g ρ H ds vs ∧ t ds env = some env' ∧ ∀ σ', REn g W.xa ρ H env' σ' → Q σ' H
abbrev DGx (X : Cx) (W : WB) (tg : Expr) (t : DG) : Prop := PG X tg (lG (gm X) W t)
abbrev DGsx (X : Cx) (W : WB) (ts : List Expr) (t : DGs) : Prop := PGs X ts (lGs (gm X) W t)
theorem PGs.imp {X : Cx} {e : List Expr} {t t' : TGs} (p : PGs X e t) (i : ∀ v σ H Q, t' v σ H Q → t v σ H Q) : PGs X e t' := ⟨fun pins s σ H v u Q I r h => p.run pins s σ H v u Q I r (i _ _ _ _ h)⟩
section
variable {X : Cx} {W : WB} {tg e : Expr} {es : List Expr} {pos : Pos} {te : DE} {t : DG} {ts : DGs}
def gdName (i : Nat) : DG := fun d env => some (env.set i (some d))
theorem g_name {i : Nat} (p : PG X tg (gName i)) (ni : ∀ x, W.xa = some x → x.i ≠ i := by intro _ h; cases h) : DGx X W tg (gdName i) := PG.imp p fun v σ H Q ⟨ρ, env, h, d, env', R, E, r, q, k⟩ => by
  simp only [gdName, Option.some.injEq] at q
  subst q
  exact k _ (E.set i r ni)
def gsNil : DGs := fun ds env => match ds with
  | [] => some env
  | _ => none
def gsCons (t : DG) (ts : DGs) : DGs := fun ds env => match ds with
  | d :: ds => (t d env).bind fun env' => ts ds env'
  | [] => none
theorem gs_nil : DGsx X W [] gsNil := PGs.imp pgs_nil fun v σ H Q ⟨ρ, env, h, ds, env', R, E, r, q, k⟩ => by
  cases ds with
  | nil =>
    simp only [RDs] at r
    simp only [gsNil, Option.some.injEq] at q
    subst q
    exact ⟨r, k σ E⟩
  | cons d ds => cases q
theorem gs_cons (p : DGx X W e t) (p' : DGsx X W es ts) (hs : (assignEach (e :: es) X.env).map (·.2) = assign e X.env :: (assignEach es X.env).map (·.2) := by rfl) : DGsx X W (e :: es) (gsCons t ts) :=
  PGs.imp (pgs_cons p p' hs) fun v σ H Q ⟨ρ, env, h, ds, env', R, E, r, q, k⟩ => by
    cases ds with
    | nil => cases q
    | cons d ds =>
      simp only [RDs] at r
      obtain ⟨v1, t1, e1, r1, r2⟩ := r
      simp only [gsCons] at q
      cases z : t d env with
      | none => rw [z] at q; cases q
      | some env1 =>
        rw [z] at q
        exact ⟨v1, t1, e1, ρ, env, h, d, env1, R, E, r1, z, fun σ1 E1 => ⟨ρ, env1, h, ds, env', R, E1, r2, q, k⟩⟩
def gdTup (n : Nat) (ts : DGs) : DG := fun d env => match d with
  | .tup ds => if ds.length = n then ts ds env else none
  | _ => none
theorem g_tup {k : Nat} {n : Nat} (hc : X.calm = true) (p : DGsx X W es ts) (hn : (assignEach es X.env).length = n := by rfl) (hst : (assignEach es X.env).findIdx? (·.1) = none := by rfl) : DGx X W (.Tuple es k pos) (gdTup n ts) :=
  PG.imp (pg_tup hc p hn hst) fun v σ H Q ⟨ρ, env, h, d, env', R, E, r, q, k⟩ => by
    cases d with
    | tup ds =>
      simp only [RD] at r
      obtain ⟨a, vs, e1, s, r⟩ := r
      simp only [gdTup] at q
      by_cases z : ds.length = n
      · rw [if_pos z] at q
        exact ⟨a, vs, e1, s, by rw [r.length]; exact z, ρ, env, h, ds, env', R, E, r, q, k⟩
      · rw [if_neg z] at q; cases q
    | _ => cases q
/-- target = value -/
def sAsg (te : DE) (t : DG) : DS := fun env h => (te env h).out env fun d h1 => match t d env with
  | some env' => .nx env' h1
  | none => .stuck
theorem asg_in {σ : L2.St} {H : Hp} {Dn : Ends} (l : lS (gm X) W (sAsg te t) Dn σ H) : tAsg (lE (gm X) W te) (lG (gm X) W t) Dn σ H := by
  obtain ⟨ρ, env, h, R, E, q⟩ := l
  refine lE.plugS R E q fun d h1 ρ1 H1 v x1 R1 E1 r1 q1 => ?_
  cases z : t d env with
  | none => simp only [z] at q1; exact q1.elim
  | some env' =>
    simp only [z] at q1
    exact ⟨ρ1, env, h1, d, env', R1, E1, r1, z, fun σ' E' => q1 ρ1 H1 σ' (Ext.refl _ _) R1 E'⟩
theorem s_asg (p : DEx X W e te) (pg : DGx X W tg t) (hs : swapsWithSole [tg] e pos.line X.env = pure false := by rfl) (hw : swappedStores [tg] e X.env = pure none := by rfl)
    (h1 : (assignEach [tg] X.env).map (·.2) = [assign tg X.env] := by rfl) : DSx X W (.Assign [tg] e pos) (sAsg te t) := PS.imp (ps_asg p pg hs hw h1) fun _ _ _ l => asg_in l
theorem s_set {i : Nat} {x : Str} {pos' : Pos} (hN : X.N.Nodup) (hi : X.N[i]? = some x) (hx : Loc X.env.scope x) (p : DEx X W e te) (hs : swapsWith e (some (.Name x pos')) pos.line X.env = pure false := by rfl) (ni : ∀ x, W.xa = some x → x.i ≠ i := by intro _ h; cases h)
    (hf : X.fn x = true ∨ X.env.scope.names.lookup x = some .local := by first | exact .inl rfl | exact .inr rfl | assumption) : DSx X W (.Assign [.Name x pos'] e pos) (sAsg te (gdName i)) :=
  PS.imp (ps_set hN hi hx p hs hf) fun Dn σ H ⟨ρ, env, h, R, E, q⟩ => lE.plugS R E q fun d h1 ρ1 H1 v x1 R1 E1 r1 q1 => q1 ρ1 H1 _ (Ext.refl _ _) R1 (E1.set i r1 ni)
end

/-! ### what is walked -/
abbrev DI := En → DH → Res (List D × (DH → Bool))
/-- the iterator J hands out the items, while live holds of the heap -/
def Serves (g : Gm) (J : It) (ρ0 : List Addr) (H0 : Hp) (items : List D) (live : DH → Bool) : Prop :=
  ∀ (i : Nat) (ρ : List Addr) (h : DH) (H : Hp), Ext ρ0 H0 ρ H → RH g ρ h H → live h = true →
    (∀ x, items[i]? = some x → J.go i H ∧ ∀ v H', J.yld i H v H' → Ext ρ H ρ H' ∧ RH g ρ h H' ∧ RD g ρ H' x v) ∧ (i = items.length → J.stop i H)
def lI (g : Gm) (W : WB) (t : DI) : TI := fun σ H R' => ∃ ρ env h, RH g ρ h H ∧ REn g W.xa ρ H env σ ∧ RR g (fun c d H' => W.wish c d σ H') ρ H (t env h) fun p _ ρ' H' => ∀ J, Serves g J ρ' H' p.1 p.2 → R' J H'
abbrev DIx (X : Cx) (W : WB) (tg e : Expr) (t : DI) : Prop := PI X tg e (lI (gm X) W t)
theorem Serves.mono {g : Gm} {J : It} {ρ0 ρ1 : List Addr} {H0 H1 : Hp} {items : List D} {live : DH → Bool} (s : Serves g J ρ0 H0 items live) (x : Ext ρ0 H0 ρ1 H1) : Serves g J ρ1 H1 items live :=
  fun i ρ h H y R l => s i ρ h H (x.trans y) R l

def dLoop (live : DH → Bool) (g : DG) (b : DS) : List D → En → DH → Out
  | [], env, h => if live h then .nx env h else .stuck
  | x :: xs, env, h => if live h then (match g x env with
    | none => .stuck
    | some env1 => match b env1 h with
      | .nx env2 h2 => dLoop live g b xs env2 h2
      | .ct env2 h2 => dLoop live g b xs env2 h2
      | .bk env2 h2 => .nx env2 h2
      | o => o) else .stuck
def sFor (it : DI) (g : DG) (b : DS) : DS := fun env h => (it env h).out env fun p h1 => dLoop p.2 g b p.1 env h1
theorem lI.plugS {g : Gm} {W : WB} {ρ : List Addr} {h : DH} {H : Hp} {env : En} {σ : L2.St} {Dn : Ends} (R : RH g ρ h H) (E : REn g W.xa ρ H env σ) {ta : DI} {f : (List D × (DH → Bool)) → DH → Out} {Q' : It → Hp → Prop} (q : RO g W ρ H ((ta env h).out env f) Dn)
    (hq : ∀ p h1 ρ1 H1 J, Ext ρ H ρ1 H1 → RH g ρ1 h1 H1 → REn g W.xa ρ1 H1 env σ → Serves g J ρ1 H1 p.1 p.2 → RO g W ρ1 H1 (f p h1) Dn → Q' J H1) : lI g W ta σ H Q' :=
  ⟨ρ, env, h, R, E, (RO.res R E q).imp fun d h1 ρ1 H1 x R1 z J s => hq d h1 ρ1 H1 J x R1 (E.mono x R) s z⟩
theorem s_for {X : Cx} {W : WB} {tg iter : Expr} {body : List Stmt} {pos : Pos} {it : DI} {gt : DG} {tb : DS} (hp : PassesOwn (model X.prog X.w) X.A X.env X.xe) (hc : X.calm = true) (pi : DIx X W tg iter it) (pg : DGx X W tg gt) (pb : DSsx X W body tb)
    (hs : ∀ x, foldedSetIterable iter X.env x = pure x := by intro _; rfl) : DSx X W (.For tg iter body [] pos) (sFor it gt tb) :=
  PS.imp (ps_for hp hc pi pg pb hs) fun Dn σ H ⟨ρ, env, h, R, E, q⟩ => by
    refine lI.plugS R E q fun p h1 ρ1 H1 J x1 R1 E1 S q1 => ?_
    obtain ⟨items, live⟩ := p
    dsimp only at q1 S
    refine ⟨fun i m σ2 H2 => ∃ ρ2 h2 env2, Ext ρ1 H1 ρ2 H2 ∧ RH (gm X) ρ2 h2 H2 ∧ REn (gm X) W.xa ρ2 H2 env2 σ2 ∧ i ≤ items.length ∧ m = items.length - i ∧ RO (gm X) W ρ2 H2 (dLoop live gt tb (items.drop i) env2 h2) Dn,
      ⟨_, ρ1, h1, env, Ext.refl _ _, R1, E1, Nat.zero_le _, rfl, by simpa using q1⟩, ?_⟩
    rintro i m σ2 H2 ⟨ρ2, h2, env2, x2, R2, E2, hi, rfl, q2⟩
    by_cases hl : i < items.length
    · rw [List.drop_eq_getElem_cons hl] at q2
      unfold dLoop at q2
      by_cases lv : live h2 = true
      · rw [if_pos lv] at q2
        obtain ⟨s1, _⟩ := S i ρ2 h2 H2 x2 R2 lv
        obtain ⟨go, yl⟩ := s1 _ (List.getElem?_eq_getElem hl)
        refine .inr ⟨go, fun σ' H' => ∃ ρ2 h2 env2, Ext ρ1 H1 ρ2 H' ∧ RH (gm X) ρ2 h2 H' ∧ REn (gm X) W.xa ρ2 H' env2 σ' ∧ RO (gm X) W ρ2 H' (dLoop live gt tb (items.drop (i + 1)) env2 h2) Dn,
          fun σ' H' ⟨ρ3, h3, env3, x3, R3, E3, q3⟩ => ⟨_, by omega, ρ3, h3, env3, x3, R3, E3, by omega, rfl, q3⟩, fun v H' y => ?_⟩
        obtain ⟨xe, Re, re⟩ := yl v H' y
        cases z : gt items[i] env2 with
        | none => simp only [z] at q2; exact q2.elim
        | some env3 =>
          simp only [z] at q2
          refine ⟨ρ2, env2, h2, items[i], env3, Re, E2.mono xe R2, re, z, fun σ3 E3 => ⟨ρ2, env3, h2, Re, E3, ?_⟩⟩
          have x2' := x2.trans xe
          cases z2 : tb env3 h2 with
          | nx env4 h4 => simp only [z2] at q2; exact fun ρ4 H4 σ4 x4 R4 E4 => ⟨ρ4, h4, env4, x2'.trans x4, R4, E4, RO.mono (RO.mono q2 xe) x4⟩
          | ct env4 h4 => simp only [z2] at q2; exact fun ρ4 H4 σ4 x4 R4 E4 => ⟨ρ4, h4, env4, x2'.trans x4, R4, E4, RO.mono (RO.mono q2 xe) x4⟩
          | bk env4 h4 => simp only [z2] at q2; exact fun ρ4 H4 σ4 x4 R4 E4 => q2 ρ4 H4 σ4 (xe.trans x4) R4 E4
          | rt d h4 => simp only [z2] at q2; exact fun ρ4 H4 v4 x4 R4 r4 => q2 ρ4 H4 v4 (xe.trans x4) R4 r4
          | exc e env4 h4 => simp only [z2] at q2; exact fun ρ4 H4 σ4 cls d x4 R4 E4 z4 => q2 ρ4 H4 σ4 cls d (xe.trans x4) R4 E4 z4
          | stuck => simp only [z2] at q2; exact q2.elim
      · rw [if_neg lv] at q2
        exact q2.elim
    · have hi' : i = items.length := by omega
      subst hi'
      rw [List.drop_length] at q2
      unfold dLoop at q2
      by_cases lv : live h2 = true
      · rw [if_pos lv] at q2
        exact .inl ⟨(S _ ρ2 h2 H2 x2 R2 lv).2 rfl, q2 ρ2 H2 σ2 (Ext.refl _ _) R2 E2⟩
      · rw [if_neg lv] at q2
        exact q2.elim

/-! ### while -/
/-- a while loop that ends within n turns -/
def dWhile (c : DT) (b : DS) : Nat → En → DH → Out
  | 0, _, _ => .stuck
  | n + 1, env, h => (c env h).out env fun k h1 => if k then (match b env h1 with
      | .nx env2 h2 => dWhile c b n env2 h2
      | .ct env2 h2 => dWhile c b n env2 h2
      | .bk env2 h2 => .nx env2 h2
      | o => o) else .nx env h1
theorem s_while {X : Cx} {W : WB} {c : Expr} {body : List Stmt} {pos : Pos} {tc : DT} {tb : DS} (n : Nat) (hp : PassesOwn (model X.prog X.w) X.A X.env X.xe) (pc : DTx X W c tc) (pb : DSsx X W body tb) : DSx X W (.While c body [] pos) (dWhile tc tb n) :=
  PS.imp (ps_while hp pc pb) fun Dn σ H ⟨ρ, env, h, R, E, q⟩ => by
    refine ⟨fun m σ2 H2 => ∃ ρ2 h2 env2, RH (gm X) ρ2 h2 H2 ∧ REn (gm X) W.xa ρ2 H2 env2 σ2 ∧ RO (gm X) W ρ2 H2 (dWhile tc tb m env2 h2) Dn, ⟨n, ρ, h, env, R, E, q⟩, ?_⟩
    rintro m σ2 H2 ⟨ρ2, h2, env2, R2, E2, q2⟩
    cases m with
    | zero => exact q2.elim
    | succ m =>
      refine lT.plugS R2 E2 q2 fun k h3 ρ3 H3 x3 R3 E3 q3 => ?_
      cases k with
      | false =>
        rw [if_neg Bool.false_ne_true]
        exact q3 ρ3 H3 σ2 (Ext.refl _ _) R3 E3
      | true =>
        rw [if_pos rfl]
        simp only [if_true] at q3
        refine ⟨fun σ' H' => ∃ ρ2 h2 env2, RH (gm X) ρ2 h2 H' ∧ REn (gm X) W.xa ρ2 H' env2 σ' ∧ RO (gm X) W ρ2 H' (dWhile tc tb m env2 h2) Dn, fun σ' H' z => ⟨m, Nat.lt_succ_self _, z⟩, ρ3, env2, h3, R3, E3, ?_⟩
        cases z2 : tb env2 h3 with
        | nx env4 h4 => simp only [z2] at q3; exact fun ρ4 H4 σ4 x4 R4 E4 => ⟨ρ4, h4, env4, R4, E4, RO.mono q3 x4⟩
        | ct env4 h4 => simp only [z2] at q3; exact fun ρ4 H4 σ4 x4 R4 E4 => ⟨ρ4, h4, env4, R4, E4, RO.mono q3 x4⟩
        | bk env4 h4 => simp only [z2] at q3; exact q3
        | rt d h4 => simp only [z2] at q3; exact q3
        | exc e env4 h4 => simp only [z2] at q3; exact q3
        | stuck => simp only [z2] at q3; exact q3.elim

/-! ### comprehensions -/
def W0 : WB := ⟨fun _ _ _ _ => False, none⟩
@[simp] def wipeD (env : En) : List Nat → En
  | [] => env
  | v :: vs => (wipeD env vs).set v Option.none
theorem REn.wipe {g : Gm} {xa : Option XA} {ρ : List Addr} {H : Hp} {e : En} {σ : L2.St} (E : REn g xa ρ H e σ) : ∀ vs : List Nat, REn g Option.none ρ H (wipeD e vs) (L2.wipe σ vs)
  | [] => E.plain
  | v :: vs => by
    unfold wipeD L2.wipe
    exact (REn.wipe E vs).none v Option.none
theorem wipe_set (σ : L2.St) (i : Nat) (x : Option V) : ∀ vs : List Nat, i ∈ vs → L2.wipe (σ.set i x) vs = L2.wipe σ vs
  | [], h => by cases h
  | v :: vs, h => by
    unfold L2.wipe
    by_cases hv : i = v
    · subst hv
      by_cases hm : i ∈ vs
      · rw [wipe_set σ i x vs hm]
      · have : L2.wipe (σ.set i x) vs = (L2.wipe σ vs).set i x := by
          clear h
          induction vs with
          | nil => rfl
          | cons w ws ih =>
            have hw : i ≠ w := fun z => hm (by simp [z])
            have hm' : i ∉ ws := fun z => hm (by simp [z])
            unfold L2.wipe
            rw [ih hm', List.set_comm _ _ hw]
        rw [this, List.set_set]
    · have hm : i ∈ vs := by
        rcases List.mem_cons.mp h with z | z
        · exact absurd z hv
        · exact z
      rw [wipe_set σ i x vs hm]
/-- a target that stores into the places vs alone -/
def lGW (g : Gm) (vs : List Nat) (t : DG) : TG := fun v σ H Q => ∃ ρ env h d env', RH g ρ h H ∧ REn g none ρ H env σ ∧ RD g ρ H d v ∧ t d env = some env' ∧ ∀ σ', REn g none ρ H env' σ' → L2.wipe σ' vs = L2.wipe σ vs → Q σ' H
def lGsW (g : Gm) (vs : List Nat) (t : DGs) : TGs := fun v σ H Q => ∃ ρ env h ds env', RH g ρ h H ∧ REn g none ρ H env σ ∧ RDs g ρ H ds v ∧ t ds env = some env' ∧ ∀ σ', REn g none ρ H env' σ' → L2.wipe σ' vs = L2.wipe σ vs → Q σ' H
abbrev DGWx (X : Cx) (vs : List Nat) (tg : Expr) (t : DG) : Prop := PG X tg (lGW (gm X) vs t)
abbrev DGsWx (X : Cx) (vs : List Nat) (ts : List Expr) (t : DGs) : Prop := PGs X ts (lGsW (gm X) vs t)
section
variable {X : Cx} {vs : List Nat} {tg e : Expr} {es : List Expr} {pos : Pos} {t : DG} {ts : DGs}
theorem gw_name {i : Nat} (p : PG X tg (gName i)) (hi : i ∈ vs := by simp) : DGWx X vs tg (gdName i) := PG.imp p fun v σ H Q ⟨ρ, env, h, d, env', R, E, r, q, k⟩ => by
  simp only [gdName, Option.some.injEq] at q
  subst q
  exact k _ (E.set i r (fun _ h => by cases h)) (wipe_set σ i _ vs hi)
theorem gws_nil : DGsWx X vs [] gsNil := PGs.imp pgs_nil fun v σ H Q ⟨ρ, env, h, ds, env', R, E, r, q, k⟩ => by
  cases ds with
  | nil =>
    simp only [RDs] at r
    simp only [gsNil, Option.some.injEq] at q
    subst q
    exact ⟨r, k σ E rfl⟩
  | cons d ds => cases q
theorem gws_cons (p : DGWx X vs e t) (p' : DGsWx X vs es ts) (hs : (assignEach (e :: es) X.env).map (·.2) = assign e X.env :: (assignEach es X.env).map (·.2) := by rfl) : DGsWx X vs (e :: es) (gsCons t ts) :=
  PGs.imp (pgs_cons p p' hs) fun v σ H Q ⟨ρ, env, h, ds, env', R, E, r, q, k⟩ => by
    cases ds with
    | nil => cases q
    | cons d ds =>
      simp only [RDs] at r
      obtain ⟨v1, t1, e1, r1, r2⟩ := r
      simp only [gsCons] at q
      cases z : t d env with
      | none => rw [z] at q; cases q
      | some env1 =>
        rw [z] at q
        exact ⟨v1, t1, e1, ρ, env, h, d, env1, R, E, r1, z, fun σ1 E1 w1 => ⟨ρ, env1, h, ds, env', R, E1, r2, q, fun σ2 E2 w2 => k σ2 E2 (w2.trans w1)⟩⟩
theorem gw_tup {k : Nat} {n : Nat} (hc : X.calm = true) (p : DGsWx X vs es ts) (hn : (assignEach es X.env).length = n := by rfl) (hst : (assignEach es X.env).findIdx? (·.1) = none := by rfl) : DGWx X vs (.Tuple es k pos) (gdTup n ts) :=
  PG.imp (pg_tup hc p hn hst) fun v σ H Q ⟨ρ, env, h, d, env', R, E, r, q, k⟩ => by
    cases d with
    | tup ds =>
      simp only [RD] at r
      obtain ⟨a, vs, e1, s, r⟩ := r
      simp only [gdTup] at q
      by_cases z : ds.length = n
      · rw [if_pos z] at q
        exact ⟨a, vs, e1, s, by rw [r.length]; exact z, ρ, env, h, ds, env', R, E, r, q, k⟩
      · rw [if_neg z] at q; cases q
    | _ => cases q
end
def lcLoop (live : DH → Bool) (g : DG) (c : DT) (e : DE) (env0 : En) : List D → List D → DH → Res (List D)
  | [], acc, h => if live h then .ok acc h else .stuck
  | x :: xs, acc, h => if live h then (match g x env0 with
    | none => .stuck
    | some env1 => match c env1 h with
      | .ok true h1 => match e env1 h1 with
        | .ok d h2 => if small (acc.length + 1) then lcLoop live g c e env0 xs (acc ++ [d]) h2 else .stuck
        | _ => .stuck
      | .ok false h1 => lcLoop live g c e env0 xs acc h1
      | _ => .stuck) else .stuck
def qLc (it : DI) (g : DG) (c : DT) (e : DE) (vs : List Nat) : DA := fun env h => (it env h).bind fun p h1 => lcLoop p.2 g c e (wipeD env vs) p.1 [] h1
def cYes : DT := fun _ h => .ok true h
theorem lI.plug {g : Gm} {W : WB} {ρ : List Addr} {h : DH} {H : Hp} {env : En} {σ : L2.St} {β : Type} {k : β → DH → List Addr → Hp → Prop} (R : RH g ρ h H) (E : REn g W.xa ρ H env σ) {ta : DI} {f : (List D × (DH → Bool)) → DH → Res β} {Q' : It → Hp → Prop} (q : RR g (fun c d H' => W.wish c d σ H') ρ H ((ta env h).bind f) k)
    (hq : ∀ p h1 ρ1 H1 J, Ext ρ H ρ1 H1 → RH g ρ1 h1 H1 → REn g W.xa ρ1 H1 env σ → Serves g J ρ1 H1 p.1 p.2 → RR g (fun c d H' => W.wish c d σ H') ρ1 H1 (f p h1) k → Q' J H1) : lI g W ta σ H Q' :=
  ⟨ρ, env, h, R, E, (RR.bind q).imp fun d h1 ρ1 H1 x R1 z J s => hq d h1 ρ1 H1 J x R1 (E.mono x R) s z⟩
/-- a list that only we know, written at: outside ρ -/
theorem Ext.out {ρ : List Addr} {H : Hp} {a : Addr} {o : HO} {ρ' : List Addr} {H' : Hp} (x : Ext ρ (upd H a o) ρ' H') (n : a ∉ ρ) : a ∉ ρ' := fun z => by
  have := x.new a z n
  rw [upd_same] at this; cases this
section
variable {g : Gm} {ρ ρ' : List Addr} {h : DH} {H H' : Hp}
mutual
theorem RD.gen (s : ∀ a vs, SqT g.K H a vs → SqT g.K H' a vs) (l : ∀ a vs, RoL g.K H a vs → RoL g.K H' a vs) (p : ∀ (n : Nat) (a : Addr), ρ[n]? = some a → ρ'[n]? = some a) : ∀ {d : D} {v : V}, RD g ρ H d v → RD g ρ' H' d v
  | .non, _, r => by simpa [RD] using r
  | .bl _, _, r => by simpa [RD] using r
  | .int _, _, r => by simpa [RD] using r
  | .str _, _, r => by simpa [RD] using r
  | .tup ds, v, r => by
    simp only [RD] at r ⊢
    obtain ⟨a, vs, e, q1, q⟩ := r
    exact ⟨a, vs, e, s _ _ q1, RDs.gen s l p q⟩
  | .rol ds, v, r => by
    simp only [RD] at r ⊢
    obtain ⟨a, vs, e, q1, q⟩ := r
    exact ⟨a, vs, e, l _ _ q1, RDs.gen s l p q⟩
  | .ref n, v, r => by
    simp only [RD] at r ⊢
    obtain ⟨a, e, q1⟩ := r
    exact ⟨a, e, p _ _ q1⟩
theorem RDs.gen (s : ∀ a vs, SqT g.K H a vs → SqT g.K H' a vs) (l : ∀ a vs, RoL g.K H a vs → RoL g.K H' a vs) (p : ∀ (n : Nat) (a : Addr), ρ[n]? = some a → ρ'[n]? = some a) : ∀ {ds : List D} {vs : List V}, RDs g ρ H ds vs → RDs g ρ' H' ds vs
  | [], _, r => by simpa [RDs] using r
  | d :: ds, vs, r => by
    simp only [RDs] at r ⊢
    obtain ⟨v, t, e, q1, q2⟩ := r
    exact ⟨v, t, e, RD.gen s l p q1, RDs.gen s l p q2⟩
end
theorem RFs.gen (s : ∀ a vs, SqT g.K H a vs → SqT g.K H' a vs) (l : ∀ a vs, RoL g.K H a vs → RoL g.K H' a vs) (p : ∀ (n : Nat) (a : Addr), ρ[n]? = some a → ρ'[n]? = some a) : ∀ {ds : List (Str × D)} {vs : List (Str × V)}, RFs g ρ H ds vs → RFs g ρ' H' ds vs
  | [], _, r => by simpa [RFs] using r
  | (f, d) :: ds, vs, r => by
    simp only [RFs] at r ⊢
    obtain ⟨v, t, e, q1, q2⟩ := r
    exact ⟨v, t, e, q1.gen s l p, RFs.gen s l p q2⟩
theorem sqT_lst {K : PySem.W.Frag} {a : Addr} {us ws : List V} (e : H a = some (.lst us)) : ∀ b vs, SqT K H b vs → SqT K (upd H a (.lst ws)) b vs := fun b vs s => by
  rcases s with (s | ⟨o, s⟩) | s
  · exact .inl (.inl (by rw [upd_ne (ne_of s e (by intro z; cases z))]; exact s))
  · exact .inl (.inr ⟨o, by rw [upd_ne (ne_of s e (by intro z; cases z))]; exact s⟩)
  · exact .inr s
theorem roL_lst {K : PySem.W.Frag} {a : Addr} {us ws : List V} (e : H a = some (.lst us)) : ∀ b vs, RoL K H b vs → RoL K (upd H a (.lst ws)) b vs := fun b vs s => by
  rcases s with ⟨o, s⟩ | s
  · exact .inl ⟨o, by rw [upd_ne (ne_of s e (by intro z; cases z))]; exact s⟩
  · exact .inr s
theorem RD.lst {a : Addr} {us ws : List V} (e : H a = some (.lst us)) {d : D} {v : V} (r : RD g ρ H d v) : RD g ρ (upd H a (.lst ws)) d v := r.gen (sqT_lst e) (roL_lst e) fun _ _ q => q
theorem RDs.lst {a : Addr} {us ws : List V} (e : H a = some (.lst us)) {d : List D} {v : List V} (r : RDs g ρ H d v) : RDs g ρ (upd H a (.lst ws)) d v := r.gen (sqT_lst e) (roL_lst e) fun _ _ q => q
/-- a list outside is written at -/
theorem RH.lst (R : RH g ρ h H) {a : Addr} {us ws : List V} (e : H a = some (.lst us)) (n : a ∉ ρ) : RH g ρ h (upd H a (.lst ws)) :=
  ⟨R.len, R.nd, fun m ob b e1 e2 => by
    have q := R.ok m ob b e1 e2
    have nb : b ≠ a := fun z => by subst z; exact n (List.mem_of_getElem? e2)
    cases ob with
    | lst ds => obtain ⟨vs, e1, r⟩ := q; exact ⟨vs, by rw [upd_ne nb]; exact e1, r.lst e⟩
    | dct lk kvs => obtain ⟨ob, es, ep, e1, n, z, r, nd⟩ := q; exact ⟨ob, es, ep, by rw [upd_ne nb]; exact e1, n, z, Paired.mapP r fun _ _ ⟨k, kv, vv, a1, a2, a3, a4, a5, a6, a7⟩ => ⟨k, kv, vv, a1, a2, a3.lst e, a4, a5, a6.lst e, a7⟩, nd⟩
    | ins c fs => obtain ⟨C, dx, fvs, m, e1, r⟩ := q; exact ⟨C, dx, fvs, m, by rw [upd_ne nb]; exact e1, r.gen (sqT_lst e) (roL_lst e) fun _ _ q => q⟩
    | tbl p l =>
      obtain ⟨ps, e0, e1, t, cs⟩ := q
      refine ⟨ps, e0, by rw [upd_ne nb]; exact e1, t, fun pos cv hc => ?_⟩
      obtain ⟨c, ec, hc2, hn⟩ := cs pos cv hc
      exact ⟨c, ec, by rw [upd_ne (ne_of hc2 e (by intro z; unfold LamX.CodeO at z; cases z))]; exact hc2, hn⟩⟩
end
theorem q_lc_in {X : Cx} {W : WB} {it : DI} {gt : DG} {c : DT} {e : DE} {vs : List Nat} {σ : L2.St} {H : Hp} {Q : VK} (l : lQ (gm X) W (qLc it gt c e vs) σ H Q) : tLc (lI (gm X) W it) (lGW (gm X) vs gt) (lT (gm X) W0 c) (lE (gm X) W0 e) vs σ H Q := by
  obtain ⟨ρ, env, h, R, E, q⟩ := l
  refine lI.plug R E q fun p h1 ρ1 H1 J x1 R1 E1 S q1 Dd hD => ?_
  obtain ⟨items, live⟩ := p
  dsimp only at q1 S
  have nD : Dd ∉ ρ1 := R1.not hD
  refine ⟨fun i m H2 => ∃ ρ2 h2 acc us, Ext ρ1 H1 ρ2 H2 ∧ RH (gm X) ρ2 h2 H2 ∧ Dd ∉ ρ2 ∧ H2 Dd = some (.lst us) ∧ RDs (gm X) ρ2 H2 acc us ∧ i ≤ items.length ∧ m = items.length - i ∧
      RR (gm X) (fun c d H' => W.wish c d σ H') ρ1 H1 (lcLoop live gt c e (wipeD env vs) (items.drop i) acc h2) fun ds _ ρ' H' => ∀ a vs, H' a = some (.lst vs) → a ∉ ρ' → H a = none → RDs (gm X) ρ' H' ds vs → Q (.ref a) H',
    ⟨_, ρ1, h1, [], [], Ext.tup hD, R1.tup hD, nD, upd_same, RDs.nil, Nat.zero_le _, rfl, by simpa using q1⟩, ?_⟩
  rintro i m H2 ⟨ρ2, h2, acc, us, x2, R2, nD2, eD, rD, hi, rfl, q2⟩
  by_cases hl : i < items.length
  · rw [List.drop_eq_getElem_cons hl] at q2
    unfold lcLoop at q2
    by_cases lv : live h2 = true
    · rw [if_pos lv] at q2
      obtain ⟨s1, _⟩ := S i ρ2 h2 H2 x2 R2 lv
      obtain ⟨go, yl⟩ := s1 _ (List.getElem?_eq_getElem hl)
      refine .inr ⟨go, fun H' => ∃ ρ2 h2 acc us, Ext ρ1 H1 ρ2 H' ∧ RH (gm X) ρ2 h2 H' ∧ Dd ∉ ρ2 ∧ H' Dd = some (.lst us) ∧ RDs (gm X) ρ2 H' acc us ∧
        RR (gm X) (fun c d H' => W.wish c d σ H') ρ1 H1 (lcLoop live gt c e (wipeD env vs) (items.drop (i + 1)) acc h2) fun ds _ ρ' H' => ∀ a vs, H' a = some (.lst vs) → a ∉ ρ' → H a = none → RDs (gm X) ρ' H' ds vs → Q (.ref a) H',
        fun H' ⟨ρ3, h3, acc3, us3, x3, R3, n3, e3, r3, q3⟩ => ⟨_, by omega, ρ3, h3, acc3, us3, x3, R3, n3, e3, r3, by omega, rfl, q3⟩, fun v H' y => ?_⟩
      obtain ⟨xe, Re, re⟩ := yl v H' y
      have E2 : REn (gm X) none ρ2 H' (wipeD env vs) (L2.wipe σ vs) := (E1.mono (x2.trans xe) R1).wipe vs
      cases z : gt items[i] (wipeD env vs) with
      | none => simp only [z] at q2; exact q2.elim
      | some env3 =>
        simp only [z] at q2
        refine ⟨ρ2, wipeD env vs, h2, items[i], env3, Re, E2, re, z, fun σ3 E3 w3 => ⟨?_, ρ2, env3, h2, Re, E3, ?_⟩⟩
        · rw [w3]
          have : ∀ (l : List Nat) (τ : L2.St), L2.wipe (L2.wipe τ l) l = L2.wipe τ l := by
            intro l τ
            have sub : ∀ (l' l : List Nat) (τ : L2.St), (∀ x ∈ l', x ∈ l) → L2.wipe (L2.wipe τ l') l = L2.wipe τ l := by
              intro l'
              induction l' with
              | nil => intro l τ _; rfl
              | cons w ws ih =>
                intro l τ hs
                show L2.wipe ((L2.wipe τ ws).set w none) l = _
                rw [wipe_set _ w none l (hs w (by simp)), ih l τ fun x hx => hs x (by simp [hx])]
            exact sub l l τ fun _ h => h
          exact this vs σ
        cases z2 : c env3 h2 with
        | ok b h4 =>
          simp only [z2] at q2
          intro ρ4 H4 x4 R4
          have eD4 : H4 Dd = some (.lst us) := x4.frm Dd _ (xe.frm Dd _ eD nD2) nD2
          have nD4 : Dd ∉ ρ4 := fun hh => by
            have := x4.new Dd hh nD2
            rw [xe.frm Dd _ eD nD2] at this; cases this
          have rD4 := (rD.mono xe R2).mono x4 Re
          cases b with
          | false => exact iteF ⟨ρ4, h4, acc, us, (x2.trans xe).trans x4, R4, nD4, eD4, rD4, q2⟩
          | true =>
            refine iteT ?_
            refine ⟨ρ4, env3, h4, R4, E3.mono x4 Re, ?_⟩
            cases z3 : e env3 h4 with
            | ok d h5 =>
              simp only [z3] at q2
              intro ρ5 H5 x5 R5 v5 r5
              have eD5 : H5 Dd = some (.lst us) := x5.frm Dd _ eD4 nD4
              have nD5 : Dd ∉ ρ5 := fun hh => by
                have := x5.new Dd hh nD4
                rw [eD4] at this; cases this
              have rD5 := rD4.mono x5 R4
              by_cases sm : small (acc.length + 1) = true
              · rw [if_pos sm] at q2
                refine ⟨us, eD5, ?_, ρ5, h5, acc ++ [d], us ++ [v5], ?_, R5.lst eD5 nD5, nD5, upd_same, (rD5.lst eD5).append (RDs.cons (r5.lst eD5) RDs.nil), q2⟩
                · have := small_le sm
                  rw [rD5.length]; omega
                · have xx := ((x2.trans xe).trans x4).trans x5
                  exact ⟨xx.pre, xx.new, fun a o ea na => by rw [upd_ne (ne_of_none ea hD)]; exact xx.frm a o ea na, fun a _ _ ea => by rw [upd_ne (ne_of_none ea hD)]; exact xx.fz a _ _ ea⟩
              · rw [if_neg sm] at q2; exact q2.elim
            | exc x5 h5 => simp only [z3] at q2; exact q2.elim
            | stuck => simp only [z3] at q2; exact q2.elim
        | exc x4 h4 => simp only [z2] at q2; exact q2.elim
        | stuck => simp only [z2] at q2; exact q2.elim
    · rw [if_neg lv] at q2
      exact q2.elim
  · have hi' : i = items.length := by omega
    subst hi'
    rw [List.drop_length] at q2
    unfold lcLoop at q2
    by_cases lv : live h2 = true
    · rw [if_pos lv] at q2
      exact .inl ⟨(S _ ρ2 h2 H2 x2 R2 lv).2 rfl, q2 ρ2 H2 x2 R2 Dd us eD nD2 (x1.fresh R R1 hD) rD⟩
    · rw [if_neg lv] at q2
      exact q2.elim
section
variable {X : Cx} {W : WB} {elt tg iter : Expr} {ifs : List Expr} {scope : Scope} {own : List (Str × Nat)} {pos : Pos} {it : DI} {gt : DG} {c : DT} {e : DE}
abbrev BlkX (X : Cx) (scope : Scope) (s : Shared) (H : Hp) (C : Addr) (cl : List (Str × Addr)) (fp : List Addr) : Cx := X.blk s H scope (compEnvC scope cl C X.env) fp
theorem q_lc (hc : X.calm = true) (hN : X.N.Nodup) (pi : DIx X W tg iter it) (ok : BlkOk X.N X.env.scope scope own)
    (hg : ∀ (s : Shared) (H : Hp) (C : Addr) (cl : List (Str × Addr)) (fp : List Addr), DGWx (BlkX X scope s H C cl fp) (own.map (·.2)) tg gt)
    (ht : ∀ (s : Shared) (H : Hp) (C : Addr) (cl : List (Str × Addr)) (fp : List Addr), PTs (BlkX X scope s H C cl fp) ifs (lT (gm X) W0 c))
    (he : ∀ (s : Shared) (H : Hp) (C : Addr) (cl : List (Str × Addr)) (fp : List Addr), DEx (BlkX X scope s H C cl fp) W0 elt e) (hs : ∀ x, foldedSetIterable iter X.env x = pure x := by intro _; rfl) : DQx X W (.ListComp elt [⟨tg, iter, ifs, 0⟩] scope pos) (qLc it gt c e (own.map (·.2))) :=
  PE.imp (pe_lc hc hN pi ok hg ht he hs) fun _ _ _ l => q_lc_in l
theorem ts_yes {X : Cx} : PTs X [] (lT (gm X) W0 cYes) := ⟨fun pins s σ H Q I ⟨ρ, env, h, R, E, q⟩ => (pts_nil (X := X)).run pins s σ H Q I (q ρ H (Ext.refl _ _) R)⟩
theorem ts_one {X : Cx} {c : Expr} {t : DT} (p : DTx X W0 c t) : PTs X [c] (lT (gm X) W0 t) := pts_one p
end
end DL
/-! DLd: lists at hand, defs and their calls, objects, exceptions. -/
namespace DL
open PySem PySem.Spec PyProof.Rows L2

section
variable {X : Cx} {W : WB} {e : Expr} {t : DA} {te : DE}
theorem new_in {σ : L2.St} {H : Hp} {Q : VK} {g : Gm} (l : lE g W (dNew t) σ H Q) : lQ g W t σ H Q := by
  obtain ⟨ρ, env, h, R, E, q⟩ := l
  refine ⟨ρ, env, h, R, E, ?_⟩
  unfold dNew at q
  cases z : t env h with
  | ok ds h1 =>
    rw [z] at q
    intro ρ1 H1 x1 R1 a vs ea na fa r
    have R2 := R1.adopt ea na r
    refine q (ρ1 ++ [a]) H1 ⟨?_, ?_, x1.frm, x1.fz⟩ R2 _ ?_
    · obtain ⟨m, e1⟩ := x1.pre
      exact ⟨m ++ [a], by rw [e1, List.append_assoc]⟩
    · intro b hb hn
      rcases List.mem_append.mp hb with y | y
      · exact x1.new b y hn
      · have : b = a := by simpa using y
        rw [this]; exact fa
    · simp only [RD]
      exact ⟨a, rfl, by rw [← R1.len, List.getElem?_append_right (Nat.le_refl _)]; simp⟩
  | exc x h1 => rw [z] at q; exact q
  | stuck => rw [z] at q; exact q
theorem d_new (p : DQx X W e t) : DEx X W e (dNew t) := PE.imp p fun σ H Q l => new_in l
theorem v_q (p : DQx X W e t) : DVx X W e t := PE.imp p fun σ H Q ⟨ρ, env, h, R, E, q⟩ => ⟨ρ, env, h, R, E, q.imp fun ds h1 ρ1 H1 x1 R1 k a vs ea na fa r => k a vs (SqL.of ea) r⟩
def asList (h : DH) : D → Option (List D)
  | .rol ds => some ds
  | .ref n => match h[n]? with
    | some (.lst ds) => some ds
    | _ => none
  | _ => none
def dView (te : DE) : DA := fun env h => (te env h).bind fun d h1 => match asList h1 d with
  | some ds => .ok ds h1
  | none => .stuck
theorem asList_sq {g : Gm} {ρ : List Addr} {h : DH} {H : Hp} (R : RH g ρ h H) {d : D} {v : V} {ds : List D} (e : asList h d = some ds) (r : RD g ρ H d v) : ∃ a vs, v = .ref a ∧ SqL g.K H a vs ∧ RDs g ρ H ds vs := by
  cases d with
  | rol es =>
    simp only [asList, Option.some.injEq] at e
    subst e
    simp only [RD] at r
    obtain ⟨a, vs, e1, s, r⟩ := r
    exact ⟨a, vs, e1, s.sq, r⟩
  | ref n =>
    simp only [asList] at e
    split at e
    · simp only [Option.some.injEq] at e
      subst e
      simp only [RD] at r
      obtain ⟨a, e1, e2⟩ := r
      obtain ⟨vs, e3, r⟩ := R.ok _ _ a (by assumption) e2
      exact ⟨a, vs, e1, SqL.of e3, r⟩
    · cases e
  | _ => cases e
theorem v_e (p : DEx X W e te) : DVx X W e (dView te) := PE.imp p fun σ H Q ⟨ρ, env, h, R, E, q⟩ => lE.plug R E q fun d h1 ρ1 H1 v x1 R1 E1 r1 q1 => by
  cases z : asList h1 d with
  | none => simp only [z] at q1; exact q1.elim
  | some ds =>
    simp only [z] at q1
    obtain ⟨a, vs, e1, s, r⟩ := asList_sq R1 z r1
    subst e1
    exact q1 ρ1 H1 (Ext.refl _ _) R1 a vs s r
end

/-! ### defs -/
abbrev FD := List D → DH → Res D
def spD (g : Gm) (n : Nat) (F : FD) : Sp := fun vs H Q E => vs.length = n ∧ ∃ ρ ds h, RH g ρ h H ∧ RDs g ρ H ds vs ∧ RR g E ρ H (F ds h) fun d _ ρ' H' => ∀ v, RD g ρ' H' d v → Q v H'
/-- a body run on arguments: k more names -/
def runB (k : Nat) (b : DS) : FD := fun ds h => match b (ds.map some ++ List.replicate k Option.none) h with
  | .nx _ h' => .ok .non h'
  | .rt d h' => .ok d h'
  | .exc e _ h' => .exc e h'
  | _ => .stuck
theorem REn.start {g : Gm} {ρ : List Addr} {H : Hp} {ds : List D} {vs : List V} {N : List Str} {k : Nat} (r : RDs g ρ H ds vs) (hk : N.length - vs.length = k) : REn g Option.none ρ H (ds.map some ++ List.replicate k Option.none) (L2.start N vs) := by
  unfold L2.start
  rw [hk]
  refine ⟨by simp [r.length], fun i d e => ?_, fun x hx => by cases hx⟩
  by_cases hi : i < ds.length
  · rw [List.getElem?_append_left (by simpa using hi), List.getElem?_map] at e
    cases z : ds[i]? with
    | none => rw [z] at e; cases e
    | some d' =>
      rw [z] at e
      simp only [Option.map_some, Option.some.injEq] at e
      subst e
      obtain ⟨v, e1, r1⟩ := r.get z
      exact ⟨v, by rw [List.getElem?_append_left (by rw [List.length_map, r.length]; exact hi), List.getElem?_map, e1]; rfl, r1⟩
  · rw [List.getElem?_append_right (by simpa using Nat.le_of_not_lt hi)] at e
    have := List.mem_of_getElem? e
    rw [List.mem_replicate] at this
    cases this.2
/-- a def's body by functions, and its promise -/
theorem okD {P : Program} {w : World} {K : PySem.W.Frag} {mg : Str → Option Value} {base : Heap} {x qual : Str} {params : Arguments} {body : List Stmt} {scope : Scope} {dvs : List V} {kws : List (Str × V)} {f : Addr} {fd : FuncData} {N ps : List Str} {k m : Nat} {tb : DS}
    (F : FunD K x qual params body scope dvs kws f fd) (S : FnScope N ps scope) (hm : N.length - ps.length = m)
    (hb : ∀ (cdv : Value) (A : Around) (outer : List Env) (s : Shared) (H : Hp) (E : XK), Room k (A.deeper (envOfC qual scope s.heap.objs.size f cdv)) →
      L2.Takes (cxOf (L2.CX P w) P w K mg base N qual scope f cdv A outer s H E) (fun c d _ H' => E c d H') →
      PassesOwn (model P w) (A.deeper (envOfC qual scope s.heap.objs.size f cdv)) (envOfC qual scope s.heap.objs.size f cdv) (cxOf (L2.CX P w) P w K mg base N qual scope f cdv A outer s H E).xe → DSsx (cxOf (L2.CX P w) P w K mg base N qual scope f cdv A outer s H E) ⟨fun c d _ H' => E c d H', none⟩ body tb) :
    FnOk P w K mg base (L2.CX P w) (k + 1) f fd ps (spD ⟨P, w, K, mg⟩ ps.length (runB m tb)) := by
  refine F.ok S (fun vs H Q E h => h.1) (fun cdv A outer s H vs Q E hr h => ?_)
  obtain ⟨hl, ρ, ds, h0, R, r, q⟩ := h
  refine ⟨_, hb cdv A outer s H E hr (takes_of rfl rfl rfl rfl) (passes_of (X := cxOf (L2.CX P w) P w K mg base N qual scope f cdv A outer s H E) rfl), ρ, _, h0, R, REn.start (N := N) (k := m) r (by rw [hl]; exact hm), ?_⟩
  unfold runB at q
  cases z : tb (ds.map some ++ List.replicate m Option.none) h0 with
  | nx env h1 => rw [z] at q; exact fun ρ' H' σ' x1 R1 E1 => q ρ' H' x1 R1 _ (by simp [RD])
  | rt d h1 => rw [z] at q; exact fun ρ' H' v x1 R1 r1 => q ρ' H' x1 R1 v r1
  | bk env h1 => rw [z] at q; exact q.elim
  | ct env h1 => rw [z] at q; exact q.elim
  | exc e env h1 => rw [z] at q; exact fun ρ' H' σ' cls d x1 R1 E1 z1 => q ρ' H' cls d x1 R1 z1
  | stuck => rw [z] at q; exact q.elim

/-! ### calls -/
section
variable {X : Cx} {W : WB} {k n : Nat} {f C : Addr} {fd : FuncData} {ps ks : List Str} {Fd : FD} {dvs : List V} {ds0 : List Value} {dd : List D} {x m : Str} {p pos apos : Pos} {e o : Expr} {es : List Expr} {kws : List Keyword} {t tk' : DA} {te : DE}
theorem run_D {pins : List (Addr × Obj)} {σ : L2.St} {H : Hp} {s : Shared} {Q : VK} {us : List Value} {vs : List V} {args : Args} (F : FnOk X.prog X.w X.K X.mg X.base (L2.CX X.prog X.w) k f fd ps (spD (gm X) n Fd)) (hr : Room k X.A)
    (tk : L2.Takes X W.wish) (I : Inv X pins σ H s) (hb : BindsTo s fd args (ps.zip us)) (r : Vals vs us) (h : spD (gm X) n Fd vs H Q (fun c d H' => W.wish c d σ H')) :
    codeAny (model X.prog X.w) X.A (.call (.ref f) args) (fun r s' => match r with
      | .ok (.ret u) => EP X pins σ Q u s'
      | .ok _ => False
      | .error e => X.xe e s') s := by
  have run := F.run X.A X.stack s H args us vs Q (fun c d H' => W.wish c d σ H') hr I.env0 hb r h
  refine codeAny_mono run fun y s' z => ?_
  cases y with
  | error er => exact tk er s' (XE.of_call I (fun _ _ _ q => q) z)
  | ok fl =>
    cases fl with
    | ret u => exact I.after z
    | next => exact z
    | brk => exact z
    | cont => exact z
theorem run_fD {pins : List (Addr × Obj)} {σ : L2.St} {H : Hp} {s : Shared} {Q : VK} {us : List Value} {vs : List V} {kw : List (Str × Value)} {us2 : List Value} (F : FnOk X.prog X.w X.K X.mg X.base (L2.CX X.prog X.w) k f fd ps (spD (gm X) n Fd)) (hr : Room k X.A)
    (tk : L2.Takes X W.wish) (I : Inv X pins σ H s) (hb : BindsTo s fd ⟨us, kw⟩ (ps.zip us2)) (r : Vals vs us2) (h : spD (gm X) n Fd vs H Q (fun c d H' => W.wish c d σ H')) :
    wpAny (model X.prog X.w) X.A (call (.ref f) us kw) (EP X pins σ Q) X.xe s := by
  refine wpAny_call (codeAny_mono (run_D F hr tk I hb r h) fun y s' z => ?_)
  cases y with
  | error er => exact z
  | ok fl =>
    cases fl with
    | ret u => exact z
    | next => exact z.elim
    | brk => exact z.elim
    | cont => exact z.elim
end

/-! ### how arguments bind -/
/-- picked from some lists: (which list, which place) -/
@[simp] def pick {α : Type} (sel : List (Nat × Nat)) (srcs : List (List α)) : List α := sel.filterMap fun p => (srcs[p.1]?).bind fun l => l[p.2]?
theorem pick_vals (sel : List (Nat × Nat)) {as : List (List V)} {bs : List (List Value)} (h : Paired Vals as bs) : Vals (pick sel as) (pick sel bs) := by
  induction sel with
  | nil => exact .nil
  | cons p sel ih =>
    unfold pick at ih ⊢
    have one : ∀ {as : List (List V)} {bs : List (List Value)} (n : Nat), Paired Vals as bs → RelO ((as[n]?).bind fun l => l[p.2]?) ((bs[n]?).bind fun l => l[p.2]?) := by
      intro as bs n h
      induction h generalizing n with
      | nil => simp [RelO]
      | cons r t ih =>
        cases n with
        | zero =>
          simp only [List.getElem?_cons_zero, Option.bind_some]
          rename_i a b _ _
          cases z : a[p.2]? with
          | none => rw [Vals.none_of r z]; trivial
          | some v => obtain ⟨u, e, q⟩ := Vals.get r z; rw [e]; exact q
        | succ n => simpa using ih n
    have o := one p.1 h
    rw [List.filterMap_cons, List.filterMap_cons]
    cases z : (as[p.1]?).bind fun l => l[p.2]? with
    | none => rw [z] at o; rw [RelO.none_of o]; exact ih
    | some v => rw [z] at o; obtain ⟨u, e, q⟩ := RelO.some_of o; rw [e]; exact .cons q ih
theorem pick_rds {g : Gm} {ρ : List Addr} {H : Hp} (sel : List (Nat × Nat)) {as : List (List D)} {bs : List (List V)} (h : Paired (RDs g ρ H) as bs) : RDs g ρ H (pick sel as) (pick sel bs) := by
  induction sel with
  | nil => exact RDs.nil
  | cons p sel ih =>
    unfold pick at ih ⊢
    have one : ∀ {as : List (List D)} {bs : List (List V)} (n : Nat), Paired (RDs g ρ H) as bs → (((as[n]?).bind fun l => l[p.2]?) = Option.none ∧ ((bs[n]?).bind fun l => l[p.2]?) = Option.none) ∨ ∃ d v, ((as[n]?).bind fun l => l[p.2]?) = some d ∧ ((bs[n]?).bind fun l => l[p.2]?) = some v ∧ RD g ρ H d v := by
      intro as bs n h
      induction h generalizing n with
      | nil => simp
      | cons r t ih =>
        cases n with
        | zero =>
          simp only [List.getElem?_cons_zero, Option.bind_some]
          rename_i a b _ _
          cases z : a[p.2]? with
          | none =>
            refine .inl ⟨rfl, ?_⟩
            have h1 := List.getElem?_eq_none_iff.mp z
            exact List.getElem?_eq_none_iff.mpr (by rw [r.length]; exact h1)
          | some v => obtain ⟨u, e, q⟩ := r.get z; exact .inr ⟨v, u, rfl, e, q⟩
        | succ n => simpa using ih n
    rw [List.filterMap_cons, List.filterMap_cons]
    rcases one p.1 h with ⟨e1, e2⟩ | ⟨d, v, e1, e2, q⟩
    · rw [e1, e2]; exact ih
    · rw [e1, e2]; exact RDs.cons q ih
/-- n values by place and some by the names ks come to the parameters ps as gD tells -/
structure KB (g : Gm) (fd : FuncData) (ps : List Str) (n : Nat) (ks : List Str) (gD : List D → List D → List D) : Prop where
  ex : ∃ gw gv, KBn g.K fd ps n ks gw gv ∧ ∀ ρ H ds zs vs ws, RDs g ρ H ds vs → RDs g ρ H zs ws → RDs g ρ H (gD ds zs) (gv vs ws)
section
variable {g : Gm} {x qual : Str} {params : Arguments} {body : List Stmt} {scope : Scope} {dvs : List V} {kws : List (Str × V)} {f : Addr} {fd : FuncData} {ps : List Str}
/-- all are told, no positional default stands -/
theorem KB.all (F : FunD g.K x qual params body scope [] kws f fd) (n : Nat) (ks : List Str) (sel : List (Nat × Nat))
    (h : ∀ (kV doc pm : Value) (an : Option Addr) (cdv ct : Value) (us ws : List Value), us.length = n → ws.length = ks.length → bindArgs (PySem.W.fnOf x qual params body scope .none kV doc pm an cdv ct) ⟨us, ks.zip ws⟩ = pure (ps.zip (pick sel [us, ws]))) :
    KB g fd ps n ks (fun ds zs => pick sel [ds, zs]) := by
  obtain ⟨oc, od, dV, kV, doc, pm, an, cdv, ct, osl, rfl, lk, hcd, hD, hK⟩ := F.ex
  rcases hD with ⟨_, rfl⟩ | ⟨e, _⟩
  · refine ⟨fun us ws => pick sel [us, ws], fun vs zs => pick sel [vs, zs], ⟨fun s us ws X l1 l2 => BindsTo.of_eq (h kV doc pm an cdv ct us ws l1 l2), fun r1 r2 => pick_vals sel (.cons r1 (.cons r2 .nil))⟩, fun ρ H ds zs vs ws r1 r2 => pick_rds sel (.cons r1 (.cons r2 .nil))⟩
  · exact absurd rfl e
/-- some keyword-only ones (ms, told as md) lack -/
theorem KB.kwo (F : FunD g.K x qual params body scope [] kws f fd) (n : Nat) (ks : List Str) (ms : List (Str × V)) (md : List D) (sel : List (Nat × Nat)) (hk : kws ≠ []) (hms : ∀ q ∈ ms, q ∈ kws) (hmd : ∀ ρ H, RDs g ρ H md (ms.map (·.2)))
    (h : ∀ (Dk : Addr) (doc pm : Value) (an : Option Addr) (cdv ct : Value) (us mv ws : List Value), us.length = n → mv.length = ms.length → ws.length = ks.length →
      KwChain Dk ((ms.map (·.1)).zip mv) (bindArgs (PySem.W.fnOf x qual params body scope .none (.ref Dk) doc pm an cdv ct) ⟨us, ks.zip ws⟩) (ps.zip (pick sel [us, ws, mv]))) :
    KB g fd ps n ks (fun ds zs => pick sel [ds, zs, md]) := by
  obtain ⟨mv, kb⟩ := F.kbinds0 (ps := ps) n ks ms (fun us mv ws => pick sel [us, ws, mv]) hk hms (fun r1 r2 r3 => pick_vals sel (.cons r1 (.cons r3 (.cons r2 .nil)))) h
  exact ⟨_, _, kb, fun ρ H ds zs vs ws r1 r2 => pick_rds sel (.cons r1 (.cons r2 (.cons (hmd ρ H) .nil)))⟩
/-- positional defaults dvs (told as dd) stand, no keyword-only ones -/
theorem KB.dfl (F : FunD g.K x qual params body scope dvs kws f fd) (n : Nat) (ks : List Str) (dd : List D) (sel : List (Nat × Nat)) (hd : dvs ≠ []) (hdd : ∀ ρ H, RDs g ρ H dd dvs)
    (h : ∀ (T : Addr) (kV doc pm : Value) (an : Option Addr) (cdv ct : Value) (us its ws : List Value), us.length = n → its.length = dvs.length → ws.length = ks.length →
      ∃ k, bindArgs (PySem.W.fnOf x qual params body scope (.ref T) kV doc pm an cdv ct) ⟨us, ks.zip ws⟩ = seqItems? (.ref T) >>= k ∧ k (some its.toArray) = pure (ps.zip (pick sel [us, ws, its]))) :
    KB g fd ps n ks (fun ds zs => pick sel [ds, zs, dd]) := by
  obtain ⟨its, kb⟩ := F.kbindsD (ps := ps) n ks (fun us its ws => pick sel [us, ws, its]) hd (fun r1 r2 r3 => pick_vals sel (.cons r1 (.cons r3 (.cons r2 .nil)))) h
  exact ⟨_, _, kb, fun ρ H ds zs vs ws r1 r2 => pick_rds sel (.cons r1 (.cons r2 (.cons (hdd ρ H) .nil)))⟩
/-- both stand -/
theorem KB.both (F : FunD g.K x qual params body scope dvs kws f fd) (n : Nat) (ks : List Str) (ms : List (Str × V)) (dd md : List D) (sel : List (Nat × Nat)) (hd : dvs ≠ []) (hk : kws ≠ []) (hms : ∀ q ∈ ms, q ∈ kws) (hdd : ∀ ρ H, RDs g ρ H dd dvs) (hmd : ∀ ρ H, RDs g ρ H md (ms.map (·.2)))
    (h : ∀ (T Dk : Addr) (doc pm : Value) (an : Option Addr) (cdv ct : Value) (us its mv ws : List Value), us.length = n → its.length = dvs.length → mv.length = ms.length → ws.length = ks.length →
      ∃ k, bindArgs (PySem.W.fnOf x qual params body scope (.ref T) (.ref Dk) doc pm an cdv ct) ⟨us, ks.zip ws⟩ = seqItems? (.ref T) >>= k ∧ KwChain Dk ((ms.map (·.1)).zip mv) (k (some its.toArray)) (ps.zip (pick sel [us, ws, its, mv]))) :
    KB g fd ps n ks (fun ds zs => pick sel [ds, zs, dd, md]) := by
  obtain ⟨its, mv, kb⟩ := F.kbinds (ps := ps) n ks ms (fun us its mv ws => pick sel [us, ws, its, mv]) hd hk hms (fun r1 r2 r3 r4 => pick_vals sel (.cons r1 (.cons r4 (.cons r2 (.cons r3 .nil))))) h
  exact ⟨_, _, kb, fun ρ H ds zs vs ws r1 r2 => pick_rds sel (.cons r1 (.cons r2 (.cons (hdd ρ H) (.cons (hmd ρ H) .nil))))⟩
end

/-! ### calls of defs, methods, classes -/
abbrev DKx (X : Cx) (W : WB) (kws : List Keyword) (t : DA) : Prop := PK X kws (lA (gm X) W t)
theorem PK.imp {X : Cx} {e : List Keyword} {t t' : TA} (p : PK X e t) (i : ∀ σ H Q, t' σ H Q → t σ H Q) : PK X e t' := ⟨fun pos pins s σ H Q I h => p.run pos pins s σ H Q I (i _ _ _ h)⟩
section
variable {X : Cx} {W : WB} {k n l m' : Nat} {f C : Addr} {fd : FuncData} {ps ks : List Str} {Fd : FD} {gD : List D → List D → List D} {x m : Str} {p pos apos kpos : Pos} {e o : Expr} {es : List Expr} {kws : List Keyword} {t tk' : DA} {te : DE} {nm : Option Str}
theorem k_nil : DKx X W [] aNil := PK.imp pk_nil fun σ H Q ⟨ρ, env, h, R, E, q⟩ => q ρ H (Ext.refl _ _) R [] RDs.nil
theorem k_cons (p : DEx X W e te) (p' : DKx X W kws t) : DKx X W (⟨nm, e, kpos⟩ :: kws) (aCons te t) :=
  PK.imp (pk_cons p p') fun σ H Q ⟨ρ, env, h, R, E, q⟩ => lE.plug R E q fun d h1 ρ1 H1 v x1 R1 E1 r1 q1 => lA.plug R1 E1 q1 fun ds h2 ρ2 H2 vs x2 R2 E2 r2 q2 => q2 ρ2 H2 (Ext.refl _ _) R2 _ (RDs.cons (r1.mono x2 R1) r2)
def dCall (n m : Nat) (F : FD) (gD : List D → List D → List D) (t tk : DA) : DE := fun env h => (t env h).bind fun ds h1 => (tk env h1).bind fun zs h2 => if ds.length = n ∧ zs.length = m then F (gD ds zs) h2 else .stuck
/-- what lies behind the arguments of a call -/
def ArgsAt (X : Cx) (W : WB) (σ : L2.St) (Q : VK) (n m : Nat) (K : List D → List D → DH → Res D) (vs ws : List V) (H : Hp) : Prop := ∃ ρ ds zs h, RH (gm X) ρ h H ∧ RDs (gm X) ρ H ds vs ∧ RDs (gm X) ρ H zs ws ∧ ds.length = n ∧ zs.length = m ∧
  RR (gm X) (fun c d H' => W.wish c d σ H') ρ H (K ds zs h) fun d _ ρ' H' => ∀ v, RD (gm X) ρ' H' d v → Q v H'
theorem args_in {σ : L2.St} {H : Hp} {Q : VK} {K : List D → List D → DH → Res D} (l' : lE (gm X) W (fun env h => (t env h).bind fun ds h1 => (tk' env h1).bind fun zs h2 => if ds.length = n ∧ zs.length = l then K ds zs h2 else .stuck) σ H Q) :
    lA (gm X) W t σ H fun vs H1 => lA (gm X) W tk' σ H1 fun ws H2 => ArgsAt X W σ Q n l K vs ws H2 := by
  obtain ⟨ρ, env, h, R, E, q⟩ := l'
  refine lA.plug R E q fun ds h1 ρ1 H1 vs x1 R1 E1 r1 q1 => lA.plug R1 E1 q1 fun zs h2 ρ2 H2 ws x2 R2 E2 r2 q2 => ?_
  by_cases z : ds.length = n ∧ zs.length = l
  · rw [if_pos z] at q2
    exact ⟨ρ2, ds, zs, h2, R2, r1.mono x2 R1, r2, z.1, z.2, q2⟩
  · rw [if_neg z] at q2; exact q2.elim
theorem call_at {pins : List (Addr × Obj)} {σ : L2.St} {H : Hp} {s : Shared} {Q : VK} {us ws : List Value} {vs zs : List V} (F : FnOk X.prog X.w X.K X.mg X.base (L2.CX X.prog X.w) k f fd ps (spD (gm X) l Fd)) (hr : Room k X.A) (tk : L2.Takes X W.wish)
    (hb : KB (gm X) fd ps n ks gD) (hgd : ∀ ds zs, ds.length = n → zs.length = ks.length → (gD ds zs).length = l) (I : Inv X pins σ H s) (r : Vals vs us) (r' : Vals zs ws) (q : ArgsAt X W σ Q n ks.length (fun ds zs h => Fd (gD ds zs) h) vs zs H) :
    wpAny (model X.prog X.w) X.A (call (.ref f) us (ks.zip ws)) (EP X pins σ Q) X.xe s := by
  obtain ⟨ρ, ds, es, h, R, rd, re, l1, l2, q⟩ := q
  obtain ⟨gw, gv, kb, hrd⟩ := hb.ex
  have rr := hrd ρ H _ _ _ _ rd re
  refine run_fD F hr tk I (kb.to s us ws I.kIn (by rw [← r.length, rd.length, l1]) (by rw [← r'.length, re.length, l2])) (kb.rel r r') ⟨?_, ρ, _, h, R, rr, q⟩
  rw [rr.length]
  exact hgd ds es l1 l2
/-- f(e, .., k = v, ..) -/
theorem d_call (F : FnOk X.prog X.w X.K X.mg X.base (L2.CX X.prog X.w) k f fd ps (spD (gm X) l Fd)) (hr : Room k X.A) (tk : L2.Takes X W.wish) (hm : X.mg x = some (.ref f)) (hk : PySem.W.keepIn X.K (.ref f) = true) (hb : KB (gm X) fd ps n ks gD)
    (hgd : ∀ ds zs, ds.length = n → zs.length = ks.length → (gD ds zs).length = l) (ha : DAx X W (e :: es) t) (hkw : DKx X W kws tk') (hall : (backToKw pos (keywordEach kws X.env)).all (·.1.isSome) = true := by rfl) (hks : (backToKw pos (keywordEach kws X.env)).filterMap (·.1) = ks := by rfl)
    (hg : Gl X x := by rfl) (hdb : (x == ("__debug__" : Str)) = false := by decide) (he : starEach (e :: es) X.env = (false, eval e X.env) :: starEach es X.env := by rfl)
    (hpl : ((backTo pos (starEach (e :: es) X.env)).any (·.1) || (backToKw pos (keywordEach kws X.env)).any (·.1.isNone)) = false := by rfl) : DEx X W (.Call (.Name x p) (e :: es) kws pos) (dCall n ks.length Fd gD t tk') := by
  constructor
  intro pins s σ H Q I lq
  refine wpAny_Call_Name_kw (ld_glob (pos := p) I hg hm ?_ hdb)
  refine PySem.W.callWith_KW (first := []) (h₀ := X.base) I.mod.kin hk hall (thn (ha.run pos pins s σ H _ I (args_in (K := fun ds zs h => Fd (gD ds zs) h) lq)) fun us s1 ⟨vs, H1, I1, r1, q1⟩ => ?_) hpl he
  refine thn (hkw.run pos pins s1 σ H1 _ I1 q1) fun ws s2 ⟨zs, H2, I2, r2, q2⟩ => ⟨I2.kIn, ?_⟩
  rw [hks]
  exact call_at F hr tk hb hgd I2 r1 r2 q2
/-- f(), f(k = v, ..) -/
theorem d_call0 (F : FnOk X.prog X.w X.K X.mg X.base (L2.CX X.prog X.w) k f fd ps (spD (gm X) l Fd)) (hr : Room k X.A) (tk : L2.Takes X W.wish) (hm : X.mg x = some (.ref f)) (hk : PySem.W.keepIn X.K (.ref f) = true) (hb : KB (gm X) fd ps n ks gD)
    (hgd : ∀ ds zs, ds.length = n → zs.length = ks.length → (gD ds zs).length = l) (hkw : DKx X W kws tk') (hall : (backToKw pos (keywordEach kws X.env)).all (·.1.isSome) = true := by rfl) (hks : (backToKw pos (keywordEach kws X.env)).filterMap (·.1) = ks := by rfl)
    (hg : Gl X x := by rfl) (hdb : (x == ("__debug__" : Str)) = false := by decide)
    (hpl : ((backTo pos (starEach [] X.env)).any (·.1) || (backToKw pos (keywordEach kws X.env)).any (·.1.isNone)) = false := by rfl) : DEx X W (.Call (.Name x p) [] kws pos) (dCall n ks.length Fd gD aNil tk') := by
  constructor
  intro pins s σ H Q I lq
  refine wpAny_Call_Name_kw (ld_glob (pos := p) I hg hm ?_ hdb)
  refine PySem.W.callWith_KW0 (first := []) (h₀ := X.base) I.mod.kin hk hall ?_ hpl
  have q0 := args_in (K := fun ds zs h => Fd (gD ds zs) h) lq
  refine wpAny_mono ((a_nil (X := X) (W := W)).run pos pins s σ H _ I q0 |> fun z => ?_) (fun _ _ z => z) fun _ _ z => z
  have z' : wpAny (model X.prog X.w) X.A (spliced (backTo pos (starEach [] X.env))) (AP X pins σ fun vs H1 => lA (gm X) W tk' σ H1 fun ws H2 => ArgsAt X W σ Q n ks.length (fun ds zs h => Fd (gD ds zs) h) vs ws H2) X.xe s := z
  obtain ⟨ρ, env, h, R, E, q⟩ := q0
  have qn := q ρ H (Ext.refl _ _) R [] RDs.nil
  refine thn (hkw.run pos pins s σ H _ I qn) fun ws s2 ⟨zs, H2, I2, r2, q2⟩ => ⟨I2.kIn, ?_⟩
  rw [hks]
  exact call_at (us := []) F hr tk hb hgd I2 .nil r2 q2
end
end DL
/-! DLe: objects and their fields, methods, making; exceptions raised and caught. -/
namespace DL
open PySem PySem.Spec PyProof.Rows L2

section
variable {g : Gm} {ρ : List Addr} {h : DH} {H : Hp}
theorem RFs.lookup : ∀ {fs : List (Str × D)} {vs : List (Str × V)} (f : Str), RFs g ρ H fs vs → match fs.lookup f with
    | some d => ∃ v, vs.lookup f = some v ∧ RD g ρ H d v
    | none => vs.lookup f = none
  | [], _, f, r => by simp only [RFs] at r; subst r; rfl
  | (f', d) :: fs, vs, f, r => by
    simp only [RFs] at r
    obtain ⟨v, t, e, r1, r2⟩ := r
    subst e
    simp only [List.lookup]
    cases z : f == f' with
    | true => exact ⟨v, rfl, r1⟩
    | false => exact RFs.lookup f r2
def putD (f : Str) (d : D) : List (Str × D) → List (Str × D)
  | [] => [(f, d)]
  | (f', d') :: r => if f' = f then (f, d) :: r else (f', d') :: putD f d r
theorem RFs.put {d : D} {v : V} (r : RD g ρ H d v) (f : Str) : ∀ {fs : List (Str × D)} {vs : List (Str × V)}, RFs g ρ H fs vs → RFs g ρ H (putD f d fs) (putF f v vs)
  | [], vs, q => by
    simp only [RFs] at q; subst q
    show RFs g ρ H [(f, d)] [(f, v)]
    simp only [RFs]; exact ⟨v, [], rfl, r, rfl⟩
  | (f', d') :: fs, vs, q => by
    simp only [RFs] at q
    obtain ⟨v', t, e, r1, r2⟩ := q
    subst e
    unfold putD putF
    by_cases z : f' = f
    · subst z; rw [if_pos rfl, if_pos rfl]; simp only [RFs]; exact ⟨v, t, rfl, r, r2⟩
    · rw [if_neg z, if_neg z]; simp only [RFs]; exact ⟨v', _, rfl, r1, RFs.put r f r2⟩
theorem RFs.length : ∀ {fs : List (Str × D)} {vs : List (Str × V)}, RFs g ρ H fs vs → vs.length = fs.length
  | [], _, r => by simp only [RFs] at r; subst r; rfl
  | (f', d) :: fs, vs, r => by
    simp only [RFs] at r
    obtain ⟨v, t, e, r1, r2⟩ := r
    subst e
    simp [RFs.length r2]
end

/-- what a class's name stands for -/
structure ClsD (g : Gm) (c : Str) (C : Addr) : Prop where
  cl : Cls g.K C
  mg : g.mg c = some (.ref C)
section
variable {X : Cx} {W : WB} {e o : Expr} {es : List Expr} {pos pos' apos : Pos} {te tv : DE} {f c m : Str} {C : Addr}
/-- e.f of an object of the class c -/
def dFld (c f : Str) (te : DE) : DE := fun env h => (te env h).bind fun d h1 => match d with
  | .ref n => match h1[n]? with
    | some (.ins c' fs) => if c' = c then (match fs.lookup f with
      | some d' => .ok d' h1
      | none => .stuck) else .stuck
    | _ => .stuck
  | _ => .stuck
theorem d_fld (T : ClsD (gm X) c C) (nf : NoAttr X.K C f) (p : DEx X W e te) (hb : attributeBase e f X.env (eval e X.env) = eval e X.env := by rfl) : DEx X W (.Attribute e f pos) (dFld c f te) :=
  PE.imp (pe_fld p hb) fun σ H Q ⟨ρ, env, h, R, E, q⟩ => lE.plug R E q fun d h1 ρ1 H1 v x1 R1 E1 r1 q1 => by
    cases d with
    | ref n =>
      dsimp only at q1
      simp only [RD] at r1
      obtain ⟨a, e1, e2⟩ := r1
      split at q1
      · rename_i c' fs hz
        by_cases zc : c' = c
        · rw [if_pos zc] at q1
          obtain ⟨C', dx, fvs, m, e3, r⟩ := R1.ok _ _ a hz e2
          rw [zc] at m
          have m2 := T.mg
          rw [m] at m2
          cases m2
          have lk := RFs.lookup f r
          cases zf : fs.lookup f with
          | none => rw [zf] at q1; exact q1.elim
          | some d' =>
            rw [zf] at q1 lk
            obtain ⟨v', l, r'⟩ := lk
            exact ⟨a, C, dx, fvs, v', e1, e3, T.cl, nf, l, q1 ρ1 H1 (Ext.refl _ _) R1 v' r'⟩
        · rw [if_neg zc] at q1; exact q1.elim
      · exact q1.elim
    | _ => exact q1.elim
/-- e.f = v -/
def sFld' (c f : Str) (te tv : DE) : DS := fun env h => (tv env h).out env fun y h1 => (te env h1).out env fun d h2 => match d with
  | .ref n => match h2[n]? with
    | some (.ins c' fs) => if c' = c ∧ fs.length < 1000 then .nx env (h2.set n (.ins c (putD f y fs))) else .stuck
    | _ => .stuck
  | _ => .stuck
theorem sqT_upd {K : PySem.W.Frag} {H : Hp} {a : Addr} {o o' : HO} (e : H a = some o) (n1 : ∀ vs, o ≠ .tup vs) (n2 : ∀ ob u, o ≠ .frz ob u) : ∀ b vs, SqT K H b vs → SqT K (upd H a o') b vs := fun b vs s => by
  rcases s with (s | ⟨ob, s⟩) | s
  · exact .inl (.inl (by rw [upd_ne (ne_of s e (Ne.symm (n1 _)))]; exact s))
  · exact .inl (.inr ⟨ob, by rw [upd_ne (ne_of s e (Ne.symm (n2 _ _)))]; exact s⟩)
  · exact .inr s
theorem roL_upd {K : PySem.W.Frag} {H : Hp} {a : Addr} {o o' : HO} (e : H a = some o) (n2 : ∀ ob u, o ≠ .frz ob u) : ∀ b vs, RoL K H b vs → RoL K (upd H a o') b vs := fun b vs s => by
  rcases s with ⟨ob, s⟩ | s
  · exact .inl ⟨ob, by rw [upd_ne (ne_of s e (Ne.symm (n2 _ _)))]; exact s⟩
  · exact .inr s
theorem s_fld (T : ClsD (gm X) c C) (nf : NoAttr X.K C f) (p : DEx X W o te) (pv : DEx X W e tv) (hs : swapsWith e (some (.Attribute o f pos')) pos.line X.env = pure false := by rfl) : DSx X W (.Assign [.Attribute o f pos'] e pos) (sFld' c f te tv) :=
  PS.imp (ps_fld p pv hs) fun Dn σ H ⟨ρ, env, h, R, E, q⟩ => lE.plugS R E q fun y h1 ρ1 H1 v x1 R1 E1 r1 q1 => lE.plugS R1 E1 q1 fun d h2 ρ2 H2 u x2 R2 E2 r2 q2 => by
    cases d with
    | ref n =>
      dsimp only at q2
      simp only [RD] at r2
      obtain ⟨a, e1, e2⟩ := r2
      split at q2
      · rename_i c' fs hz
        by_cases zc : c' = c ∧ fs.length < 1000
        · rw [if_pos zc] at q2
          obtain ⟨zc, zl⟩ := zc
          obtain ⟨C', dx, fvs, m, e3, r⟩ := R2.ok _ _ a hz e2
          rw [zc] at m
          have m2 := T.mg
          rw [m] at m2
          cases m2
          refine ⟨a, C, dx, fvs, e1, e3, T.cl, nf, by rw [r.length]; exact zl, ?_⟩
          have st := sqT_upd (K := X.K) (o' := .ins C dx (putF f v fvs)) e3 (fun _ z => by cases z) (fun _ _ z => by cases z)
          have sr := roL_upd (K := X.K) (o' := .ins C dx (putF f v fvs)) e3 (fun _ _ z => by cases z)
          have x3 : Ext ρ2 H2 ρ2 (upd H2 a (.ins C dx (putF f v fvs))) := Ext.set e2 fun _ _ z => by rw [e3] at z; cases z
          exact q2 ρ2 _ σ x3 (R2.set e2 (fun _ _ z => by rw [e3] at z; cases z) ⟨C, dx, _, T.mg, upd_same, (RFs.put (r1.mono x2 R1) f r).gen st sr fun _ _ q => q⟩) (E2.mono x3 R2)
        · rw [if_neg zc] at q2; exact q2.elim
      · exact q2.elim
    | _ => exact q2.elim

variable {k n l : Nat} {fm : Addr} {fd : FuncData} {ps ks : List Str} {Fd : FD} {gD : List D → List D → List D} {kws : List Keyword} {t tk' : DA} {pl : Sem Bool}
/-- o.m(..) of an object of the class c -/
def dMeth (c : Str) (m : Str) (n l : Nat) (F : FD) (gD : List D → List D → List D) (te : DE) (t tk : DA) : DE := fun env h => (te env h).bind fun d h0 => match d with
  | .ref a => match h0[a]? with
    | some (.ins c' fs) => if c' = c ∧ fs.lookup m = none then ((t env h0).bind fun ds h1 => (tk env h1).bind fun zs h2 => if ds.length = n ∧ zs.length = l then F (gD (.ref a :: ds) zs) h2 else .stuck) else .stuck
    | _ => .stuck
  | _ => .stuck
theorem meth_in {σ : L2.St} {H : Hp} {Q : VK} (T : ClsD (gm X) c C) (lq : lE (gm X) W (dMeth c m n l Fd gD te t tk') σ H Q) : lE (gm X) W te σ H fun v H0 => ∃ a dx fs, v = .ref a ∧ H0 a = some (.ins C dx fs) ∧ fs.lookup m = none ∧
    lA (gm X) W t σ H0 fun vs H1 => lA (gm X) W tk' σ H1 fun ws H2 => ArgsAt X W σ Q (n + 1) l (fun ds zs h => Fd (gD ds zs) h) (.ref a :: vs) ws H2 := by
  obtain ⟨ρ, env, h, R, E, q⟩ := lq
  refine lE.plug R E q fun d h0 ρ0 H0 v x0 R0 E0 r0 q0 => ?_
  cases d with
  | ref a =>
    dsimp only at q0
    have r00 := r0
    simp only [RD] at r0
    obtain ⟨b, e1, e2⟩ := r0
    split at q0
    · rename_i c' fs hz
      by_cases zc : c' = c ∧ fs.lookup m = none
      · rw [if_pos zc] at q0
        obtain ⟨zc, zl⟩ := zc
        obtain ⟨C', dx, fvs, mm, e3, r⟩ := R0.ok _ _ b hz e2
        rw [zc] at mm
        have m2 := T.mg
        rw [mm] at m2
        cases m2
        have lk := RFs.lookup m r
        rw [zl] at lk
        refine ⟨b, dx, fvs, e1, e3, lk, ?_⟩
        refine lA.plug R0 E0 q0 fun ds h1 ρ1 H1 vs x1 R1 E1 r1 q1 => lA.plug R1 E1 q1 fun zs h2 ρ2 H2 ws x2 R2 E2 r2 q2 => ?_
        by_cases z : ds.length = n ∧ zs.length = l
        · rw [if_pos z] at q2
          subst e1
          exact ⟨ρ2, .ref a :: ds, zs, h2, R2, RDs.cons ((r00.mono x1 R0).mono x2 R1) (r1.mono x2 R1), r2, by simp [z.1], z.2, q2⟩
        · rw [if_neg z] at q2; exact q2.elim
      · rw [if_neg zc] at q0; exact q0.elim
    · exact q0.elim
  | _ => exact q0.elim
/-- o.m(e, .., k = v, ..) -/
theorem d_meth (T : ClsD (gm X) c C) (hm : Meth X.K C m fm) (F : FnOk X.prog X.w X.K X.mg X.base (L2.CX X.prog X.w) k fm fd ps (spD (gm X) l Fd)) (hr : Room k X.A) (tk : L2.Takes X W.wish) (hb : KB (gm X) fd ps (n + 1) ks gD)
    (hgd : ∀ ds zs, ds.length = n + 1 → zs.length = ks.length → (gD ds zs).length = l) (po : DEx X W o te) (ha : DAx X W (e :: es) t) (hkw : DKx X W kws tk') (hall : (backToKw pos (keywordEach kws X.env)).all (·.1.isSome) = true := by rfl) (hks : (backToKw pos (keywordEach kws X.env)).filterMap (·.1) = ks := by rfl)
    (he : starEach (e :: es) X.env = (false, eval e X.env) :: starEach es X.env := by rfl) (hpl : ((backTo pos (starEach (e :: es) X.env)).any (·.1) || (backToKw pos (keywordEach kws X.env)).any (·.1.isNone)) = false := by rfl)
    (ht : eval (.Call (.Attribute o m apos) (e :: es) kws pos) X.env = (do
      let ov ← eval o X.env
      standAt apos.atName
      let (f, first) ← holding [ov] (getMethod ov m pl)
      callWith pos f first (backTo pos (starEach (e :: es) X.env)) (backToKw pos (keywordEach kws X.env))) := by rfl) :
    DEx X W (.Call (.Attribute o m apos) (e :: es) kws pos) (dMeth c m n ks.length Fd gD te t tk') := by
  constructor
  intro pins s σ H Q I lq
  refine PySem.W.methodCall_KW (pl := pl) (thn (po.run pins s σ H _ I (meth_in T lq)) fun ov s0 ⟨v, H0, I0, r0, a, dx, fs, ev, ea, lk, q0⟩ => ?_) ht
  subst ev
  obtain rfl : ov = Value.ref a := r0
  refine getmeth_ok I0 ea T.cl hm lk ?_
  refine PySem.W.callWith_KW (first := [.ref a]) (h₀ := X.base) I0.mod.kin hm.kp hall (thn (ha.run pos pins s0 σ H0 _ I0 q0) fun us s1 ⟨vs, H1, I1, r1, q1⟩ => ?_) hpl he
  refine thn (hkw.run pos pins s1 σ H1 _ I1 q1) fun ws s2 ⟨zs, H2, I2, r2, q2⟩ => ⟨I2.kIn, ?_⟩
  rw [hks]
  exact call_at (us := .ref a :: us) (vs := .ref a :: vs) F hr tk hb hgd I2 (.cons rfl r1) r2 q2
/-- o.m(), o.m(k = v, ..) -/
theorem d_meth0 (T : ClsD (gm X) c C) (hm : Meth X.K C m fm) (F : FnOk X.prog X.w X.K X.mg X.base (L2.CX X.prog X.w) k fm fd ps (spD (gm X) l Fd)) (hr : Room k X.A) (tk : L2.Takes X W.wish) (hb : KB (gm X) fd ps (0 + 1) ks gD)
    (hgd : ∀ ds zs, ds.length = 0 + 1 → zs.length = ks.length → (gD ds zs).length = l) (po : DEx X W o te) (hkw : DKx X W kws tk') (hall : (backToKw pos (keywordEach kws X.env)).all (·.1.isSome) = true := by rfl) (hks : (backToKw pos (keywordEach kws X.env)).filterMap (·.1) = ks := by rfl)
    (hpl : ((backTo pos (starEach [] X.env)).any (·.1) || (backToKw pos (keywordEach kws X.env)).any (·.1.isNone)) = false := by rfl)
    (ht : eval (.Call (.Attribute o m apos) [] kws pos) X.env = (do
      let ov ← eval o X.env
      standAt apos.atName
      let (f, first) ← holding [ov] (getMethod ov m pl)
      callWith pos f first (backTo pos (starEach [] X.env)) (backToKw pos (keywordEach kws X.env))) := by rfl) :
    DEx X W (.Call (.Attribute o m apos) [] kws pos) (dMeth c m 0 ks.length Fd gD te aNil tk') := by
  constructor
  intro pins s σ H Q I lq
  refine PySem.W.methodCall_KW (pl := pl) (thn (po.run pins s σ H _ I (meth_in T lq)) fun ov s0 ⟨v, H0, I0, r0, a, dx, fs, ev, ea, lk, q0⟩ => ?_) ht
  subst ev
  obtain rfl : ov = Value.ref a := r0
  refine getmeth_ok I0 ea T.cl hm lk ?_
  refine PySem.W.callWith_KW0 (first := [.ref a]) (h₀ := X.base) I0.mod.kin hm.kp hall ?_ hpl
  obtain ⟨ρ, env, h, R, E, q⟩ := q0
  have qn := q ρ H0 (Ext.refl _ _) R [] RDs.nil
  refine thn (hkw.run pos pins s0 σ H0 _ I0 qn) fun ws s2 ⟨zs, H2, I2, r2, q2⟩ => ⟨I2.kIn, ?_⟩
  rw [hks]
  exact call_at (us := [.ref a]) (vs := [.ref a]) F hr tk hb hgd I2 (.cons rfl .nil) r2 q2

/-! ### making -/
def dMake (c : Str) (n l : Nat) (F : FD) (gD : List D → List D → List D) (t tk : DA) : DE := fun env h => (t env h).bind fun ds h1 => (tk env h1).bind fun zs h2 => if ds.length = n ∧ zs.length = l then (
    (F (gD (.ref h2.length :: ds) zs) (h2 ++ [.ins c []])).bind fun d h3 => match d with
    | .non => .ok (.ref h2.length) h3
    | _ => .stuck) else .stuck
theorem make_at {pins : List (Addr × Obj)} {σ : L2.St} {H : Hp} {s : Shared} {Q : VK} {us ws : List Value} {vs zs : List V} (T : ClsD (gm X) c C) (M : Mk X.K C fm) (F : FnOk X.prog X.w X.K X.mg X.base (L2.CX X.prog X.w) k fm fd ps (spD (gm X) l Fd)) (hr : Room (k + 1) X.A) (tk : L2.Takes X W.wish)
    (hb : KB (gm X) fd ps (n + 1) ks gD) (hgd : ∀ ds zs, ds.length = n + 1 → zs.length = ks.length → (gD ds zs).length = l) (I : Inv X pins σ H s) (r : Vals vs us) (r' : Vals zs ws)
    (q : ArgsAt X W σ Q n ks.length (fun ds zs h2 => (Fd (gD (.ref h2.length :: ds) zs) (h2 ++ [.ins c []])).bind fun d h3 => match d with
      | .non => .ok (.ref h2.length) h3
      | _ => .stuck) vs zs H) : wpAny (model X.prog X.w) X.A (call (.ref C) us (ks.zip ws)) (EP X pins σ Q) X.xe s := by
  obtain ⟨ρ, ds, es, h, R, rd, re, l1, l2, q⟩ := q
  obtain ⟨gw, gv, kb, hrd⟩ := hb.ex
  have f1 : H (s.heap.objs.size + 1) = none := I.hok.fresh (Nat.le_succ _)
  have f0 : H s.heap.objs.size = none := I.hok.fresh (Nat.le_refl _)
  have ne : s.heap.objs.size ≠ s.heap.objs.size + 1 := Nat.ne_of_lt (Nat.lt_succ_self _)
  have I2 := Inv.made (C := C) I
  have R1 : RH (gm X) ρ h (upd H s.heap.objs.size (.own (s.heap.objs.size + 1))) := R.tup f0
  have f2 : upd H s.heap.objs.size (.own (s.heap.objs.size + 1)) (s.heap.objs.size + 1) = none := by rw [upd_ne ne.symm]; exact f1
  have x1 : Ext ρ H ρ (upd H s.heap.objs.size (.own (s.heap.objs.size + 1))) := Ext.tup f0
  have x2 := Ext.new1 (o := .ins C s.heap.objs.size []) R1 f2
  have R2 := R1.new1 (o := .ins C s.heap.objs.size []) (od := .ins c []) f2 ⟨C, s.heap.objs.size, [], T.mg, upd_same, by simp [RFs]⟩
  have x12 := x1.trans x2
  have rself : RD (gm X) (ρ ++ [s.heap.objs.size + 1]) (upd (upd H s.heap.objs.size (.own (s.heap.objs.size + 1))) (s.heap.objs.size + 1) (.ins C s.heap.objs.size [])) (.ref h.length) (.ref (s.heap.objs.size + 1)) := by
    simp only [RD]
    exact ⟨_, rfl, by rw [← R.len, List.getElem?_append_right (Nat.le_refl _)]; simp⟩
  have rds2 := RDs.cons rself (rd.mono x12 R)
  have rr := hrd _ _ _ _ _ _ rds2 (re.mono x12 R)
  have vv : Vals (V.ref (s.heap.objs.size + 1) :: vs) (Value.ref (s.heap.objs.size + 1) :: us) := .cons rfl r
  have e1 : (Value.ref (s.heap.objs.size + 1) :: us).length = n + 1 := by rw [← vv.length, List.length_cons, rd.length, l1]
  have e2 : ws.length = ks.length := by rw [← r'.length, re.length, l2]
  have sp : spD (gm X) l Fd (gv (V.ref (s.heap.objs.size + 1) :: vs) zs) (upd (upd H s.heap.objs.size (.own (s.heap.objs.size + 1))) (s.heap.objs.size + 1) (.ins C s.heap.objs.size []))
      (fun v H3 => v = .non ∧ Q (.ref (s.heap.objs.size + 1)) H3) (fun c d H' => W.wish c d σ H') := by
    refine ⟨by rw [rr.length]; exact hgd _ _ (by simp [l1]) l2, _, _, _, R2, rr, ?_⟩
    have q' := (RR.bind (q.mono x12)).imp fun d h3 ρ3 H3 x3 R3 q3 => (show ∀ v, RD (gm X) ρ3 H3 d v → v = .non ∧ Q (.ref (s.heap.objs.size + 1)) H3 from fun v rv => by
      cases d with
      | non =>
        simp only [RD] at rv
        exact ⟨rv, q3 ρ3 H3 (Ext.refl _ _) R3 _ (rself.mono x3 R2)⟩
      | _ => exact q3.elim)
    exact q'
  refine wpAny_call (make_map (f := fm) I.kIn M.makes M.init (beq_iff_eq.mp M.fn) (codeAny_mono (F.run _ X.stack _ _ ⟨Value.ref (s.heap.objs.size + 1) :: us, ks.zip ws⟩ _ _ _ _ (hr.make C us (ks.zip ws))
    (I2.env0.make C us (ks.zip ws)) (kb.to _ _ ws I2.kIn e1 e2) (kb.rel vv r') sp) fun y s' z => ?_))
  cases y with
  | error er => exact tk er s' (XE.of_call I2 (fun _ _ _ q => q) z)
  | ok fl =>
    cases fl with
    | ret u =>
      obtain ⟨v, H', I3, rv, ev, q3⟩ := I2.after z
      subst ev
      exact ⟨rv, ⟨V.ref (s.heap.objs.size + 1), H', I3, rfl, q3⟩⟩
    | next => exact z.elim
    | brk => exact z.elim
    | cont => exact z.elim
variable {x : Str} {p : Pos}
/-- C(e, .., k = v, ..) -/
theorem d_make (T : ClsD (gm X) c C) (M : Mk X.K C fm) (F : FnOk X.prog X.w X.K X.mg X.base (L2.CX X.prog X.w) k fm fd ps (spD (gm X) l Fd)) (hr : Room (k + 1) X.A) (tk : L2.Takes X W.wish) (hb : KB (gm X) fd ps (n + 1) ks gD)
    (hgd : ∀ ds zs, ds.length = n + 1 → zs.length = ks.length → (gD ds zs).length = l) (ha : DAx X W (e :: es) t) (hkw : DKx X W kws tk') (hall : (backToKw pos (keywordEach kws X.env)).all (·.1.isSome) = true := by rfl) (hks : (backToKw pos (keywordEach kws X.env)).filterMap (·.1) = ks := by rfl)
    (hg : Gl X c := by rfl) (hdb : (c == ("__debug__" : Str)) = false := by decide) (he : starEach (e :: es) X.env = (false, eval e X.env) :: starEach es X.env := by rfl)
    (hpl : ((backTo pos (starEach (e :: es) X.env)).any (·.1) || (backToKw pos (keywordEach kws X.env)).any (·.1.isNone)) = false := by rfl) : DEx X W (.Call (.Name c p) (e :: es) kws pos) (dMake c n ks.length Fd gD t tk') := by
  constructor
  intro pins s σ H Q I lq
  refine wpAny_Call_Name_kw (ld_glob (pos := p) I hg T.mg ?_ hdb)
  refine PySem.W.callWith_KW (first := []) (h₀ := X.base) I.mod.kin M.kp hall (thn (ha.run pos pins s σ H _ I (args_in (K := fun ds zs h2 => (Fd (gD (.ref h2.length :: ds) zs) (h2 ++ [.ins c []])).bind fun d h3 => match d with
      | .non => .ok (.ref h2.length) h3
      | _ => .stuck) lq)) fun us s1 ⟨vs, H1, I1, r1, q1⟩ => ?_) hpl he
  refine thn (hkw.run pos pins s1 σ H1 _ I1 q1) fun ws s2 ⟨zs, H2, I2, r2, q2⟩ => ⟨I2.kIn, ?_⟩
  rw [hks]
  exact make_at T M F hr tk hb hgd I2 r1 r2 q2
/-- C(), C(k = v, ..) -/
theorem d_make0 (T : ClsD (gm X) c C) (M : Mk X.K C fm) (F : FnOk X.prog X.w X.K X.mg X.base (L2.CX X.prog X.w) k fm fd ps (spD (gm X) l Fd)) (hr : Room (k + 1) X.A) (tk : L2.Takes X W.wish) (hb : KB (gm X) fd ps (0 + 1) ks gD)
    (hgd : ∀ ds zs, ds.length = 0 + 1 → zs.length = ks.length → (gD ds zs).length = l) (hkw : DKx X W kws tk') (hall : (backToKw pos (keywordEach kws X.env)).all (·.1.isSome) = true := by rfl) (hks : (backToKw pos (keywordEach kws X.env)).filterMap (·.1) = ks := by rfl)
    (hg : Gl X c := by rfl) (hdb : (c == ("__debug__" : Str)) = false := by decide)
    (hpl : ((backTo pos (starEach [] X.env)).any (·.1) || (backToKw pos (keywordEach kws X.env)).any (·.1.isNone)) = false := by rfl) : DEx X W (.Call (.Name c p) [] kws pos) (dMake c 0 ks.length Fd gD aNil tk') := by
  constructor
  intro pins s σ H Q I lq
  refine wpAny_Call_Name_kw (ld_glob (pos := p) I hg T.mg ?_ hdb)
  refine PySem.W.callWith_KW0 (first := []) (h₀ := X.base) I.mod.kin M.kp hall ?_ hpl
  obtain ⟨ρ, env, h, R, E, q⟩ := args_in (t := aNil) (K := fun ds zs h2 => (Fd (gD (.ref h2.length :: ds) zs) (h2 ++ [.ins c []])).bind fun d h3 => match d with
      | .non => .ok (.ref h2.length) h3
      | _ => .stuck) lq
  have qn := q ρ H (Ext.refl _ _) R [] RDs.nil
  refine thn (hkw.run pos pins s σ H _ I qn) fun ws s2 ⟨zs, H2, I2, r2, q2⟩ => ⟨I2.kIn, ?_⟩
  rw [hks]
  exact make_at (us := []) T M F hr tk hb hgd I2 .nil r2 q2
end
end DL
/-! DLf: exceptions of the program's own: made, raised, caught. -/
namespace DL
open PySem PySem.Spec PyProof.Rows L2

/-- what __init__ of an exception with one field does -/
def spInit (C : Addr) (fld : Str) : Sp := fun vs H Q _ => ∃ a v, vs = [.ref a, v] ∧ H a = some (exo a C none) ∧ ∀ dx, H dx = none → dx ≠ a → Q .non (upd (upd H dx (exd dx [(fld, v)])) a (exo a C (some dx)))
theorem okInit {P : Program} {w : World} {K : PySem.W.Frag} {mg : Str → Option Value} {base : Heap} {qual fld txt : Str} {params : Arguments} {body : List Stmt} {scope : Scope} {dvs : List V} {kws : List (Str × V)} {f C : Addr} {fd : FuncData} {j : Nat} {pl : Addr → Value → Sem Bool} {p1 p2 p3 p4 p5 p6 p7 p8 p9 p10 : Pos}
    (F : FunD K "__init__" qual params body scope dvs kws f fd) (S : FnScope ["self", fld] ["self", fld] scope)
    (eb : body = [.Expr (.Call (.Attribute (.Name "ValueError" p1) "__init__" p2) [.Name "self" p3, .Constant (.str txt) j p4] [] p5) p6, .Assign [.Attribute (.Name "self" p7) fld p8] (.Name fld p9) p10])
    (h0 : scope.names.lookup ("self" : Str) = some .local) (h1 : scope.names.lookup fld = some .local) (hV : scope.names.lookup ("ValueError" : Str) = some .globalImplicit) (d1 : (fld == ("__debug__" : Str)) = false) (d2 : (fld == ("__classdict__" : Str)) = false)
    (hcall : ∀ (L : Addr) (cdv : Value), eval (.Call (.Attribute (.Name "ValueError" p1) "__init__" p2) [.Name "self" p3, .Constant (.str txt) j p4] [] p5) (envOfC qual scope L f cdv) = (do
      let ov ← eval (.Name "ValueError" p1) (envOfC qual scope L f cdv)
      standAt p2.atName
      let (f', first) ← holding [ov] (getMethod ov "__init__" (pl L cdv))
      callWith p5 f' first (backTo p5 (starEach [.Name "self" p3, .Constant (.str txt) j p4] (envOfC qual scope L f cdv))) (backToKw p5 (keywordEach [] (envOfC qual scope L f cdv)))) := by intros; rfl)
    (hm : mg "ValueError" = none) (vV : PySem.W.findCls K (.type "ValueError") (.type "type") "__init__" = some (.val (.builtin "ValueError.__init__"))) (T : OexC K C) (nf : PySem.W.findIn K (.ref C) fld = some none) :
    FnOk P w K mg base (L2.CX P w) (0 + 1) f fd ["self", fld] (spInit C fld) := by
  subst eb
  refine F.ok S (fun vs H Q E h => ?_) (fun cdv A outer s H vs Q E hr h => ?_)
  · obtain ⟨a, v, e, _⟩ := h; rw [e]; rfl
  · obtain ⟨a, v, e, ea, k⟩ := h
    subst e
    refine ⟨_, pss_cons (ps_expr (pe_veinit (X := cxOf (L2.CX P w) P w K mg base ["self", fld] qual scope f cdv A outer s H E) (pl := pl _ _) hV hm vV (pa_cons (pe_var (i := 0) rfl (.inl h0)) (pa_cons pe_str pa_nil)) (hcall _ _)))
      (pss_one (ps_ost (pe_var (i := 0) rfl (.inl h0)) (pe_var (i := 1) rfl (.inl h1) d1 d2))), ?_⟩
    refine ⟨_, rfl, a, C, [_], rfl, (by show 1 ≤ 1000; decide), T, ea, v, rfl, .ref a, rfl, a, C, rfl, T, nf, .inl ⟨ea, fun dx n1 n2 => ?_⟩⟩
    exact k dx n1 n2

section
variable {X : Cx} {W : WB} {e : Expr} {pos p : Pos} {te : DE} {c fld : Str} {C fI : Addr} {k : Nat} {fd : FuncData}
/-- raise C(e) -/
def sRaise (c fld : Str) (te : DE) : DS := fun env h => (te env h).out env fun d h1 => .exc ⟨c, [(fld, d)]⟩ env h1
theorem s_raise (hc : X.calm = true) (tk : L2.Takes X W.wish) (T : OexC X.K C) (iC : PySem.W.findIn X.K (.ref C) "__init__" = some (some (.ref fI))) (tI : PySem.W.typeIn X.K (.ref fI) = some (.type "function"))
    (F : FnOk X.prog X.w X.K X.mg X.base (L2.CX X.prog X.w) k fI fd ["self", fld] (spInit C fld)) (hr : Room (k + 1) X.A) (hb : Binds X.K fd ["self", fld] []) (hm : X.mg c = some (.ref C)) (pe : DEx X W e te)
    (hg : Gl X c := by rfl) (hdb : (c == ("__debug__" : Str)) = false := by decide) (he : starEach (e :: []) X.env = (false, eval e X.env) :: starEach [] X.env := by rfl) (hpl : (backTo pos (starEach [] X.env)).any (·.1) = false := by rfl) {rpos : Pos} :
    DSx X W (.Raise (some (.Call (.Name c p) [e] [] pos)) none rpos) (sRaise c fld te) := by
  have pm := pmk_oex (p := p) (pos := pos) (ta := lA (gm X) W (aCons te aNil)) (dvs := []) T iC tI F hr hb .nil (fun pins σ H s er s' I z => (passL (X := X)) pins σ H s er s' I z) hg hm (a_cons pe a_nil he) hdb he hpl
  refine PS.imp (ps_raise hc tk pm) fun Dn σ H ⟨ρ, env, h, R, E, q⟩ => ?_
  refine ⟨ρ, env, h, R, E, ?_⟩
  unfold sRaise at q
  have q := RO.res R E q
  show RR _ _ ρ H ((te env h).bind fun d h1 => ((Res.ok [] h1 : Res (List D)).bind fun ds h2 => Res.ok (d :: ds) h2)) _
  cases z : te env h with
  | exc x h1 => rw [z] at q; exact q
  | stuck => rw [z] at q; exact q
  | ok d h1 =>
    rw [z] at q
    intro ρ1 H1 x1 R1 vs rv
    have q1 := q ρ1 H1 x1 R1
    simp only [RDs] at rv
    obtain ⟨v, t, e1, rd, e2⟩ := rv
    subst e2; subst e1
    refine ⟨(by show 1 ≤ 1000; decide), fun a na => ⟨a, v, rfl, upd_same, fun dx n1 n2 => ⟨rfl, dx, [(fld, v)], upd_same, ?_, ?_, ?_⟩⟩⟩
    · rw [upd_ne n2, upd_same]
    · rw [upd_ne n2] at n1; exact n1
    · have n1' : H1 dx = none := by rw [upd_ne n2] at n1; exact n1
      have eH : upd (del (upd (upd (upd H1 a (exo a C none)) dx (exd dx [(fld, v)])) a (exo a C (some dx))) a) dx (.xd [(fld, v)]) = upd H1 dx (.xd [(fld, v)]) := by
        funext b
        by_cases b1 : b = dx
        · subst b1; rw [upd_same, upd_same]
        · rw [upd_ne b1, upd_ne b1]
          by_cases b2 : b = a
          · subst b2; rw [del_same, na]
          · rw [del_ne b2, upd_ne b2, upd_ne b1, upd_ne b2]
      rw [eH]
      have xe : Ext ρ1 H1 ρ1 (upd H1 dx (.xd [(fld, v)])) := Ext.tup n1'
      refine q1 ρ1 _ σ _ _ xe (R1.tup n1') ((E.mono x1 R).mono xe R1) ⟨C, hm, rfl, .inr ⟨dx, _, rfl, upd_same, ?_⟩⟩
      simp only [RFs]
      exact ⟨v, [], rfl, rd.mono xe R1, rfl⟩

/-! ### try -/
/-- the heap's data as an exception sees them -/
def lX (g : Gm) (i : Nat) (a : Addr) (cls : Value) (d : Option Addr) (t : Exn → DS) : TS := fun Dn σ H => ∃ ρ env h e, RH g ρ h H ∧ REn g (some ⟨i, a, cls, d, e⟩) ρ H env σ ∧ RO g ⟨fun _ _ _ _ => False, some ⟨i, a, cls, d, e⟩⟩ ρ H (t e env h) Dn
theorem x_in {Y : Cx} {g : Gm} {i : Nat} {a : Addr} {cls : Value} {d : Option Addr} {st : List Stmt} {t : Exn → DS} (hs : ∀ e, PSs Y st (lS g ⟨fun _ _ _ _ => False, some ⟨i, a, cls, d, e⟩⟩ (t e))) : PSs Y st (lX g i a cls d t) :=
  ⟨fun pins s σ H Dn I ⟨ρ, env, h, e, R, E, q⟩ => (hs e).run pins s σ H Dn I ⟨ρ, env, h, R, E, q⟩⟩
def clr (i : Nat) : Out → Out
  | .nx env h => .nx (env.set i none) h
  | .bk env h => .bk (env.set i none) h
  | .ct env h => .ct (env.set i none) h
  | .rt d h => .rt d h
  | _ => .stuck
/-- try: body / except c as name: suite. known: the classes whose exceptions may come -/
def sTry (known : List Str) (c : Str) (i : Nat) (b : DS) (suite : Exn → DS) : DS := fun env h => match b env h with
  | .exc e env1 h1 => if (known.contains e.cls && decide (i < env1.length)) = true then (if e.cls = c then clr i (suite e (env1.set i none) h1) else .exc e env1 h1) else .stuck
  | o => o
/-- which class's clause takes which exceptions -/
def Exm (g : Gm) (known : List Str) (c : Str) (Cv : Value) : Prop := ∀ c1 C1, c1 ∈ known → g.mg c1 = some (.ref C1) → PySem.W.exmOne g.K (.ref C1) Cv = some (decide (c1 = c))
abbrev SuiteX (X : Cx) (a : Addr) (oe : Obj) (pn : List (Addr × Obj)) : Cx := X.suite a ((a, oe) :: pn)
theorem s_try {known : List Str} {i : Nat} {n : Str} {Cv : Value} {body suite : List Stmt} {b₀ : Stmt} {np pos' : Pos} {tb : DS} {ts : Exn → DS} (hs : X.stack = X.env :: X.outer) (hf : X.env.frame = some X.env.locals) (hN : X.N.Nodup) (hi : X.N[i]? = some n) (hln : X.env.kindOf n = some .local)
    (hc : Names X c Cv) (tk : L2.Takes X W.wish) (hw : W.xa = none) (hx : Exm (gm X) known c Cv)
    (hb : ∀ (W' : WX) (pn : List (Addr × Obj)) (xe : Value → Shared → Prop), L2.Takes (X.tr pn xe) W' → PassesOwn (model X.prog X.w) X.A X.env xe → DSsx (X.tr pn xe) ⟨W', none⟩ body tb)
    (hsu : ∀ (a : Addr) (oe : Obj) (cls : Value) (d : Option Addr) (pn : List (Addr × Obj)) (e : Exn), Zc cls d oe → (∃ vs, oe.data = .fields vs) → PSs (SuiteX X a oe pn) (b₀ :: suite) (lS (gm X) ⟨fun _ _ _ _ => False, some ⟨i, a, cls, d, e⟩⟩ (ts e))) :
    DSx X W (.Try body [.ExceptHandler (some (.Name c np)) (some n) (b₀ :: suite) pos'] [] [] pos) (sTry known c i tb ts) :=
  PS.imp (ps_try_as (tb := fun W' => lS (gm X) ⟨W', none⟩ tb) (ts := fun a cls d => lX (gm X) i a cls d ts) hs hf hN hi hln hc tk (fun W' pn xe t po => hb W' pn xe t po) fun a oe cls d pn z1 z2 => x_in fun e => hsu a oe cls d pn e z1 z2) fun Dn σ H ⟨ρ, env, h, R, E, q⟩ => by
    rw [hw] at E
    refine ⟨ρ, env, h, R, E, ?_⟩
    unfold sTry at q
    cases z : tb env h with
    | nx env' h' => rw [z] at q; exact fun ρ' H' σ' x R' E' => q ρ' H' σ' x R' (by rw [hw]; exact E')
    | rt d h' => rw [z] at q; exact q
    | bk env' h' => rw [z] at q; exact fun ρ' H' σ' x R' E' => q ρ' H' σ' x R' (by rw [hw]; exact E')
    | ct env' h' => rw [z] at q; exact fun ρ' H' σ' x R' E' => q ρ' H' σ' x R' (by rw [hw]; exact E')
    | stuck => rw [z] at q; exact q
    | exc e env1 h1 =>
      rw [z] at q
      intro ρ1 H1 σ1 cls d x1 R1 E1 xr
      obtain ⟨C1, m1, ec, xr'⟩ := id xr
      dsimp only at q
      by_cases zk : (known.contains e.cls && decide (i < env1.length)) = true
      · rw [if_pos zk] at q
        obtain ⟨zk1, zk2⟩ := Bool.and_eq_true_iff.mp zk
        have ex := hx e.cls C1 (by simpa using zk1) m1
        subst ec
        refine ⟨_, ex, fun hd a na => ?_, fun hd => ?_⟩
        · have ec := of_decide_eq_true hd
          rw [if_pos ec] at q
          have E2 : REn (gm X) (some ⟨i, a, .ref C1, d, e⟩) ρ1 H1 (env1.set i none) (σ1.set i (some (.ref a))) := by
            have E0 := E1.none i (some (.ref a))
            refine ⟨E0.len, E0.at_, fun y hy => ?_⟩
            have : (⟨i, a, .ref C1, d, e⟩ : XA) = y := Option.some.inj hy
            subst this
            refine ⟨?_, xr⟩
            have hl : i < σ1.length := by
              rw [← E1.len]
              exact of_decide_eq_true zk2
            exact List.getElem?_set_self hl
          refine ⟨ρ1, env1.set i none, h1, e, R1, E2, ?_⟩
          have q := RO.mono q x1
          cases z2 : ts e (env1.set i none) h1 with
          | nx env' h' => rw [z2] at q; exact fun ρ' H' σ' x R' E' => q ρ' H' _ x R' (by rw [hw]; exact E'.none i none)
          | bk env' h' => rw [z2] at q; exact fun ρ' H' σ' x R' E' => q ρ' H' _ x R' (by rw [hw]; exact E'.none i none)
          | ct env' h' => rw [z2] at q; exact fun ρ' H' σ' x R' E' => q ρ' H' _ x R' (by rw [hw]; exact E'.none i none)
          | rt d' h' => rw [z2] at q; exact fun ρ' H' v x R' r' => q ρ' H' v x R' r'
          | exc e' env' h' => rw [z2] at q; exact q.elim
          | stuck => rw [z2] at q; exact q.elim
        · have ec := of_decide_eq_false hd
          rw [if_neg ec] at q
          exact q ρ1 H1 σ1 _ _ x1 R1 (by rw [hw]; exact E1) xr
      · rw [if_neg zk] at q; exact q.elim
end
end DL
/-! DLg: operators on data: arithmetic, order, equality, membership; subscripts, slices, joining of lists and tuples. -/
namespace DL
open PySem PySem.Spec PyProof.Rows L2

/-! ### arithmetic -/
section
variable {g : Gm}
/-- two whole numbers -/
def oI (C : Int → Int → Bool) (k : Int → Int → D) : D → D → DH → Res D := fun x y h => match x, y with
  | .int i, .int j => if C i j then .ok (k i j) h else .stuck
  | _, _ => .stuck
theorem opd_I {C : Int → Int → Prop} {C' : Int → Int → Bool} {k : Int → Int → V} {k' : Int → Int → D} (hC : ∀ i j, C' i j = true → C i j) (hk : ∀ i j ρ H, RD g ρ H (k' i j) (k i j)) : OpD g (rI C k) (oI C' k') := fun W ρ h H x y v u Q R rx ry q => by
  cases x <;> cases y <;> try exact q.elim
  rename_i i j
  simp only [RD] at rx ry
  dsimp only [oI] at q
  by_cases z : C' i j = true
  · rw [if_pos z] at q
    exact ⟨i, j, rx, ry, hC i j z, q ρ H (Ext.refl _ _) R _ (hk i j ρ H)⟩
  · rw [if_neg z] at q; exact q.elim
def oI0 (k : Int → Int → D) : D → D → DH → Res D := fun x y h => match x, y with
  | .int i, .int j => .ok (k i j) h
  | _, _ => .stuck
theorem opd_I0 {k : Int → Int → V} {k' : Int → Int → D} (hk : ∀ i j ρ H, RD g ρ H (k' i j) (k i j)) : OpD g (rI0 k) (oI0 k') := fun W ρ h H x y v u Q R rx ry q => by
  cases x <;> cases y <;> try exact q.elim
  rename_i i j
  simp only [RD] at rx ry
  exact ⟨i, j, rx, ry, q ρ H (Ext.refl _ _) R _ (hk i j ρ H)⟩
end
abbrev oSub := oI0 fun i j => .int (i - j)
abbrev oLt := oI0 fun i j => .bl (decide (i < j))
abbrev oLe := oI0 fun i j => .bl (decide (i ≤ j))
abbrev oGt := oI0 fun i j => .bl (decide (j < i))
abbrev oGe := oI0 fun i j => .bl (decide (j ≤ i))
/-- a divisor above 0, of fewer than 9000 bits -/
def okDiv (_ j : Int) : Bool := decide (0 < j ∧ j.natAbs.log2 < 9000)
def okMul (i j : Int) : Bool := decide (i.natAbs.log2 + j.natAbs.log2 < 1000000)
def okPow (i j : Int) : Bool := decide (0 ≤ j ∧ j ≤ 1000000 ∧ i.natAbs < 2 ^ 64)
def okMod (_ j : Int) : Bool := decide (0 < j)
abbrev oFdiv := oI okDiv fun i j => .int (i / j)
abbrev oMod := oI okMod fun i j => .int (i % j)
abbrev oMul := oI okMul fun i j => .int (i * j)
abbrev oPow := oI okPow fun i j => .int (i ^ j.toNat)
section
variable {X : Cx} {W : WB} {a b : Expr} {ta tb : DE} {pos : Pos}
theorem d_sub (p : DEx X W a ta) (q : DEx X W b tb) : DEx X W (.BinOp a .Sub b pos) (dOp oSub ta tb) := d_bin op_sub (opd_I0 fun _ _ _ _ => by simp [RD]) p q
theorem d_fdiv (p : DEx X W a ta) (q : DEx X W b tb) : DEx X W (.BinOp a .FloorDiv b pos) (dOp oFdiv ta tb) := d_bin op_fdivW (opd_I (fun i j h => by simpa [okDiv, okMul, okPow, okMod, CDivW, CMulW, CPow] using h) fun _ _ _ _ => by simp [RD]) p q
theorem d_mod (p : DEx X W a ta) (q : DEx X W b tb) : DEx X W (.BinOp a .Mod b pos) (dOp oMod ta tb) := d_bin op_mod (opd_I (fun i j h => by simpa [okDiv, okMul, okPow, okMod, CDivW, CMulW, CPow] using h) fun _ _ _ _ => by simp [RD]) p q
theorem d_mul (p : DEx X W a ta) (q : DEx X W b tb) : DEx X W (.BinOp a .Mult b pos) (dOp oMul ta tb) := d_bin op_mulW (opd_I (fun i j h => by simpa [okDiv, okMul, okPow, okMod, CDivW, CMulW, CPow] using h) fun _ _ _ _ => by simp [RD]) p q
theorem d_pow (p : DEx X W a ta) (q : DEx X W b tb) : DEx X W (.BinOp a .Pow b pos) (dOp oPow ta tb) := d_bin op_pow (opd_I (fun i j h => by simpa [okDiv, okMul, okPow, okMod, CDivW, CMulW, CPow] using h) fun _ _ _ _ => by simp [RD]) p q
theorem o_lt : OpD (gm X) (rI0 fun i j => .bl (decide (i < j))) oLt := opd_I0 fun _ _ _ _ => by simp [RD]
theorem o_le : OpD (gm X) (rI0 fun i j => .bl (decide (i ≤ j))) oLe := opd_I0 fun _ _ _ _ => by simp [RD]
theorem o_gt : OpD (gm X) (rI0 fun i j => .bl (decide (j < i))) oGt := opd_I0 fun _ _ _ _ => by simp [RD]
theorem o_ge : OpD (gm X) (rI0 fun i j => .bl (decide (j ≤ i))) oGe := opd_I0 fun _ _ _ _ => by simp [RD]
/-- a + b: numbers, texts, tuples -/
def oAdd : D → D → DH → Res D := fun x y h => match x, y with
  | .int i, .int j => .ok (.int (i + j)) h
  | .str s, .str t => if small (s.length + t.length) then .ok (.str (s ++ t)) h else .stuck
  | .tup s, .tup t => if small (s.length + t.length) then .ok (.tup (s ++ t)) h else .stuck
  | _, _ => .stuck
theorem d_add (p : DEx X W a ta) (q : DEx X W b tb) : DEx X W (.BinOp a .Add b pos) (dOp oAdd ta tb) := d_bin (op_add.or (op_add_str.or op_catA)) (fun W ρ h H x y v u Q R rx ry q => by
  cases x <;> cases y <;> try exact q.elim
  · rename_i i j
    simp only [RD] at rx ry
    exact .inl ⟨i, j, rx, ry, q ρ H (Ext.refl _ _) R _ (by simp [RD])⟩
  · rename_i i j
    simp only [RD] at rx ry
    dsimp only [oAdd] at q
    by_cases z : small (i.length + j.length) = true
    · rw [if_pos z] at q
      exact .inr (.inl ⟨i, j, rx, ry, small_le z, q ρ H (Ext.refl _ _) R _ (by simp [RD])⟩)
    · rw [if_neg z] at q; exact q.elim
  · rename_i ds es
    simp only [RD] at rx ry
    obtain ⟨a, vs, e1, s1, r1⟩ := rx
    obtain ⟨b, ws, e2, s2, r2⟩ := ry
    dsimp only [oAdd] at q
    by_cases z : small (ds.length + es.length) = true
    · rw [if_pos z] at q
      have l1 := r1.length
      have l2 := r2.length
      refine .inr (.inr ⟨a, b, vs, ws, e1, e2, s1, s2, by rw [l1, l2]; exact small_le z, fun e => ?_, fun n e => ?_, fun n1 n2 p hp => ?_⟩)
      · subst e
        refine q ρ H (Ext.refl _ _) R _ ?_
        simp only [RD]
        exact ⟨b, ws, rfl, s2, r1.append r2⟩
      · subst e
        refine q ρ H (Ext.refl _ _) R _ ?_
        simp only [RD]
        exact ⟨a, vs, rfl, s1, by have := r1.append r2; rwa [List.append_nil] at this⟩
      · refine q ρ _ (Ext.tup hp) (R.tup hp) _ ?_
        simp only [RD]
        exact ⟨p, _, rfl, SqT.of upd_same, (r1.append r2).mono (Ext.tup hp) R⟩
    · rw [if_neg z] at q; exact q.elim) p q
/-- -a -/
def dNeg (t : DE) : DE := fun env h => (t env h).bind fun d h1 => match d with
  | .int i => .ok (.int (-i)) h1
  | _ => .stuck
theorem d_neg (p : DEx X W a ta) : DEx X W (.UnaryOp .USub a pos) (dNeg ta) := PE.imp (pe_un un_neg p) fun σ H Q ⟨ρ, env, h, R, E, q⟩ => lE.plug R E q fun d h1 ρ1 H1 v x1 R1 E1 r1 q1 => by
  cases d with
  | int i => simp only [RD] at r1; exact ⟨i, r1, q1 ρ1 H1 (Ext.refl _ _) R1 _ (by simp [RD])⟩
  | _ => exact q1.elim
end

/-! ### equality -/
def mapO {α β : Type} (f : α → Option β) : List α → Option (List β)
  | [] => some []
  | d :: ds => (f d).bind fun a => (mapO f ds).map fun b => a :: b
/-- as plain data; n levels deep -/
def toPy (h : DH) : Nat → D → Option PyData
  | 0, _ => none
  | n + 1, d => match d with
    | .non => some .none
    | .bl b => some (.bool b)
    | .int i => some (.int i)
    | .str x => if PyData.canLay0 (.str x) then some (.str x) else none
    | .tup ds => (mapO (toPy h n) ds).map .tuple
    | .rol ds => (mapO (toPy h n) ds).map .list
    | .ref k => match h[k]? with
      | some (.lst ds) => (mapO (toPy h n) ds).map .list
      | _ => none
/-- something as an operand: a value, or a list that is at hand -/
inductive DM where
  | v (d : D)
  | l (ds : List D)
def toPyM (h : DH) : DM → Option PyData
  | .v d => toPy h 12 d
  | .l ds => (mapO (toPy h 11) ds).map .list
theorem mapO_ok {g : Gm} {ρ : List Addr} {H : Hp} {n : Nat} {f : D → Option PyData} (hf : ∀ d v p, f d = some p → RD g ρ H d v → Dp g.K H v p ∧ p.canLay0 = true ∧ p.depth ≤ n) : ∀ {ds : List D} {vs : List V} {ps : List PyData}, mapO f ds = some ps → RDs g ρ H ds vs → DpAll g.K H vs ps ∧ PyData.canLayAll0 ps = true ∧ PyData.depthAll ps ≤ n
  | [], vs, ps, e, r => by
    simp only [mapO, Option.some.injEq] at e
    simp only [RDs] at r
    subst e; subst r
    exact ⟨.nil, rfl, Nat.zero_le _⟩
  | d :: ds, vs, ps, e, r => by
    simp only [RDs] at r
    obtain ⟨v, t, e1, r1, r2⟩ := r
    subst e1
    simp only [mapO] at e
    obtain ⟨a, ea, e⟩ := Option.bind_eq_some_iff.mp e
    obtain ⟨b, eb, e⟩ := Option.map_eq_some_iff.mp e
    subst e
    obtain ⟨h1, h2, h3⟩ := hf d v a ea r1
    obtain ⟨k1, k2, k3⟩ := mapO_ok hf eb r2
    refine ⟨.cons h1 k1, ?_, ?_⟩
    · show (PyData.canLay0 a && PyData.canLayAll0 b) = true
      rw [h2, k2]; rfl
    · show max (PyData.depth a) (PyData.depthAll b) ≤ n
      omega
theorem toPy_ok {g : Gm} {ρ : List Addr} {h : DH} {H : Hp} (R : RH g ρ h H) : ∀ (n : Nat) (d : D) (v : V) (p : PyData), toPy h n d = some p → RD g ρ H d v → Dp g.K H v p ∧ p.canLay0 = true ∧ p.depth ≤ n
  | 0, _, _, _, e, _ => by simp [toPy] at e
  | n + 1, d, v, p, e, r => by
    unfold toPy at e
    cases d with
    | non => simp only [Option.some.injEq] at e; simp only [RD] at r; subst e; subst r; exact ⟨.non, rfl, Nat.zero_le _⟩
    | bl b => simp only [Option.some.injEq] at e; simp only [RD] at r; subst e; subst r; exact ⟨.bl b, rfl, Nat.zero_le _⟩
    | int i => simp only [Option.some.injEq] at e; simp only [RD] at r; subst e; subst r; exact ⟨.int i, rfl, Nat.zero_le _⟩
    | str x =>
      simp only [RD] at r
      subst r
      dsimp only at e
      by_cases z : PyData.canLay0 (.str x) = true
      · rw [if_pos z] at e; cases e; exact ⟨.str x, z, Nat.zero_le _⟩
      · rw [if_neg z] at e; cases e
    | tup ds =>
      simp only [RD] at r
      obtain ⟨a, vs, e1, s, r⟩ := r
      subst e1
      obtain ⟨ps, e2, e3⟩ := Option.map_eq_some_iff.mp e
      subst e3
      obtain ⟨h1, h2, h3⟩ := mapO_ok (fun d v p => toPy_ok R n d v p) e2 r
      exact ⟨.tup s h1, h2, by show PyData.depthAll ps + 1 ≤ n + 1; omega⟩
    | rol ds =>
      simp only [RD] at r
      obtain ⟨a, vs, e1, s, r⟩ := r
      subst e1
      obtain ⟨ps, e2, e3⟩ := Option.map_eq_some_iff.mp e
      subst e3
      obtain ⟨h1, h2, h3⟩ := mapO_ok (fun d v p => toPy_ok R n d v p) e2 r
      exact ⟨.lst s.sq h1, h2, by show PyData.depthAll ps + 1 ≤ n + 1; omega⟩
    | ref k =>
      simp only [RD] at r
      obtain ⟨a, e1, e2⟩ := r
      subst e1
      dsimp only at e
      split at e
      · rename_i ds hz
        obtain ⟨vs, e3, r⟩ := R.ok _ _ a hz e2
        obtain ⟨ps, e4, e5⟩ := Option.map_eq_some_iff.mp e
        subst e5
        obtain ⟨h1, h2, h3⟩ := mapO_ok (fun d v p => toPy_ok R n d v p) e4 r
        exact ⟨.lst (SqL.of e3) h1, h2, by show PyData.depthAll ps + 1 ≤ n + 1; omega⟩
      · cases e
/-- operands in a row -/
abbrev DO := En → DH → Res DM
def RM (g : Gm) (ρ : List Addr) (H : Hp) : DM → V → Prop
  | .v d, v => RD g ρ H d v
  | .l ds, v => ∃ a vs, v = .ref a ∧ H a = some (.lst vs) ∧ a ∉ ρ ∧ RDs g ρ H ds vs
theorem RM.mono {g : Gm} {ρ ρ' : List Addr} {h : DH} {H H' : Hp} (x : Ext ρ H ρ' H') (R : RH g ρ h H) {m : DM} {v : V} (r : RM g ρ H m v) : RM g ρ' H' m v := by
  cases m with
  | v d => exact RD.mono x R r
  | l ds =>
    obtain ⟨a, vs, e, ea, na, r⟩ := r
    exact ⟨a, vs, e, x.frm a _ ea na, fun z => (by have q := x.new a z na; rw [ea] at q; cases q), r.mono x R⟩
theorem toPyM_ok {g : Gm} {ρ : List Addr} {h : DH} {H : Hp} (R : RH g ρ h H) {m : DM} {v : V} {p : PyData} (e : toPyM h m = some p) (r : RM g ρ H m v) : Dp g.K H v p ∧ SeqAt.shaped p = true := by
  have fin : ∀ {q : PyData}, q.canLay0 = true → q.depth ≤ 12 → SeqAt.shaped q = true := fun h1 h2 => by
    unfold SeqAt.shaped
    rw [h1, decide_eq_true (by omega)]; rfl
  cases m with
  | v d =>
    obtain ⟨h1, h2, h3⟩ := toPy_ok R 12 d v p e r
    exact ⟨h1, fin h2 h3⟩
  | l ds =>
    obtain ⟨a, vs, e1, ea, na, r⟩ := r
    subst e1
    obtain ⟨ps, e4, e5⟩ := Option.map_eq_some_iff.mp e
    subst e5
    obtain ⟨h1, h2, h3⟩ := mapO_ok (fun d v p => toPy_ok R 11 d v p) e4 r
    exact ⟨.lst (SqL.of ea) h1, fin h2 (by show PyData.depthAll ps + 1 ≤ 12; omega)⟩
def lM (g : Gm) (W : WB) (t : DO) : TE := fun σ H Q => ∃ ρ env h, RH g ρ h H ∧ REn g W.xa ρ H env σ ∧ RR g (fun c d H' => W.wish c d σ H') ρ H (t env h) fun m _ ρ' H' => ∀ v, RM g ρ' H' m v → Q v H'
abbrev DMx (X : Cx) (W : WB) (e : Expr) (t : DO) : Prop := PE X e (lM (gm X) W t)
theorem lM.plug {g : Gm} {W : WB} {ρ : List Addr} {h : DH} {H : Hp} {env : En} {σ : L2.St} {β : Type} {k : β → DH → List Addr → Hp → Prop} (R : RH g ρ h H) (E : REn g W.xa ρ H env σ) {ta : DO} {f : DM → DH → Res β} {Q' : VK} (q : RR g (fun c d H' => W.wish c d σ H') ρ H ((ta env h).bind f) k)
    (hq : ∀ m h1 ρ1 H1 v, Ext ρ H ρ1 H1 → RH g ρ1 h1 H1 → REn g W.xa ρ1 H1 env σ → RM g ρ1 H1 m v → RR g (fun c d H' => W.wish c d σ H') ρ1 H1 (f m h1) k → Q' v H1) : lM g W ta σ H Q' :=
  ⟨ρ, env, h, R, E, (RR.bind q).imp fun d h1 ρ1 H1 x R1 z v r => hq d h1 ρ1 H1 v x R1 (E.mono x R) r z⟩
def mV (t : DE) : DO := fun env h => (t env h).bind fun d h1 => .ok (.v d) h1
def mL (t : DA) : DO := fun env h => (t env h).bind fun ds h1 => .ok (.l ds) h1
section
variable {X : Cx} {W : WB} {e a b : Expr} {te : DE} {t : DA} {ta tb : DO} {pos : Pos}
theorem m_v (p : DEx X W e te) : DMx X W e (mV te) := PE.imp p fun σ H Q ⟨ρ, env, h, R, E, q⟩ => lE.plug R E q fun d h1 ρ1 H1 v x1 R1 E1 r1 q1 => q1 ρ1 H1 (Ext.refl _ _) R1 v r1
theorem m_l (p : DQx X W e t) : DMx X W e (mL t) := PE.imp p fun σ H Q ⟨ρ, env, h, R, E, q⟩ => ⟨ρ, env, h, R, E, (RR.bind q).imp fun ds h1 ρ1 H1 x1 R1 z a vs ea na fa r => z ρ1 H1 (Ext.refl _ _) R1 _ ⟨a, vs, rfl, ea, na, r⟩⟩
def dOpM (f : DM → DM → DH → Res D) (ta tb : DO) : DE := fun env h => (ta env h).bind fun x h1 => (tb env h1).bind fun y h2 => f x y h2
def OpDM (g : Gm) (r : R2) (f : DM → DM → DH → Res D) : Prop := ∀ (W : XK) (ρ : List Addr) (h : DH) (H : Hp) (x y : DM) (v u : V) (Q : VK), RH g ρ h H → RM g ρ H x v → RM g ρ H y u →
  RR g W ρ H (f x y h) (fun d _ ρ' H' => ∀ v, RD g ρ' H' d v → Q v H') → r v u H Q
theorem lift_opM {r : R2} {f : DM → DM → DH → Res D} (o : OpDM (gm X) r f) (σ : L2.St) (H : Hp) (Q : VK) (l : lE (gm X) W (dOpM f ta tb) σ H Q) : tOp r (lM (gm X) W ta) (lM (gm X) W tb) σ H Q := by
  obtain ⟨ρ, env, h, R, E, q⟩ := l
  exact lM.plug R E q fun x h1 ρ1 H1 v x1 R1 E1 r1 q1 => lM.plug R1 E1 q1 fun y h2 ρ2 H2 u x2 R2 E2 r2 q2 => o _ ρ2 h2 H2 x y v u Q R2 (r1.mono x2 R1) r2 q2
theorem d_cmpM {op : CmpOp} {r : R2} {f : DM → DM → DH → Res D} (ho : OpR X (compareOp op) r) (o : OpDM (gm X) r f) (ha : DMx X W a ta) (hb : DMx X W b tb) (hm : behindInMarks op b = false := by first | exact nomark _ | rfl) : DEx X W (.Compare a [op] [b] pos) (dOpM f ta tb) :=
  PE.imp (pe_cmpR ho ha hb hm) (lift_opM o)
theorem d_testM {op : CmpOp} {r : R2} {f : DM → DM → DH → Res D} (ho : OpR X (compareOp op) r) (o : OpDM (gm X) r f) (ha : DMx X W a ta) (hb : DMx X W b tb) (hm : behindInMarks op b = false := by first | exact nomark _ | rfl) : DTx X W (.Compare a [op] [b] pos) (dB (dOpM f ta tb)) :=
  PT.imp (pt_cmpR ho ha hb hm) fun σ H Q ⟨ρ, env, h, R, E, q⟩ => by
    show tOp r _ _ σ H _
    refine lift_opM o σ H _ ⟨ρ, env, h, R, E, (RR.bind q).imp fun d h1 ρ1 H1 x1 R1 q1 v r1 => ?_⟩
    cases d with
    | bl b =>
      simp only [RD] at r1
      exact ⟨b, r1, q1 ρ1 H1 (Ext.refl _ _) R1⟩
    | _ => exact q1.elim
def eqM (k : Bool → Bool) : DM → DM → DH → Res D := fun x y h => match toPyM h x, toPyM h y with
  | some a, some b => .ok (.bl (k (PyData.eqv a b))) h
  | _, _ => .stuck
theorem o_eqM : OpDM (gm X) (rEqD X.K) (eqM id) := fun W ρ h H x y v u Q R rx ry q => by
  unfold eqM at q
  split at q
  · rename_i a b ea eb
    obtain ⟨d1, s1⟩ := toPyM_ok R ea rx
    obtain ⟨d2, s2⟩ := toPyM_ok R eb ry
    exact ⟨a, b, d1, d2, s1, s2, q ρ H (Ext.refl _ _) R _ (by simp [RD])⟩
  · exact q.elim
theorem o_neM : OpDM (gm X) (rNeD X.K) (eqM not) := fun W ρ h H x y v u Q R rx ry q => by
  unfold eqM at q
  split at q
  · rename_i a b ea eb
    obtain ⟨d1, s1⟩ := toPyM_ok R ea rx
    obtain ⟨d2, s2⟩ := toPyM_ok R eb ry
    exact ⟨a, b, d1, d2, s1, s2, q ρ H (Ext.refl _ _) R _ (by simp [RD])⟩
  · exact q.elim
variable (hu : X.A.units + 64 < cLine)
theorem d_eq (hu : X.A.units + 64 < cLine) (ha : DMx X W a ta) (hb : DMx X W b tb) : DEx X W (.Compare a [.Eq] [b] pos) (dOpM (eqM id) ta tb) := d_cmpM (op_eqD hu) o_eqM ha hb
theorem d_ne (hu : X.A.units + 64 < cLine) (ha : DMx X W a ta) (hb : DMx X W b tb) : DEx X W (.Compare a [.NotEq] [b] pos) (dOpM (eqM not) ta tb) := d_cmpM (op_neD hu) o_neM ha hb
theorem t_eq (hu : X.A.units + 64 < cLine) (ha : DMx X W a ta) (hb : DMx X W b tb) : DTx X W (.Compare a [.Eq] [b] pos) (dB (dOpM (eqM id) ta tb)) := d_testM (op_eqD hu) o_eqM ha hb
theorem t_ne (hu : X.A.units + 64 < cLine) (ha : DMx X W a ta) (hb : DMx X W b tb) : DTx X W (.Compare a [.NotEq] [b] pos) (dB (dOpM (eqM not) ta tb)) := d_testM (op_neD hu) o_neM ha hb
/-- is None -/
def D.isNon : D → Bool
  | .non => true
  | _ => false
def isN (k : Bool → Bool) (t : DE) : DE := fun env h => (t env h).bind fun d h1 => .ok (.bl (k d.isNon)) h1
theorem RD.non_iff {g : Gm} {ρ : List Addr} {H : Hp} {d : D} {v : V} (r : RD g ρ H d v) : decide (v = .non) = d.isNon := by
  cases d <;> simp only [RD] at r <;> try (subst r; rfl)
  all_goals
    obtain ⟨a, r⟩ := r
    first
      | (obtain ⟨_, e, _⟩ := r; subst e; rfl)
      | (obtain ⟨e, _⟩ := r; subst e; rfl)
theorem d_isN {j pos'} (p : DEx X W e te) : DEx X W (.Compare e [.Is] [.Constant .none j pos'] pos) (isN id te) := PE.imp (pe_cmp (pc_isN p) (nomark _)) fun σ H Q ⟨ρ, env, h, R, E, q⟩ => lE.plug R E q fun d h1 ρ1 H1 v x1 R1 E1 r1 q1 => by
  rw [r1.non_iff]
  exact q1 ρ1 H1 (Ext.refl _ _) R1 _ (by simp [RD])
theorem d_notN {j pos'} (p : DEx X W e te) : DEx X W (.Compare e [.IsNot] [.Constant .none j pos'] pos) (isN not te) := PE.imp (pe_cmp (pc_notN p) (nomark _)) fun σ H Q ⟨ρ, env, h, R, E, q⟩ => lE.plug R E q fun d h1 ρ1 H1 v x1 R1 E1 r1 q1 => by
  rw [r1.non_iff]
  exact q1 ρ1 H1 (Ext.refl _ _) R1 _ (by simp [RD])
end
end DL
/-! DLh: subscripts, slices, stores, lists made of lists, calls of built-ins. -/
namespace DL
open PySem PySem.Spec PyProof.Rows L2

/-! ### places -/
theorem atI_rds {g : Gm} {ρ : List Addr} {H : Hp} {ds : List D} {vs : List V} {i : Int} {d : D} (r : RDs g ρ H ds vs) (e : atI ds i = some d) : ∃ v, atI vs i = some v ∧ RD g ρ H d v := by
  unfold atI at e ⊢
  rw [r.length]
  obtain ⟨j, e1, e2⟩ := Option.bind_eq_some_iff.mp e
  obtain ⟨v, e3, r'⟩ := r.get e2
  exact ⟨v, by rw [e1]; exact e3, r'⟩
def DM.seq (h : DH) : DM → Option (List D)
  | .v (.tup ds) => some ds
  | .v d => asList h d
  | .l ds => some ds
/-- a[i] -/
def oIx : DM → D → DH → Res D := fun x y h => match x, y with
  | .v (.str z), .int i => if small z.length then (match atI z.cps.toList i with
    | some c => .ok (.str ⟨#[c]⟩) h
    | none => .stuck) else .stuck
  | x, .int i => match x.seq h with
    | some ds => (match atI ds i with
      | some d => .ok d h
      | none => .stuck)
    | none => .stuck
  | _, _ => .stuck
def dIx (ta : DO) (tb : DE) : DE := fun env h => (ta env h).bind fun x h1 => (tb env h1).bind fun y h2 => oIx x y h2
theorem seq_sq {g : Gm} {ρ : List Addr} {h : DH} {H : Hp} (R : RH g ρ h H) {x : DM} {v : V} {ds : List D} (e : x.seq h = some ds) (r : RM g ρ H x v) : ∃ a vs, v = .ref a ∧ (SqL g.K H a vs ∨ SqT g.K H a vs) ∧ RDs g ρ H ds vs := by
  cases x with
  | v d =>
    have r' : RD g ρ H d v := r
    cases d with
    | tup es =>
      simp only [DM.seq, Option.some.injEq] at e
      subst e
      simp only [RD] at r'
      obtain ⟨a, vs, e1, s, r⟩ := r'
      exact ⟨a, vs, e1, .inr s, r⟩
    | rol es =>
      simp only [DM.seq] at e
      obtain ⟨a, vs, e1, s, r⟩ := asList_sq R e r'
      exact ⟨a, vs, e1, .inl s, r⟩
    | ref n =>
      simp only [DM.seq] at e
      obtain ⟨a, vs, e1, s, r⟩ := asList_sq R e r'
      exact ⟨a, vs, e1, .inl s, r⟩
    | _ => simp [DM.seq, asList] at e
  | l es =>
    simp only [DM.seq, Option.some.injEq] at e
    subst e
    obtain ⟨a, vs, e1, ea, na, r⟩ := r
    exact ⟨a, vs, e1, .inl (SqL.of ea), r⟩
section
variable {X : Cx} {W : WB} {e a b o : Expr} {te tv ti : DE} {t : DA} {ta to : DO} {pos pos' p2 : Pos}
theorem d_ix (pa : DMx X W a ta) (pb : DEx X W b ti) (hs : PlainIx b := by exact fun _ _ => rfl) : DEx X W (.Subscript a b pos) (dIx ta ti) :=
  PE.imp (pe_ix ix_seq pa pb hs) fun σ H Q ⟨ρ, env, h, R, E, q⟩ => lM.plug R E q fun x h1 ρ1 H1 v x1 R1 E1 r1 q1 => lE.plug R1 E1 q1 fun y h2 ρ2 H2 u x2 R2 E2 r2 q2 => by
    have rx := r1.mono x2 R1
    have ry := r2
    cases y with
    | int i =>
      simp only [RD] at ry
      subst ry
      have gen : ∀ ds, x.seq h2 = some ds → (match atI ds i with
          | some d => Res.ok d h2
          | none => .stuck) = oIx x (.int i) h2 → rIx X.K v (.int i) H2 Q := fun ds es eo => by
        rw [← eo] at q2
        obtain ⟨p, vs, e1, s, r⟩ := seq_sq R2 es rx
        cases ei : atI ds i with
        | none => rw [ei] at q2; exact q2.elim
        | some d =>
          rw [ei] at q2
          obtain ⟨w, ew, rw'⟩ := atI_rds r ei
          have fin := q2 ρ2 H2 (Ext.refl _ _) R2 w rw'
          rcases s with s | s
          · exact .inl ⟨p, vs, i, w, e1, rfl, s, ew, fin⟩
          · exact .inr (.inl ⟨p, vs, i, w, e1, rfl, s, ew, fin⟩)
      cases x with
      | l ds => exact gen ds rfl rfl
      | v d =>
        cases d with
        | str z =>
          have rx' : RD (gm X) ρ2 H2 (.str z) v := rx
          simp only [RD] at rx'
          simp only [oIx] at q2
          by_cases sm : small z.length = true
          · rw [if_pos sm] at q2
            cases ei : atI z.cps.toList i with
            | none => rw [ei] at q2; exact q2.elim
            | some c =>
              rw [ei] at q2
              exact .inr (.inr ⟨z, i, c, rx', rfl, small_le sm, ei, q2 ρ2 H2 (Ext.refl _ _) R2 _ (by simp [RD])⟩)
          · rw [if_neg sm] at q2; exact q2.elim
        | tup ds => exact gen ds rfl rfl
        | non => exact q2.elim
        | bl _ => exact q2.elim
        | int _ => exact q2.elim
        | rol ds => exact gen ds rfl rfl
        | ref n =>
          have q3 := q2
          simp only [oIx, DM.seq] at q3
          cases z : asList h2 (.ref n) with
          | none => rw [z] at q3; exact q3.elim
          | some ds => exact gen ds z (by simp only [oIx, DM.seq]; rw [z])
    | _ => cases x with
      | l _ => exact q2.elim
      | v d => cases d <;> exact q2.elim

/-! ### slices -/
abbrev DP := En → DH → Res (Option Int)
def lP (g : Gm) (W : WB) (t : DP) : TO := fun σ H Q => ∃ ρ env h, RH g ρ h H ∧ REn g W.xa ρ H env σ ∧ RR g (fun c d H' => W.wish c d σ H') ρ H (t env h) fun o _ _ H' => Q o H'
abbrev DPx (X : Cx) (W : WB) (e : Option Expr) (t : DP) : Prop := PO X e (lP (gm X) W t)
theorem PO.imp {X : Cx} {e : Option Expr} {t t' : TO} (p : PO X e t) (i : ∀ σ H Q, t' σ H Q → t σ H Q) : PO X e t' := ⟨fun pins s σ H Q I h => p.run pins s σ H Q I (i _ _ _ h)⟩
def pNone : DP := fun _ h => .ok none h
def pSome (t : DE) : DP := fun env h => (t env h).bind fun d h1 => match d with
  | .int i => .ok (some i) h1
  | _ => .stuck
theorem p_none : DPx X W none pNone := PO.imp po_none fun σ H Q ⟨ρ, env, h, R, E, q⟩ => q ρ H (Ext.refl _ _) R
theorem p_some (p : DEx X W e te) : DPx X W (some e) (pSome te) := PO.imp (po_some p) fun σ H Q ⟨ρ, env, h, R, E, q⟩ => lE.plug R E q fun d h1 ρ1 H1 v x1 R1 E1 r1 q1 => by
  cases d with
  | int i => simp only [RD] at r1; exact ⟨i, r1, q1 ρ1 H1 (Ext.refl _ _) R1⟩
  | _ => exact q1.elim
theorem lP.plug {g : Gm} {W : WB} {ρ : List Addr} {h : DH} {H : Hp} {env : En} {σ : L2.St} {β : Type} {k : β → DH → List Addr → Hp → Prop} (R : RH g ρ h H) (E : REn g W.xa ρ H env σ) {ta : DP} {f : Option Int → DH → Res β} {Q' : Option Int → Hp → Prop} (q : RR g (fun c d H' => W.wish c d σ H') ρ H ((ta env h).bind f) k)
    (hq : ∀ o h1 ρ1 H1, Ext ρ H ρ1 H1 → RH g ρ1 h1 H1 → REn g W.xa ρ1 H1 env σ → RR g (fun c d H' => W.wish c d σ H') ρ1 H1 (f o h1) k → Q' o H1) : lP g W ta σ H Q' :=
  ⟨ρ, env, h, R, E, (RR.bind q).imp fun d h1 ρ1 H1 x R1 z => hq d h1 ρ1 H1 x R1 (E.mono x R) z⟩
/-- the items from lo up to hi -/
def cutD {α : Type} (xs : List α) (lo hi : Option Int) : List α := (xs.drop (HT.sIx xs.length 0 lo)).take (HT.sIx xs.length xs.length hi - HT.sIx xs.length 0 lo)
theorem cut_rds {g : Gm} {ρ : List Addr} {H : Hp} {ds : List D} {vs : List V} (r : RDs g ρ H ds vs) (lo hi : Option Int) : RDs g ρ H (cutD ds lo hi) (cutV vs lo hi) := by
  unfold cutD cutV
  rw [r.length]
  exact (r.drop _).take _
variable {lo hi : Option Expr} {tl th : DP}
/-- a list's part: a new list -/
def qSl (ta : DO) (tl th : DP) : DA := fun env h => (ta env h).bind fun x h1 => (tl env h1).bind fun l h2 => (th env h2).bind fun u h3 => match x with
  | .l ds => .ok (cutD ds l u) h3
  | .v d => match asList h3 d with
    | some ds => .ok (cutD ds l u) h3
    | none => .stuck
theorem q_sl (pa : DMx X W a ta) (pl : DPx X W lo tl) (ph : DPx X W hi th) : DQx X W (.Subscript a (.Slice lo hi none p2) pos) (qSl ta tl th) :=
  PE.imp (pe_slice sl_list pa pl ph) fun σ H Q ⟨ρ, env, h, R, E, q⟩ => lM.plug R E q fun x h1 ρ1 H1 v x1 R1 E1 r1 q1 => lP.plug R1 E1 q1 fun l h2 ρ2 H2 x2 R2 E2 q2 => lP.plug R2 E2 q2 fun u h3 ρ3 H3 x3 R3 E3 q3 => by
    have rx := (r1.mono x2 R1).mono x3 R2
    have x123 := (x1.trans x2).trans x3
    have fin : ∀ ds p vs, v = .ref p → SqL X.K H3 p vs → RDs (gm X) ρ3 H3 ds vs → RR (gm X) (fun c d H' => W.wish c d σ H') ρ3 H3 (Res.ok (cutD ds l u) h3) (fun ds _ ρ' H' => ∀ a vs, H' a = some (.lst vs) → a ∉ ρ' → H a = none → RDs (gm X) ρ' H' ds vs → Q (.ref a) H') →
        rSlL X.K v l u H3 Q := fun ds p vs e1 s r q => ⟨p, vs, e1, s, fun b hb => q ρ3 _ (Ext.tup hb) (R3.tup hb) b _ upd_same (R3.not hb) (x123.fresh R R3 hb) ((cut_rds r l u).mono (Ext.tup hb) R3)⟩
    cases x with
    | l ds =>
      obtain ⟨p, vs, e1, ea, na, r⟩ := rx
      exact fin ds p vs e1 (SqL.of ea) r q3
    | v d =>
      dsimp only at q3
      cases z : asList h3 d with
      | none => rw [z] at q3; exact q3.elim
      | some ds =>
        rw [z] at q3
        obtain ⟨p, vs, e1, s, r⟩ := asList_sq R3 z rx
        exact fin ds p vs e1 s r q3
/-- a tuple's part, a text's part -/
def dSl (ta : DE) (tl th : DP) : DE := fun env h => (ta env h).bind fun x h1 => (tl env h1).bind fun l h2 => (th env h2).bind fun u h3 => match x with
  | .tup ds => .ok (.tup (cutD ds l u)) h3
  | .str z => if small z.length then .ok (.str (cutS z l u)) h3 else .stuck
  | _ => .stuck
theorem d_sl (pa : DEx X W a te) (pl : DPx X W lo tl) (ph : DPx X W hi th) : DEx X W (.Subscript a (.Slice lo hi none p2) pos) (dSl te tl th) :=
  PE.imp (pe_slice (sl_tupA.or sl_str) pa pl ph) fun σ H Q ⟨ρ, env, h, R, E, q⟩ => lE.plug R E q fun x h1 ρ1 H1 v x1 R1 E1 r1 q1 => lP.plug R1 E1 q1 fun l h2 ρ2 H2 x2 R2 E2 q2 => lP.plug R2 E2 q2 fun u h3 ρ3 H3 x3 R3 E3 q3 => by
    have rx := (r1.mono x2 R1).mono x3 R2
    cases x with
    | tup ds =>
      simp only [RD] at rx
      obtain ⟨p, vs, e1, s, r⟩ := rx
      have rc := cut_rds r l u
      refine .inl ⟨p, vs, e1, s, fun hw => ?_, fun hw b hb => ?_⟩
      · refine q3 ρ3 H3 (Ext.refl _ _) R3 _ ?_
        simp only [RD]
        refine ⟨p, vs, rfl, s, ?_⟩
        have ew : cutD ds l u = ds := by
          unfold cutD
          rw [← r.length, hw.1, hw.2, Nat.sub_zero, List.drop_zero, r.length, List.take_length]
        rw [ew]; exact r
      · refine q3 ρ3 _ (Ext.tup hb) (R3.tup hb) _ ?_
        simp only [RD]
        exact ⟨b, _, rfl, SqT.of upd_same, rc.mono (Ext.tup hb) R3⟩
    | str z =>
      simp only [RD] at rx
      dsimp only at q3
      by_cases sm : small z.length = true
      · rw [if_pos sm] at q3
        exact .inr ⟨z, rx, small_le sm, q3 ρ3 H3 (Ext.refl _ _) R3 _ (by simp [RD])⟩
      · rw [if_neg sm] at q3; exact q3.elim
    | _ => exact q3.elim

/-! ### a list is written at by place -/
def sSetL (tv to ti : DE) : DS := fun env h => (tv env h).out env fun y h1 => (to env h1).out env fun d h2 => (ti env h2).out env fun i h3 => match d, i with
  | .ref n, .int k => match h3[n]? with
    | some (.lst ds) => match ixN ds.length k with
      | some j => .nx env (h3.set n (.lst (ds.set j y)))
      | none => .stuck
    | _ => .stuck
  | _, _ => .stuck
theorem s_setL (pv : DEx X W e tv) (po : DEx X W o te) (pi : DEx X W b ti) (ha : ∀ v, assign (.Subscript o b pos') X.env v = (do
      let ov ← holding [v] (eval o X.env)
      let iv ← holding [v, ov] (eval b X.env)
      standAt pos'
      holding [v, ov, iv] (setItem ov iv v)
      release [v, ov, iv] []) := by intro _; rfl) (hs : swapsWithSole [.Subscript o b pos'] e pos.line X.env = pure false := by rfl) (hw : swappedStores [.Subscript o b pos'] e X.env = pure none := by rfl)
    (h1 : (assignEach [.Subscript o b pos'] X.env).map (·.2) = [assign (.Subscript o b pos') X.env] := by rfl) : DSx X W (.Assign [.Subscript o b pos'] e pos) (sSetL tv te ti) :=
  PS.imp (ps_asg pv (pg_sub po pi set_list ha) hs hw h1) fun Dn σ H ⟨ρ, env, h, R, E, q⟩ => lE.plugS R E q fun y h1 ρ1 H1 v x1 R1 E1 r1 q1 => lE.plugS R1 E1 q1 fun d h2 ρ2 H2 u x2 R2 E2 r2 q2 => lE.plugS R2 E2 q2 fun i h3 ρ3 H3 w x3 R3 E3 r3 q3 => by
    cases d with
    | ref n =>
      cases i with
      | int k =>
        dsimp only at q3
        have r2' := r2.mono x3 R2
        simp only [RD] at r2' r3
        obtain ⟨a, e1, e2⟩ := r2'
        split at q3
        · rename_i ds hz
          obtain ⟨vs, ea, r⟩ := R3.ok _ _ a hz e2
          split at q3
          · rename_i j hj
            refine ⟨a, vs, k, j, e1, r3, ea, by rw [r.length]; exact hj, ?_⟩
            have x4 : Ext ρ3 H3 ρ3 (upd H3 a (.lst (vs.set j v))) := Ext.set e2 fun _ _ z => by rw [ea] at z; cases z
            exact q3 ρ3 _ σ x4 (R3.set e2 (fun _ _ z => by rw [ea] at z; cases z) ⟨_, upd_same, (r.set j ((r1.mono x2 R1).mono x3 R2)).lst ea⟩) (E3.mono x4 R3)
          · exact q3.elim
        · exact q3.elim
      | _ => exact q3.elim
    | _ => exact q3.elim

/-! ### lists out of lists -/
variable {tb : DO}
def DM.lst (h : DH) : DM → Option (List D)
  | .l ds => some ds
  | .v (.ref n) => match h[n]? with
    | some (.lst ds) => some ds
    | _ => none
  | .v _ => none
theorem lst_own {g : Gm} {ρ : List Addr} {h : DH} {H : Hp} (R : RH g ρ h H) {x : DM} {v : V} {ds : List D} (e : x.lst h = some ds) (r : RM g ρ H x v) : ∃ a vs, v = .ref a ∧ H a = some (.lst vs) ∧ RDs g ρ H ds vs := by
  cases x with
  | l es =>
    simp only [DM.lst, Option.some.injEq] at e
    subst e
    obtain ⟨a, vs, e1, ea, na, r⟩ := r
    exact ⟨a, vs, e1, ea, r⟩
  | v d =>
    have r' : RD g ρ H d v := r
    cases d with
    | ref n =>
      simp only [DM.lst] at e
      split at e
      · simp only [Option.some.injEq] at e
        subst e
        simp only [RD] at r'
        obtain ⟨a, e1, e2⟩ := r'
        obtain ⟨vs, ea, r⟩ := R.ok _ _ a (by assumption) e2
        exact ⟨a, vs, e1, ea, r⟩
      · cases e
    | _ => cases e
def qCat (ta tb : DO) : DA := fun env h => (ta env h).bind fun x h1 => (tb env h1).bind fun y h2 => match x.lst h2, y.lst h2 with
  | some ds, some es => if small (ds.length + es.length) then .ok (ds ++ es) h2 else .stuck
  | _, _ => .stuck
theorem q_cat (pa : DMx X W a ta) (pb : DMx X W b tb) : DQx X W (.BinOp a .Add b pos) (qCat ta tb) :=
  PE.imp (pe_op op_cat pa pb) fun σ H Q ⟨ρ, env, h, R, E, q⟩ => lM.plug R E q fun x h1 ρ1 H1 v x1 R1 E1 r1 q1 => lM.plug R1 E1 q1 fun y h2 ρ2 H2 u x2 R2 E2 r2 q2 => by
    have rx := r1.mono x2 R1
    split at q2
    · rename_i ds es z1 z2
      obtain ⟨p, vs, e1, ea, ra⟩ := lst_own R2 z1 rx
      obtain ⟨p', ws, e2, eb, rb⟩ := lst_own R2 z2 r2
      by_cases sm : small (ds.length + es.length) = true
      · rw [if_pos sm] at q2
        refine ⟨p, p', vs, ws, e1, e2, ea, eb, by rw [ra.length, rb.length]; exact small_le sm, fun c hc => ?_⟩
        exact q2 ρ2 _ (Ext.tup hc) (R2.tup hc) c _ upd_same (R2.not hc) ((x1.trans x2).fresh R R2 hc) ((ra.append rb).mono (Ext.tup hc) R2)
      · rw [if_neg sm] at q2; exact q2.elim
    · exact q2.elim
def qRep (ta : DO) (tb : DE) : DA := fun env h => (ta env h).bind fun x h1 => (tb env h1).bind fun y h2 => match x.lst h2, y with
  | some ds, .int k => if -(2 ^ 63) ≤ k ∧ k < 2 ^ 63 ∧ small (ds.length * k.toNat) = true then .ok (List.replicate k.toNat ds).flatten h2 else .stuck
  | _, _ => .stuck
theorem rep_rds {g : Gm} {ρ : List Addr} {H : Hp} {ds : List D} {vs : List V} (r : RDs g ρ H ds vs) : ∀ n : Nat, RDs g ρ H (List.replicate n ds).flatten (List.replicate n vs).flatten
  | 0 => RDs.nil
  | n + 1 => by
    rw [List.replicate_succ, List.replicate_succ, List.flatten_cons, List.flatten_cons]
    exact r.append (rep_rds r n)
theorem q_rep (pa : DMx X W a ta) (pb : DEx X W b te) : DQx X W (.BinOp a .Mult b pos) (qRep ta te) :=
  PE.imp (pe_op op_rep pa pb) fun σ H Q ⟨ρ, env, h, R, E, q⟩ => lM.plug R E q fun x h1 ρ1 H1 v x1 R1 E1 r1 q1 => lE.plug R1 E1 q1 fun y h2 ρ2 H2 u x2 R2 E2 r2 q2 => by
    have rx := r1.mono x2 R1
    split at q2
    · rename_i ds k z1
      obtain ⟨p, vs, e1, ea, ra⟩ := lst_own R2 z1 rx
      simp only [RD] at r2
      split at q2
      · rename_i sm
        refine ⟨p, k, vs, e1, r2, ea, sm.1, sm.2.1, by rw [ra.length]; exact small_le sm.2.2, fun c hc => ?_⟩
        exact q2 ρ2 _ (Ext.tup hc) (R2.tup hc) c _ upd_same (R2.not hc) ((x1.trans x2).fresh R R2 hc) ((rep_rds ra k.toNat).mono (Ext.tup hc) R2)
      · exact q2.elim
    · exact q2.elim
/-- (x, ..) * k: a tuple as often -/
def oRepT : D → D → DH → Res D := fun x y h => match x, y with
  | .tup ds, .int k => if ds ≠ [] ∧ 2 ≤ k ∧ k ≤ 1000 ∧ ds.length ≤ 1000 then .ok (.tup (List.replicate k.toNat ds).flatten) h else .stuck
  | _, _ => .stuck
end

/-! ### calls of built-ins -/
section
variable {X : Cx} {W : WB} {e a b : Expr} {es : List Expr} {te : DE} {t : DA} {ta to : DO} {pos p : Pos} {x : Str} {bid T : String} {r : List V → Hp → VK → Prop}
theorem pa_one {t : TE} (p : PE X e t) (hs : starEach (e :: []) X.env = (false, eval e X.env) :: starEach [] X.env := by rfl) : PA X [e] (tCons t tNil) := pa_cons p pa_nil hs
/-- of one operand -/
def dCallM (f : DM → DH → Res D) (ta : DO) : DE := fun env h => (ta env h).bind fun m h1 => f m h1
def CallM (g : Gm) (r : List V → Hp → VK → Prop) (f : DM → DH → Res D) : Prop := ∀ (W : XK) (ρ : List Addr) (h : DH) (H : Hp) (m : DM) (v : V) (Q : VK), RH g ρ h H → RM g ρ H m v → RR g W ρ H (f m h) (fun d _ ρ' H' => ∀ v, RD g ρ' H' d v → Q v H') → r [v] H Q
theorem callM_in {f : DM → DH → Res D} (o : CallM (gm X) r f) (σ : L2.St) (H : Hp) (Q : VK) (l : lE (gm X) W (dCallM f ta) σ H Q) : tCB r (tCons (lM (gm X) W ta) tNil) σ H Q := by
  obtain ⟨ρ, env, h, R, E, q⟩ := l
  exact lM.plug R E q fun m h1 ρ1 H1 v x1 R1 E1 r1 q1 => o _ ρ1 h1 H1 m v Q R1 r1 q1
theorem d_callB {f : DM → DH → Res D} (hc : CallR X (.builtin bid) r) (o : CallM (gm X) r f) (hm : X.mg x = none) (hv : bootBuiltins x = some (.builtin bid)) (pa : DMx X W e ta) (hg : Gl X x := by rfl) (hn : x ≠ "__name__" := by decide) (hdb : (x == ("__debug__" : Str)) = false := by decide)
    (hs : starEach (e :: []) X.env = (false, eval e X.env) :: starEach [] X.env := by rfl) (he : starEach (e :: []) X.env = (false, eval e X.env) :: starEach [] X.env := by rfl) (hpl : (backTo pos (starEach [] X.env)).any (·.1) = false := by rfl) : DEx X W (.Call (.Name x p) [e] [] pos) (dCallM f ta) :=
  PE.imp (pe_callB hc hg hm hv (pa_one pa hs) hn hdb he hpl) (callM_in o)
theorem d_callT {f : DM → DH → Res D} (hc : CallR X (.type T) r) (o : CallM (gm X) r f) (hm : X.mg x = none) (hv : bootBuiltins x = some (.type T)) (pa : DMx X W e ta) (hg : Gl X x := by rfl) (hn : x ≠ "__name__" := by decide) (hdb : (x == ("__debug__" : Str)) = false := by decide)
    (hs : starEach (e :: []) X.env = (false, eval e X.env) :: starEach [] X.env := by rfl) (he : starEach (e :: []) X.env = (false, eval e X.env) :: starEach [] X.env := by rfl) (hpl : (backTo pos (starEach [] X.env)).any (·.1) = false := by rfl) : DEx X W (.Call (.Name x p) [e] [] pos) (dCallM f ta) :=
  PE.imp (pe_callTy hc hg hm hv (pa_one pa hs) hn hdb he hpl) (callM_in o)
/-- len -/
def fLen : DM → DH → Res D := fun m h => match m with
  | .v (.str z) => if small z.length then .ok (.int z.length) h else .stuck
  | m => match m.seq h with
    | some ds => .ok (.int ds.length) h
    | none => .stuck
theorem c_len : CallM (gm X) (fun xs H Q => ∃ x n, xs = [x] ∧ LenV X.K x H n ∧ Q (.int n) H) fLen := fun W ρ h H m v Q R rm q => by
  have gen : ∀ ds, m.seq h = some ds → fLen m h = .ok (.int ds.length) h → ∃ x n, [v] = [x] ∧ LenV X.K x H n ∧ Q (.int (n : Nat)) H := fun ds es eo => by
    rw [eo] at q
    obtain ⟨p, vs, e1, s, r⟩ := seq_sq R es rm
    subst e1
    refine ⟨_, ds.length, rfl, ?_, q ρ H (Ext.refl _ _) R _ (by simp [RD])⟩
    rcases s with s | s
    · exact .inl ⟨vs, s, r.length.symm⟩
    · exact .inr ⟨vs, s, r.length.symm⟩
  cases m with
  | l ds => exact gen ds rfl rfl
  | v d =>
    cases d with
    | str z =>
      have r' : RD (gm X) ρ H (.str z) v := rm
      simp only [RD] at r'
      subst r'
      simp only [fLen] at q
      by_cases sm : small z.length = true
      · rw [if_pos sm] at q
        exact ⟨_, z.length, rfl, ⟨small_le sm, rfl⟩, q ρ H (Ext.refl _ _) R _ (by simp [RD])⟩
      · rw [if_neg sm] at q; exact q.elim
    | tup ds => exact gen ds rfl rfl
    | rol ds => exact gen ds rfl rfl
    | ref n =>
      have q3 := q
      simp only [fLen, DM.seq] at q3
      cases z : asList h (.ref n) with
      | none => rw [z] at q3; exact q3.elim
      | some ds => exact gen ds z (by simp only [fLen, DM.seq]; rw [z])
    | _ => exact q.elim
/-- all, any -/
def blOf : D → Option Bool
  | .bl b => some b
  | _ => none
def fBls (k : List Bool → Bool) : DM → DH → Res D := fun m h => match m with
  | .l ds => match mapO blOf ds with
    | some bs => .ok (.bl (k bs)) h
    | none => .stuck
  | .v d => match (asList h d).bind (mapO blOf) with
    | some bs => .ok (.bl (k bs)) h
    | none => .stuck
theorem mapO_bl : ∀ {ds : List D} {bs : List Bool}, mapO blOf ds = some bs → ds = bs.map .bl
  | [], bs, e => by simp only [mapO, Option.some.injEq] at e; subst e; rfl
  | d :: ds, bs, e => by
    simp only [mapO] at e
    obtain ⟨a, ea, e⟩ := Option.bind_eq_some_iff.mp e
    obtain ⟨b, eb, e⟩ := Option.map_eq_some_iff.mp e
    subst e
    rw [mapO_bl eb]
    cases d <;> simp only [blOf] at ea <;> try cases ea
    rfl
theorem bls_sq {g : Gm} {ρ : List Addr} {h : DH} {H : Hp} (R : RH g ρ h H) {W : XK} {m : DM} {v : V} {k : List Bool → Bool} {Q : VK} (rm : RM g ρ H m v) (q : RR g W ρ H (fBls k m h) fun d _ ρ' H' => ∀ v, RD g ρ' H' d v → Q v H') : ∃ (a : Addr) (bs : List Bool), [v] = [V.ref a] ∧ SqL g.K H a (bs.map V.bl) ∧ Q (.bl (k bs)) H := by
  cases m with
  | l ds =>
    simp only [fBls] at q
    obtain ⟨a, vs, e1, ea, na, r⟩ := rm
    cases z : mapO blOf ds with
    | none => rw [z] at q; exact q.elim
    | some bs =>
      rw [z] at q
      rw [mapO_bl z] at r
      rw [r.of_bls] at ea
      exact ⟨a, bs, by rw [e1], SqL.of ea, q ρ H (Ext.refl _ _) R _ (by simp [RD])⟩
  | v d =>
    simp only [fBls] at q
    cases z : (asList h d).bind (mapO blOf) with
    | none => rw [z] at q; exact q.elim
    | some bs =>
      rw [z] at q
      obtain ⟨ds, z1, z2⟩ := Option.bind_eq_some_iff.mp z
      obtain ⟨a, vs, e1, s, r⟩ := asList_sq R z1 rm
      rw [mapO_bl z2] at r
      rw [r.of_bls] at s
      exact ⟨a, bs, by rw [e1], s, q ρ H (Ext.refl _ _) R _ (by simp [RD])⟩
theorem c_all : CallM (gm X) (rAll X.K) (fBls (·.all id)) := fun W ρ h H m v Q R rm q => bls_sq R rm q
theorem c_any : CallM (gm X) (rAny X.K) (fBls (·.any id)) := fun W ρ h H m v Q R rm q => bls_sq R rm q
/-- tuple(..) -/
def fTup : DM → DH → Res D := fun m h => match m with
  | .v (.tup ds) => .ok (.tup ds) h
  | m => match m.seq h with
    | some ds => .ok (.tup ds) h
    | none => .stuck
theorem c_tup : CallM (gm X) (fun xs H Q => ∃ p ys, xs = [.ref p] ∧ ((SqL X.K H p ys ∧ ∀ l, H l = none → Q (.ref l) (upd H l (.tup ys))) ∨ (SqT X.K H p ys ∧ Q (.ref p) H))) fTup := fun W ρ h H m v Q R rm q => by
  have gen : ∀ ds, m.seq h = some ds → fTup m h = .ok (.tup ds) h → ∃ p ys, [v] = [V.ref p] ∧ ((SqL X.K H p ys ∧ ∀ l, H l = none → Q (.ref l) (upd H l (.tup ys))) ∨ (SqT X.K H p ys ∧ Q (.ref p) H)) := fun ds es eo => by
    rw [eo] at q
    obtain ⟨p, vs, e1, s, r⟩ := seq_sq R es rm
    refine ⟨p, vs, by rw [e1], ?_⟩
    rcases s with s | s
    · refine .inl ⟨s, fun l hl => q ρ _ (Ext.tup hl) (R.tup hl) _ ?_⟩
      simp only [RD]
      exact ⟨l, vs, rfl, SqT.of upd_same, r.mono (Ext.tup hl) R⟩
    · refine .inr ⟨s, q ρ H (Ext.refl _ _) R _ ?_⟩
      simp only [RD]
      exact ⟨p, vs, rfl, s, r⟩
  cases m with
  | l ds => exact gen ds rfl rfl
  | v d =>
    cases d with
    | tup ds => exact gen ds rfl rfl
    | rol ds => exact gen ds rfl rfl
    | ref n =>
      have q3 := q
      simp only [fTup, DM.seq] at q3
      cases z : asList h (.ref n) with
      | none => rw [z] at q3; exact q3.elim
      | some ds => exact gen ds z (by simp only [fTup, DM.seq]; rw [z])
    | _ => exact q.elim
/-- int(..) of a number, a truth -/
def fInt : DM → DH → Res D := fun m h => match m with
  | .v (.int i) => .ok (.int i) h
  | .v (.bl b) => .ok (.int (if b then 1 else 0)) h
  | _ => .stuck
theorem c_int : CallM (gm X) (fun xs H Q => (∃ i, xs = [.int i] ∧ Q (.int i) H) ∨ ∃ k, xs = [.bl k] ∧ Q (.int (if k then 1 else 0)) H) fInt := fun W ρ h H m v Q R rm q => by
  cases m with
  | l ds => exact q.elim
  | v d =>
    have r' : RD (gm X) ρ H d v := rm
    cases d with
    | int i => simp only [RD] at r'; subst r'; exact .inl ⟨i, rfl, q ρ H (Ext.refl _ _) R _ (by simp [RD])⟩
    | bl b => simp only [RD] at r'; subst r'; exact .inr ⟨b, rfl, q ρ H (Ext.refl _ _) R _ (by simp [RD])⟩
    | _ => exact q.elim

/-! ### of two arguments -/
def dCall2 (f : D → D → DH → Res D) (ta tb : DE) : DE := fun env h => (ta env h).bind fun x h1 => (tb env h1).bind fun y h2 => f x y h2
variable {tb : DE} {tc : DE}
theorem d_call2 {f : D → D → DH → Res D} (hc : CallR X (.builtin bid) r) (o : ∀ (W : XK) (ρ : List Addr) (h : DH) (H : Hp) (x y : D) (v u : V) (Q : VK), RH (gm X) ρ h H → RD (gm X) ρ H x v → RD (gm X) ρ H y u → RR (gm X) W ρ H (f x y h) (fun d _ ρ' H' => ∀ v, RD (gm X) ρ' H' d v → Q v H') → r [v, u] H Q)
    (hm : X.mg x = none) (hv : bootBuiltins x = some (.builtin bid)) (pa : DEx X W a tb) (pb : DEx X W b tc) (hg : Gl X x := by rfl) (hn : x ≠ "__name__" := by decide) (hdb : (x == ("__debug__" : Str)) = false := by decide)
    (hs : starEach (a :: [b]) X.env = (false, eval a X.env) :: starEach [b] X.env := by rfl) (hs2 : starEach (b :: []) X.env = (false, eval b X.env) :: starEach [] X.env := by rfl)
    (he : starEach (a :: [b]) X.env = (false, eval a X.env) :: starEach [b] X.env := by rfl) (hpl : (backTo pos (starEach [b] X.env)).any (·.1) = false := by rfl) : DEx X W (.Call (.Name x p) [a, b] [] pos) (dCall2 f tb tc) :=
  PE.imp (pe_callB hc hg hm hv (pa_cons pa (pa_one pb hs2) hs) hn hdb he hpl) fun σ H Q ⟨ρ, env, h, R, E, q⟩ => lE.plug R E q fun d h1 ρ1 H1 v x1 R1 E1 r1 q1 => lE.plug R1 E1 q1 fun y h2 ρ2 H2 u x2 R2 E2 r2 q2 => o _ ρ2 h2 H2 d y v u Q R2 (r1.mono x2 R1) r2 q2
def fMax2 : D → D → DH → Res D := fun x y h => match x, y with
  | .int i, .int j => .ok (.int (if j > i then j else i)) h
  | _, _ => .stuck
def fMin2 : D → D → DH → Res D := fun x y h => match x, y with
  | .int i, .int j => .ok (.int (if j < i then j else i)) h
  | _, _ => .stuck
theorem d_max2 (hc : X.calm = true) (hm : X.mg "max" = none) (pa : DEx X W a tb) (pb : DEx X W b tc) (hg : Gl X "max" := by rfl) (hs : starEach (a :: [b]) X.env = (false, eval a X.env) :: starEach [b] X.env := by rfl) (hs2 : starEach (b :: []) X.env = (false, eval b X.env) :: starEach [] X.env := by rfl)
    (hpl : (backTo pos (starEach [b] X.env)).any (·.1) = false := by rfl) : DEx X W (.Call (.Name "max" p) [a, b] [] pos) (dCall2 fMax2 tb tc) :=
  d_call2 (call_max2 hc) (fun W ρ h H x y v u Q R rx ry q => by
    cases x <;> cases y <;> try exact q.elim
    rename_i i j
    simp only [RD] at rx ry
    subst rx; subst ry
    exact ⟨i, j, rfl, q ρ H (Ext.refl _ _) R _ (by simp [RD])⟩) hm (by decide +kernel) pa pb hg (by decide) (by decide) hs hs2 hs hpl
theorem d_min2 (hc : X.calm = true) (hm : X.mg "min" = none) (pa : DEx X W a tb) (pb : DEx X W b tc) (hg : Gl X "min" := by rfl) (hs : starEach (a :: [b]) X.env = (false, eval a X.env) :: starEach [b] X.env := by rfl) (hs2 : starEach (b :: []) X.env = (false, eval b X.env) :: starEach [] X.env := by rfl)
    (hpl : (backTo pos (starEach [b] X.env)).any (·.1) = false := by rfl) : DEx X W (.Call (.Name "min" p) [a, b] [] pos) (dCall2 fMin2 tb tc) :=
  d_call2 (call_min2 hc) (fun W ρ h H x y v u Q R rx ry q => by
    cases x <;> cases y <;> try exact q.elim
    rename_i i j
    simp only [RD] at rx ry
    subst rx; subst ry
    exact ⟨i, j, rfl, q ρ H (Ext.refl _ _) R _ (by simp [RD])⟩) hm (by decide +kernel) pa pb hg (by decide) (by decide) hs hs2 hs hpl
end
end DL
/-! DLz: zip(.., strict=True) of two things, enumerate of a tuple: the machine's steps. -/
namespace DL
open PySem PySem.Spec PyProof.Rows
abbrev IsZipS (h : Heap) (z TI TO : Addr) (f0 : Value) : Prop := h.get? z = some { cls := .type "zip", dict := none, data := .fields #[f0, .bool false, .bool true, .ref TI, .ref TO], slots := #[] }
/-- what stands apart -/
structure ZApart (z TI TO i1 i2 : Addr) (fp1 fp2 : List Addr) : Prop where
  TIz : TI ≠ z
  TOz : TO ≠ z
  i1z : i1 ≠ z
  i2z : i2 ≠ z
  TITO : TI ≠ TO
  TIi1 : TI ≠ i1
  TIi2 : TI ≠ i2
  TOi1 : TO ≠ i1
  TOi2 : TO ≠ i2
  i12 : i1 ≠ i2
  z1 : z ∉ fp1
  z2 : z ∉ fp2
  T1 : TO ∉ fp1
  T2 : TO ∉ fp2
  a2 : i1 ∉ fp2
  a1 : i2 ∉ fp1
section
variable {prog : Program} {w : World} {A : Around} {E : Value → Shared → Prop} {s : Shared} {it i1 i2 z TI TO : Addr} {fp fp1 fp2 : List Addr} {n n1 n2 i : Nat} {P P1 P2 : Nat → Value → Prop} {St St1 St2 : Nat → Heap → Prop}
theorem nextOrEnd_item {Q : Option Value → Shared → Prop} (D : Draws prog w A it fp n P St) (hi : i < n) (st : St i s.heap) (h : ∀ x h' tk, P i x → St (i + 1) h' → Heap.SameBut it s.heap h' → Q (some x) { s with heap := h', toks := tk }) :
    wpAny (model prog w) A (Builtin.SmallTypes.nextOrEnd (.ref it)) Q E s := by
  unfold Builtin.SmallTypes.nextOrEnd
  refine wpAny_bind (wpAny_attempt (D.item i s _ _ hi st fun x h' tk a b c => ?_))
  exact wpAny_pure (h x h' tk a b c)
theorem nextOrEnd_end {Q : Option Value → Shared → Prop} (D : Draws prog w A it fp n P St) (st : St n s.heap) (h : ∀ h', Heap.ExtBut it s.heap h' → Q none { s with heap := h' }) :
    wpAny (model prog w) A (Builtin.SmallTypes.nextOrEnd (.ref it)) Q E s := by
  unfold Builtin.SmallTypes.nextOrEnd
  refine wpAny_bind (wpAny_attempt (D.done s _ _ st fun h' e a b => ?_))
  obtain ⟨o, ho, hc⟩ := b
  refine wpAny_bind (wpAny_isInstance (T := "StopIteration") (b := true) ⟨o, ho, hc⟩ isSubtype_stop ?_)
  exact wpAny_pure (h h' a)
theorem zipS_item {a b : Value} {Q : Value → Shared → Prop} (D1 : Draws prog w A i1 fp1 n1 P1 St1) (D2 : Draws prog w A i2 fp2 n2 P2 St2) (Z : ZApart z TI TO i1 i2 fp1 fp2) (hz : IsZipS s.heap z TI TO .none) (hTI : IsPair s.heap TI (.ref i1) (.ref i2)) (hTO : IsPair s.heap TO a b)
    (st1 : St1 i s.heap) (st2 : St2 i s.heap) (l1 : i < n1) (l2 : i < n2)
    (hQ : ∀ x y h' tk, P1 i x → P2 i y → IsZipS h' z TI TO (rawInt s.heap.objs.size) → IsPair h' TO x y → St1 (i + 1) h' → St2 (i + 1) h' → IsPair h' s.heap.objs.size x y → h'.objs.size = s.heap.objs.size + 1 →
      (∀ c o, c ≠ z → c ≠ TO → c ≠ i1 → c ≠ i2 → s.heap.get? c = some o → h'.get? c = some o) → Q (.ref s.heap.objs.size) { s with heap := h', toks := tk }) :
    wpAny (model prog w) A (Builtin.«zip.__next__» ⟨[.ref z], []⟩) (fun fin s' => ∃ v, fin = .done (.ret v) ∧ Q v s') E s := by
  have up : ∀ {fp : List Addr} {m : Nat} {j : Addr} {P' : Nat → Value → Prop} {St' : Nat → Heap → Prop} {k : Nat} {h h' : Heap} {c : Addr}, Draws prog w A j fp m P' St' → St' k h → Heap.SameBut c h h' → c ∉ fp → St' k h' := fun {fp m j P' St' k h h' c} D st sb nc =>
    D.frame k h h' st fun b hb o e => (sb.2 b fun q => nc (q ▸ hb)).trans e
  show wpAny _ _ (field (.ref z) 2 >>= _) _ _ _
  refine wpAny_bind (wpAny_field hz rfl (x := .bool true) rfl ?_)
  show wpAny _ _ (field (.ref z) 3 >>= _) _ _ _
  refine wpAny_bind (wpAny_field hz rfl (x := .ref TI) rfl (wpAny_bind (wpAny_seqItems hTI rfl ?_)))
  show wpAny _ _ (Builtin.SmallTypes.ownedTupleIsFree (.ref z) >>= _) _ _ _
  refine wpAny_bind ?_
  unfold Builtin.SmallTypes.ownedTupleIsFree
  refine wpAny_bind (wpAny_field hz rfl (x := .none) rfl (wpAny_pure ?_))
  simp only [if_true]
  refine wpAny_bind (wpAny_rule (wpAny_bind (wpAny_field hz rfl (x := .ref TO) rfl ?_)))
  refine wpAny_bind (wpAny_setField_rec hz (by simp) fun g1 z1 b1 => ?_)
  have z1 : IsZipS g1 z TI TO .ellipsis := z1
  refine wpAny_bind ?_
  simp only [List.zipIdx_cons, List.zipIdx_nil, List.forIn_cons, List.forIn_nil]
  refine wpAny_bind (wpAny_bind (wpAny_onRaise ?_))
  show wpAny _ _ (Builtin.SmallTypes.nextOrEnd (.ref i1)) _ _ _
  refine nextOrEnd_item D1 l1 (up D1 st1 b1 Z.z1) fun x g2 t2 px s2 b2 => ?_
  have t2' : IsPair g2 TO a b := b2.extBut _ _ Z.TOi1 (b1.extBut _ _ Z.TOz hTO)
  refine wpAny_bind (wpAny_seqItems t2' rfl (wpAny_bind (wpAny_updateSeq_pair t2' fun g3 t3 b3 => ?_)))
  have t3 : IsPair g3 TO x b := t3
  refine wpAny_bind (wpAny_letGo (wpAny_pure ?_))
  refine wpAny_bind (wpAny_bind (wpAny_onRaise ?_))
  show wpAny _ _ (Builtin.SmallTypes.nextOrEnd (.ref i2)) _ _ _
  refine nextOrEnd_item D2 l2 (up D2 (up D2 (up D2 st2 b1 Z.z2) b2 Z.a2) b3 Z.T2) fun y g4 t4 py s4 b4 => ?_
  have t4' : IsPair g4 TO x b := b4.extBut _ _ Z.TOi2 t3
  refine wpAny_bind (wpAny_seqItems t4' rfl (wpAny_bind (wpAny_updateSeq_pair t4' fun g5 t5 b5 => ?_)))
  have t5 : IsPair g5 TO x y := t5
  refine wpAny_bind (wpAny_letGo (wpAny_pure (wpAny_pure ?_)))
  refine wpAny_bind (wpAny_seqItems t5 rfl (wpAny_bind (wpAny_newTuple ?_)))
  have sz : g5.objs.size = s.heap.objs.size := by rw [b5.1, b4.1, b3.1, b2.1, b1.1]
  have z5 : IsZipS g5 z TI TO .ellipsis := b5.extBut _ _ Z.TOz.symm (b4.extBut _ _ Z.i2z.symm (b3.extBut _ _ Z.TOz.symm (b2.extBut _ _ Z.i1z.symm z1)))
  have k5 : ∀ c o, c ≠ z → c ≠ TO → c ≠ i1 → c ≠ i2 → s.heap.get? c = some o → g5.get? c = some o := fun c o c1 c2 c3 c4 e =>
    b5.extBut _ _ c2 (b4.extBut _ _ c4 (b3.extBut _ _ c2 (b2.extBut _ _ c3 (b1.extBut _ _ c1 e))))
  have s15 : St1 (i + 1) g5 := up D1 (up D1 (up D1 s2 b3 Z.T1) b4 Z.a1) b5 Z.T1
  have s25 : St2 (i + 1) g5 := up D2 s4 b5 Z.T2
  have zl : z < g5.objs.size := Heap.lt_size z5
  show wpAny _ _ (Builtin.SmallTypes.ownedTupleHandOut (.ref z) (.ref g5.objs.size) >>= _) _ _ _
  refine wpAny_bind ?_
  unfold Builtin.SmallTypes.ownedTupleHandOut
  have z6 : IsZipS (g5.push { cls := .type "tuple", data := .seq #[x, y] }) z TI TO .ellipsis := Heap.get?_push_of_some _ z5
  refine wpAny_bind (wpAny_setField_rec z6 (by simp) fun g7 z7 b7 => ?_)
  have z7 : IsZipS g7 z TI TO (rawInt g5.objs.size) := z7
  refine wpAny_setField_rec z7 (by simp) fun g8 z8 b8 => ?_
  have z8 : IsZipS g8 z TI TO (rawInt g5.objs.size) := z8
  have k8 : ∀ c o, c ≠ z → g5.get? c = some o → g8.get? c = some o := fun c o c1 e => b8.extBut _ _ c1 (b7.extBut _ _ c1 (Heap.get?_push_of_some _ e))
  have T8 : IsPair g8 g5.objs.size x y := b8.extBut _ _ (Nat.ne_of_gt zl) (b7.extBut _ _ (Nat.ne_of_gt zl) (Heap.get?_push_size _ rfl))
  have sz8 : g8.objs.size = g5.objs.size + 1 := by rw [b8.1, b7.1, Heap.size_push]
  rw [sz] at z8 T8 sz8
  refine wpAny_pure ⟨_, rfl, ?_⟩
  show Q (.ref g5.objs.size) _
  rw [sz]
  refine hQ x y g8 _ px py z8 (k8 _ _ Z.TOz t5) (D1.frame _ _ _ s15 fun b hb o e => k8 b o (fun q => Z.z1 (q ▸ hb)) e) (D2.frame _ _ _ s25 fun b hb o e => k8 b o (fun q => Z.z2 (q ▸ hb)) e) T8 sz8 fun c o c1 c2 c3 c4 e => k8 c o c1 (k5 c o c1 c2 c3 c4 e)
theorem zipS_end {a b : Value} {Q : Fin → Shared → Prop} (hh : A.handled = none) (D1 : Draws prog w A i1 fp1 n P1 St1) (D2 : Draws prog w A i2 fp2 n P2 St2) (Z : ZApart z TI TO i1 i2 fp1 fp2) (hz : IsZipS s.heap z TI TO .none) (hTI : IsPair s.heap TI (.ref i1) (.ref i2)) (hTO : IsPair s.heap TO a b)
    (st1 : St1 n s.heap) (st2 : St2 n s.heap) (hE : ∀ h' e, (∀ c o, c ≠ z → c ≠ TO → c ≠ i1 → c ≠ i2 → s.heap.get? c = some o → h'.get? c = some o) → (∃ o, h'.get? e = some o ∧ o.cls = .type "StopIteration") → E (.ref e) { s with heap := h' }) :
    wpAny (model prog w) A (Builtin.«zip.__next__» ⟨[.ref z], []⟩) Q E s := by
  show wpAny _ _ (field (.ref z) 2 >>= _) _ _ _
  refine wpAny_bind (wpAny_field hz rfl (x := .bool true) rfl ?_)
  show wpAny _ _ (field (.ref z) 3 >>= _) _ _ _
  refine wpAny_bind (wpAny_field hz rfl (x := .ref TI) rfl (wpAny_bind (wpAny_seqItems hTI rfl ?_)))
  show wpAny _ _ (Builtin.SmallTypes.ownedTupleIsFree (.ref z) >>= _) _ _ _
  refine wpAny_bind ?_
  unfold Builtin.SmallTypes.ownedTupleIsFree
  refine wpAny_bind (wpAny_field hz rfl (x := .none) rfl (wpAny_pure ?_))
  simp only [if_true]
  refine wpAny_bind (wpAny_rule (wpAny_bind (wpAny_field hz rfl (x := .ref TO) rfl ?_)))
  refine wpAny_bind (wpAny_setField_rec hz (by simp) fun g1 z1 b1 => ?_)
  have z1 : IsZipS g1 z TI TO .ellipsis := z1
  refine wpAny_bind ?_
  simp only [List.zipIdx_cons, List.zipIdx_nil, List.forIn_cons, List.forIn_nil]
  refine wpAny_bind (wpAny_bind (wpAny_onRaise ?_))
  show wpAny _ _ (Builtin.SmallTypes.nextOrEnd (.ref i1)) _ _ _
  refine nextOrEnd_end D1 (D1.frame _ _ _ st1 fun c hc o e => (b1.2 c fun q => Z.z1 (q ▸ hc)).trans e) fun g2 b2 => ?_
  have z2 : IsZipS g2 z TI TO .ellipsis := b2 _ _ Z.i1z.symm z1
  show wpAny _ _ (setField (.ref z) 0 .none >>= _) _ _ _
  refine wpAny_bind (wpAny_setField_rec z2 (by simp) fun g3 z3 b3 => ?_)
  refine wpAny_bind ?_
  have s23 : St2 n g3 := D2.frame _ _ _ st2 fun c hc o e => (b3.2 c fun q => Z.z2 (q ▸ hc)).trans (b2 _ _ (fun q => Z.a2 (q ▸ hc)) ((b1.2 c fun q => Z.z2 (q ▸ hc)).trans e))
  k_delta "zipStrictEnd"
  simp only [gt_iff_lt, Nat.lt_irrefl, if_false, List.drop_succ_cons, List.drop_zero, List.zipIdx_cons, List.zipIdx_nil, List.forIn_cons, List.forIn_nil]
  refine wpAny_bind (wpAny_bind (wpAny_bind (nextOrEnd_end D2 s23 fun g4 b4 => ?_)))
  rw [if_neg (by decide)]
  refine wpAny_pure (wpAny_pure (wpAny_bind (wpAny_rule ?_)))
  have k4 : ∀ c o, c ≠ z → c ≠ TO → c ≠ i1 → c ≠ i2 → s.heap.get? c = some o → g4.get? c = some o := fun c o c1 c2 c3 c4 e => b4 _ _ c4 ((b3.2 c c1).trans (b2 _ _ c3 ((b1.2 c c1).trans e)))
  unfold Builtin.SmallTypes.stopIteration
  refine wpAny_bind ?_
  simp only [newExc, newTuple]
  refine wpAny_bind (wpAny_newObj_type ?_ (by size_fits))
  refine wpAny_bind (m := firstArgMember _ _) (wpAny_of_eq (a := Value.none) (by first | rfl | (simp only [firstArgMember]; rfl)) (wpAny_newObj_type ?_ (by size_fits)))
  simp only [raiseNew]
  refine wpAny_bind (wpAny_handled ?_)
  rw [hh]
  refine wpAny_bind (wpAny_pure (wpAny_throw ?_))
  exact hE _ _ (fun c o c1 c2 c3 c4 e => Heap.get?_push_of_some _ (Heap.get?_push_of_some _ (k4 c o c1 c2 c3 c4 e))) ⟨_, Heap.get?_push_size _ rfl, rfl⟩
theorem pyNext_zipS_item {a b : Value} {Q : Option Value → Shared → Prop} (D1 : Draws prog w A.in1 i1 fp1 n1 P1 St1) (D2 : Draws prog w A.in1 i2 fp2 n2 P2 St2) (Z : ZApart z TI TO i1 i2 fp1 fp2) (hz : IsZipS s.heap z TI TO .none) (hTI : IsPair s.heap TI (.ref i1) (.ref i2)) (hTO : IsPair s.heap TO a b)
    (st1 : St1 i s.heap) (st2 : St2 i s.heap) (l1 : i < n1) (l2 : i < n2)
    (hQ : ∀ x y h' tk, P1 i x → P2 i y → IsZipS h' z TI TO (rawInt s.heap.objs.size) → IsPair h' TO x y → St1 (i + 1) h' → St2 (i + 1) h' → IsPair h' s.heap.objs.size x y → h'.objs.size = s.heap.objs.size + 1 →
      (∀ c o, c ≠ z → c ≠ TO → c ≠ i1 → c ≠ i2 → s.heap.get? c = some o → h'.get? c = some o) → Q (some (.ref s.heap.objs.size)) { s with heap := h', toks := tk }) :
    wpAny (model prog w) A (pyNext (.ref z)) Q E s := by
  have hT : s.TypeIs (.ref z) "zip" := ⟨_, hz, rfl⟩
  unfold pyNext
  refine wpAny_bind (wpAny_attempt (wpAny_callSpecial?_slot (name := Str.ofString "__next__") hT F.slot_zip_next ?_))
  refine wpAny_call_entry F.slot_zip_next hT F.entry_zip_next (zipS_item D1 D2 Z hz hTI hTO st1 st2 l1 l2 fun x y h' tk q1 q2 q3 q4 q5 q6 q7 q8 q9 => ?_) (F.args_zip_next_1 _)
  exact wpAny_pure (hQ x y h' tk q1 q2 q3 q4 q5 q6 q7 q8 q9)
theorem pyNext_zipS_end {a b : Value} {Q : Option Value → Shared → Prop} (hh : A.handled = none) (D1 : Draws prog w A.in1 i1 fp1 n P1 St1) (D2 : Draws prog w A.in1 i2 fp2 n P2 St2) (Z : ZApart z TI TO i1 i2 fp1 fp2) (hz : IsZipS s.heap z TI TO .none) (hTI : IsPair s.heap TI (.ref i1) (.ref i2)) (hTO : IsPair s.heap TO a b)
    (st1 : St1 n s.heap) (st2 : St2 n s.heap) (hQ : ∀ h', (∀ c o, c ≠ z → c ≠ TO → c ≠ i1 → c ≠ i2 → s.heap.get? c = some o → h'.get? c = some o) → Q none { s with heap := h' }) :
    wpAny (model prog w) A (pyNext (.ref z)) Q E s := by
  have hT : s.TypeIs (.ref z) "zip" := ⟨_, hz, rfl⟩
  unfold pyNext
  refine wpAny_bind (wpAny_attempt (wpAny_callSpecial?_slot (name := Str.ofString "__next__") hT F.slot_zip_next ?_))
  refine wpAny_call_entry F.slot_zip_next hT F.entry_zip_next (zipS_end (A := A.in1) hh D1 D2 Z hz hTI hTO st1 st2 fun h' e hk he => ?_) (F.args_zip_next_1 _)
  obtain ⟨o, ho, hc⟩ := he
  refine wpAny_bind (wpAny_isInstance (T := "StopIteration") (b := true) ⟨o, ho, hc⟩ isSubtype_stop ?_)
  exact wpAny_pure (hQ _ hk)
end
/-! ### made -/
namespace Fz
theorem typeCall (a b c : Value) : checkTypeCall "zip" ⟨[a, b], [(Str.ofString "strict", c)]⟩ = pure () := by kernel_rfl
theorem newCall (a b c : Value) : checkBuiltinCall "zip.__new__" ⟨[.type "zip", a, b], [(Str.ofString "strict", c)]⟩ = pure () := by kernel_rfl
theorem args (obj a b c : Value) : argsOk "object.__init__" ⟨[obj, a, b], [(Str.ofString "strict", c)]⟩ := by unfold argsOk; kernel_rfl
end Fz
abbrev hz1 (h : Heap) (o1 : Obj) : Heap := h.push o1
abbrev hz2 (h : Heap) (o1 o2 : Obj) : Heap := (hz1 h o1).push o2
abbrev hz3 (h : Heap) (o1 o2 : Obj) : Heap := (hz2 h o1 o2).push { cls := .type "tuple", data := .seq #[.ref h.objs.size, .ref (hz1 h o1).objs.size] }
abbrev hz4 (h : Heap) (o1 o2 : Obj) : Heap := (hz3 h o1 o2).push { cls := .type "tuple", data := .seq #[.none, .none] }
abbrev hz5 (h : Heap) (o1 o2 : Obj) : Heap := (hz4 h o1 o2).push { cls := .type "zip", data := .fields #[.none, .bool false, .bool true, .ref (hz2 h o1 o2).objs.size, .ref (hz3 h o1 o2).objs.size] }
theorem meets_zipS_new {v1 v2 : Value} {o1 o2 : Obj} {H1 H2 : Heap → Prop} (B1 : Begins v1 o1 H1) (B2 : Begins v2 o2 H2) :
    Meets (Builtin.«zip.__new__» ⟨[.type "zip", v1, v2], [(Str.ofString "strict", .bool true)]⟩) (fun _ R s => H1 s.heap ∧ H2 s.heap ∧ R (.ok (.ret (.ref (hz4 s.heap o1 o2).objs.size))) { s with heap := hz5 s.heap o1 o2 }) :=
  .of_wp fun prog w A R s h => by
    obtain ⟨hp, g, d, tk, os⟩ := s
    obtain ⟨h1, h2, h⟩ := h
    have hsub := sub_zip
    have e1 : (Str.ofString "strict" != ("strict" : Str)) = false := by decide +kernel
    have q1 : ∀ {A' : Around} {E : Value → Shared → Prop} {Q : Value → Shared → Prop}, Q (.ref hp.objs.size) ⟨hp.push o1, g, d, tk, os⟩ → wpAny (model prog w) A' (pyIter v1) Q E ⟨hp, g, d, tk, os⟩ := fun q => B1.iter prog w _ _ ⟨hp, g, d, tk, os⟩ _ h1 q
    have h2' : H2 (hp.push o1) := B2.keeps _ _ h2 fun b o e => Heap.get?_push_of_some _ e
    have q2 : ∀ {A' : Around} {E : Value → Shared → Prop} {Q : Value → Shared → Prop}, Q (.ref (hp.push o1).objs.size) ⟨(hp.push o1).push o2, g, d, tk, os⟩ → wpAny (model prog w) A' (pyIter v2) Q E ⟨hp.push o1, g, d, tk, os⟩ := fun q => B2.iter prog w _ _ ⟨hp.push o1, g, d, tk, os⟩ _ h2' q
    wp_walk using q1, q2
    exact ⟨_, rfl, h⟩
end DL
/-! DLi: what loops walk: lists, tuples, texts, ranges, enumerate, zip. -/
namespace DL
open PySem PySem.Spec PyProof.Rows L2
section
variable {prog : Program} {w : World} {A : Around} {E : Value → Shared → Prop} {s : Shared}
theorem call_zipS {v1 v2 : Value} {o1 o2 : Obj} {H1 H2 : Heap → Prop} {Q : Value → Shared → Prop} (B1 : Begins v1 o1 H1) (B2 : Begins v2 o2 H2) (h1 : H1 s.heap) (h2 : H2 s.heap)
    (h : ∀ h', IsZipS h' (s.heap.objs.size + 4) (s.heap.objs.size + 2) (s.heap.objs.size + 3) .none → IsPair h' (s.heap.objs.size + 2) (.ref s.heap.objs.size) (.ref (s.heap.objs.size + 1)) →
      IsPair h' (s.heap.objs.size + 3) .none .none → h'.get? s.heap.objs.size = some o1 → h'.get? (s.heap.objs.size + 1) = some o2 → h'.objs.size = s.heap.objs.size + 5 →
      (∀ c o, s.heap.get? c = some o → h'.get? c = some o) → Q (.ref (s.heap.objs.size + 4)) { s with heap := h' }) :
    wpAny (model prog w) A (call (.type "zip") [v1, v2] [(Str.ofString "strict", .bool true)]) Q E s := by
  refine callType_newKw F.called_zip (by decide) (Fz.typeCall _ _ _) (Fz.newCall _ _ _) (fun obj => Fz.args obj _ _ _) F.entry_zip_new (meets_zipS_new B1 B2) ⟨h1, h2, ?_⟩
  have s1 : (hz1 s.heap o1).objs.size = s.heap.objs.size + 1 := Heap.size_push ..
  have s2 : (hz2 s.heap o1 o2).objs.size = s.heap.objs.size + 2 := by rw [Heap.size_push, s1]
  have s3 : (hz3 s.heap o1 o2).objs.size = s.heap.objs.size + 3 := by rw [Heap.size_push, s2]
  have s4 : (hz4 s.heap o1 o2).objs.size = s.heap.objs.size + 4 := by rw [Heap.size_push, s3]
  have s5 : (hz5 s.heap o1 o2).objs.size = s.heap.objs.size + 5 := by rw [Heap.size_push, s4]
  have g5 : (hz5 s.heap o1 o2).get? (hz4 s.heap o1 o2).objs.size = some _ := Heap.get?_push_size _ rfl
  have g4 : (hz5 s.heap o1 o2).get? (hz3 s.heap o1 o2).objs.size = some _ := Heap.get?_push_of_some _ (Heap.get?_push_size _ rfl)
  have g3 : (hz5 s.heap o1 o2).get? (hz2 s.heap o1 o2).objs.size = some _ := Heap.get?_push_of_some _ (Heap.get?_push_of_some _ (Heap.get?_push_size _ rfl))
  have g2 : (hz5 s.heap o1 o2).get? (hz1 s.heap o1).objs.size = some o2 := Heap.get?_push_of_some _ (Heap.get?_push_of_some _ (Heap.get?_push_of_some _ (Heap.get?_push_size _ B2.free)))
  have g1 : (hz5 s.heap o1 o2).get? s.heap.objs.size = some o1 := Heap.get?_push_of_some _ (Heap.get?_push_of_some _ (Heap.get?_push_of_some _ (Heap.get?_push_of_some _ (Heap.get?_push_size _ B1.free))))
  show _ ∧ _
  rw [s2, s3, s4] at g5
  rw [s1, s2] at g3
  rw [s3] at g4
  rw [s1] at g2
  rw [s4]
  exact ⟨⟨_, g5, rfl⟩, h _ g5 g3 g4 g1 g2 s5 fun c o x => Heap.get?_push_of_some _ (Heap.get?_push_of_some _ (Heap.get?_push_of_some _ (Heap.get?_push_of_some _ (Heap.get?_push_of_some _ x))))⟩
/-- enumerate(v) -/
theorem meets_enum1 {v : Value} {o : Obj} {H : Heap → Prop} (B : Begins v o H) :
    Meets (Builtin.«enumerate.__new__» ⟨[.type "enumerate", v], []⟩) (fun _ R s => H s.heap ∧
      R (.ok (.ret (.ref (s.heap.push o).objs.size))) { s with heap := (s.heap.push o).push { cls := .type "enumerate", data := .fields #[.none, .bool false, .ref s.heap.objs.size, rawInt 0, .none, .none] } }) :=
  .of_wp fun prog w A R s h => by
    obtain ⟨hp, g, d, tk, os⟩ := s
    obtain ⟨h1, h⟩ := h
    have hsub := sub_enumerate
    have q1 : ∀ {A' : Around} {E : Value → Shared → Prop} {Q : Value → Shared → Prop}, Q (.ref hp.objs.size) ⟨hp.push o, g, d, tk, os⟩ → wpAny (model prog w) A' (pyIter v) Q E ⟨hp, g, d, tk, os⟩ := fun q => B.iter prog w _ _ ⟨hp, g, d, tk, os⟩ _ h1 q
    wp_walk using q1
    refine wpAny_stack_any fun st => wpAny_pure ?_
    split
    · rename_i c _ _ _ _ _
      cases (c == Value.type "enumerate") <;> (wp_walk using q1; exact ⟨_, rfl, h⟩)
    · wp_walk using q1
      exact ⟨_, rfl, h⟩
theorem call_enum1 {v : Value} {o : Obj} {H : Heap → Prop} {Q : Value → Shared → Prop} (B : Begins v o H) (h1 : H s.heap)
    (h : ∀ h', IsEnum h' (s.heap.objs.size + 1) s.heap.objs.size 0 .none → h'.get? s.heap.objs.size = some o → h'.objs.size = s.heap.objs.size + 2 →
      (∀ b o, s.heap.get? b = some o → h'.get? b = some o) → Q (.ref (s.heap.objs.size + 1)) { s with heap := h' }) : wpAny (model prog w) A (call (.type "enumerate") [v]) Q E s := by
  refine callType_new F.called_enumerate (by decide) (F.typeCall_enumerate_1 _) (F.newCall_enumerate_1 _) (fun obj => F.args_object_init_2 obj _) F.entry_enumerate_new (meets_enum1 B) ⟨h1, ?_⟩
  have hz : (s.heap.push o).objs.size = s.heap.objs.size + 1 := Heap.size_push ..
  show _ ∧ _
  rw [hz]
  have he := Heap.get?_push_size (s.heap.push o) (o := { cls := .type "enumerate", data := .fields #[.none, .bool false, .ref s.heap.objs.size, rawInt 0, .none, .none] }) rfl
  rw [hz] at he
  exact ⟨⟨_, he, rfl⟩, h _ he (Heap.get?_push_of_some _ (Heap.get?_push_size _ B.free)) (by rw [Heap.size_push, hz]) fun b o x => Heap.get?_push_of_some _ (Heap.get?_push_of_some _ x)⟩
end

/-! ### enumerate of a tuple -/
def IteT (K : PySem.W.Frag) (a : Addr) : It :=
  ⟨fun i H => ∃ (xs : List V) (x : V), SqT K H a xs ∧ xs[i]? = some x, fun i H v H' => ∃ T x, v = .ref T ∧ H T = none ∧ H' = upd H T (.tup [.int (i : Nat), x]) ∧ ∀ xs, SqT K H a xs → xs[i]? = some x, fun i H => ∃ xs : List V, SqT K H a xs ∧ xs.length = i⟩
theorem isTup_tuple {h : Heap} {a : Addr} {xs : Array Value} (p : IsTup h a xs) : h.IsTuple a xs := p
theorem turn_enumT {P : Program} {w : World} {K : PySem.W.Frag} {elts : List Expr} {kk : Nat} {tpos : Pos} (a e it : Addr) :
    Turn P w K (.Tuple elts kk tpos) (IteT K a) [e, it] e (fun i h => (∃ old, IsEnum h e it ((i : Nat) : Int) old) ∧ h.IsTupleIter it a i ∧ e ≠ it ∧ a ≠ it ∧ e ≠ a) where
  mem := by simp
  obj := fun i h st b hb => by
    obtain ⟨⟨old, he⟩, ⟨o, ho, hc, hd⟩, _⟩ := st
    rcases (show b = e ∨ b = it by simpa using hb) with z | z
    · rw [z]; exact ⟨_, he, fun v q => nomatch q⟩
    · rw [z]; exact ⟨o, ho, fun v q => by rw [hd] at q; cases q⟩
  keep := fun i h h' st k => let ⟨⟨old, he⟩, hi, hne⟩ := st; ⟨⟨old, k e (by simp) _ he⟩, hi.at fun o q => k it (by simp) o q, hne⟩
  item := by
    intro X hP hw hK hc i pins s σ H E I hf st hg
    subst hP hw hK
    obtain ⟨⟨old, he⟩, hit, hne, hne2, hne3⟩ := st
    obtain ⟨xs, x, hq, hx⟩ := hg
    obtain ⟨its, rv, p, hz⟩ := I.tuple hq
    have hl := rv.length
    have hi : i < its.toArray.size := by
      have := (List.getElem?_eq_some_iff.mp hx).1
      simp; omega
    have hel : e < s.heap.objs.size := Heap.lt_size he
    have hil : it < s.heap.objs.size := by obtain ⟨_, q, _⟩ := hit; exact Heap.lt_size q
    have hD := Draws.tuple (prog := X.prog) (w := X.w) (A := X.A.in1) (I.ok.hd hc) it a hne2 its.toArray
    refine wpAny_pyNext_enum_itemD hD he ⟨hit, isTup_tuple p⟩ hi hne (by simp [hne, hne3]) fun u h' tk hu ho hst' hT hsz hk => ?_
    refine ⟨_, rfl, wpAny_letOwnedTupleGo_enum (s := { s with heap := h', toks := tk + 1 }) ho fun h'' he' sb => ?_⟩
    obtain ⟨u', hu', ru⟩ := rv.get hx
    have eu : u = u' := by
      have : its.toArray[i]? = some u := hu
      rw [List.getElem?_toArray, hu'] at this
      exact (Option.some.inj this).symm
    subst eu
    have hT2 : h''.get? s.heap.objs.size = some { cls := .type "tuple", data := .seq #[.int i tk, u] } := (sb.2 _ (Nat.ne_of_gt hel)).trans hT
    have new : ObjOk X.prog X.w (upd H s.heap.objs.size (.tup [.int (i : Nat), x])) h'' s.heap.objs.size (.tup [.int (i : Nat), x]) :=
      ⟨by show 2 ≤ sizeLine; decide, [.int i tk, u], .cons ⟨_, rfl⟩ (.cons ru .nil), ⟨_, hT2, rfl, _, rfl⟩⟩
    have I1 : Inv X pins σ (upd H s.heap.objs.size (.tup [.int (i : Nat), x])) { s with heap := h'', toks := tk + 1 } :=
      I.turnedNew (ch := [e, it]) (fun b ob hb q => (sb.2 b (fun z => hb (by simp [z]))).trans (hk b ob (fun z => hb (by simp [z])) (fun z => hb (by simp [z])) q)) hf (Nat.le_refl _) new
    refine ⟨.ref s.heap.objs.size, _, I1, rfl, ⟨_, x, rfl, I.hok.fresh (Nat.le_refl _), rfl, fun ys hy => by rw [I.tuple_inj hy hq]; exact hx⟩, ⟨⟨u, ?_⟩, hst'.1.at fun o q => (sb.2 it (Ne.symm hne)).trans q, hne, hne2, hne3⟩, fun b hb => ?_⟩
    · have e1 : ((i + 1 : Nat) : Int) = (i : Int) + 1 := by omega
      rw [e1]; exact he'
    · have hb' : b < s.heap.objs.size := by
        rcases (show b = e ∨ b = it by simpa using hb) with z | z
        · rw [z]; exact hel
        · rw [z]; exact hil
      rw [upd_ne (Nat.ne_of_lt hb')]
      exact (hf b hb).1
  done := by
    intro X hP hw hK hc i pins s σ H E I hf st hg
    subst hP hw hK
    obtain ⟨⟨old, he⟩, hit, hne, hne2, hne3⟩ := st
    obtain ⟨xs, hq, hx⟩ := hg
    obtain ⟨its, rv, p, hz⟩ := I.tuple hq
    obtain ⟨f0, f1, f2, f3, f4, f5⟩ := hf it (by simp)
    have hl := rv.length
    have hD := Draws.tuple (prog := X.prog) (w := X.w) (A := X.A.in1) (I.ok.hd hc) it a hne2 its.toArray
    have hi : its.toArray.size = i := by simp; omega
    exact wpAny_pyNext_enum_endD hD he (by rw [hi]; exact ⟨hit, isTup_tuple p⟩) fun h' eb => ⟨rfl, I.turned (t' := s.toks) (fun b o hb q => eb b o hb q) f0 f1 f3 f4 f5⟩
  self := fun A i s Q E st h => let ⟨⟨_, he⟩, _⟩ := st; wpAny_pyIter_enum he h

/-! ### zip(.., strict=True) of tuples -/
/-- a list, or a tuple -/
def SqK (k : Bool) (K : PySem.W.Frag) (H : Hp) (a : Addr) (xs : List V) : Prop := match k with
  | true => SqL K H a xs
  | false => SqT K H a xs
def ItK (k : Bool) (h : Heap) (it a : Addr) (i : Nat) : Prop := match k with
  | true => h.IsListIter it a i
  | false => h.IsTupleIter it a i
def ObK (k : Bool) (h : Heap) (a : Addr) (its : Array Value) : Prop := match k with
  | true => h.IsList a its
  | false => h.IsTuple a its
def oK (k : Bool) (a : Addr) : Obj := match k with
  | true => { cls := .type "list_iterator", data := .fields #[.ref a, .int 0 0] }
  | false => { cls := .type "tuple_iterator", data := .fields #[.ref a, .int 0 0] }
theorem ItK.obj {k : Bool} {h : Heap} {it a : Addr} {i : Nat} (p : ItK k h it a i) : ∃ o, h.get? it = some o ∧ ∀ v, o.data ≠ .cell v := by
  cases k <;> (obtain ⟨o, e, _, d⟩ := p; exact ⟨o, e, fun v q => by rw [d] at q; cases q⟩)
theorem ItK.at {k : Bool} {h h' : Heap} {it a : Addr} {i : Nat} (p : ItK k h it a i) (c : ∀ o, h.get? it = some o → h'.get? it = some o) : ItK k h' it a i := by
  cases k
  · exact Heap.IsTupleIter.at (show h.IsTupleIter it a i from p) c
  · exact Heap.IsListIter.at (show h.IsListIter it a i from p) c
theorem drawsK {prog : Program} {w : World} {A : Around} (k : Bool) (hh : A.handled = none) (it t : Addr) (hne : t ≠ it) (items : Array Value) : Draws prog w A it [it, t] items.size (fun i v => items[i]? = some v) (fun i h => ItK k h it t i ∧ ObK k h t items) := by
  cases k
  · exact Draws.tuple hh it t hne items
  · exact Draws.list hh it t hne items
theorem beginsK (k : Bool) (t : Addr) (items : Array Value) : Begins (.ref t) (oK k t) fun h => ObK k h t items := by
  cases k
  · exact begins_tuple t items
  · exact begins_list t items
theorem oK_it {k : Bool} {h : Heap} {it a : Addr} (e : h.get? it = some (oK k a)) : ItK k h it a 0 := by
  cases k
  · exact ⟨_, e, rfl, rfl⟩
  · exact ⟨_, e, rfl, rfl⟩
theorem ObK.lt {k : Bool} {h : Heap} {a : Addr} {its : Array Value} (p : ObK k h a its) : a < h.objs.size := by
  cases k
  · obtain ⟨o, e, _⟩ := (show h.IsTuple a its from p); exact Heap.lt_size e
  · obtain ⟨o, e, _⟩ := (show h.IsList a its from p); exact Heap.lt_size e
theorem sqK_vals {X : Cx} {pins : List (Addr × Obj)} {σ : L2.St} {H : Hp} {s : Shared} {k : Bool} {a : Addr} {xs : List V} (I : Inv X pins σ H s) (q : SqK k X.K H a xs) : ∃ its : List Value, Vals xs its ∧ ObK k s.heap a its.toArray := by
  cases k
  · obtain ⟨its, rv, p, _⟩ := I.tuple (show SqT X.K H a xs from q); exact ⟨its, rv, isTup_tuple p⟩
  · obtain ⟨its, rv, p, _⟩ := I.list (show SqL X.K H a xs from q); exact ⟨its, rv, p.isList⟩
theorem sqK_inj {X : Cx} {pins : List (Addr × Obj)} {σ : L2.St} {H : Hp} {s : Shared} {k : Bool} {a : Addr} {xs ys : List V} (I : Inv X pins σ H s) (q : SqK k X.K H a xs) (q' : SqK k X.K H a ys) : xs = ys := by
  cases k
  · exact I.tuple_inj q q'
  · exact I.list_inj q q'
theorem letGo_zipS {prog : Program} {w : World} {A : Around} {E : Value → Shared → Prop} {s : Shared} {elts : List Expr} {x1} {pos : Pos} {z TI TO T : Addr} {Q : Unit → Shared → Prop} (hz : IsZipS s.heap z TI TO (rawInt T))
    (hQ : ∀ h', IsZipS h' z TI TO .none → Heap.SameBut z s.heap h' → Q () { s with heap := h' }) : wpAny (model prog w) A (letOwnedTupleGo (.Tuple elts x1 pos) (.ref z) (.ref T)) Q E s := by
  unfold letOwnedTupleGo
  refine wpAny_bind (wpAny_load hz ?_)
  have e0 : (#[rawInt T, .bool false, .bool true, .ref TI, .ref TO] : Array Value)[0]? == some (rawInt T) := by simp
  show wpAny _ _ (if (_ && (#[rawInt T, .bool false, .bool true, .ref TI, .ref TO] : Array Value)[0]? == some (rawInt T)) = true then _ else _) Q E s
  rw [e0, if_pos (by simp)]
  exact wpAny_bind (wpAny_rule (wpAny_setField_rec hz (by simp) fun h' hz' hs' => hQ h' hz' hs'))
theorem iter_zipS {prog : Program} {w : World} {A : Around} {E : Value → Shared → Prop} {s : Shared} {z TI TO : Addr} {f0 : Value} {Q : Value → Shared → Prop} (hz : IsZipS s.heap z TI TO f0) (h : Q (.ref z) s) : wpAny (model prog w) A (pyIter (.ref z)) Q E s := by
  have isz : s.TypeIs (.ref z) "zip" := ⟨_, hz, rfl⟩
  exact wpAny_pyIter_slot isz F.slot_zip_iter (wpAny_call_entry F.slot_zip_iter isz F.entry_zip_iter (wpAny_pure (a := Fin.done (.ret (.ref z))) ⟨_, rfl, "zip", _, isz, F.slot_zip_next.lookup, h⟩) (F.args_zip_iter_1 _))
def ItzS (ka kb : Bool) (K : PySem.W.Frag) (a b : Addr) : It :=
  ⟨fun i H => ∃ (xs ys : List V) (x y : V), SqK ka K H a xs ∧ SqK kb K H b ys ∧ xs[i]? = some x ∧ ys[i]? = some y,
    fun i H v H' => ∃ T x y, v = .ref T ∧ H T = none ∧ H' = upd H T (.tup [x, y]) ∧ (∀ xs, SqK ka K H a xs → xs[i]? = some x) ∧ ∀ ys, SqK kb K H b ys → ys[i]? = some y,
    fun i H => ∃ xs ys : List V, SqK ka K H a xs ∧ SqK kb K H b ys ∧ xs.length = i ∧ ys.length = i⟩
theorem turn_zipS {ka kb : Bool} {P : Program} {w : World} {K : PySem.W.Frag} {elts : List Expr} {kk : Nat} {tpos : Pos} {a b z TI TO i1 i2 : Addr} (Z : ZApart z TI TO i1 i2 [i1, a] [i2, b]) (n1 : a ≠ i1) (n2 : b ≠ i2) :
    Turn P w K (.Tuple elts kk tpos) (ItzS ka kb K a b) [z, TI, TO, i1, i2] z (fun i h => IsZipS h z TI TO .none ∧ IsPair h TI (.ref i1) (.ref i2) ∧ (∃ x y, IsPair h TO x y) ∧ ItK ka h i1 a i ∧ ItK kb h i2 b i) where
  mem := by simp
  obj := fun i h st c hc => by
    obtain ⟨hz, hTI, ⟨x, y, hTO⟩, h1, h2⟩ := st
    rcases (show c = z ∨ c = TI ∨ c = TO ∨ c = i1 ∨ c = i2 by simpa using hc) with q | q | q | q | q
    · rw [q]; exact ⟨_, hz, fun v q => nomatch q⟩
    · rw [q]; exact ⟨_, hTI, fun v q => nomatch q⟩
    · rw [q]; exact ⟨_, hTO, fun v q => nomatch q⟩
    · rw [q]; exact h1.obj
    · rw [q]; exact h2.obj
  keep := fun i h h' st k => by
    obtain ⟨hz, hTI, ⟨x, y, hTO⟩, h1, h2⟩ := st
    exact ⟨k z (by simp) _ hz, k TI (by simp) _ hTI, ⟨x, y, k TO (by simp) _ hTO⟩, h1.at fun o q => k i1 (by simp) o q, h2.at fun o q => k i2 (by simp) o q⟩
  item := by
    intro X hP hw hK hc i pins s σ H E I hf st hg
    subst hP hw hK
    obtain ⟨hz, hTI, ⟨x0, y0, hTO⟩, h1, h2⟩ := st
    obtain ⟨xs, ys, x, y, hqx, hqy, hx, hy⟩ := hg
    obtain ⟨its, rv, p⟩ := sqK_vals I hqx
    obtain ⟨its2, rv2, p2⟩ := sqK_vals I hqy
    have hzl : z < s.heap.objs.size := Heap.lt_size hz
    have l1 := rv.length
    have l2 := rv2.length
    have b1 := (List.getElem?_eq_some_iff.mp hx).1
    have b2 := (List.getElem?_eq_some_iff.mp hy).1
    have hcI : X.A.in1.handled = none := I.ok.hd hc
    refine pyNext_zipS_item (i := i) (drawsK (prog := X.prog) (w := X.w) (A := X.A.in1) ka hcI i1 a n1 its.toArray) (drawsK (prog := X.prog) (w := X.w) (A := X.A.in1) kb hcI i2 b n2 its2.toArray) Z hz hTI hTO
      ⟨h1, p⟩ ⟨h2, p2⟩ (by simp; omega) (by simp; omega)
      fun u u2 h' tk hu hu2 z' TO' st1' st2' hT hsz hk => ?_
    obtain ⟨u', hu', ru⟩ := rv.get hx
    have eu : u = u' := by
      have : its.toArray[i]? = some u := hu
      rw [List.getElem?_toArray, hu'] at this
      exact (Option.some.inj this).symm
    subst eu
    obtain ⟨u2', hu2', ru2⟩ := rv2.get hy
    have eu2 : u2 = u2' := by
      have : its2.toArray[i]? = some u2 := hu2
      rw [List.getElem?_toArray, hu2'] at this
      exact (Option.some.inj this).symm
    subst eu2
    refine ⟨_, rfl, letGo_zipS (s := { s with heap := h', toks := tk }) z' fun h'' z'' sb => ?_⟩
    have hT2 : h''.get? s.heap.objs.size = some { cls := .type "tuple", data := .seq #[u, u2] } := (sb.2 _ (Nat.ne_of_gt hzl)).trans hT
    have new : ObjOk X.prog X.w (upd H s.heap.objs.size (.tup [x, y])) h'' s.heap.objs.size (.tup [x, y]) :=
      ⟨by show 2 ≤ sizeLine; decide, [u, u2], .cons ru (.cons ru2 .nil), ⟨_, hT2, rfl, _, rfl⟩⟩
    have far : ∀ c o, c ∉ [z, TI, TO, i1, i2] → s.heap.get? c = some o → h''.get? c = some o := fun c o hb q =>
      (sb.2 c (fun q' => hb (by simp [q']))).trans (hk c o (fun q' => hb (by simp [q'])) (fun q' => hb (by simp [q'])) (fun q' => hb (by simp [q'])) (fun q' => hb (by simp [q'])) q)
    have I1 := I.turnedNew (t' := tk) (ch := [z, TI, TO, i1, i2]) far hf (Nat.le_refl _) new
    refine ⟨.ref s.heap.objs.size, _, I1, rfl, ⟨_, x, y, rfl, I.hok.fresh (Nat.le_refl _), rfl, fun l hl => by rw [sqK_inj I hl hqx]; exact hx, fun l hl => by rw [sqK_inj I hl hqy]; exact hy⟩, ⟨z'', (sb.2 _ Z.TIz).trans (hk _ _ Z.TIz Z.TITO Z.TIi1 Z.TIi2 hTI), ⟨u, u2, (sb.2 _ Z.TOz).trans TO'⟩, st1'.1.at fun o q => (sb.2 _ Z.i1z).trans q, st2'.1.at fun o q => (sb.2 _ Z.i2z).trans q⟩, fun c hcm => ?_⟩
    have hlt : c < s.heap.objs.size := by
      rcases (show c = z ∨ c = TI ∨ c = TO ∨ c = i1 ∨ c = i2 by simpa using hcm) with q | q | q | q | q
      · rw [q]; exact hzl
      · rw [q]; exact Heap.lt_size hTI
      · rw [q]; exact Heap.lt_size hTO
      · rw [q]; obtain ⟨_, e1, _⟩ := h1.obj; exact Heap.lt_size e1
      · rw [q]; obtain ⟨_, e2, _⟩ := h2.obj; exact Heap.lt_size e2
    rw [upd_ne (Nat.ne_of_lt hlt)]
    exact (hf c hcm).1
  done := by
    intro X hP hw hK hc i pins s σ H E I hf st hg
    subst hP hw hK
    obtain ⟨hz, hTI, ⟨x0, y0, hTO⟩, h1, h2⟩ := st
    obtain ⟨xs, ys, hqx, hqy, hl1, hl2⟩ := hg
    obtain ⟨its, rv, p⟩ := sqK_vals I hqx
    obtain ⟨its2, rv2, p2⟩ := sqK_vals I hqy
    have l1 := rv.length
    have l2 := rv2.length
    have hcI : X.A.in1.handled = none := I.ok.hd hc
    have D1 : Draws X.prog X.w X.A.in1 i1 [i1, a] i _ _ := (show its.toArray.size = i by simp; omega) ▸ drawsK (prog := X.prog) (w := X.w) (A := X.A.in1) ka hcI i1 a n1 its.toArray
    have D2 : Draws X.prog X.w X.A.in1 i2 [i2, b] i _ _ := (show its2.toArray.size = i by simp; omega) ▸ drawsK (prog := X.prog) (w := X.w) (A := X.A.in1) kb hcI i2 b n2 its2.toArray
    exact pyNext_zipS_end hcI D1 D2 Z hz hTI hTO ⟨h1, p⟩ ⟨h2, p2⟩ fun h' hk => ⟨rfl, I.turnedL (t' := s.toks) (ch := [z, TI, TO, i1, i2]) (fun c o hb q =>
      hk c o (fun q' => hb (by simp [q'])) (fun q' => hb (by simp [q'])) (fun q' => hb (by simp [q'])) (fun q' => hb (by simp [q'])) q) hf⟩
  self := fun A i s Q E st h => iter_zipS st.1 h
end DL
/-! DLj: the iterators as readings. -/
namespace DL
open PySem PySem.Spec PyProof.Rows L2
/-- the call of a built-in class with keywords -/
theorem cwTypeKw {M : Model} {A : Around} {E : Value → Shared → Prop} {s : Shared} {env : Env} {pos : Pos} {T : String} {e : Expr} {rest : List Expr} {kws : List Keyword} {Q : Value → Shared → Prop}
    (h : wpAny M A (spliced (backTo pos (starEach (e :: rest) env))) (fun vs s₁ => wpAny M A (evalAll ((backToKw pos (keywordEach kws env)).map (·.2)))
      (fun kvs s₂ => wpAny M A (call (.type T) vs (((backToKw pos (keywordEach kws env)).filterMap (·.1)).zip kvs)) Q E s₂) E s₁) E s)
    (he : backTo pos (starEach (e :: rest) env) = (false, eval e env) :: backTo pos (starEach rest env))
    (hp : (backTo pos (starEach (e :: rest) env)).any (·.1) = false)
    (ha : (backToKw pos (keywordEach kws env)).all (·.1.isSome) = true)
    (hk : (backToKw pos (keywordEach kws env)).any (·.1.isNone) = false) :
    wpAny M A (callWith pos (.type T) [] (backTo pos (starEach (e :: rest) env)) (backToKw pos (keywordEach kws env))) Q E s := by
  have main : wpAny M A (evalArgs (.type T) true (backTo pos (starEach (e :: rest) env)) (backToKw pos (keywordEach kws env))) (fun a s₁ => wpAny M A (call (.type T) ([] ++ a.pos) a.kw) Q E s₁) E s := by
    rw [he] at h ⊢
    exact evalArgs_kwB ha h
  unfold callWith
  refine wpAny_bind (wpAny_holding (wpAny_mono main (fun a s₁ h₁ => wpAny_bind (wpAny_standAt ?_)) fun _ _ x => x))
  simp only [hp, hk, Bool.or_false]
  refine wpAny_bind (wpAny_pure ?_)
  exact wpAny_bind (wpAny_mono h₁ (fun r s₂ hr => wpAny_bind (wpAny_holding (wpAny_point (wpAny_pure hr)))) fun _ _ x => x)

/-! ### what a thing hands out -/
open Classical in
noncomputable def liveM (h : DH) : DM → DH → Bool
  | .v (.ref n) => fun h' => decide (h'[n]? = h[n]?)
  | _ => fun _ => true
def DM.items (h : DH) : DM → Option (List D)
  | .v (.str z) => some (z.cps.toList.map fun c => .str ⟨#[c]⟩)
  | m => m.seq h
/-- a list or a tuple that stays -/
def Stays (g : Gm) (ρ : List Addr) (H : Hp) (k : Bool) (a : Addr) (ds : List D) (live : DH → Bool) : Prop :=
  ∀ ρ' h' H', Ext ρ H ρ' H' → RH g ρ' h' H' → live h' = true → ∃ vs, SqK k g.K H' a vs ∧ RDs g ρ' H' ds vs
theorem stays {g : Gm} {ρ : List Addr} {h : DH} {H : Hp} {m : DM} {v : V} {ds : List D} (R : RH g ρ h H) (e : m.seq h = some ds) (r : RM g ρ H m v) : ∃ a k, v = .ref a ∧ (∃ vs, SqK k g.K H a vs) ∧ Stays g ρ H k a ds (liveM h m) := by
  cases m with
  | l es =>
    simp only [DM.seq, Option.some.injEq] at e
    subst e
    obtain ⟨a, vs, e1, ea, na, r⟩ := r
    exact ⟨a, true, e1, ⟨vs, SqL.of ea⟩, fun ρ' h' H' x R' _ => ⟨vs, SqL.of (x.frm a _ ea na), r.mono x R⟩⟩
  | v d =>
    have r' : RD g ρ H d v := r
    cases d with
    | tup es =>
      simp only [DM.seq, Option.some.injEq] at e
      subst e
      simp only [RD] at r'
      obtain ⟨a, vs, e1, s, r⟩ := r'
      exact ⟨a, false, e1, ⟨vs, s⟩, fun ρ' h' H' x R' _ => ⟨vs, x.sqT R s, r.mono x R⟩⟩
    | rol es =>
      simp only [DM.seq, asList, Option.some.injEq] at e
      subst e
      simp only [RD] at r'
      obtain ⟨a, vs, e1, s, r⟩ := r'
      exact ⟨a, true, e1, ⟨vs, s.sq⟩, fun ρ' h' H' x R' _ => ⟨vs, (x.roL R s).sq, r.mono x R⟩⟩
    | ref n =>
      simp only [RD] at r'
      obtain ⟨a, e1, e2⟩ := r'
      have e' : asList h (.ref n) = some ds := e
      obtain ⟨a', vs, e3, s, r⟩ := asList_sq R e' (show RD g ρ H (.ref n) v by simp only [RD]; exact ⟨a, e1, e2⟩)
      refine ⟨a', true, e3, ⟨vs, s⟩, fun ρ' h' H' x R' lv => ?_⟩
      have lv' : h'[n]? = h[n]? := by
        classical
        simpa [liveM] using lv
      have e4 : asList h' (.ref n) = some ds := by simp only [asList] at e' ⊢; rw [lv']; exact e'
      have e5 : RD g ρ' H' (.ref n) v := by simp only [RD]; exact ⟨a, e1, x.get e2⟩
      obtain ⟨a2, vs2, e6, s2, r2⟩ := asList_sq R' e4 e5
      rw [e6] at e3
      cases e3
      exact ⟨vs2, s2, r2⟩
    | _ => simp [DM.seq, asList] at e
theorem RDs.at {g : Gm} {ρ : List Addr} {H : Hp} {ds : List D} {vs : List V} (r : RDs g ρ H ds vs) {i : Nat} {d : D} (e : ds[i]? = some d) : ∃ v, vs[i]? = some v ∧ RD g ρ H d v := by
  induction ds generalizing vs i with
  | nil => simp at e
  | cons c cs ih =>
    simp only [RDs] at r
    obtain ⟨v, t, e1, r1, r2⟩ := r
    subst e1
    cases i with
    | zero => simp only [List.getElem?_cons_zero, Option.some.injEq] at e; subst e; exact ⟨v, by simp, r1⟩
    | succ i => simp only [List.getElem?_cons_succ] at e ⊢; exact ih r2 e
theorem at_none {α : Type} {xs : List α} {i : Nat} (h : xs.length ≤ i) : xs[i]? = none := List.getElem?_eq_none h
def ItA (k : Bool) (K : PySem.W.Frag) (a : Addr) : It := match k with
  | true => Itl K a
  | false => Itt K a
theorem serves_seq {g : Gm} {ρ : List Addr} {H : Hp} {k : Bool} {a : Addr} {ds : List D} {live : DH → Bool} (S : Stays g ρ H k a ds live) : Serves g (ItA k g.K a) ρ H ds live := fun i ρ' h' H' x R' lv => by
  obtain ⟨vs, s, r⟩ := S ρ' h' H' x R' lv
  have el := r.length
  refine ⟨fun d e => ?_, fun hl => ?_⟩
  · obtain ⟨v, ev, rv⟩ := r.at e
    cases k
    · exact ⟨⟨vs, v, s, ev⟩, fun u H2 y => by
        obtain ⟨rfl, y⟩ := y
        have := y vs s
        rw [ev] at this; cases this
        exact ⟨Ext.refl _ _, R', rv⟩⟩
    · exact ⟨⟨vs, v, s, ev⟩, fun u H2 y => by
        obtain ⟨rfl, y⟩ := y
        have := y vs s
        rw [ev] at this; cases this
        exact ⟨Ext.refl _ _, R', rv⟩⟩
  · cases k <;> exact ⟨vs, s, by omega⟩
/-- pairs (number, item) -/
def numd : List D → List D := fun ds => ds.zipIdx.map fun p => .tup [.int (p.2 : Nat), p.1]
theorem numd_at {ds : List D} {i : Nat} {x : D} (e : (numd ds)[i]? = some x) : ∃ d, ds[i]? = some d ∧ x = .tup [.int (i : Nat), d] := by
  unfold numd at e
  rw [List.getElem?_map, List.getElem?_zipIdx] at e
  cases z : ds[i]? with
  | none => rw [z] at e; cases e
  | some d => rw [z] at e; simp at e; exact ⟨d, rfl, e.symm⟩
def ItEn (k : Bool) (K : PySem.W.Frag) (a : Addr) : It := match k with
  | true => Ite K a
  | false => IteT K a
theorem pairRD {g : Gm} {ρ : List Addr} {h : DH} {H : Hp} {d c : D} {v u : V} {T : Addr} (R : RH g ρ h H) (hT : H T = none) (r : RD g ρ H d v) (r' : RD g ρ H c u) :
    Ext ρ H ρ (upd H T (.tup [v, u])) ∧ RH g ρ h (upd H T (.tup [v, u])) ∧ RD g ρ (upd H T (.tup [v, u])) (.tup [d, c]) (.ref T) := by
  refine ⟨Ext.tup hT, R.tup hT, ?_⟩
  simp only [RD]
  refine ⟨T, [v, u], rfl, SqT.of upd_same, ?_⟩
  simp only [RDs]
  exact ⟨v, [u], rfl, r.mono (Ext.tup hT) R, u, [], rfl, r'.mono (Ext.tup hT) R, rfl⟩
theorem serves_enum {g : Gm} {ρ : List Addr} {H : Hp} {k : Bool} {a : Addr} {ds : List D} {live : DH → Bool} (S : Stays g ρ H k a ds live) : Serves g (ItEn k g.K a) ρ H (numd ds) live := fun i ρ' h' H' x R' lv => by
  obtain ⟨vs, s, r⟩ := S ρ' h' H' x R' lv
  have el := r.length
  have en : (numd ds).length = ds.length := by simp [numd]
  refine ⟨fun d e => ?_, fun hl => ?_⟩
  · obtain ⟨c, ec, e2⟩ := numd_at e
    subst e2
    obtain ⟨v, ev, rv⟩ := r.at ec
    cases k
    · exact ⟨⟨vs, v, s, ev⟩, fun u H2 y => by
        obtain ⟨T, w, rfl, hT, rfl, y⟩ := y
        have := y vs s
        rw [ev] at this; cases this
        exact pairRD R' hT (by simp [RD]) rv⟩
    · exact ⟨⟨vs, v, s, ev⟩, fun u H2 y => by
        obtain ⟨T, w, rfl, hT, rfl, y⟩ := y
        have := y vs s
        rw [ev] at this; cases this
        exact pairRD R' hT (by simp [RD]) rv⟩
  · cases k <;> exact ⟨vs, s, by omega⟩
def zipd : List D → List D → List D
  | x :: xs, y :: ys => .tup [x, y] :: zipd xs ys
  | _, _ => []
theorem zipd_len : ∀ {xs ys : List D}, xs.length = ys.length → (zipd xs ys).length = xs.length
  | [], _, _ => rfl
  | _ :: _, [], h => by cases h
  | x :: xs, y :: ys, h => by simp only [zipd, List.length_cons]; rw [zipd_len (by simpa using h)]
theorem zipd_at : ∀ {xs ys : List D} {i : Nat} {z : D}, (zipd xs ys)[i]? = some z → ∃ x y, xs[i]? = some x ∧ ys[i]? = some y ∧ z = .tup [x, y]
  | [], _, i, z, e => by simp [zipd] at e
  | _ :: _, [], i, z, e => by simp [zipd] at e
  | x :: xs, y :: ys, 0, z, e => by simp [zipd] at e; exact ⟨x, y, rfl, rfl, e.symm⟩
  | x :: xs, y :: ys, i + 1, z, e => by simp only [zipd, List.getElem?_cons_succ] at e ⊢; exact zipd_at e
theorem serves_zip {g : Gm} {ρ : List Addr} {H : Hp} {k k' : Bool} {a a' : Addr} {ds ds' : List D} {live live' : DH → Bool} (hl : ds.length = ds'.length) (S : Stays g ρ H k a ds live) (S' : Stays g ρ H k' a' ds' live') :
    Serves g (ItzS k k' g.K a a') ρ H (zipd ds ds') (fun h => live h && live' h) := fun i ρ' h' H' x R' lv => by
  rw [Bool.and_eq_true] at lv
  obtain ⟨vs, s, r⟩ := S ρ' h' H' x R' lv.1
  obtain ⟨us, s', r'⟩ := S' ρ' h' H' x R' lv.2
  have el := r.length
  have el' := r'.length
  refine ⟨fun d e => ?_, fun hi => ?_⟩
  · obtain ⟨c, c', ec, ec', e2⟩ := zipd_at e
    subst e2
    obtain ⟨v, ev, rv⟩ := r.at ec
    obtain ⟨u, eu, ru⟩ := r'.at ec'
    exact ⟨⟨vs, us, v, u, s, s', ev, eu⟩, fun t H2 y => by
      obtain ⟨T, w, w', rfl, hT, rfl, y, y'⟩ := y
      have := y vs s
      rw [ev] at this; cases this
      have := y' us s'
      rw [eu] at this; cases this
      exact pairRD R' hT rv ru⟩
  · rw [zipd_len hl] at hi
    exact ⟨vs, us, s, s', by omega, by omega⟩

/-! ### the machine begins to walk -/
section
variable {X : Cx} {tg : Expr}
def iSq (K : PySem.W.Frag) (tl : TE) : TI := fun σ H R => tl σ H fun x H1 => (∃ k a, x = .ref a ∧ (∃ xs, SqK k K H1 a xs) ∧ R (ItA k K a) H1) ∨ ∃ z, x = .str z ∧ R (Its z) H1
theorem i_sq {l : Expr} {tl : TE} (hl : PE X l tl) : PI X tg l (iSq X.K tl) := by
  refine ⟨fun pins s σ H R I h => ?_⟩
  refine thn (hl.run pins s σ H _ I h) fun v s1 ⟨x, H1, I1, r1, q1⟩ => ?_
  rcases q1 with ⟨k, a, e, ⟨xs, hq⟩, q⟩ | ⟨z, e, q⟩
  · subst e
    cases r1
    cases k
    · obtain ⟨its, rv, p, hz⟩ := I1.tuple (show SqT X.K H1 a xs from hq)
      exact wpAny_pyIter_tuple (isTup_tuple p) (pi_one (tk := s1.toks) I1 _ (turn_tuple a _) ⟨_, Heap.get?_push_size _ rfl, rfl, rfl⟩ q)
    · obtain ⟨its, rv, p, hz⟩ := I1.list (show SqL X.K H1 a xs from hq)
      exact wpAny_pyIter_list p.isList (pi_one (tk := s1.toks) I1 _ (turn_list a _) ⟨_, Heap.get?_push_size _ rfl, rfl, rfl⟩ q)
  · subst e
    obtain ⟨t, rfl⟩ := r1
    cases ha : z.cps.all (· < 128)
    · exact wpAny_pyIter_wide ha (pi_one (tk := s1.toks) I1 _ (turn_str _ z t "str_iterator" (.inr rfl)) ⟨_, Heap.get?_push_size _ rfl, rfl, rfl⟩ q)
    · exact wpAny_pyIter_ascii ha (pi_one (tk := s1.toks) I1 _ (turn_str _ z t "str_ascii_iterator" (.inl rfl)) ⟨_, Heap.get?_push_size _ rfl, rfl, rfl⟩ q)
def iEnA (K : PySem.W.Frag) (ta : TA) : TI := fun σ H R => ta σ H fun vs H1 => ∃ k a xs, vs = [.ref a] ∧ SqK k K H1 a xs ∧ R (ItEn k K a) H1
theorem i_enA {e : Expr} {ta : TA} {p pos tpos : Pos} {elts : List Expr} {kk : Nat} (hg : Gl X "enumerate") (hm : X.mg "enumerate" = none) (ha : PA X [e] ta) (hs : starEach [e] X.env = [(false, eval e X.env)]) :
    PI X (.Tuple elts kk tpos) (.Call (.Name "enumerate" p) [e] [] pos) (iEnA X.K ta) := by
  refine ⟨fun pins s σ H R I h => ?_⟩
  refine Call_ (ld_blt I hg hm boot_enumerate (PyProof.Rows.callWith_type1 (thn (ha.run pos pins s σ H _ I h) fun us s1 ⟨vs, H1, I1, r1, q1⟩ => ?_) hs rfl))
  obtain ⟨k, a, xs, ex, hq, q⟩ := q1
  subst ex
  cases r1 with
  | cons r rr =>
    cases rr
    cases r
    obtain ⟨its, rv, p'⟩ := sqK_vals I1 hq
    refine call_enum1 (beginsK k a its.toArray) p' fun h' he ho hsz hk => wpAny_pyIter_enum he ?_
    have I2 : Inv X pins σ H1 { s1 with heap := h' } := I1.kept (t' := s1.toks) hk
    have fr : ∀ b ∈ [s1.heap.objs.size + 1, s1.heap.objs.size], FpOk X pins H1 b := fun b hb => by
      have hle : s1.heap.objs.size ≤ b := by
        have hb' : b = s1.heap.objs.size + 1 ∨ b = s1.heap.objs.size := by simpa using hb
        rcases hb' with z | z
        · rw [z]; exact Nat.le_add_right _ _
        · rw [z]; exact Nat.le_refl _
      exact I1.fpOk hle (I1.hok.fresh hle)
    have la := p'.lt
    cases k
    · exact ⟨s1.heap.objs.size + 1, [s1.heap.objs.size + 1, s1.heap.objs.size], _, _, H1, rfl, I2, turn_enumT a (s1.heap.objs.size + 1) s1.heap.objs.size, ⟨⟨.none, he⟩, oK_it (k := false) ho, Nat.succ_ne_self _, Nat.ne_of_lt la, Nat.ne_of_gt (Nat.lt_succ_of_lt la)⟩, fr, q⟩
    · exact ⟨s1.heap.objs.size + 1, [s1.heap.objs.size + 1, s1.heap.objs.size], _, _, H1, rfl, I2, turn_enum a (s1.heap.objs.size + 1) s1.heap.objs.size, ⟨⟨.none, he⟩, oK_it (k := true) ho, Nat.succ_ne_self _⟩, fr, q⟩
theorem nNe {x y : Nat} (h : ¬ x = y) : (x : Addr) ≠ y := h
theorem nIn {x y z : Nat} (h : ¬ x = y) (h' : ¬ x = z) : (x : Addr) ∉ ([y, z] : List Addr) := by simp [h, h']
theorem zApart (N a b : Nat) (la : a < N) (lb : b < N) : ZApart (N + 4) (N + 2) (N + 3) N (N + 1) [N, a] [N + 1, b] := by
  constructor <;> first | (refine nNe ?_; omega) | (refine nIn ?_ ?_ <;> omega)
def iZsA (K : PySem.W.Frag) (ta : TA) : TI := fun σ H R => ta σ H fun vs H1 => ∃ k k' a b xs ys, vs = [.ref a, .ref b] ∧ SqK k K H1 a xs ∧ SqK k' K H1 b ys ∧ R (ItzS k k' K a b) H1
theorem i_zsA {e e2 : Expr} {ta : TA} {p pos tpos kp cp : Pos} {elts : List Expr} {kk n : Nat} (hg : Gl X "zip") (hm : X.mg "zip" = none) (ha : PA X [e, e2] ta)
    (hs : backTo pos (starEach (e :: [e2]) X.env) = (false, eval e X.env) :: backTo pos (starEach [e2] X.env)) (hpl : (backTo pos (starEach (e :: [e2]) X.env)).any (·.1) = false) :
    PI X (.Tuple elts kk tpos) (.Call (.Name "zip" p) [e, e2] [⟨some "strict", .Constant (.bool true) n cp, kp⟩] pos) (iZsA X.K ta) := by
  refine ⟨fun pins s σ H R I h => ?_⟩
  refine wpAny_Call_Name_kw (ld_blt I hg hm PyProof.Rows.boot_zip ?_)
  refine cwTypeKw (thn (ha.run pos pins s σ H _ I h) fun us s1 ⟨vs, H1, I1, r1, q1⟩ => kws_cons ?_) hs hpl (by rfl) (by rfl)
  refine wpAny_pure (evalAll_nil ?_)
  show wpAny _ _ (call (.type "zip") us [(Str.ofString "strict", .bool true)]) _ _ _
  obtain ⟨k, k', a, b, xs, ys, ex, hq, hq', q⟩ := q1
  subst ex
  cases r1 with
  | cons r rr =>
    cases rr with
    | cons r' rr =>
      cases rr
      cases r
      cases r'
      obtain ⟨its, rv, p1⟩ := sqK_vals I1 hq
      obtain ⟨its2, rv2, p2⟩ := sqK_vals I1 hq'
      have la := p1.lt
      have lb := p2.lt
      refine call_zipS (beginsK k a its.toArray) (beginsK k' b its2.toArray) p1 p2 fun h' hz hTI hTO h1 h2 hsz hk => iter_zipS hz ?_
      have I2 : Inv X pins σ H1 { s1 with heap := h' } := I1.kept (t' := s1.toks) hk
      have fr : ∀ c ∈ [s1.heap.objs.size + 4, s1.heap.objs.size + 2, s1.heap.objs.size + 3, s1.heap.objs.size, s1.heap.objs.size + 1], FpOk X pins H1 c := fun c hc => by
        have hle : s1.heap.objs.size ≤ c := by
          have hc' : c = s1.heap.objs.size + 4 ∨ c = s1.heap.objs.size + 2 ∨ c = s1.heap.objs.size + 3 ∨ c = s1.heap.objs.size ∨ c = s1.heap.objs.size + 1 := by simpa using hc
          generalize s1.heap.objs.size = N at hc' ⊢
          have hc2 : (c : Nat) = N + 4 ∨ (c : Nat) = N + 2 ∨ (c : Nat) = N + 3 ∨ (c : Nat) = N ∨ (c : Nat) = N + 1 := hc'
          show (N : Nat) ≤ (c : Nat)
          omega
        exact I1.fpOk hle (I1.hok.fresh hle)
      have Z := zApart s1.heap.objs.size a b la lb
      exact ⟨s1.heap.objs.size + 4, [s1.heap.objs.size + 4, s1.heap.objs.size + 2, s1.heap.objs.size + 3, s1.heap.objs.size, s1.heap.objs.size + 1], _, _, H1, rfl, I2, turn_zipS Z (Nat.ne_of_lt la) (Nat.ne_of_lt (Nat.lt_succ_of_lt lb)), ⟨hz, hTI, ⟨_, _, hTO⟩, oK_it h1, oK_it h2⟩, fr, q⟩
end
/-! ### the readings -/
noncomputable def dIt (t : DO) : DI := fun env h => (t env h).bind fun m h1 => match m.items h1 with
  | some ds => .ok (ds, liveM h1 m) h1
  | none => .stuck
noncomputable def dEnu (t : DO) : DI := fun env h => (t env h).bind fun m h1 => match m.seq h1 with
  | some ds => .ok (numd ds, liveM h1 m) h1
  | none => .stuck
noncomputable def dZip (t t' : DO) : DI := fun env h => (t env h).bind fun m h1 => (t' env h1).bind fun m' h2 => match m.seq h2, m'.seq h2 with
  | some ds, some es => if ds.length = es.length then .ok (zipd ds es, fun h => liveM h2 m h && liveM h2 m' h) h2 else .stuck
  | _, _ => .stuck
def big62 (j : Int) : Bool := decide (-(2 ^ 62) ≤ j) && decide (j < 2 ^ 62)
theorem big62_ok {j : Int} (h : big62 j = true) : -(2 ^ 62) ≤ j ∧ j < 2 ^ 62 := by
  unfold big62 at h
  rw [Bool.and_eq_true] at h
  exact ⟨of_decide_eq_true h.1, of_decide_eq_true h.2⟩
def cnt (lo : Int) (n : Nat) : List D := (List.range n).map fun i => .int (lo + (i : Nat))
def dRng1 (t : DE) : DI := fun env h => (t env h).bind fun d h1 => match d with
  | .int j => if big62 j then .ok (cnt 0 j.toNat, fun _ => true) h1 else .stuck
  | _ => .stuck
def dRng2 (t t' : DE) : DI := fun env h => (t env h).bind fun d h1 => (t' env h1).bind fun d' h2 => match d, d' with
  | .int i, .int j => if big62 i && big62 j then .ok (cnt i (j - i).toNat, fun _ => true) h2 else .stuck
  | _, _ => .stuck
theorem serves_rng {g : Gm} {ρ : List Addr} {H : Hp} (lo : Int) (n : Nat) : Serves g (Itr lo n) ρ H (cnt lo n) fun _ => true := fun i ρ' h' H' x R' lv => by
  refine ⟨fun d e => ?_, fun hi => ?_⟩
  · unfold cnt at e
    rw [List.getElem?_map] at e
    cases z : (List.range n)[i]? with
    | none => rw [z] at e; cases e
    | some k =>
      rw [z] at e
      have hk : i < n ∧ k = i := by
        have := List.getElem?_eq_some_iff.mp z
        obtain ⟨h1, h2⟩ := this
        simp at h1 h2
        exact ⟨h1, h2.symm⟩
      obtain ⟨h1, rfl⟩ := hk
      simp at e
      subst e
      exact ⟨h1, fun v H2 y => by
        obtain ⟨rfl, rfl⟩ := y
        exact ⟨Ext.refl _ _, R', by simp [RD]⟩⟩
  · simp only [cnt, List.length_map, List.length_range] at hi
    show n ≤ i
    omega
theorem serves_str {g : Gm} {ρ : List Addr} {H : Hp} (z : Str) : Serves g (Its z) ρ H (z.cps.toList.map fun c => D.str ⟨#[c]⟩) fun _ => true := fun i ρ' h' H' x R' lv => by
  refine ⟨fun d e => ?_, fun hi => ?_⟩
  · rw [List.getElem?_map, Array.getElem?_toList] at e
    cases q : z.cps[i]? with
    | none => rw [q] at e; cases e
    | some c =>
      rw [q] at e
      simp at e
      subst e
      refine ⟨(Array.getElem?_eq_some_iff.mp q).1, fun v H2 y => ?_⟩
      obtain ⟨rfl, c', ec, rfl⟩ := y
      rw [q] at ec; cases ec
      exact ⟨Ext.refl _ _, R', by simp [RD]⟩
  · simp at hi
    show z.cps.size ≤ i
    omega
section
variable {X : Cx} {W : WB} {tg a b : Expr} {t t' : DO} {ta tb : DE} {p pos tpos kp cp : Pos} {elts : List Expr} {kk n : Nat}
theorem items_seq {h : DH} {m : DM} {ds : List D} (e : m.items h = some ds) : (∃ z, m = .v (.str z) ∧ ds = z.cps.toList.map fun c => D.str ⟨#[c]⟩) ∨ m.seq h = some ds := by
  unfold DM.items at e
  split at e
  · rename_i z
    left
    exact ⟨z, rfl, (Option.some.inj e).symm⟩
  · exact .inr e
theorem i_seq (pa : DMx X W a t) : DIx X W tg a (dIt t) :=
  PI.imp (i_sq pa) fun σ H Q ⟨ρ, env, h, R, E, q⟩ => lM.plug R E q fun m h1 ρ1 H1 v x1 R1 E1 r1 q1 => by
    cases z : m.items h1 with
    | none => rw [z] at q1; exact q1.elim
    | some ds =>
      rw [z] at q1
      rcases items_seq z with ⟨y, rfl, rfl⟩ | z2
      · have r1' : RD (gm X) ρ1 H1 (.str y) v := r1
        simp only [RD] at r1'
        exact .inr ⟨y, r1', q1 ρ1 H1 (Ext.refl _ _) R1 _ (serves_str y)⟩
      · obtain ⟨c, k, e1, ⟨vs, s⟩, S⟩ := stays R1 z2 r1
        exact .inl ⟨k, c, e1, ⟨vs, s⟩, q1 ρ1 H1 (Ext.refl _ _) R1 _ (serves_seq S)⟩
theorem i_enum (hm : X.mg "enumerate" = none) (pa : DMx X W a t) (hg : Gl X "enumerate" := by rfl) (hs : starEach (a :: []) X.env = (false, eval a X.env) :: starEach [] X.env := by rfl) :
    DIx X W (.Tuple elts kk tpos) (.Call (.Name "enumerate" p) [a] [] pos) (dEnu t) :=
  PI.imp (i_enA hg hm (pa_one pa hs) hs) fun σ H Q ⟨ρ, env, h, R, E, q⟩ => lM.plug R E q fun m h1 ρ1 H1 v x1 R1 E1 r1 q1 => by
    cases z : m.seq h1 with
    | none => rw [z] at q1; exact q1.elim
    | some ds =>
      rw [z] at q1
      obtain ⟨c, k, e1, ⟨vs, s⟩, S⟩ := stays R1 z r1
      exact ⟨k, c, vs, by rw [e1], s, q1 ρ1 H1 (Ext.refl _ _) R1 _ (serves_enum S)⟩
theorem i_zip (hm : X.mg "zip" = none) (pa : DMx X W a t) (pb : DMx X W b t') (hg : Gl X "zip" := by rfl) (hs : starEach (a :: [b]) X.env = (false, eval a X.env) :: starEach [b] X.env := by rfl) (hs2 : starEach (b :: []) X.env = (false, eval b X.env) :: starEach [] X.env := by rfl)
    (hs3 : backTo pos (starEach (a :: [b]) X.env) = (false, eval a X.env) :: backTo pos (starEach [b] X.env) := by rfl) (hpl : (backTo pos (starEach (a :: [b]) X.env)).any (·.1) = false := by rfl) :
    DIx X W (.Tuple elts kk tpos) (.Call (.Name "zip" p) [a, b] [⟨some "strict", .Constant (.bool true) n cp, kp⟩] pos) (dZip t t') :=
  PI.imp (i_zsA hg hm (pa_cons pa (pa_one pb hs2) hs) hs3 hpl) fun σ H Q ⟨ρ, env, h, R, E, q⟩ => lM.plug R E q fun m h1 ρ1 H1 v x1 R1 E1 r1 q1 => lM.plug R1 E1 q1 fun m' h2 ρ2 H2 u x2 R2 E2 r2 q2 => by
    cases z : m.seq h2 with
    | none => rw [z] at q2; exact q2.elim
    | some ds =>
      cases z' : m'.seq h2 with
      | none => rw [z, z'] at q2; exact q2.elim
      | some es =>
        rw [z, z'] at q2
        by_cases hl : ds.length = es.length
        · simp only [hl, if_true] at q2
          obtain ⟨c, k, e1, ⟨vs, s⟩, S⟩ := stays R2 z (r1.mono x2 R1)
          obtain ⟨c', k', e1', ⟨us, s'⟩, S'⟩ := stays R2 z' r2
          exact ⟨k, k', c, c', vs, us, by rw [e1, e1'], s, s', q2 ρ2 H2 (Ext.refl _ _) R2 _ (serves_zip hl S S')⟩
        · simp only [hl, if_false] at q2; exact q2.elim
theorem i_rng1 (hm : X.mg "range" = none) (pa : DEx X W a ta) (hg : Gl X "range" := by rfl) (hs : starEach (a :: []) X.env = (false, eval a X.env) :: starEach [] X.env := by rfl) :
    DIx X W tg (.Call (.Name "range" p) [a] [] pos) (dRng1 ta) :=
  PI.imp (pi_range1 hg hm (pa_one pa hs) hs) fun σ H Q ⟨ρ, env, h, R, E, q⟩ => lE.plug R E q fun d h1 ρ1 H1 v x1 R1 E1 r1 q1 => by
    cases d <;> try exact q1.elim
    rename_i j
    simp only [RD] at r1
    by_cases hb : big62 j = true
    · simp only [hb, if_true] at q1
      obtain ⟨b1, b2⟩ := big62_ok hb
      exact ⟨j, by rw [r1], b1, b2, q1 ρ1 H1 (Ext.refl _ _) R1 _ (serves_rng 0 j.toNat)⟩
    · simp only [hb] at q1; exact q1.elim
theorem i_rng2 (hm : X.mg "range" = none) (pa : DEx X W a ta) (pb : DEx X W b tb) (hg : Gl X "range" := by rfl) (hs : starEach (a :: [b]) X.env = (false, eval a X.env) :: starEach [b] X.env := by rfl) (hs2 : starEach (b :: []) X.env = (false, eval b X.env) :: starEach [] X.env := by rfl) :
    DIx X W tg (.Call (.Name "range" p) [a, b] [] pos) (dRng2 ta tb) :=
  PI.imp (pi_range2 hg hm (pa_cons pa (pa_one pb hs2) hs) (by rw [hs, hs2]; rfl) hs2) fun σ H Q ⟨ρ, env, h, R, E, q⟩ => lE.plug R E q fun d h1 ρ1 H1 v x1 R1 E1 r1 q1 => lE.plug R1 E1 q1 fun d' h2 ρ2 H2 u x2 R2 E2 r2 q2 => by
    cases d <;> try exact q2.elim
    cases d' <;> try exact q2.elim
    rename_i i j
    simp only [RD] at r1 r2
    by_cases hb : (big62 i && big62 j) = true
    · simp only [hb, if_true] at q2
      rw [Bool.and_eq_true] at hb
      obtain ⟨b1, b2⟩ := big62_ok hb.1
      obtain ⟨b3, b4⟩ := big62_ok hb.2
      exact ⟨i, j, by rw [r1, r2], ⟨b1, b2, b3, b4⟩, q2 ρ2 H2 (Ext.refl _ _) R2 _ (serves_rng i (j - i).toNat)⟩
    · simp only [hb] at q2; exact q2.elim
end
end DL
/-! DLk: isinstance of built-in classes. -/
namespace DL
open PySem PySem.Spec PyProof.Rows L2
inductive Ty | non | bl | int | str | tup | lst | dct
def Ty.nm : Ty → String
  | .non => "NoneType"
  | .bl => "bool"
  | .int => "int"
  | .str => "str"
  | .tup => "tuple"
  | .lst => "list"
  | .dct => "dict"
def tyD (h : DH) : DM → Option Ty
  | .l _ => some .lst
  | .v .non => some .non
  | .v (.bl _) => some .bl
  | .v (.int _) => some .int
  | .v (.str _) => some .str
  | .v (.tup _) => some .tup
  | .v (.rol _) => some .lst
  | .v (.ref n) => match h[n]? with
    | some (.lst _) => some .lst
    | some (.dct _ _) => some .dct
    | _ => none
/-- of what classes the values are -/
inductive BT | bool | int | str | tuple | list | dict | float
def BT.nm : BT → String
  | .bool => "bool"
  | .int => "int"
  | .str => "str"
  | .tuple => "tuple"
  | .list => "list"
  | .dict => "dict"
  | .float => "float"
@[simp] def isT : Ty → BT → Bool
  | .bl, .bool => true
  | .bl, .int => true
  | .int, .int => true
  | .str, .str => true
  | .tup, .tuple => true
  | .lst, .list => true
  | .dct, .dict => true
  | _, _ => false
theorem isT_kit {K : PySem.W.Frag} (a : Ty) (b : BT) : PySem.W.kitOne K (.type a.nm) (.type b.nm) = some (isT a b) := by
  refine kit_ty ?_
  cases a <;> cases b <;> decide +kernel
theorem isT_any {K : PySem.W.Frag} (a : Ty) : ∀ bs : List BT, PySem.W.kitAny K (.type a.nm) (bs.map fun b => .type b.nm) = some (bs.any (isT a ·))
  | [] => rfl
  | b :: bs => by
    simp only [List.map_cons, List.any_cons]
    cases z : isT a b with
    | true => exact kitAny_cons (b := true) (by rw [isT_kit, z]) (fun q => nomatch q) (fun _ => by simp)
    | false => exact kitAny_cons (b := false) (by rw [isT_kit, z]) (fun _ => by simpa using isT_any a bs) (fun q => nomatch q)
/-- a value's class as it stands -/
def TyY (K : PySem.W.Frag) (H : Hp) (v : V) (t : Value) : Prop := TyX K H v t ∨ ∃ a lk o es ep, v = .ref a ∧ t = .type "dict" ∧ H a = some (dctO lk o a es ep)
section
variable {X : Cx} {pins : List (Addr × Obj)} {σ : L2.St} {H : Hp} {s : Shared}
theorem kit_ofY {x : V} {u t : Value} (I : Inv X pins σ H s) (rx : RelV x u) (ty : TyY X.K H x t) : ∃ P : Heap → Prop, PySem.W.KitX X.K u t P ∧ P s.heap ∧ u ≠ .builtin "__main__.__loader__#opaque" := by
  rcases ty with ty | ⟨a, lk, ob, es, ep, rfl, rfl, ea⟩
  · exact kit_of I rx ty
  · cases (show u = Value.ref a from rx)
    obtain ⟨o, h1, h2, _⟩ : s.heap.DictRaw a es ep := by
      have x := I.hok a _ ea
      cases lk
      · exact x.1
      · exact x.2.1
    exact ⟨_, PySem.W.kitx_dict, ⟨o, h1, h2.1⟩, fun z => nomatch z⟩
def rIsY (K : PySem.W.Frag) : List V → Hp → VK → Prop := fun xs H Q => ∃ (x : V) (n : String) (t : Value) (b : Bool), xs = [x, .ty n] ∧ TyY K H x t ∧ PySem.W.kitOne K t (.type n) = some b ∧ Q (.bl b) H
def rIsYT (K : PySem.W.Frag) : List V → Hp → VK → Prop := fun xs H Q => ∃ (x : V) (tp : Addr) (ns : List String) (t : Value) (b : Bool), xs = [x, .ref tp] ∧ H tp = some (.tup (ns.map .ty)) ∧ TyY K H x t ∧ PySem.W.kitAny K t (ns.map .type) = some b ∧ Q (.bl b) H
theorem call_isY : CallR X (.builtin "isinstance") (rIsY X.K) := by
  intro pins s σ H xs us Q I r h
  obtain ⟨x, n, t, b, rfl, ty, e, q⟩ := h
  obtain ⟨u1, u2, rfl, r1, r2⟩ := vals2 r
  cases (show u2 = Value.type n from r2)
  obtain ⟨P, Z, p, hx⟩ := kit_ofY I r1 ty
  exact PySem.W.kia_one Z I.kIn p e hx fun tk => ⟨.bl b, H, I.tok tk, rfl, q⟩
theorem clsV_all : ∀ ns : List String, Paired ClsV (ns.map V.ty) (ns.map Value.type)
  | [] => .nil
  | n :: ns => .cons (.ty n) (clsV_all ns)
theorem call_isYT : CallR X (.builtin "isinstance") (rIsYT X.K) := by
  intro pins s σ H xs us Q I r h
  obtain ⟨x, tp, ns, t, b, rfl, hT, ty, e, q⟩ := h
  obtain ⟨u1, u2, rfl, r1, r2⟩ := vals2 r
  cases (show u2 = Value.ref tp from r2)
  obtain ⟨P, Z, p, hx⟩ := kit_ofY I r1 ty
  obtain ⟨_, its, rv, o, h1, h2, n, h3⟩ := (show ObjOk X.prog X.w H s.heap tp (.tup (ns.map V.ty)) from I.hok tp _ hT)
  have e3 := ClsV.all (clsV_all ns) rv
  subst e3
  obtain ⟨oc, od, dt, sl⟩ := o
  simp only at h2 h3
  subst h2 h3
  exact PySem.W.kia_tup Z I.kIn p h1 e hx fun tk => ⟨.bl b, H, I.tok tk, rfl, q⟩
end
theorem tyD_ok {g : Gm} {ρ : List Addr} {h : DH} {H : Hp} (R : RH g ρ h H) {m : DM} {v : V} {t : Ty} (e : tyD h m = some t) (r : RM g ρ H m v) : TyY g.K H v (.type t.nm) := by
  have lst : ∀ {a vs}, SqL g.K H a vs → TyY g.K H (.ref a) (.type "list") := fun {a vs} s => by
    rcases s with (s | ⟨o, s⟩) | ⟨o, its, n, s, c, _⟩
    · exact .inl (.base (.lst s))
    · exact .inl (.base (.frz s))
    · exact .inl (.kList s c)
  have tup : ∀ {a vs}, SqT g.K H a vs → TyY g.K H (.ref a) (.type "tuple") := fun {a vs} s => by
    rcases s with (s | ⟨o, s⟩) | ⟨o, its, n, s, c, _⟩
    · exact .inl (.base (.tup s))
    · exact .inl (.fTuple s)
    · exact .inl (.kTuple s c)
  cases m with
  | l ds =>
    simp only [tyD, Option.some.injEq] at e
    subst e
    obtain ⟨a, vs, e1, ea, _⟩ := r
    rw [e1]
    exact lst (SqL.of ea)
  | v d =>
    have r' : RD g ρ H d v := r
    cases d with
    | non => simp only [tyD, Option.some.injEq] at e; subst e; simp only [RD] at r'; subst r'; exact .inl (.base .non)
    | bl b => simp only [tyD, Option.some.injEq] at e; subst e; simp only [RD] at r'; subst r'; exact .inl (.base (.bl b))
    | int b => simp only [tyD, Option.some.injEq] at e; subst e; simp only [RD] at r'; subst r'; exact .inl (.base (.int b))
    | str b => simp only [tyD, Option.some.injEq] at e; subst e; simp only [RD] at r'; subst r'; exact .inl (.base (.str b))
    | tup ds =>
      simp only [tyD, Option.some.injEq] at e; subst e; simp only [RD] at r'
      obtain ⟨a, vs, e1, s, _⟩ := r'
      rw [e1]; exact tup s
    | rol ds =>
      simp only [tyD, Option.some.injEq] at e; subst e; simp only [RD] at r'
      obtain ⟨a, vs, e1, s, _⟩ := r'
      rw [e1]; exact lst s.sq
    | ref n =>
      simp only [RD] at r'
      obtain ⟨a, e1, e2⟩ := r'
      rw [e1]
      simp only [tyD] at e
      split at e
      · rename_i ds en
        cases e
        obtain ⟨vs, q, _⟩ := R.ok n _ a en e2
        exact lst (SqL.of q)
      · rename_i ds en
        cases e
        obtain ⟨ob, es, ep, q, _⟩ := R.ok n _ a en e2
        exact .inr ⟨a, _, ob, _, ep, rfl, rfl, q⟩
      · cases e
def fIs (b : BT) : DM → DH → Res D := fun m h => match tyD h m with
  | some t => .ok (.bl (isT t b)) h
  | none => .stuck
def fIsN (bs : List BT) : DM → DH → Res D := fun m h => match tyD h m with
  | some t => .ok (.bl (bs.any (isT t ·))) h
  | none => .stuck
/-- classes by their names -/
def Names (X : Cx) (es : List Expr) (bs : List BT) : Prop := PA X es fun _ H Q => Q (bs.map fun b => .ty b.nm) H
section
variable {X : Cx} {W : WB} {e a : Expr} {es : List Expr} {t : DO} {x : Str} {p pos tpos : Pos} {b : BT} {bs : List BT} {kk : Nat}
theorem n_nil : Names X [] [] := PA.imp pa_nil fun _ _ _ q => q
theorem bt_nm (b : BT) (hb : bootBuiltins x = some (.type b.nm)) : x ≠ "__name__" → (x == ("__debug__" : Str)) = false → Gl X x → X.mg x = none → PE X (.Name x p) (tC (.ty b.nm)) := fun h1 h2 hg hm => pe_bltn hg hm hb rfl h1 h2
theorem n_cons (b : BT) (hm : X.mg x = none) (p' : Names X es bs) (hb : bootBuiltins x = some (.type b.nm) := by decide +kernel) (hg : Gl X x := by rfl) (hn : x ≠ "__name__" := by decide) (hdb : (x == ("__debug__" : Str)) = false := by decide)
    (hs : starEach (.Name x p :: es) X.env = (false, eval (.Name x p) X.env) :: starEach es X.env := by rfl) : Names X (.Name x p :: es) (b :: bs) :=
  PA.imp (pa_cons (bt_nm b hb hn hdb hg hm) p' hs) fun _ _ _ q => q
theorem d_is (b : BT) (hm : X.mg "isinstance" = none) (pa : DMx X W a t) (hmx : X.mg x = none) (hb : bootBuiltins x = some (.type b.nm) := by decide +kernel) (hgx : Gl X x := by rfl) (hn : x ≠ "__name__" := by decide) (hdb : (x == ("__debug__" : Str)) = false := by decide) (hg : Gl X "isinstance" := by rfl)
    (hs : starEach (a :: [.Name x p]) X.env = (false, eval a X.env) :: starEach [.Name x p] X.env := by rfl) (hs2 : starEach (.Name x p :: []) X.env = (false, eval (.Name x p) X.env) :: starEach [] X.env := by rfl)
    (hpl : (backTo pos (starEach [.Name x p] X.env)).any (·.1) = false := by rfl) : DEx X W (.Call (.Name "isinstance" tpos) [a, .Name x p] [] pos) (dCallM (fIs b) t) :=
  PE.imp (pe_callB call_isY hg hm (by decide +kernel) (pa_cons pa (pa_one (bt_nm b hb hn hdb hgx hmx) hs2) hs) (by decide) (by decide) hs hpl) fun σ H Q ⟨ρ, env, h, R, E, q⟩ => lM.plug R E q fun m h1 ρ1 H1 v x1 R1 E1 r1 q1 => by
    simp only [fIs] at q1
    cases z : tyD h1 m with
    | none => rw [z] at q1; exact q1.elim
    | some t =>
      rw [z] at q1
      exact ⟨v, _, _, _, rfl, tyD_ok R1 z r1, isT_kit t b, q1 ρ1 H1 (Ext.refl _ _) R1 _ (by simp [RD])⟩
theorem d_isM (bs : List BT) (hm : X.mg "isinstance" = none) (pa : DMx X W a t) (pn : Names X es bs) (hb : decide (bs.length ≤ 10) = true := by rfl) (hg : Gl X "isinstance" := by rfl)
    (hs : starEach (a :: [.Tuple es kk p]) X.env = (false, eval a X.env) :: starEach [.Tuple es kk p] X.env := by rfl) (hs2 : starEach (.Tuple es kk p :: []) X.env = (false, eval (.Tuple es kk p) X.env) :: starEach [] X.env := by rfl)
    (hpl : (backTo pos (starEach [.Tuple es kk p] X.env)).any (·.1) = false := by rfl) : DEx X W (.Call (.Name "isinstance" tpos) [a, .Tuple es kk p] [] pos) (dCallM (fIsN bs) t) :=
  PE.imp (pe_callB call_isYT hg hm (by decide +kernel) (pa_cons pa (pa_one (pe_tup pn) hs2) hs) (by decide) (by decide) hs hpl) fun σ H Q ⟨ρ, env, h, R, E, q⟩ => lM.plug R E q fun m h1 ρ1 H1 v x1 R1 E1 r1 q1 => by
    simp only [fIsN] at q1
    refine ⟨?_, fun l hl => ?_⟩
    · have := of_decide_eq_true hb
      rw [List.length_map]
      exact Nat.le_trans this (by decide)
    cases z : tyD h1 m with
    | none => rw [z] at q1; exact q1.elim
    | some t =>
      rw [z] at q1
      have x2 : Ext ρ1 H1 ρ1 (upd H1 l (.tup (bs.map fun b => V.ty b.nm))) := Ext.tup hl
      have R2 : RH (gm X) ρ1 h1 (upd H1 l (.tup (bs.map fun b => V.ty b.nm))) := R1.tup hl
      refine ⟨v, l, bs.map BT.nm, _, bs.any (isT t ·), rfl, ?_, tyD_ok R2 z (r1.mono x2 R1), ?_, q1 ρ1 _ x2 R2 _ (by simp [RD])⟩
      · rw [upd_same, List.map_map]; rfl
      · rw [List.map_map]; exact isT_any t bs
end
end DL
/-! DLl: small rules more; what a program's derivation leans on. -/
namespace DL
open PySem PySem.Spec PyProof.Rows L2
theorem Res.assoc {α β γ : Type} (r : Res α) (f : α → DH → Res β) (k : β → DH → Res γ) : (r.bind f).bind k = r.bind fun a h => (f a h).bind k := by
  cases r <;> rfl
section
variable {X : Cx} {W : WB} {e a b : Expr} {te : DE} {t : DA} {pos : Pos}
theorem t_isN {j pos'} (p : DEx X W e te) : DTx X W (.Compare e [.Is] [.Constant .none j pos'] pos) (dB (isN id te)) := PT.imp (pt_cmp (pc_isN p) (nomark _)) fun σ H Q ⟨ρ, env, h, R, E, q⟩ => by
  have q' : RR (gm X) (fun c d H' => W.wish c d σ H') ρ H ((te env h).bind fun d h1 => (.ok d.isNon h1 : Res Bool)) (fun b _ _ H' => Q b H') := by
    have e : dB (isN id te) env h = (te env h).bind fun d h1 => (.ok d.isNon h1 : Res Bool) := by
      show ((te env h).bind _).bind _ = _
      rw [Res.assoc]; rfl
    rw [e] at q; exact q
  refine lE.plug R E q' fun d h1 ρ1 H1 v x1 R1 E1 r1 q1 => ⟨d.isNon, by rw [r1.non_iff], q1 ρ1 H1 (Ext.refl _ _) R1⟩
theorem t_notN {j pos'} (p : DEx X W e te) : DTx X W (.Compare e [.IsNot] [.Constant .none j pos'] pos) (dB (isN not te)) := PT.imp (pt_cmp (pc_notN p) (nomark _)) fun σ H Q ⟨ρ, env, h, R, E, q⟩ => by
  have q' : RR (gm X) (fun c d H' => W.wish c d σ H') ρ H ((te env h).bind fun d h1 => (.ok (!d.isNon) h1 : Res Bool)) (fun b _ _ H' => Q b H') := by
    have e : dB (isN not te) env h = (te env h).bind fun d h1 => (.ok (!d.isNon) h1 : Res Bool) := by
      show ((te env h).bind _).bind _ = _
      rw [Res.assoc]; rfl
    rw [e] at q; exact q
  refine lE.plug R E q' fun d h1 ρ1 H1 v x1 R1 E1 r1 q1 => ⟨!d.isNon, by rw [r1.non_iff], q1 ρ1 H1 (Ext.refl _ _) R1⟩
variable {elt tg iter : Expr} {ifs : List Expr} {scope : Scope} {own : List (Str × Nat)} {spos : Pos} {it : DI} {gt : DG} {c : DT} {u : DE}
/-- y = [.. for ..]: the store is the comprehension's own -/
theorem s_setLc {i : Nat} {y : Str} {py : Pos} (hc : X.calm = true) (hN : X.N.Nodup) (hy : X.N[i]? = some y) (hyl : X.env.scope.names.lookup y = some .local) (hk : X.env.scope.kind = .function) (hl : (py.line == pos.line) = true)
    (ha : (scope.names.any fun (n, k) => n == y && (k == .local || k == .cell)) = false) (pi : DIx X W tg iter it) (ok : BlkOk X.N X.env.scope scope own)
    (hg : ∀ (s : Shared) (H : Hp) (C : Addr) (cl : List (Str × Addr)) (fp : List Addr), DGWx (BlkX X scope s H C cl fp) (own.map (·.2)) tg gt)
    (ht : ∀ (s : Shared) (H : Hp) (C : Addr) (cl : List (Str × Addr)) (fp : List Addr), PTs (BlkX X scope s H C cl fp) ifs (lT (gm X) W0 c))
    (he : ∀ (s : Shared) (H : Hp) (C : Addr) (cl : List (Str × Addr)) (fp : List Addr), DEx (BlkX X scope s H C cl fp) W0 elt u) (ni : ∀ x, W.xa = some x → x.i ≠ i := by intro _ h; cases h) (hs : ∀ x, foldedSetIterable iter X.env x = pure x := by intro _; rfl) :
    DSx X W (.Assign [.Name y py] (.ListComp elt [⟨tg, iter, ifs, 0⟩] scope pos) spos) (sAsg (dNew (qLc it gt c u (own.map (·.2)))) (gdName i)) :=
  PS.imp (ps_setLc hc hN hy hyl (sw_true hk hyl hl ha) pi ok hg ht he hs) fun Dn σ H ⟨ρ, env, h, R, E, q⟩ =>
    q_lc_in (e := u) (gt := gt) (W := W) (new_in (lE.plugS R E q fun d h1 ρ1 H1 v x1 R1 E1 r1 q1 => q1 ρ1 H1 _ (Ext.refl _ _) R1 (E1.set i r1 ni)))
end
end DL
/-! DLp: list(..), append, in, is True, tuple * int, min and max of a list. -/
namespace DL
open PySem PySem.Spec PyProof.Rows L2
section
variable {X : Cx} {W : WB} {e a b o : Expr} {te to : DE} {t ta tb : DO} {pos p apos : Pos}
/-- list(..) of a list, of a tuple -/
def qList (t : DO) : DA := fun env h => (t env h).bind fun m h1 => match m.seq h1 with
  | some ds => .ok ds h1
  | none => .stuck
theorem q_list (hm : X.mg "list" = none) (pa : DMx X W a t) (hg : Gl X "list" := by rfl) (hs : starEach (a :: []) X.env = (false, eval a X.env) :: starEach [] X.env := by rfl) (hpl : (backTo pos (starEach [] X.env)).any (·.1) = false := by rfl) :
    DQx X W (.Call (.Name "list" p) [a] [] pos) (qList t) :=
  PE.imp (pe_callTy call_list_of hg hm (by decide +kernel) (pa_one pa hs) (by decide) (by decide) hs hpl) fun σ H Q ⟨ρ, env, h, R, E, q⟩ => lM.plug R E q fun m h1 ρ1 H1 v x1 R1 E1 r1 q1 => by
    cases z : m.seq h1 with
    | none => rw [z] at q1; exact q1.elim
    | some ds =>
      rw [z] at q1
      obtain ⟨c, vs, e1, s, r⟩ := seq_sq R1 z r1
      exact ⟨c, vs, by rw [e1], s, fun l hl => q1 ρ1 _ (Ext.tup hl) (R1.tup hl) l vs upd_same (R1.not hl) (x1.fresh R R1 hl) (r.mono (Ext.tup hl) R1)⟩
/-- xs.append(y) -/
def dApp (to te : DE) : DE := fun env h => (to env h).bind fun d h1 => match asList h1 d with
  | none => .stuck
  | some _ => (te env h1).bind fun y h2 => match d with
    | .ref n => match h2[n]? with
      | some (.lst ds) => if small (ds.length + 1) then .ok .non (h2.set n (.lst (ds ++ [y]))) else .stuck
      | _ => .stuck
    | _ => .stuck
theorem RDs.snoc {g : Gm} {ρ : List Addr} {H : Hp} {ds : List D} {vs : List V} {d : D} {v : V} (r : RDs g ρ H ds vs) (r' : RD g ρ H d v) : RDs g ρ H (ds ++ [d]) (vs ++ [v]) := r.append (RDs.cons r' RDs.nil)
theorem d_app (po : DEx X W o to) (pe : DEx X W e te) (hbase : attributeBase o "append" X.env (eval o X.env) = eval o X.env := by rfl)
    (hfew : ((backTo pos (starEach (e :: []) X.env)).all (fun x => !x.1) && (backToKw pos (keywordEach [] X.env)).all (fun x => x.1.isSome)
      && decide ((e :: []).length + ([] : List Keyword).length + (if ([] : List Keyword).isEmpty then 0 else 1) < 30)) = true := by rfl)
    (hline : (apos.endLine == pos.line) = true := by rfl) (hs : starEach (e :: []) X.env = (false, eval e X.env) :: starEach [] X.env := by rfl) (hplain : (backTo pos (starEach [] X.env)).any (·.1) = false := by rfl) :
    DEx X W (.Call (.Attribute o "append" apos) [e] [] pos) (dApp to te) :=
  PE.imp (pe_bm PySem.F.plainAttrs_list PySem.F.slot_list_append PySem.F.type_list_append mt_append po (pa_one pe hs) hbase hfew hline hs hplain) fun σ H Q ⟨ρ, env, h, R, E, q⟩ => lE.plug R E q fun d h1 ρ1 H1 v x1 R1 E1 r1 q1 => by
    cases z : asList h1 d with
    | none => simp only [z] at q1; exact q1.elim
    | some es =>
      simp only [z] at q1
      obtain ⟨c, vs, e1, s, r⟩ := asList_sq R1 z r1
      refine ⟨by rw [e1]; exact .inl ⟨rfl, _, s⟩, ?_⟩
      refine lE.plug R1 E1 q1 fun y h2 ρ2 H2 u x2 R2 E2 r2 q2 => ?_
      cases d with
      | ref n =>
        dsimp only at q2
        have r1' := r1.mono x2 R1
        simp only [RD] at r1'
        obtain ⟨a', e1', e2⟩ := r1'
        cases z2 : h2[n]? with
        | none => simp only [z2] at q2; exact q2.elim
        | some o =>
          cases o with
          | lst ds =>
            simp only [z2] at q2
            by_cases sm : small (ds.length + 1) = true
            · rw [if_pos sm] at q2
              obtain ⟨ws, ea, rw'⟩ := R2.ok _ _ a' z2 e2
              refine ⟨a', ws, u, e1', rfl, ea, by have := small_le sm; rw [rw'.length]; omega, ?_⟩
              have x3 : Ext ρ2 H2 ρ2 (upd H2 a' (.lst (ws ++ [u]))) := Ext.set e2 fun _ _ z => by rw [ea] at z; cases z
              exact q2 ρ2 _ x3 (R2.set e2 (fun _ _ z => by rw [ea] at z; cases z) ⟨_, upd_same, (rw'.snoc r2).lst ea⟩) _ (by simp [RD])
            · rw [if_neg sm] at q2; exact q2.elim
          | _ => simp only [z2] at q2; exact q2.elim
      | _ => exact q2.elim
/-! ### in -/
def flatD : D → Bool
  | .non => true
  | .bl _ => true
  | .int _ => true
  | .str _ => true
  | _ => false
def eqF : D → D → Bool
  | .non, .non => true
  | .bl a, .bl b => a == b
  | .bl a, .int b => (if a then 1 else 0) == b
  | .int a, .bl b => a == (if b then 1 else 0)
  | .int a, .int b => a == b
  | .str a, .str b => a == b
  | _, _ => false
def inM (x y : DM) (h : DH) : Option Bool := match y with
  | .v (.tup ds) => match x with
    | .v d => if flatD d && ds.all flatD then some (ds.any fun e => eqF e d) else none
    | .l _ => none
  | y => match toPyM h y, toPyM h x with
    | some (.list es), some a => some (es.any fun z => PyData.eqv z a)
    | _, _ => none
def oIn (k : Bool → Bool) : DM → DM → DH → Res D := fun x y h => match inM x y h with
  | some b => .ok (.bl (k b)) h
  | none => .stuck
theorem flat_rd {g : Gm} {ρ : List Addr} {H : Hp} {d : D} {v : V} (f : flatD d = true) (r : RD g ρ H d v) : flatV v = true ∧ ∀ e u, flatD e = true → RD g ρ H e u → eqV u v = eqF e d := by
  cases d <;> simp only [flatD, Bool.false_eq_true] at f <;> simp only [RD] at r <;> subst r <;> refine ⟨rfl, fun e u fe re => ?_⟩ <;> cases e <;> simp only [flatD, Bool.false_eq_true] at fe <;> simp only [RD] at re <;> subst re <;> rfl
theorem flat_rds {g : Gm} {ρ : List Addr} {H : Hp} {d : D} {v : V} (f : flatD d = true) (r : RD g ρ H d v) : ∀ {ds : List D} {vs : List V}, ds.all flatD = true → RDs g ρ H ds vs → vs.all flatV = true ∧ inV v vs = ds.any fun e => eqF e d
  | [], vs, _, rs => by simp only [RDs] at rs; subst rs; exact ⟨rfl, rfl⟩
  | e :: ds, vs, fs, rs => by
    simp only [RDs] at rs
    obtain ⟨u, t, e1, ru, rt⟩ := rs
    subst e1
    rw [List.all_cons, Bool.and_eq_true] at fs
    obtain ⟨f1, f2⟩ := flat_rds f r fs.2 rt
    refine ⟨by rw [List.all_cons, (flat_rd fs.1 ru).1, f1]; rfl, ?_⟩
    show (eqV u v || inV v t) = _
    rw [(flat_rd f r).2 e u fs.1 ru, f2, List.any_cons]
theorem o_in {k : Bool → Bool} {r1 r2 : R2} (h1 : ∀ x y H Q, (∃ d ds, Dp X.K H x d ∧ Dp X.K H y (.list ds) ∧ SeqAt.shaped d = true ∧ SeqAt.shaped (.list ds) = true ∧ Q (.bl (k (ds.any fun z => PyData.eqv z d))) H) → r1 x y H Q)
    (h2 : ∀ x y H Q, (∃ p xs, y = .ref p ∧ (SqL X.K H p xs ∨ SqT X.K H p xs) ∧ flatV x = true ∧ xs.all flatV = true ∧ Q (.bl (k (inV x xs))) H) → r2 x y H Q) : OpDM (gm X) (fun x y H Q => r1 x y H Q ∨ r2 x y H Q) (oIn k) := fun W ρ h H x y v u Q R rx ry q => by
  unfold oIn at q
  cases z : inM x y h with
  | none => rw [z] at q; exact q.elim
  | some bb =>
    rw [z] at q
    have q0 := q ρ H (Ext.refl _ _) R (.bl (k bb)) (by simp [RD])
    have deep : (match toPyM h y, toPyM h x with
        | some (.list es), some a => some (es.any fun z => PyData.eqv z a)
        | _, _ => none) = some bb → r1 v u H Q ∨ r2 v u H Q := fun z => by
      split at z
      · rename_i es a e1 e2
        obtain ⟨d1, s1⟩ := toPyM_ok R e1 ry
        obtain ⟨d2, s2⟩ := toPyM_ok R e2 rx
        cases z
        exact .inl (h1 _ _ _ _ ⟨a, es, d2, d1, s2, s1, q0⟩)
      · cases z
    unfold inM at z
    split at z
    · rename_i ds
      split at z
      · rename_i d
        split at z
        · rename_i hf
          rw [Bool.and_eq_true] at hf
          cases z
          have ry' : RD (gm X) ρ H (.tup ds) u := ry
          simp only [RD] at ry'
          obtain ⟨p, vs, e1, s, r⟩ := ry'
          obtain ⟨f1, f2⟩ := flat_rds hf.1 rx hf.2 r
          exact .inr (h2 _ _ _ _ ⟨p, vs, e1, .inr s, (flat_rd hf.1 rx).1, f1, by rw [f2]; exact q0⟩)
        · cases z
      · cases z
    · exact deep z
theorem o_inY : OpDM (gm X) (fun x y H Q => rInD X.K x y H Q ∨ rIn X.K false x y H Q) (oIn id) := o_in (fun _ _ _ _ z => z) fun _ _ _ _ z => z
theorem o_inN : OpDM (gm X) (fun x y H Q => rNotInD X.K x y H Q ∨ rIn X.K true x y H Q) (oIn not) := o_in (fun _ _ _ _ z => z) fun _ _ _ _ z => z
theorem d_in (hu : X.A.units + 65 < cLine) (ha : DMx X W a ta) (hb : DMx X W b tb) (hm : behindInMarks .In b = false := by rfl) : DEx X W (.Compare a [.In] [b] pos) (dOpM (oIn id) ta tb) := d_cmpM ((op_inD hu).or op_in_seq) o_inY ha hb hm
theorem d_nin (hu : X.A.units + 65 < cLine) (ha : DMx X W a ta) (hb : DMx X W b tb) (hm : behindInMarks .NotIn b = false := by rfl) : DEx X W (.Compare a [.NotIn] [b] pos) (dOpM (oIn not) ta tb) := d_cmpM ((op_notInD hu).or op_notIn_seq) o_inN ha hb hm
theorem t_in (hu : X.A.units + 65 < cLine) (ha : DMx X W a ta) (hb : DMx X W b tb) (hm : behindInMarks .In b = false := by rfl) : DTx X W (.Compare a [.In] [b] pos) (dB (dOpM (oIn id) ta tb)) := d_testM ((op_inD hu).or op_in_seq) o_inY ha hb hm
theorem t_nin (hu : X.A.units + 65 < cLine) (ha : DMx X W a ta) (hb : DMx X W b tb) (hm : behindInMarks .NotIn b = false := by rfl) : DTx X W (.Compare a [.NotIn] [b] pos) (dB (dOpM (oIn not) ta tb)) := d_testM ((op_notInD hu).or op_notIn_seq) o_inN ha hb hm
/-! ### is True -/
def oIs (k : Bool → Bool) : D → D → DH → Res D := fun x y h => match x, y with
  | .bl a, .bl b => .ok (.bl (k (decide (a = b)))) h
  | _, _ => .stuck
theorem o_is {k : Bool → Bool} : OpD (gm X) (fun x y H Q => ∃ a b, x = .bl a ∧ y = .bl b ∧ Q (.bl (k (decide (a = b)))) H) (oIs k) := fun W ρ h H x y v u Q R rx ry q => by
  cases x <;> cases y <;> try exact q.elim
  rename_i i j
  simp only [RD] at rx ry
  exact ⟨i, j, rx, ry, q ρ H (Ext.refl _ _) R _ (by simp [RD])⟩
theorem d_isB {ta tb : DE} (ha : DEx X W a ta) (hb : DEx X W b tb) (hm : behindInMarks .Is b = false := by rfl) : DEx X W (.Compare a [.Is] [b] pos) (dOp (oIs id) ta tb) := d_cmp op_is_bl o_is ha hb hm
theorem d_notB {ta tb : DE} (ha : DEx X W a ta) (hb : DEx X W b tb) (hm : behindInMarks .IsNot b = false := by rfl) : DEx X W (.Compare a [.IsNot] [b] pos) (dOp (oIs not) ta tb) := d_cmp op_isnot_bl o_is ha hb hm
theorem t_isB {ta tb : DE} (ha : DEx X W a ta) (hb : DEx X W b tb) (hm : behindInMarks .Is b = false := by rfl) : DTx X W (.Compare a [.Is] [b] pos) (dB (dOp (oIs id) ta tb)) := d_testc op_is_bl o_is ha hb hm
theorem t_notB {ta tb : DE} (ha : DEx X W a ta) (hb : DEx X W b tb) (hm : behindInMarks .IsNot b = false := by rfl) : DTx X W (.Compare a [.IsNot] [b] pos) (dB (dOp (oIs not) ta tb)) := d_testc op_isnot_bl o_is ha hb hm
/-! ### min, max of a list of numbers -/
def intOf : D → Option Int
  | .int i => some i
  | _ => none
theorem mapO_int : ∀ {ds : List D} {is : List Int}, mapO intOf ds = some is → ds = is.map .int
  | [], is, e => by simp only [mapO, Option.some.injEq] at e; subst e; rfl
  | d :: ds, is, e => by
    simp only [mapO] at e
    obtain ⟨a, ea, e⟩ := Option.bind_eq_some_iff.mp e
    obtain ⟨b, eb, e⟩ := Option.map_eq_some_iff.mp e
    subst e
    rw [mapO_int eb]
    cases d <;> simp only [intOf] at ea <;> try cases ea
    rfl
def DM.aslst (h : DH) : DM → Option (List D)
  | .l ds => some ds
  | .v d => asList h d
def fExt (k : Int → List Int → Int) : DM → DH → Res D := fun m h => match (m.aslst h).bind (mapO intOf) with
  | some (i :: is) => .ok (.int (k i is)) h
  | _ => .stuck
theorem aslst_sq {g : Gm} {ρ : List Addr} {h : DH} {H : Hp} (R : RH g ρ h H) {m : DM} {v : V} {ds : List D} (e : m.aslst h = some ds) (r : RM g ρ H m v) : ∃ a vs, v = .ref a ∧ SqL g.K H a vs ∧ RDs g ρ H ds vs := by
  cases m with
  | l es =>
    simp only [DM.aslst, Option.some.injEq] at e
    subst e
    obtain ⟨a, vs, e1, ea, na, r⟩ := r
    exact ⟨a, vs, e1, SqL.of ea, r⟩
  | v d => exact asList_sq R e r
def minL (i : Int) (is : List Int) : Int := is.foldl min i
def maxL (i : Int) (is : List Int) : Int := is.foldl max i
theorem minL_ok (is : List Int) : ∀ i, (minL i is = i ∨ minL i is ∈ is) ∧ minL i is ≤ i ∧ ∀ y ∈ is, minL i is ≤ y := by
  induction is with
  | nil => intro i; simp [minL]
  | cons j is ih =>
    intro i
    obtain ⟨h1, h2, h3⟩ := ih (min i j)
    have e : minL i (j :: is) = minL (min i j) is := rfl
    rw [e]
    refine ⟨?_, by omega, fun y hy => ?_⟩
    · rcases h1 with h1 | h1
      · rw [h1]
        by_cases z : i ≤ j
        · exact .inl (by omega)
        · exact .inr (by rw [show min i j = j by omega]; simp)
      · exact .inr (by simp [h1])
    · rcases List.mem_cons.mp hy with z | z
      · rw [z]; omega
      · exact h3 y z
theorem maxL_ok (is : List Int) : ∀ i, (maxL i is = i ∨ maxL i is ∈ is) ∧ i ≤ maxL i is ∧ ∀ y ∈ is, y ≤ maxL i is := by
  induction is with
  | nil => intro i; simp [maxL]
  | cons j is ih =>
    intro i
    obtain ⟨h1, h2, h3⟩ := ih (max i j)
    have e : maxL i (j :: is) = maxL (max i j) is := rfl
    rw [e]
    refine ⟨?_, by omega, fun y hy => ?_⟩
    · rcases h1 with h1 | h1
      · rw [h1]
        by_cases z : j ≤ i
        · exact .inl (by omega)
        · exact .inr (by rw [show max i j = j by omega]; simp)
      · exact .inr (by simp [h1])
    · rcases List.mem_cons.mp hy with z | z
      · rw [z]; omega
      · exact h3 y z
theorem ext_call {r : List V → Hp → VK → Prop} {k : Int → List Int → Int} (hr : ∀ xs H Q, (∃ (a : Addr) (ns : List Int), xs = [V.ref a] ∧ SqL X.K H a (ns.map V.int) ∧ ∃ i is, ns = i :: is ∧ Q (.int (k i is)) H) → r xs H Q) : CallM (gm X) r (fExt k) := fun W ρ h H m v Q R rm q => by
  unfold fExt at q
  cases z : (m.aslst h).bind (mapO intOf) with
  | none => rw [z] at q; exact q.elim
  | some ns =>
    rw [z] at q
    obtain ⟨ds, e1, e2⟩ := Option.bind_eq_some_iff.mp z
    obtain ⟨a, vs, ev, s, rr⟩ := aslst_sq R e1 rm
    rw [mapO_int e2] at rr
    cases ns with
    | nil => exact q.elim
    | cons i is =>
      refine hr _ _ _ ⟨a, i :: is, by rw [ev], ?_, i, is, rfl, q ρ H (Ext.refl _ _) R _ (by simp [RD])⟩
      rw [← RDs.of_ints rr]
      exact s
theorem c_min : CallM (gm X) (rMin X.K) (fExt minL) := ext_call fun xs H Q ⟨a, ns, e, s, i, is, en, q⟩ => ⟨a, ns, e, s, by rw [en]; simp, fun m hm hle => by
  obtain ⟨h1, h2, h3⟩ := minL_ok is i
  have : m = minL i is := by
    rw [en] at hm hle
    have m1 : minL i is ∈ i :: is := by rcases h1 with z | z <;> simp [z]
    have m2 := hle _ m1
    rcases List.mem_cons.mp hm with z | z
    · rw [z] at m2 ⊢; omega
    · have := h3 _ z; omega
  rw [this]; exact q⟩
theorem c_max : CallM (gm X) (rMax X.K) (fExt maxL) := ext_call fun xs H Q ⟨a, ns, e, s, i, is, en, q⟩ => ⟨a, ns, e, s, by rw [en]; simp, fun m hm hle => by
  obtain ⟨h1, h2, h3⟩ := maxL_ok is i
  have : m = maxL i is := by
    rw [en] at hm hle
    have m1 : maxL i is ∈ i :: is := by rcases h1 with z | z <;> simp [z]
    have m2 := hle _ m1
    rcases List.mem_cons.mp hm with z | z
    · rw [z] at m2 ⊢; omega
    · have := h3 _ z; omega
  rw [this]; exact q⟩
end
end DL
/-! DLq: tuple * int. -/
namespace DL
open PySem PySem.Spec PyProof.Rows L2
theorem tuple_mulSame (l : Addr) (items : Array Value) (n : Nat) (dd : Option Addr) (sl : Array (Option Value)) (u : Tok) (hi : items.isEmpty = false) :
    Meets (Builtin.«tuple.__mul__» ⟨[.ref l, .int 1 u], []⟩) (fun _ R s => s.heap.get? l = some { cls := .type "tuple", dict := dd, data := .seq items n, slots := sl } ∧ R (.ok (.ret (Value.ref l))) s) :=
  .of_wp fun prog w A R s h => by
    obtain ⟨hp, g, d, tk, os⟩ := s
    obtain ⟨hl, h⟩ := h
    have f1 := AutoSeq1.idx_int
    wp_walk using wpAny_loadPart' hl
    exact ⟨_, rfl, h⟩
def rRepS (K : PySem.W.Frag) : R2 := fun x y H Q => ∃ l xs, x = .ref l ∧ y = .int 1 ∧ SqT K H l xs ∧ xs ≠ [] ∧ Q (.ref l) H
section
variable {X : Cx} {W : WB} {a b : Expr} {ta tb : DE} {pos : Pos}
theorem op_repS : OpR X (binaryOp .Mult) (rRepS X.K) := by
  intro pins s σ H x y v u Q I rx ry h
  obtain ⟨l, xs, rfl, rfl, hT, hne, q⟩ := h
  cases rx
  obtain ⟨t, rfl⟩ := ry
  obtain ⟨its, r, ⟨⟨cls, dd, data, sl⟩, ho, hc, n, hd⟩, hs⟩ := I.tuple hT
  simp only at hc hd
  subst hc hd
  have hi : its.toArray.isEmpty = false := by
    cases its with
    | nil => exact absurd (List.eq_nil_of_length_eq_zero (by rw [r.length]; rfl)) hne
    | cons a b => rfl
  exact wpAny_binaryOp_repeat_ref (T := "tuple") (U := "int") (by decide) ⟨_, ho, rfl⟩ (fun s' => typeIs_int s' 1 t) noFill_tuple_mul F.fills_int_mul F.slot_int_rmul repeat_tuple F.slot_int_index.lookup
    (call_meets F.slot_int_rmul (typeIs_int s 1 t) F.entry_int_rmul (F.args_int_rmul_2 _ _) (int_rmul_tuple 1 t l its.toArray n dd sl)
      ⟨ho, rfl, ⟨_, ho, rfl⟩, call_meets F.slot_tuple_mul ⟨_, ho, rfl⟩ F.entry_tuple_mul (F.args_tuple_mul_2 _ _) (tuple_mulSame l its.toArray n dd sl t hi) ⟨ho, ⟨.ref l, H, I, rfl, q⟩⟩⟩)
/-- (x, ..) * k, k from 1 on -/
def oRep1 : D → D → DH → Res D := fun x y h => match x, y with
  | .tup ds, .int k => if ds ≠ [] ∧ 1 ≤ k ∧ k ≤ 1000 ∧ ds.length ≤ 1000 then .ok (.tup (List.replicate k.toNat ds).flatten) h else .stuck
  | _, _ => .stuck
theorem d_rept (p : DEx X W a ta) (q : DEx X W b tb) : DEx X W (.BinOp a .Mult b pos) (dOp oRep1 ta tb) := d_bin (op_repS.or op_repT) (fun W ρ h H x y v u Q R rx ry q => by
  cases x <;> cases y <;> try exact q.elim
  rename_i ds k
  simp only [RD] at rx ry
  obtain ⟨c, vs, e1, s, r⟩ := rx
  dsimp only [oRep1] at q
  by_cases z : ds ≠ [] ∧ 1 ≤ k ∧ k ≤ 1000 ∧ ds.length ≤ 1000
  · rw [if_pos z] at q
    obtain ⟨z1, z2, z3, z4⟩ := z
    have ne : vs ≠ [] := fun e => by
      have := r.length
      rw [e] at this
      exact z1 (List.eq_nil_of_length_eq_zero this.symm)
    by_cases k1 : k = 1
    · refine .inl ⟨c, vs, e1, by rw [ry, k1], s, ne, q ρ H (Ext.refl _ _) R _ ?_⟩
      subst k1
      simp only [RD]
      exact ⟨c, vs, rfl, s, by simpa using r⟩
    · refine .inr ⟨c, k, vs, e1, ry, s, ne, by omega, z3, by rw [r.length]; exact z4, fun p hp => q ρ _ (Ext.tup hp) (R.tup hp) _ ?_⟩
      simp only [RD]
      exact ⟨p, _, rfl, SqT.of upd_same, (rep_rds r _).mono (Ext.tup hp) R⟩
  · rw [if_neg z] at q; exact q.elim) p q
end
end DL
/-! DLr: try / except as: which classes are taken is told by a table; what a suite asks of its exception. -/
namespace DL
open PySem PySem.Spec PyProof.Rows L2
section
variable {X : Cx} {W : WB} {e : Expr} {pos p : Pos} {c : Str}
/-- try: body / except .. as name: suite. tab: for each class that may come, whether the clause takes it -/
def sTryT (tab : List (Str × Bool)) (i : Nat) (b : DS) (suite : Exn → DS) : DS := fun env h => match b env h with
  | .exc e env1 h1 => match tab.lookup e.cls with
    | some true => if i < env1.length then clr i (suite e (env1.set i none) h1) else .stuck
    | some false => .exc e env1 h1
    | none => .stuck
  | o => o
/-- the clause's class against the table -/
def ExmT (g : Gm) (tab : List (Str × Bool)) (Cv : Value) : Prop := ∀ c1 C1 k, tab.lookup c1 = some k → g.mg c1 = some (.ref C1) → PySem.W.exmOne g.K (.ref C1) Cv = some k
theorem s_tryT {tab : List (Str × Bool)} {i : Nat} {n : Str} {Cv : Value} {body suite : List Stmt} {b₀ : Stmt} {np pos' : Pos} {tb : DS} {ts : Exn → DS} (hs : X.stack = X.env :: X.outer) (hf : X.env.frame = some X.env.locals) (hN : X.N.Nodup) (hi : X.N[i]? = some n) (hln : X.env.kindOf n = some .local)
    (hc : L2.Names X c Cv) (tk : L2.Takes X W.wish) (hw : W.xa = none) (hx : ExmT (gm X) tab Cv)
    (hb : ∀ (W' : WX) (pn : List (Addr × Obj)) (xe : Value → Shared → Prop), L2.Takes (X.tr pn xe) W' → PassesOwn (model X.prog X.w) X.A X.env xe → DSsx (X.tr pn xe) ⟨W', none⟩ body tb)
    (hsu : ∀ (a : Addr) (oe : Obj) (cls : Value) (d : Option Addr) (pn : List (Addr × Obj)) (e : Exn), tab.lookup e.cls = some true → Zc cls d oe → (∃ vs, oe.data = .fields vs) → PSs (SuiteX X a oe pn) (b₀ :: suite) (lS (gm X) ⟨fun _ _ _ _ => False, some ⟨i, a, cls, d, e⟩⟩ (ts e))) :
    DSx X W (.Try body [.ExceptHandler (some (.Name c np)) (some n) (b₀ :: suite) pos'] [] [] pos) (sTryT tab i tb ts) :=
  PS.imp (ps_try_as (tb := fun W' => lS (gm X) ⟨W', none⟩ tb) (ts := fun a cls d => lX (gm X) i a cls d fun e => if tab.lookup e.cls = some true then ts e else fun _ _ => .stuck) hs hf hN hi hln hc tk (fun W' pn xe t po => hb W' pn xe t po) fun a oe cls d pn z1 z2 => x_in fun e => by
      by_cases he : tab.lookup e.cls = some true
      · rw [if_pos he]; exact hsu a oe cls d pn e he z1 z2
      · rw [if_neg he]; exact ⟨fun pins s σ H Dn I ⟨_, _, _, _, _, q⟩ => q.elim⟩) fun Dn σ H ⟨ρ, env, h, R, E, q⟩ => by
    rw [hw] at E
    refine ⟨ρ, env, h, R, E, ?_⟩
    unfold sTryT at q
    cases z : tb env h with
    | nx env' h' => rw [z] at q; exact fun ρ' H' σ' x R' E' => q ρ' H' σ' x R' (by rw [hw]; exact E')
    | rt d h' => rw [z] at q; exact q
    | bk env' h' => rw [z] at q; exact fun ρ' H' σ' x R' E' => q ρ' H' σ' x R' (by rw [hw]; exact E')
    | ct env' h' => rw [z] at q; exact fun ρ' H' σ' x R' E' => q ρ' H' σ' x R' (by rw [hw]; exact E')
    | stuck => rw [z] at q; exact q
    | exc e env1 h1 =>
      rw [z] at q
      intro ρ1 H1 σ1 cls d x1 R1 E1 xr
      obtain ⟨C1, m1, ec, xr'⟩ := id xr
      dsimp only at q
      cases zk : tab.lookup e.cls with
      | none => rw [zk] at q; exact q.elim
      | some k =>
        rw [zk] at q
        have ex := hx e.cls C1 k zk m1
        subst ec
        refine ⟨_, ex, fun hd a na => ?_, fun hd => ?_⟩
        · subst hd
          dsimp only at q
          by_cases hl0 : i < env1.length
          · rw [if_pos hl0] at q
            have E2 : REn (gm X) (some ⟨i, a, .ref C1, d, e⟩) ρ1 H1 (env1.set i none) (σ1.set i (some (.ref a))) := by
              have E0 := E1.none i (some (.ref a))
              refine ⟨E0.len, E0.at_, fun y hy => ?_⟩
              have : (⟨i, a, .ref C1, d, e⟩ : XA) = y := Option.some.inj hy
              subst this
              exact ⟨List.getElem?_set_self (by rw [← E1.len]; exact hl0), xr⟩
            refine ⟨ρ1, env1.set i none, h1, e, R1, E2, ?_⟩
            simp only [if_pos zk]
            have q := RO.mono q x1
            cases z2 : ts e (env1.set i none) h1 with
            | nx env' h' => rw [z2] at q; exact fun ρ' H' σ' x R' E' => q ρ' H' _ x R' (by rw [hw]; exact E'.none i none)
            | bk env' h' => rw [z2] at q; exact fun ρ' H' σ' x R' E' => q ρ' H' _ x R' (by rw [hw]; exact E'.none i none)
            | ct env' h' => rw [z2] at q; exact fun ρ' H' σ' x R' E' => q ρ' H' _ x R' (by rw [hw]; exact E'.none i none)
            | rt d' h' => rw [z2] at q; exact fun ρ' H' v x R' r' => q ρ' H' v x R' r'
            | exc e' env' h' => rw [z2] at q; exact q.elim
            | stuck => rw [z2] at q; exact q.elim
          · rw [if_neg hl0] at q; exact q.elim
        · subst hd
          exact q ρ1 H1 σ1 _ _ x1 R1 (by rw [hw]; exact E1) xr
end
/-! ### in a suite -/
section
variable {X : Cx} {a : Addr} {oe : Obj} {cls : Value} {d : Option Addr} {pn : List (Addr × Obj)} {i : Nat} {x : Exn} {wish : WX} {n : Str} {pos p : Pos}
abbrev WS (wish : WX) (i : Nat) (a : Addr) (cls : Value) (d : Option Addr) (x : Exn) : WB := ⟨wish, some ⟨i, a, cls, d, x⟩⟩
/-- e.f -/
def dXf (x : Exn) (f : Str) : DE := fun _ h => match x.fs.lookup f with
  | some d => .ok d h
  | none => .stuck
theorem d_xf {f : Str} {e : Expr} (T : ∀ C, X.mg x.cls = some (.ref C) → XfC X.K C ∧ PySem.W.findIn X.K (.ref C) f = some none) (hz : Zc cls d oe) (hf : ∃ vs, oe.data = .fields vs) (he : PE (SuiteX X a oe pn) e (tVar i)) (hb : attributeBase e f X.env (eval e X.env) = eval e X.env := by rfl) :
    DEx (SuiteX X a oe pn) (WS wish i a cls d x) (.Attribute e f pos) (dXf x f) := by
  refine ⟨fun pins s σ H Q I ⟨ρ, env, h, R, E, q⟩ => ?_⟩
  obtain ⟨e1, C, mC, ec, xr⟩ := E.hx _ rfl
  dsimp only at e1 mC ec xr
  obtain ⟨T1, T2⟩ := T C mC
  refine (pe_xf T1 T2 hz hf he hb).run pins s σ H Q I ⟨.ref a, e1, rfl, ec, ?_⟩
  unfold dXf at q
  rcases xr with ⟨e0, _⟩ | ⟨dd, fvs, ed, hdd, rf⟩
  · rw [e0] at q; exact q.elim
  · have lk := rf.lookup f
    cases zf : x.fs.lookup f with
    | none => rw [zf] at q; exact q.elim
    | some dv =>
      rw [zf] at q lk
      obtain ⟨v, ev, rv⟩ := lk
      exact ⟨dd, fvs, v, ed, hdd, ev, q ρ H (Ext.refl _ _) R v rv⟩
/-- what isinstance asks of an exception's class -/
structure ExI (K : PySem.W.Frag) (D : Addr) : Prop where
  cl : (PySem.W.clsIn K D).isSome = true
  ga : PySem.W.findIn K (.ref D) "__getattribute__" = some (some (.builtin "BaseException.__getattribute__"))
  gt : PySem.W.findIn K (.ref D) "__getattr__" = some none
  su : PySem.W.subIn K (.ref D) (.type "BaseException") = some true
  ca : PySem.W.findIn K (.ref D) "__class__" = some (some (.builtin "object.__class__"))
  cn : PySem.W.specialIn K (.builtin "object.__class__") "__get__" = some (some (.builtin "getset_descriptor.__get__"))
  tk : PySem.W.takesIn K (.builtin "object.__class__") = some true
  mo : PySem.W.mroIn K D (.type "object") = some true
def exiB (K : PySem.W.Frag) (D : Addr) : Bool := (PySem.W.clsIn K D).isSome && (decide (PySem.W.findIn K (.ref D) "__getattribute__" = some (some (.builtin "BaseException.__getattribute__"))) && (decide (PySem.W.findIn K (.ref D) "__getattr__" = some none) && (decide (PySem.W.subIn K (.ref D) (.type "BaseException") = some true) &&
  (decide (PySem.W.findIn K (.ref D) "__class__" = some (some (.builtin "object.__class__"))) && (decide (PySem.W.specialIn K (.builtin "object.__class__") "__get__" = some (some (.builtin "getset_descriptor.__get__"))) && (decide (PySem.W.takesIn K (.builtin "object.__class__") = some true) && decide (PySem.W.mroIn K D (.type "object") = some true)))))))
theorem exiB_ok {K : PySem.W.Frag} {D : Addr} (h : exiB K D = true) : ExI K D := by
  unfold exiB at h
  simp only [Bool.and_eq_true, decide_eq_true_eq] at h
  obtain ⟨h1, h2, h3, h4, h5, h6, h7, h8⟩ := h
  exact ⟨h1, h2, h3, h4, h5, h6, h7, h8⟩
def rIsX (K : PySem.W.Frag) (D a : Addr) (d : Option Addr) : List V → Hp → VK → Prop := fun xs H Q => ∃ (c : V) (cv : Value) (b : Bool), xs = [.ref a, c] ∧ (∀ u, RelV c u → u = cv) ∧ (d = none ∨ ∃ dd fs, d = some dd ∧ H dd = some (.xd fs)) ∧ PySem.W.kitOne K (.ref D) cv = some b ∧ Q (.bl b) H
theorem call_isX {D : Addr} (C : ExI X.K D) (hz : Zc (.ref D) d oe) (hf : ∃ vs, oe.data = .fields vs) : CallR (SuiteX X a oe pn) (.builtin "isinstance") (rIsX X.K D a d) := by
  intro pins s σ H xs us Q I r h
  obtain ⟨c, cv, b, rfl, hcv, hd, e, q⟩ := h
  obtain ⟨u1, u2, rfl, r1, r2⟩ := vals2 r
  cases (show u1 = Value.ref a from r1)
  have ec := hcv _ r2
  subst ec
  obtain ⟨hget, _⟩ := I.pin (a, oe) (List.mem_append.mpr (.inl List.mem_cons_self))
  obtain ⟨vs, hv⟩ := hf
  have J : ∃ od, PySem.W.InstAt s.heap a oe D od := by
    have nc : PySem.W.notCls oe = true := by unfold PySem.W.notCls; rw [hv] <;> rfl
    rcases hd with hd | ⟨dd, fs, hd, ha⟩
    · exact ⟨none, hget, hz.1, nc, by rw [hz.2, hd]; trivial⟩
    · have hx : ObjOk X.prog X.w H s.heap dd (.xd fs) := I.hok dd _ ha
      obtain ⟨mA, hns, hr⟩ := hx
      obtain ⟨od, ho, hl⟩ := lookIn_ns hns
      exact ⟨some od, hget, hz.1, nc, by rw [hz.2, hd]; exact ho⟩
  obtain ⟨od, J⟩ := J
  exact PySem.W.kia_one (PySem.W.kitx_exc (od := od) C.cl C.ga C.gt C.su C.ca C.cn C.tk C.mo) I.kIn J e (fun z => nomatch z) fun tk => ⟨.bl b, H, I.kept (t' := tk) fun _ _ z => z, rfl, q⟩
/-- isinstance(e, C) in the suite -/
def dIsX (x : Exn) (isx : List (Str × Bool)) : DE := fun _ h => match isx.lookup x.cls with
  | some b => .ok (.bl b) h
  | none => .stuck
theorem d_isX {isx : List (Str × Bool)} {c : Str} {cV : V} {cv : Value} {e : Expr} (T : ∀ C, X.mg x.cls = some (.ref C) → ExI X.K C) (hk : ∀ C b, X.mg x.cls = some (.ref C) → isx.lookup x.cls = some b → PySem.W.kitOne X.K (.ref C) cv = some b) (hz : Zc cls d oe) (hf : ∃ vs, oe.data = .fields vs)
    (hm : X.mg "isinstance" = none) (he : PE (SuiteX X a oe pn) e (tVar i)) (pc : PE (SuiteX X a oe pn) (.Name c p) (tC cV)) (hcv : ∀ u, RelV cV u → u = cv) {ip : Pos} (hg : Gl (SuiteX X a oe pn) "isinstance" := by rfl)
    (hs : starEach (e :: [.Name c p]) X.env = (false, eval e X.env) :: starEach [.Name c p] X.env := by rfl) (hs2 : starEach (.Name c p :: []) X.env = (false, eval (.Name c p) X.env) :: starEach [] X.env := by rfl)
    (hpl : (backTo pos (starEach [.Name c p] X.env)).any (·.1) = false := by rfl) : DEx (SuiteX X a oe pn) (WS wish i a cls d x) (.Call (.Name "isinstance" ip) [e, .Name c p] [] pos) (dIsX x isx) := by
  refine ⟨fun pins s σ H Q I ⟨ρ, env, h, R, E, q⟩ => ?_⟩
  obtain ⟨e1, C, mC, ec, xr⟩ := E.hx _ rfl
  dsimp only at e1 mC ec xr
  unfold dIsX at q
  cases zf : isx.lookup x.cls with
  | none => rw [zf] at q; exact q.elim
  | some b =>
    rw [zf] at q
    subst ec
    refine (pe_callB (X := SuiteX X a oe pn) (call_isX (T C mC) hz hf) hg hm (by decide +kernel) (pa_cons he (pa_one pc hs2) hs) (by decide) (by decide) hs hpl).run pins s σ H Q I ?_
    refine ⟨.ref a, e1, cV, cv, b, rfl, hcv, ?_, hk C b mC zf, q ρ H (Ext.refl _ _) R _ (by simp [RD])⟩
    rcases xr with ⟨_, e0⟩ | ⟨dd, fvs, ed, hdd, rf⟩
    · exact .inl e0
    · exact .inr ⟨dd, fvs, ed, hdd⟩
end
end DL
/-! DLs: dicts: the empty display. -/
namespace DL
open PySem PySem.Spec PyProof.Rows L2
section
variable {X : Cx} {W : WB} {pos : Pos}
def tDict0 : TE := fun _ H Q => ∀ p, H p = none → (p == sysModules) = false → Q (.ref p) (upd H p (rawO p #[] 0))
theorem pe_dict0 : PE X (.Dict [] [] pos) tDict0 := ⟨fun pins s σ H Q I h => by
  have hb := I.big
  have ne : (s.heap.objs.size == sysModules) = false := beq_eq_false_iff_ne.mpr (Ne.symm (Nat.ne_of_lt hb))
  have raw : (s.heap.push { cls := .type "dict", data := .dict #[] }).DictRaw s.heap.objs.size #[] 0 := ⟨_, Heap.get?_push_size _ rfl, ⟨rfl, rfl, rfl⟩, rfl⟩
  refine wpAny_Dict_empty ⟨.ref s.heap.objs.size, _, I.laid (a := s.heap.objs.size) (o := rawO s.heap.objs.size #[] 0) (t' := s.toks) (fun _ _ q => Heap.get?_push_of_some _ q) (Nat.le_refl _) ?_, rfl, h _ (I.hok.fresh (Nat.le_refl _)) ne⟩
  refine ⟨raw, ⟨_, Heap.get?_push_size _ rfl⟩, fun h1 h2 ⟨o, e, x, d⟩ k => ⟨o, k o e, x, d⟩⟩⟩
def dDict0 : DE := fun _ h => .ok (.ref h.length) (h ++ [.dct false []])
theorem d_dict0 : DEx X W (.Dict [] [] pos) dDict0 := PE.imp pe_dict0 fun σ H Q ⟨ρ, env, h, R, E, q⟩ p hp hs => by
  have x1 := Ext.new1 (o := rawO p #[] 0) R hp
  have R1 : RH (gm X) (ρ ++ [p]) (h ++ [.dct false []]) (upd H p (rawO p #[] 0)) := R.new1 (od := .dct false []) hp ⟨default, [], 0, upd_same, hs, Nat.zero_le _, .nil, List.nodup_nil⟩
  refine q (ρ ++ [p]) _ x1 R1 _ ?_
  simp only [RD]
  exact ⟨p, rfl, by rw [← R.len, List.getElem?_append_right (Nat.le_refl _)]; simp⟩
end
/-! ### tables of classes -/
section
variable {g : Gm} {A : Str} {b : Bool} {tab : List (Str × Bool)} {P : Addr → Prop} {Cv : Value}
def TabT (g : Gm) (tab : List (Str × Bool)) (P : Addr → Prop) : Prop := ∀ c1 C1, tab.lookup c1 = some true → g.mg c1 = some (.ref C1) → P C1
theorem tabT_nil : TabT g [] P := fun c1 C1 h => by cases h
theorem look_cons {c1 : Str} {k : Bool} (h : ((A, b) :: tab).lookup c1 = some k) : (c1 = A ∧ b = k) ∨ tab.lookup c1 = some k := by
  rw [List.lookup_cons] at h
  split at h
  · rename_i e
    cases h
    exact .inl ⟨by simpa using e, rfl⟩
  · exact .inr h
theorem tabT_yes (h : ∀ C1, g.mg A = some (.ref C1) → P C1) (r : TabT g tab P) : TabT g ((A, true) :: tab) P := fun c1 C1 hl hm => by
  rcases look_cons hl with ⟨rfl, _⟩ | hl
  · exact h C1 hm
  · exact r c1 C1 hl hm
theorem tabT_no (r : TabT g tab P) : TabT g ((A, false) :: tab) P := fun c1 C1 hl hm => by
  rcases look_cons hl with ⟨_, z⟩ | hl
  · cases z
  · exact r c1 C1 hl hm
theorem exmT_nil : ExmT g [] Cv := fun c1 C1 k h => by cases h
theorem exmT_cons {C : Addr} (m : g.mg A = some (.ref C)) (h : PySem.W.exmOne g.K (.ref C) Cv = some b) (r : ExmT g tab Cv) : ExmT g ((A, b) :: tab) Cv := fun c1 C1 k hl hm => by
  rcases look_cons hl with ⟨rfl, rfl⟩ | hl
  · rw [m] at hm; cases hm; exact h
  · exact r c1 C1 k hl hm
def IsxT (g : Gm) (tab : List (Str × Bool)) (cv : Value) : Prop := ∀ c1 C1 k, tab.lookup c1 = some k → g.mg c1 = some (.ref C1) → PySem.W.kitOne g.K (.ref C1) cv = some k
theorem isxT_nil : IsxT g [] Cv := fun c1 C1 k h => by cases h
theorem isxT_cons {C : Addr} (m : g.mg A = some (.ref C)) (h : PySem.W.kitOne g.K (.ref C) Cv = some b) (r : IsxT g tab Cv) : IsxT g ((A, b) :: tab) Cv := fun c1 C1 k hl hm => by
  rcases look_cons hl with ⟨rfl, rfl⟩ | hl
  · rw [m] at hm; cases hm; exact h
  · exact r c1 C1 k hl hm
theorem tabT_one {C : Addr} (m : g.mg A = some (.ref C)) (h : P C) : ∀ C1, g.mg A = some (.ref C1) → P C1 := fun C1 hm => by rw [m] at hm; cases hm; exact h
end
section
variable {X : Cx} {a : Addr} {oe : Obj} {cls : Value} {d : Option Addr} {pn : List (Addr × Obj)} {i : Nat} {x : Exn} {wish : WX} {pos p ip : Pos} {tab isx : List (Str × Bool)} {c : Str} {e : Expr}
theorem d_xfT {f : Str} (T : TabT (gm X) tab fun C => XfC X.K C ∧ PySem.W.findIn X.K (.ref C) f = some none) (he : tab.lookup x.cls = some true) (hz : Zc cls d oe) (hf : ∃ vs, oe.data = .fields vs) (pe : PE (SuiteX X a oe pn) e (tVar i)) (hb : attributeBase e f X.env (eval e X.env) = eval e X.env := by rfl) :
    DEx (SuiteX X a oe pn) (WS wish i a cls d x) (.Attribute e f pos) (dXf x f) := d_xf (fun C hm => T _ C he hm) hz hf pe hb
theorem d_isXo {C : Addr} (T : TabT (gm X) tab (ExI X.K)) (he : tab.lookup x.cls = some true) (hk : IsxT (gm X) isx (.ref C)) (hz : Zc cls d oe) (hf : ∃ vs, oe.data = .fields vs) (hm : X.mg "isinstance" = none) (mc : X.mg c = some (.ref C)) (pe : PE (SuiteX X a oe pn) e (tVar i))
    (hgc : Gl X c := by rfl) (hd : (c == ("__debug__" : Str)) = false := by decide) (hg : Gl (SuiteX X a oe pn) "isinstance" := by rfl)
    (hs : starEach (e :: [.Name c p]) X.env = (false, eval e X.env) :: starEach [.Name c p] X.env := by rfl) (hs2 : starEach (.Name c p :: []) X.env = (false, eval (.Name c p) X.env) :: starEach [] X.env := by rfl)
    (hpl : (backTo pos (starEach [.Name c p] X.env)).any (·.1) = false := by rfl) : DEx (SuiteX X a oe pn) (WS wish i a cls d x) (.Call (.Name "isinstance" ip) [e, .Name c p] [] pos) (dIsX x isx) :=
  d_isX (cV := .ref C) (cv := .ref C) (fun C1 h1 => T _ C1 he h1) (fun C1 b h1 h2 => hk _ C1 b h2 h1) hz hf hm pe (pe_glob (X := SuiteX X a oe pn) (v := .ref C) hgc mc rfl hd) (fun u r => r) hg hs hs2 hpl
theorem d_isXb {T' : String} (T : TabT (gm X) tab (ExI X.K)) (he : tab.lookup x.cls = some true) (hk : IsxT (gm X) isx (.type T')) (hz : Zc cls d oe) (hf : ∃ vs, oe.data = .fields vs) (hm : X.mg "isinstance" = none) (mc : X.mg c = none) (hv : bootBuiltins c = some (.type T')) (pe : PE (SuiteX X a oe pn) e (tVar i))
    (hgc : Gl X c := by rfl) (hn : c ≠ "__name__" := by decide) (hd : (c == ("__debug__" : Str)) = false := by decide) (hg : Gl (SuiteX X a oe pn) "isinstance" := by rfl)
    (hs : starEach (e :: [.Name c p]) X.env = (false, eval e X.env) :: starEach [.Name c p] X.env := by rfl) (hs2 : starEach (.Name c p :: []) X.env = (false, eval (.Name c p) X.env) :: starEach [] X.env := by rfl)
    (hpl : (backTo pos (starEach [.Name c p] X.env)).any (·.1) = false := by rfl) : DEx (SuiteX X a oe pn) (WS wish i a cls d x) (.Call (.Name "isinstance" ip) [e, .Name c p] [] pos) (dIsX x isx) :=
  d_isX (cV := .ty T') (cv := .type T') (fun C1 h1 => T _ C1 he h1) (fun C1 b h1 h2 => hk _ C1 b h2 h1) hz hf hm pe (pe_bltn (X := SuiteX X a oe pn) (v := .ty T') hgc mc hv rfl hn hd) (fun u r => r) hg hs hs2 hpl
end
end DL
/-! DLt: sorted(..) of what reads as data. -/
namespace DL
open PySem PySem.Spec PyProof.Rows L2
open PySem.W (EachIs AllAlike Sortable alike dataLe)
/-- sorted(l): the items stand for data that can be compared -/
def rSrt (K : PySem.W.Frag) : List V → Hp → VK → Prop := fun xs H Q => ∃ (a : Addr) (zs : List (V × PyData)), xs = [.ref a] ∧ SqL K H a (zs.map (·.1)) ∧ (∀ z ∈ zs, Dp K H z.1 z.2) ∧ AllAlike (zs.map (·.2)) ∧ Sortable (zs.map (·.2)) ∧ (∀ z ∈ zs, z.2.depth ≤ 12) ∧
  ∀ p, H p = none → Q (.ref p) (upd H p (.lst ((zs.mergeSort (dataLe false fun z => z.2)).map (·.1))))
theorem each_of {X : Cx} {pins : List (Addr × Obj)} {σ : L2.St} {H : Hp} {s : Shared} (I : Inv X pins σ H s) : ∀ {zs : List (V × PyData)} {us : List Value}, Vals (zs.map (·.1)) us → (∀ z ∈ zs, Dp X.K H z.1 z.2) →
    EachIs (fun u (z : V × PyData) => RelV z.1 u) us zs ∧ EachIs (fun u (z : V × PyData) => ∃ as, Reads s.heap u z.2 as) us zs
  | [], us, r, _ => by cases r; exact ⟨.nil, .nil⟩
  | z :: zs, us, r, d => by
    cases r with
    | cons r1 r2 =>
      obtain ⟨e1, e2⟩ := each_of I r2 fun y hy => d y (by simp [hy])
      exact ⟨.cons r1 e1, .cons (Dp.reads I z.2 z.1 _ (d z (by simp)) r1) e2⟩
theorem vals_each : ∀ {zs : List (V × PyData)} {us : List Value}, EachIs (fun u (z : V × PyData) => RelV z.1 u) us zs → Vals (zs.map (·.1)) us
  | _, _, .nil => .nil
  | _, _, .cons r t => .cons r (vals_each t)
theorem call_srt {X : Cx} (hu : X.A.units + 100 < cLine) : CallR X (.builtin "sorted") (rSrt X.K) := by
  intro pins s σ H xs us Q I r h
  obtain ⟨a, zs, rfl, hs, hd, hal, hk, hdp, q⟩ := h
  obtain ⟨u, rfl, ru⟩ := vals1 r
  obtain rfl : u = Value.ref a := ru
  obtain ⟨its, rv, hl, hz⟩ := I.list hs
  obtain ⟨e1, e2⟩ := each_of I rv hd
  have hlen : zs.length ≤ sizeLine := by simpa using hz
  refine PySem.W.sorted_data (enc := fun z => z.2) hl.isList e1 e2 hal hk hlen (fun z hm => by have := hdp z hm; omega) fun out hol ho => ?_
  have fr : s.heap.objs.size ≤ s.heap.objs.size + 1 := Nat.le_succ _
  refine ⟨.ref (s.heap.objs.size + 1), _, I.laid (t' := s.toks) (o := .lst ((zs.mergeSort (dataLe false fun z => z.2)).map (·.1))) (fun b o e => sortedAll_old e) fr ?_, rfl, q _ (I.hok.fresh fr)⟩
  obtain ⟨n, hn⟩ := sortedAll_at s.heap its out.toArray
  exact ⟨by rw [List.length_map, List.length_mergeSort]; exact hlen, out, n, vals_each ho, hn⟩
/-! ### as a reading -/
def encD (h : DH) (d : D) : PyData := (toPy h 12 d).getD .none
def isTup : PyData → Bool
  | .tuple (_ :: _) => true
  | _ => false
def isOth : PyData → Bool
  | .tuple _ => false
  | .none => false
  | _ => true
/-- what may be sorted -/
def okSort (h : DH) (ds : List D) : Bool := ds.all (fun d => (toPy h 12 d).isSome) && (ds.all (fun d => ds.all fun e => alike (encD h d) (encD h e)) && (ds.all (fun d => isTup (encD h d)) || ds.all fun d => isOth (encD h d)))
def srtD (h : DH) (ds : List D) : List D := ds.mergeSort (dataLe false (encD h))
def qSorted (t : DO) : DA := fun env h => (t env h).bind fun m h1 => match m.aslst h1 with
  | some ds => if okSort h1 ds then .ok (srtD h1 ds) h1 else .stuck
  | none => .stuck
theorem merge_fst {α β : Type} (f : α → β) (le : β → β → Bool) : ∀ l : List α, (l.mergeSort fun a b => le (f a) (f b)).map f = (l.map f).mergeSort le := fun l => by
  have := List.map_mergeSort (r := fun a b => le (f a) (f b)) (s := le) (f := f) (l := l) (fun a _ b _ => rfl)
  exact this
theorem rds_zip {g : Gm} {ρ : List Addr} {h : DH} {H : Hp} (R : RH g ρ h H) : ∀ {ds : List D} {vs : List V}, ds.all (fun d => (toPy h 12 d).isSome) = true → RDs g ρ H ds vs →
    ∃ zs : List (D × V × PyData), zs.map (·.1) = ds ∧ zs.map (·.2.1) = vs ∧ ∀ z ∈ zs, RD g ρ H z.1 z.2.1 ∧ Dp g.K H z.2.1 z.2.2 ∧ z.2.2 = encD h z.1 ∧ z.2.2.depth ≤ 12
  | [], vs, _, r => by simp only [RDs] at r; subst r; exact ⟨[], rfl, rfl, by simp⟩
  | d :: ds, vs, a, r => by
    simp only [RDs] at r
    obtain ⟨v, t, e, r1, r2⟩ := r
    subst e
    rw [List.all_cons, Bool.and_eq_true] at a
    obtain ⟨zs, z1, z2, z3⟩ := rds_zip R a.2 r2
    obtain ⟨p, ep⟩ := Option.isSome_iff_exists.mp a.1
    obtain ⟨h1, h2, h3⟩ := toPy_ok R 12 d v p ep r1
    refine ⟨(d, v, p) :: zs, by simp [z1], by simp [z2], fun z hz => ?_⟩
    rcases List.mem_cons.mp hz with q | q
    · subst q; exact ⟨r1, h1, by simp [encD, ep], h3⟩
    · exact z3 z q
theorem q_sorted {X : Cx} {W : WB} {a : Expr} {t : DO} {pos p : Pos} (hu : X.A.units + 100 < cLine) (hm : X.mg "sorted" = none) (pa : DMx X W a t) (hg : Gl X "sorted" := by rfl) (hs : starEach (a :: []) X.env = (false, eval a X.env) :: starEach [] X.env := by rfl) (hpl : (backTo pos (starEach [] X.env)).any (·.1) = false := by rfl) :
    DQx X W (.Call (.Name "sorted" p) [a] [] pos) (qSorted t) :=
  PE.imp (pe_callB (call_srt hu) hg hm (by decide +kernel) (pa_one pa hs) (by decide) (by decide) hs hpl) fun σ H Q ⟨ρ, env, h, R, E, q⟩ => lM.plug R E q fun m h1 ρ1 H1 v x1 R1 E1 r1 q1 => by
    cases z : m.aslst h1 with
    | none => simp only [z] at q1; exact q1.elim
    | some ds =>
      simp only [z] at q1
      by_cases ok : okSort h1 ds = true
      · rw [if_pos ok] at q1
        obtain ⟨c, vs, e1, s, r⟩ := aslst_sq R1 z r1
        unfold okSort at ok
        rw [Bool.and_eq_true, Bool.and_eq_true] at ok
        obtain ⟨o1, o2, o3⟩ := ok
        obtain ⟨zs, z1, z2, z3⟩ := rds_zip R1 o1 r
        have m1 : ∀ z ∈ zs, z.1 ∈ ds := fun z hz => by rw [← z1]; exact List.mem_map.mpr ⟨z, hz, rfl⟩
        refine ⟨c, zs.map (·.2), by rw [e1], ?_, ?_, ?_, ?_, ?_, fun p hp => ?_⟩
        · rw [List.map_map]; rw [← z2] at s; exact s
        · intro y hy
          obtain ⟨x, hx, rfl⟩ := List.mem_map.mp hy
          exact (z3 x hx).2.1
        · intro d hd d' hd'
          rw [List.map_map] at hd hd'
          obtain ⟨x, hx, rfl⟩ := List.mem_map.mp hd
          obtain ⟨x', hx', rfl⟩ := List.mem_map.mp hd'
          have := List.all_eq_true.mp (List.all_eq_true.mp o2 x.1 (m1 x hx)) x'.1 (m1 x' hx')
          show alike x.2.2 x'.2.2 = true
          rw [(z3 x hx).2.2.1, (z3 x' hx').2.2.1]
          exact this
        · rw [Bool.or_eq_true] at o3
          rcases o3 with o3 | o3
          · left
            intro d hd
            rw [List.map_map] at hd
            obtain ⟨x, hx, rfl⟩ := List.mem_map.mp hd
            have := List.all_eq_true.mp o3 x.1 (m1 x hx)
            show ∃ y r, x.2.2 = .tuple (y :: r)
            rw [(z3 x hx).2.2.1]
            unfold isTup at this
            split at this
            · exact ⟨_, _, by assumption⟩
            · cases this
          · right
            intro d hd
            rw [List.map_map] at hd
            obtain ⟨x, hx, rfl⟩ := List.mem_map.mp hd
            have := List.all_eq_true.mp o3 x.1 (m1 x hx)
            show x.2.2 ≠ .none ∧ ∀ xs, x.2.2 ≠ .tuple xs
            rw [(z3 x hx).2.2.1]
            unfold isOth at this
            split at this
            · cases this
            · cases this
            · rename_i n1 n2
              exact ⟨fun e => n2 e, fun xs e => n1 xs e⟩
        · intro y hy
          obtain ⟨x, hx, rfl⟩ := List.mem_map.mp hy
          exact (z3 x hx).2.2.2
        · have srt : (zs.mergeSort fun x y => dataLe false (encD h1) x.1 y.1).map (·.1) = srtD h1 ds := by
            rw [merge_fst (fun z : D × V × PyData => z.1) (dataLe false (encD h1)), z1]; rfl
          have srt2 : ((zs.map (·.2)).mergeSort (dataLe false fun z => z.2)) = (zs.mergeSort fun x y => dataLe false (encD h1) x.1 y.1).map (·.2) := by
            rw [List.map_mergeSort (s := dataLe false fun z : V × PyData => z.2) (r := fun x y : D × V × PyData => dataLe false (encD h1) x.1 y.1)]
            intro x hx y hy
            show dataLe false (encD h1) x.1 y.1 = dataLe false (fun z : V × PyData => z.2) x.2 y.2
            rw [PySem.W.dataLe_eq, PySem.W.dataLe_eq]
            dsimp only
            rw [(z3 x hx).2.2.1, (z3 y hy).2.2.1]
          rw [srt2, List.map_map]
          refine q1 ρ1 _ (Ext.tup hp) (R1.tup hp) p _ upd_same (R1.not hp) (x1.fresh R R1 hp) ?_
          rw [← srt]
          have pz : ∀ z ∈ (zs.mergeSort fun x y => dataLe false (encD h1) x.1 y.1), RD (gm X) ρ1 H1 z.1 z.2.1 := fun z hz => (z3 z (List.mem_mergeSort.mp hz)).1
          refine RDs.mono (Ext.tup hp) R1 ?_
          clear srt srt2
          generalize (zs.mergeSort fun x y => dataLe false (encD h1) x.1 y.1) = ys at pz
          induction ys with
          | nil => simp [RDs]
          | cons y ys ih =>
            simp only [List.map_cons, RDs]
            exact ⟨_, _, rfl, pz y (by simp), ih fun z hz => pz z (by simp [hz])⟩
      · rw [if_neg ok] at q1; exact q1.elim
end DL
/-! DLu: targets that lay new lists (a star), pairs stored from the right. -/
namespace DL
open PySem PySem.Spec PyProof.Rows L2

section
variable {prog : Program} {w : World} {A : Around} {E : Value → Shared → Prop} {s : Shared}
/-- a list, a tuple taken apart with a star at place i -/
theorem star_l {q : Addr} {xs : Array Value} {n i : Nat} {Q : List Value → Shared → Prop} (ql : s.heap.IsList q xs) (qh : A.handled = none) (qi : i < n) (qn : n ≤ xs.size + 1) (qz : xs.size ≤ 16384)
    (k : ∀ g tk, Heap.ExtBut s.heap.objs.size s.heap g → Q (xs.toList.take i ++ [.ref g.objs.size] ++ (xs.toList.drop i).drop (xs.size + 1 - n)) { s with heap := g.push { cls := .type "list", data := .seq ((xs.toList.drop i).take (xs.size + 1 - n)).toArray }, toks := tk }) : wpAny (model prog w) A (unpackItems (.ref q) n (some i)) Q E s := by
  have nq : q ≠ s.heap.objs.size := by obtain ⟨o, ho, _⟩ := ql; exact Nat.ne_of_lt (Heap.lt_size ho)
  unfold unpackItems
  refine wpAny_bind (by
    unfold notIterableAtAll
    refine wpAny_bind (wpAny_specialOf ql.typeIs slot_list_iter.lookup (wpAny_pure ?_))
    simp only [if_false, Bool.false_eq_true]
    refine wpAny_bind (wpAny_holding (wpAny_pyIter_list ql ?_))
    refine wpAny_bind (wpAny_holding (PySem.W.kun_draw nq i 0 _ _ ⟨_, Heap.get?_push_size _ rfl, rfl, rfl⟩ (ql.push _) (by omega) fun g1 z1 b1 => ?_))
    have l1 : g1.IsList q xs := (ql.push _).extBut b1.extBut nq
    rw [Nat.zero_add] at z1
    have z1' := z1
    obtain ⟨o1, p1, _⟩ := z1'
    have l1' := l1
    obtain ⟨o2, p2, _⟩ := l1'
    rw [List.drop_zero]
    have f1 : (xs.toList.take i).length = i := by simp; omega
    rw [if_neg (by rw [f1]; omega)]
    refine wpAny_bind (wpAny_holding (PySem.W.kun_collect (s := { s with heap := g1 }) (T := "list_iterator") (.inr (.inr (.inl rfl))) (Walks.list (A := A.in1) qh s.heap.objs.size q nq xs) (fun j u st => st.1.typeIs) (k := i) (by omega) ⟨z1, l1⟩ (Heap.lt_size p1) (Heap.lt_size p2) (fun g2 tk k2 => ?_) (by rw [sizeLine_eq]; omega)))
    have f2 : (xs.toList.drop i).length = xs.size - i := by simp
    have f3 : (xs.toList.drop i).length - (n - 1 - i) = xs.size + 1 - n := by rw [f2]; omega
    dsimp only
    rw [if_neg (by rw [f2]; omega), f3]
    refine wpAny_bind (wpAny_newList (wpAny_pure ?_) (by rw [sizeLine_eq]; simp; omega))
    exact k g2 tk fun b o hb e => k2 b o hb (b1.extBut b o hb (Heap.get?_push_of_some _ e)))
theorem star_t {q : Addr} {xs : Array Value} {n i : Nat} {Q : List Value → Shared → Prop} (ql : IsTup s.heap q xs) (qh : A.handled = none) (qi : i < n) (qn : n ≤ xs.size + 1) (qz : xs.size ≤ 16384)
    (k : ∀ g tk, Heap.ExtBut s.heap.objs.size s.heap g → Q (xs.toList.take i ++ [.ref g.objs.size] ++ (xs.toList.drop i).drop (xs.size + 1 - n)) { s with heap := g.push { cls := .type "list", data := .seq ((xs.toList.drop i).take (xs.size + 1 - n)).toArray }, toks := tk }) : wpAny (model prog w) A (unpackItems (.ref q) n (some i)) Q E s := by
  have nq : q ≠ s.heap.objs.size := by obtain ⟨o, ho, _⟩ := ql; exact Nat.ne_of_lt (Heap.lt_size ho)
  unfold unpackItems
  refine wpAny_bind (by
    unfold notIterableAtAll
    refine wpAny_bind (wpAny_specialOf ql.typeIs slot_tuple_iter.lookup (wpAny_pure ?_))
    simp only [if_false, Bool.false_eq_true]
    refine wpAny_bind (wpAny_holding (iter_tuple ql ?_))
    refine wpAny_bind (wpAny_holding (draw_tuple nq i 0 _ _ ⟨_, Heap.get?_push_size _ rfl, rfl, rfl⟩ (ql.push _) (by omega) fun g1 z1 b1 => ?_))
    have l1 : IsTup g1 q xs := (ql.push _).extBut b1.extBut nq
    rw [Nat.zero_add] at z1
    have z1' := z1
    obtain ⟨o1, p1, _⟩ := z1'
    have l1' := l1
    obtain ⟨o2, p2, _⟩ := l1'
    rw [List.drop_zero]
    have f1 : (xs.toList.take i).length = i := by simp; omega
    rw [if_neg (by rw [f1]; omega)]
    refine wpAny_bind (wpAny_holding (PySem.W.kun_collect (s := { s with heap := g1 }) (T := "tuple_iterator") (.inr (.inr (.inr rfl))) (Walks.tuple (A := A.in1) qh s.heap.objs.size q nq xs) (fun j u st => st.1.typeIs) (k := i) (by omega) ⟨z1, l1⟩ (Heap.lt_size p1) (Heap.lt_size p2) (fun g2 tk k2 => ?_) (by rw [sizeLine_eq]; omega)))
    have f2 : (xs.toList.drop i).length = xs.size - i := by simp
    have f3 : (xs.toList.drop i).length - (n - 1 - i) = xs.size + 1 - n := by rw [f2]; omega
    dsimp only
    rw [if_neg (by rw [f2]; omega), f3]
    refine wpAny_bind (wpAny_newList (wpAny_pure ?_) (by rw [sizeLine_eq]; simp; omega))
    exact k g2 tk fun b o hb e => k2 b o hb (b1.extBut b o hb (Heap.get?_push_of_some _ e)))
end
/-- a, *b, c = a list or a tuple -/
def gStar (K : PySem.W.Frag) (n i : Nat) (t : TGs) : TG := fun v σ H Q => ∃ a xs, v = .ref a ∧ (SqL K H a xs ∨ SqT K H a xs) ∧ n ≤ xs.length + 1 ∧ xs.length ≤ 16384 ∧
  ∀ p, H p = none → t (xs.take i ++ [.ref p] ++ (xs.drop i).drop (xs.length + 1 - n)) σ (upd H p (.lst ((xs.drop i).take (xs.length + 1 - n)))) Q
section
variable {X : Cx} {pos : Pos}
theorem pg_star {es : List Expr} {k : Nat} {t : TGs} {n i : Nat} (hc : X.calm = true) (h : PGs X es t) (hn : (assignEach es X.env).length = n) (hst : (assignEach es X.env).findIdx? (·.1) = some i) (hi : i < n) : PG X (.Tuple es k pos) (gStar X.K n i t) := by
  refine ⟨fun pins s σ H v u Q I r hw => ?_⟩
  obtain ⟨a, xs, e1, hq, hl, hz, hw⟩ := hw
  subst e1
  cases r
  rw [PyProof.Rows.assign_Tuple]
  refine wpAny_bind (wpAny_standAt ?_)
  unfold unpack
  rw [hn, hst]
  have fin : ∀ (its : List Value), Vals xs its → ∀ g tk, Heap.ExtBut s.heap.objs.size s.heap g → wpAny (model X.prog X.w) X.A (assignInOrder ((assignEach es X.env).map (·.2)) (its.toArray.toList.take i ++ [.ref g.objs.size] ++ (its.toArray.toList.drop i).drop (its.toArray.size + 1 - n)))
      (fun _ s' => ∃ σ' H', Inv X pins σ' H' s' ∧ Q σ' H') X.xe { s with heap := g.push { cls := .type "list", data := .seq ((its.toArray.toList.drop i).take (its.toArray.size + 1 - n)).toArray }, toks := tk } := fun its rv g tk ge => by
    have I1 : Inv X pins σ H { s with heap := g, toks := tk } := I.kept fun b o e => ge b o (Nat.ne_of_lt (Heap.lt_size e)) e
    have el : its.toArray.size = xs.length := by rw [rv.length]; simp
    rw [el]
    have I2 := I1.lnew (t' := tk) ((rv.drop i).take (xs.length + 1 - n)) (by rw [sizeLine_eq]; simp; omega)
    exact h.run pins _ σ _ _ _ Q I2 (((rv.take i).append (.cons (show RelV (.ref _) _ from rfl) .nil)).append ((rv.drop i).drop _)) (hw _ I1.fresh)
  rcases hq with hq | hq
  · obtain ⟨its, rv, pl, _⟩ := I.list hq
    have el : its.toArray.size = xs.length := by rw [rv.length]; simp
    exact wpAny_bind (wpAny_holding (star_l pl.isList (I.ok.hd hc) hi (by rw [el]; exact hl) (by rw [el]; exact hz) (fin its rv)))
  · obtain ⟨its, rv, pl, _⟩ := I.tuple hq
    have el : its.toArray.size = xs.length := by rw [rv.length]; simp
    exact wpAny_bind (wpAny_holding (star_t pl (I.ok.hd hc) hi (by rw [el]; exact hl) (by rw [el]; exact hz) (fin its rv)))
theorem pgs_consS {e : Expr} {es : List Expr} {p : Pos} {t : TG} {u : TGs} (h1 : PG X e t) (h2 : PGs X es u)
    (hs : (assignEach (.Starred e p :: es) X.env).map (·.2) = assign e X.env :: (assignEach es X.env).map (·.2) := by rfl) : PGs X (.Starred e p :: es) (gCons t u) := by
  refine ⟨fun pins s σ H vs us Q I r h => ?_⟩
  obtain ⟨v, vr, e1, h⟩ := h
  subst e1
  cases r with
  | cons r rr =>
    rw [hs]
    refine assignInOrder_cons (thn (h1.run pins s σ H _ _ _ I r h) fun _ s1 ⟨σ1, H1, I1, q1⟩ => h2.run pins s1 σ1 H1 _ _ Q I1 rr q1)
end

/-! ### targets that lay lists, by functions -/
abbrev DGH := D → En → DH → Option (En × DH)
abbrev DGHs := List D → En → DH → Option (En × DH)
def lGH (g : Gm) (xa : Option XA) (l : Option (List Nat)) (t : DGH) : TG := fun v σ H Q => ∃ ρ env h d env' h', RH g ρ h H ∧ REn g xa ρ H env σ ∧ RD g ρ H d v ∧ t d env h = some (env', h') ∧
  ∀ ρ' H' σ', Ext ρ H ρ' H' → RH g ρ' h' H' → REn g xa ρ' H' env' σ' → (∀ vs, l = some vs → L2.wipe σ' vs = L2.wipe σ vs) → Q σ' H'
def lGHs (g : Gm) (xa : Option XA) (l : Option (List Nat)) (t : DGHs) : TGs := fun v σ H Q => ∃ ρ env h ds env' h', RH g ρ h H ∧ REn g xa ρ H env σ ∧ RDs g ρ H ds v ∧ t ds env h = some (env', h') ∧
  ∀ ρ' H' σ', Ext ρ H ρ' H' → RH g ρ' h' H' → REn g xa ρ' H' env' σ' → (∀ vs, l = some vs → L2.wipe σ' vs = L2.wipe σ vs) → Q σ' H'
section
variable {X : Cx} {W : WB} {xa : Option XA} {l : Option (List Nat)} {vs : List Nat} {tg e : Expr} {es : List Expr} {pos p : Pos} {t : DGH} {ts : DGHs} {tp : DG} {te : DE}
def ghOf (t : DG) : DGH := fun d env h => (t d env).map fun e => (e, h)
theorem gh_of (q : DGx X W tg tp) : PG X tg (lGH (gm X) W.xa none (ghOf tp)) := PG.imp q fun v σ H Q ⟨ρ, env, h, d, env', h', R, E, r, z, k⟩ => by
  unfold ghOf at z
  obtain ⟨e1, z1, z2⟩ := Option.map_eq_some_iff.mp z
  cases z2
  exact ⟨ρ, env, h, d, env', R, E, r, z1, fun σ' E' => k ρ H σ' (Ext.refl _ _) R E' fun _ q => by cases q⟩
theorem gh_ofW (q : DGWx X vs tg tp) : PG X tg (lGH (gm X) none (some vs) (ghOf tp)) := PG.imp q fun v σ H Q ⟨ρ, env, h, d, env', h', R, E, r, z, k⟩ => by
  unfold ghOf at z
  obtain ⟨e1, z1, z2⟩ := Option.map_eq_some_iff.mp z
  cases z2
  exact ⟨ρ, env, h, d, env', R, E, r, z1, fun σ' E' w => k ρ H σ' (Ext.refl _ _) R E' fun _ q => by cases q; exact w⟩
def ghsNil : DGHs := fun ds env h => match ds with
  | [] => some (env, h)
  | _ => none
def ghsCons (t : DGH) (ts : DGHs) : DGHs := fun ds env h => match ds with
  | d :: ds => (t d env h).bind fun r => ts ds r.1 r.2
  | [] => none
theorem ghs_nil : PGs X [] (lGHs (gm X) xa l ghsNil) := PGs.imp pgs_nil fun v σ H Q ⟨ρ, env, h, ds, env', h', R, E, r, q, k⟩ => by
  cases ds with
  | nil =>
    simp only [RDs] at r
    simp only [ghsNil, Option.some.injEq] at q
    cases q
    exact ⟨r, k ρ H σ (Ext.refl _ _) R E fun _ _ => rfl⟩
  | cons d ds => cases q
theorem ghs_in {σ : L2.St} {H : Hp} {Q : L2.St → Hp → Prop} {v : List V} (m : lGHs (gm X) xa l (ghsCons t ts) v σ H Q) : gCons (lGH (gm X) xa l t) (lGHs (gm X) xa l ts) v σ H Q := by
  obtain ⟨ρ, env, h, ds, env', h', R, E, r, q, k⟩ := m
  cases ds with
  | nil => cases q
  | cons d ds =>
    simp only [RDs] at r
    obtain ⟨v1, t1, e1, r1, r2⟩ := r
    simp only [ghsCons] at q
    cases z : t d env h with
    | none => rw [z] at q; cases q
    | some p =>
      obtain ⟨env1, h1⟩ := p
      rw [z] at q
      exact ⟨v1, t1, e1, ρ, env, h, d, env1, h1, R, E, r1, z, fun ρ1 H1 σ1 x1 R1 E1 w1 => ⟨ρ1, env1, h1, ds, env', h', R1, E1, r2.mono x1 R, q, fun ρ2 H2 σ2 x2 R2 E2 w2 => k ρ2 H2 σ2 (x1.trans x2) R2 E2 fun vs e => (w2 vs e).trans (w1 vs e)⟩⟩
theorem ghs_cons (q : PG X e (lGH (gm X) xa l t)) (q' : PGs X es (lGHs (gm X) xa l ts)) (hs : (assignEach (e :: es) X.env).map (·.2) = assign e X.env :: (assignEach es X.env).map (·.2) := by rfl) : PGs X (e :: es) (lGHs (gm X) xa l (ghsCons t ts)) := PGs.imp (pgs_cons q q' hs) fun _ _ _ _ m => ghs_in m
theorem ghs_consS (q : PG X e (lGH (gm X) xa l t)) (q' : PGs X es (lGHs (gm X) xa l ts)) (hs : (assignEach (.Starred e p :: es) X.env).map (·.2) = assign e X.env :: (assignEach es X.env).map (·.2) := by rfl) : PGs X (.Starred e p :: es) (lGHs (gm X) xa l (ghsCons t ts)) := PGs.imp (pgs_consS q q' hs) fun _ _ _ _ m => ghs_in m
/-- what a thing is taken apart to -/
def unD (h : DH) : D → Option (List D)
  | .tup ds => some ds
  | d => asList h d
def ghTup (n : Nat) (ts : DGHs) : DGH := fun d env h => match d with
  | .tup ds => if ds.length = n then ts ds env h else none
  | _ => none
def ghStar (n i : Nat) (ts : DGHs) : DGH := fun d env h => match unD h d with
  | some ds => if n ≤ ds.length + 1 ∧ ds.length ≤ 16384 then ts (ds.take i ++ [.ref h.length] ++ (ds.drop i).drop (ds.length + 1 - n)) env (h ++ [.lst ((ds.drop i).take (ds.length + 1 - n))]) else none
  | none => none
theorem gh_tup {k : Nat} {n : Nat} (hc : X.calm = true) (q : PGs X es (lGHs (gm X) xa l ts)) (hn : (assignEach es X.env).length = n := by rfl) (hst : (assignEach es X.env).findIdx? (·.1) = none := by rfl) : PG X (.Tuple es k pos) (lGH (gm X) xa l (ghTup n ts)) :=
  PG.imp (pg_tup hc q hn hst) fun v σ H Q ⟨ρ, env, h, d, env', h', R, E, r, q, k⟩ => by
    cases d with
    | tup ds =>
      simp only [RD] at r
      obtain ⟨a, vs, e1, s, r⟩ := r
      simp only [ghTup] at q
      by_cases z : ds.length = n
      · rw [if_pos z] at q
        exact ⟨a, vs, e1, s, by rw [r.length]; exact z, ρ, env, h, ds, env', h', R, E, r, q, k⟩
      · rw [if_neg z] at q; cases q
    | _ => cases q
theorem gh_star {k : Nat} {n i : Nat} (hc : X.calm = true) (q : PGs X es (lGHs (gm X) xa l ts)) (hi : i < n := by decide) (hn : (assignEach es X.env).length = n := by rfl) (hst : (assignEach es X.env).findIdx? (·.1) = some i := by rfl) : PG X (.Tuple es k pos) (lGH (gm X) xa l (ghStar n i ts)) :=
  PG.imp (pg_star hc q hn hst hi) fun v σ H Q ⟨ρ, env, h, d, env', h', R, E, r, q, k⟩ => by
    unfold ghStar at q
    cases z : unD h d with
    | none => rw [z] at q; cases q
    | some ds =>
      rw [z] at q
      dsimp only at q
      by_cases y : n ≤ ds.length + 1 ∧ ds.length ≤ 16384
      · rw [if_pos y] at q
        have sq : ∃ a vs, v = .ref a ∧ (SqL X.K H a vs ∨ SqT X.K H a vs) ∧ RDs (gm X) ρ H ds vs := by
          cases d with
          | tup es =>
            simp only [unD, Option.some.injEq] at z
            subst z
            simp only [RD] at r
            obtain ⟨a, vs, e1, s, r⟩ := r
            exact ⟨a, vs, e1, .inr s, r⟩
          | rol es => obtain ⟨a, vs, e1, s, r⟩ := asList_sq (h := h) (d := .rol es) R z r; exact ⟨a, vs, e1, .inl s, r⟩
          | ref n => obtain ⟨a, vs, e1, s, r⟩ := asList_sq (h := h) (d := .ref n) R z r; exact ⟨a, vs, e1, .inl s, r⟩
          | _ => simp [unD, asList] at z
        obtain ⟨a, vs, e1, s, r⟩ := sq
        have rl := r.length
        refine ⟨a, vs, e1, s, by rw [rl]; exact y.1, by rw [rl]; exact y.2, fun p hp => ?_⟩
        rw [rl]
        have x1 := Ext.new1 (o := .lst ((vs.drop i).take (ds.length + 1 - n))) R hp
        have rm := r.mono x1 R
        have R1 := R.new1 (od := .lst ((ds.drop i).take (ds.length + 1 - n))) hp ⟨_, upd_same, (rm.drop i).take _⟩
        refine ⟨_, env, _, _, env', h', R1, E.mono x1 R, ((rm.take i).append (RDs.cons ?_ RDs.nil)).append ((rm.drop i).drop _), q, fun ρ2 H2 σ2 x2 R2 E2 w2 => k ρ2 H2 σ2 (x1.trans x2) R2 E2 w2⟩
        simp only [RD]
        exact ⟨p, rfl, by rw [← R.len, List.getElem?_append_right (Nat.le_refl _)]; simp⟩
      · rw [if_neg y] at q; cases q
/-- target = value, where the target lays lists -/
def sAsgH (te : DE) (t : DGH) : DS := fun env h => (te env h).out env fun d h1 => match t d env h1 with
  | some (env', h2) => .nx env' h2
  | none => .stuck
theorem s_asgH (q : DEx X W e te) (pg : PG X tg (lGH (gm X) W.xa none t)) (hs : swapsWithSole [tg] e pos.line X.env = pure false := by rfl) (hw : swappedStores [tg] e X.env = pure none := by rfl)
    (h1 : (assignEach [tg] X.env).map (·.2) = [assign tg X.env] := by rfl) : DSx X W (.Assign [tg] e pos) (sAsgH te t) := PS.imp (ps_asg q pg hs hw h1) fun Dn σ H ⟨ρ, env, h, R, E, q⟩ => by
  refine lE.plugS R E q fun d h1 ρ1 H1 v x1 R1 E1 r1 q1 => ?_
  cases z : t d env h1 with
  | none => simp only [z] at q1; exact q1.elim
  | some p =>
    obtain ⟨env', h2⟩ := p
    simp only [z] at q1
    exact ⟨ρ1, env, h1, d, env', h2, R1, E1, r1, z, fun ρ2 H2 σ2 x2 R2 E2 _ => q1 ρ2 H2 σ2 x2 R2 E2⟩
/-- a, b = x, y: names, stored from the right -/
def sPar (i j : Nat) (ta tb : DE) : DS := fun env h => (ta env h).out env fun x h1 => (tb env h1).out env fun y h2 => .nx ((env.set i (some x)).set j (some y)) h2
theorem s_par {i j : Nat} {x y : Str} {a b : Expr} {ta tb : DE} {px py pt pt2 : Pos} {kt k2 : Nat} (hc : X.calm = true) (hN : X.N.Nodup) (hi : X.N[i]? = some x) (hj : X.N[j]? = some y) (hij : i ≠ j)
    (hx : X.env.scope.names.lookup x = some .local) (hy : X.env.scope.names.lookup y = some .local) (pa : DEx X W a ta) (pb : DEx X W b tb) (nx : ∀ x, W.xa = some x → x.i ≠ i ∧ x.i ≠ j)
    (hw : swappedStores [.Tuple [.Name x px, .Name y py] kt pt] (.Tuple [a, b] k2 pt2) X.env = pure (some [x, y]))
    (hs : swapsWithSole [.Tuple [.Name x px, .Name y py] kt pt] (.Tuple [a, b] k2 pt2) pos.line X.env = pure false := by rfl)
    (e1 : starEach (a :: [b]) X.env = (false, eval a X.env) :: starEach [b] X.env := by rfl) (e2 : starEach (b :: []) X.env = (false, eval b X.env) :: starEach [] X.env := by rfl) :
    DSx X W (.Assign [.Tuple [.Name x px, .Name y py] kt pt] (.Tuple [a, b] k2 pt2) pos) (sPar i j ta tb) :=
  PS.imp (ps_par hc hN hi hj hij hx hy (pa_cons pa (pa_one pb e2) e1) hw hs) fun Dn σ H ⟨ρ, env, h, R, E, q⟩ => lE.plugS R E q fun d h1 ρ1 H1 v x1 R1 E1 r1 q1 => lE.plugS R1 E1 q1 fun d' h2 ρ2 H2 u x2 R2 E2 r2 q2 =>
    ⟨v, u, rfl, q2 ρ2 H2 _ (Ext.refl _ _) R2 ((E2.set i (r1.mono x2 R1) fun x h => (nx x h).1).set j r2 fun x h => (nx x h).2)⟩
end
end DL
/-! DLua: comprehensions whose targets lay lists (a star). -/
namespace DL
open PySem PySem.Spec PyProof.Rows L2
def lcLoopH (live : DH → Bool) (g : DGH) (c : DT) (e : DE) (env0 : En) : List D → List D → DH → Res (List D)
  | [], acc, h => if live h then .ok acc h else .stuck
  | x :: xs, acc, h => if live h then (match g x env0 h with
    | none => .stuck
    | some (env1, h0) => match c env1 h0 with
      | .ok true h1 => match e env1 h1 with
        | .ok d h2 => if small (acc.length + 1) then lcLoopH live g c e env0 xs (acc ++ [d]) h2 else .stuck
        | _ => .stuck
      | .ok false h1 => lcLoopH live g c e env0 xs acc h1
      | _ => .stuck) else .stuck
def qLcH (it : DI) (g : DGH) (c : DT) (e : DE) (vs : List Nat) : DA := fun env h => (it env h).bind fun p h1 => lcLoopH p.2 g c e (wipeD env vs) p.1 [] h1
theorem q_lcH_in {X : Cx} {W : WB} {it : DI} {gt : DGH} {c : DT} {e : DE} {vs : List Nat} {σ : L2.St} {H : Hp} {Q : VK} (l : lQ (gm X) W (qLcH it gt c e vs) σ H Q) : tLc (lI (gm X) W it) (lGH (gm X) none (some vs) gt) (lT (gm X) W0 c) (lE (gm X) W0 e) vs σ H Q := by
  obtain ⟨ρ, env, h, R, E, q⟩ := l
  refine lI.plug R E q fun p h1 ρ1 H1 J x1 R1 E1 S q1 Dd hD => ?_
  obtain ⟨items, live⟩ := p
  dsimp only at q1 S
  have nD : Dd ∉ ρ1 := R1.not hD
  refine ⟨fun i m H2 => ∃ ρ2 h2 acc us, Ext ρ1 H1 ρ2 H2 ∧ RH (gm X) ρ2 h2 H2 ∧ Dd ∉ ρ2 ∧ H2 Dd = some (.lst us) ∧ RDs (gm X) ρ2 H2 acc us ∧ i ≤ items.length ∧ m = items.length - i ∧
      RR (gm X) (fun c d H' => W.wish c d σ H') ρ1 H1 (lcLoopH live gt c e (wipeD env vs) (items.drop i) acc h2) fun ds _ ρ' H' => ∀ a vs, H' a = some (.lst vs) → a ∉ ρ' → H a = none → RDs (gm X) ρ' H' ds vs → Q (.ref a) H',
    ⟨_, ρ1, h1, [], [], Ext.tup hD, R1.tup hD, nD, upd_same, RDs.nil, Nat.zero_le _, rfl, by simpa using q1⟩, ?_⟩
  rintro i m H2 ⟨ρ2, h2, acc, us, x2, R2, nD2, eD, rD, hi, rfl, q2⟩
  by_cases hl : i < items.length
  · rw [List.drop_eq_getElem_cons hl] at q2
    unfold lcLoopH at q2
    by_cases lv : live h2 = true
    · rw [if_pos lv] at q2
      obtain ⟨s1, _⟩ := S i ρ2 h2 H2 x2 R2 lv
      obtain ⟨go, yl⟩ := s1 _ (List.getElem?_eq_getElem hl)
      refine .inr ⟨go, fun H' => ∃ ρ2 h2 acc us, Ext ρ1 H1 ρ2 H' ∧ RH (gm X) ρ2 h2 H' ∧ Dd ∉ ρ2 ∧ H' Dd = some (.lst us) ∧ RDs (gm X) ρ2 H' acc us ∧
        RR (gm X) (fun c d H' => W.wish c d σ H') ρ1 H1 (lcLoopH live gt c e (wipeD env vs) (items.drop (i + 1)) acc h2) fun ds _ ρ' H' => ∀ a vs, H' a = some (.lst vs) → a ∉ ρ' → H a = none → RDs (gm X) ρ' H' ds vs → Q (.ref a) H',
        fun H' ⟨ρ3, h3, acc3, us3, x3, R3, n3, e3, r3, q3⟩ => ⟨_, by omega, ρ3, h3, acc3, us3, x3, R3, n3, e3, r3, by omega, rfl, q3⟩, fun v H' y => ?_⟩
      obtain ⟨xe, Re, re⟩ := yl v H' y
      have E2 : REn (gm X) none ρ2 H' (wipeD env vs) (L2.wipe σ vs) := (E1.mono (x2.trans xe) R1).wipe vs
      cases z : gt items[i] (wipeD env vs) h2 with
      | none => simp only [z] at q2; exact q2.elim
      | some r3 =>
        obtain ⟨env3, h3⟩ := r3
        simp only [z] at q2
        refine ⟨ρ2, wipeD env vs, h2, items[i], env3, h3, Re, E2, re, z, fun ρ3 H3 σ3 x3 R3 E3 w3 => ⟨?_, ρ3, env3, h3, R3, E3, ?_⟩⟩
        · rw [w3 vs rfl]
          have : ∀ (l : List Nat) (τ : L2.St), L2.wipe (L2.wipe τ l) l = L2.wipe τ l := by
            intro l τ
            have sub : ∀ (l' l : List Nat) (τ : L2.St), (∀ x ∈ l', x ∈ l) → L2.wipe (L2.wipe τ l') l = L2.wipe τ l := by
              intro l'
              induction l' with
              | nil => intro l τ _; rfl
              | cons w ws ih =>
                intro l τ hs
                show L2.wipe ((L2.wipe τ ws).set w none) l = _
                rw [wipe_set _ w none l (hs w (by simp)), ih l τ fun x hx => hs x (by simp [hx])]
            exact sub l l τ fun _ h => h
          exact this vs σ
        cases z2 : c env3 h3 with
        | ok b h4 =>
          simp only [z2] at q2
          intro ρ4 H4 x4 R4
          have eD3 : H3 Dd = some (.lst us) := x3.frm Dd _ (xe.frm Dd _ eD nD2) nD2
          have nD3 : Dd ∉ ρ3 := fun hh => by
            have := x3.new Dd hh nD2
            rw [xe.frm Dd _ eD nD2] at this; cases this
          have eD4 : H4 Dd = some (.lst us) := x4.frm Dd _ eD3 nD3
          have nD4 : Dd ∉ ρ4 := fun hh => by
            have := x4.new Dd hh nD3
            rw [eD3] at this; cases this
          have rD4 := ((rD.mono xe R2).mono x3 Re).mono x4 R3
          cases b with
          | false => exact iteF ⟨ρ4, h4, acc, us, ((x2.trans xe).trans x3).trans x4, R4, nD4, eD4, rD4, q2⟩
          | true =>
            refine iteT ?_
            refine ⟨ρ4, env3, h4, R4, E3.mono x4 R3, ?_⟩
            cases z3 : e env3 h4 with
            | ok d h5 =>
              simp only [z3] at q2
              intro ρ5 H5 x5 R5 v5 r5
              have eD5 : H5 Dd = some (.lst us) := x5.frm Dd _ eD4 nD4
              have nD5 : Dd ∉ ρ5 := fun hh => by
                have := x5.new Dd hh nD4
                rw [eD4] at this; cases this
              have rD5 := rD4.mono x5 R4
              by_cases sm : small (acc.length + 1) = true
              · rw [if_pos sm] at q2
                refine ⟨us, eD5, ?_, ρ5, h5, acc ++ [d], us ++ [v5], ?_, R5.lst eD5 nD5, nD5, upd_same, (rD5.lst eD5).append (RDs.cons (r5.lst eD5) RDs.nil), q2⟩
                · have := small_le sm
                  rw [rD5.length]; omega
                · have xx := (((x2.trans xe).trans x3).trans x4).trans x5
                  exact ⟨xx.pre, xx.new, fun a o ea na => by rw [upd_ne (ne_of_none ea hD)]; exact xx.frm a o ea na, fun a _ _ ea => by rw [upd_ne (ne_of_none ea hD)]; exact xx.fz a _ _ ea⟩
              · rw [if_neg sm] at q2; exact q2.elim
            | exc x5 h5 => simp only [z3] at q2; exact q2.elim
            | stuck => simp only [z3] at q2; exact q2.elim
        | exc x4 h4 => simp only [z2] at q2; exact q2.elim
        | stuck => simp only [z2] at q2; exact q2.elim
    · rw [if_neg lv] at q2
      exact q2.elim
  · have hi' : i = items.length := by omega
    subst hi'
    rw [List.drop_length] at q2
    unfold lcLoopH at q2
    by_cases lv : live h2 = true
    · rw [if_pos lv] at q2
      exact .inl ⟨(S _ ρ2 h2 H2 x2 R2 lv).2 rfl, q2 ρ2 H2 x2 R2 Dd us eD nD2 (x1.fresh R R1 hD) rD⟩
    · rw [if_neg lv] at q2
      exact q2.elim
section
variable {X : Cx} {W : WB} {elt tg iter : Expr} {ifs : List Expr} {scope : Scope} {own : List (Str × Nat)} {pos spos : Pos} {it : DI} {gt : DGH} {c : DT} {e u : DE}
theorem q_lcH (hc : X.calm = true) (hN : X.N.Nodup) (pi : DIx X W tg iter it) (ok : BlkOk X.N X.env.scope scope own)
    (hg : ∀ (s : Shared) (H : Hp) (C : Addr) (cl : List (Str × Addr)) (fp : List Addr), PG (BlkX X scope s H C cl fp) tg (lGH (gm X) none (some (own.map (·.2))) gt))
    (ht : ∀ (s : Shared) (H : Hp) (C : Addr) (cl : List (Str × Addr)) (fp : List Addr), PTs (BlkX X scope s H C cl fp) ifs (lT (gm X) W0 c))
    (he : ∀ (s : Shared) (H : Hp) (C : Addr) (cl : List (Str × Addr)) (fp : List Addr), DEx (BlkX X scope s H C cl fp) W0 elt e) (hs : ∀ x, foldedSetIterable iter X.env x = pure x := by intro _; rfl) : DQx X W (.ListComp elt [⟨tg, iter, ifs, 0⟩] scope pos) (qLcH it gt c e (own.map (·.2))) :=
  PE.imp (pe_lc hc hN pi ok hg ht he hs) fun _ _ _ l => q_lcH_in l
theorem s_setLcH {i : Nat} {y : Str} {py : Pos} (hc : X.calm = true) (hN : X.N.Nodup) (hy : X.N[i]? = some y) (hyl : X.env.scope.names.lookup y = some .local) (hk : X.env.scope.kind = .function) (hl : (py.line == pos.line) = true)
    (ha : (scope.names.any fun (n, k) => n == y && (k == .local || k == .cell)) = false) (pi : DIx X W tg iter it) (ok : BlkOk X.N X.env.scope scope own)
    (hg : ∀ (s : Shared) (H : Hp) (C : Addr) (cl : List (Str × Addr)) (fp : List Addr), PG (BlkX X scope s H C cl fp) tg (lGH (gm X) none (some (own.map (·.2))) gt))
    (ht : ∀ (s : Shared) (H : Hp) (C : Addr) (cl : List (Str × Addr)) (fp : List Addr), PTs (BlkX X scope s H C cl fp) ifs (lT (gm X) W0 c))
    (he : ∀ (s : Shared) (H : Hp) (C : Addr) (cl : List (Str × Addr)) (fp : List Addr), DEx (BlkX X scope s H C cl fp) W0 elt u) (ni : ∀ x, W.xa = some x → x.i ≠ i := by intro _ h; cases h) (hs : ∀ x, foldedSetIterable iter X.env x = pure x := by intro _; rfl) :
    DSx X W (.Assign [.Name y py] (.ListComp elt [⟨tg, iter, ifs, 0⟩] scope pos) spos) (sAsg (dNew (qLcH it gt c u (own.map (·.2)))) (gdName i)) :=
  PS.imp (ps_setLc hc hN hy hyl (sw_true hk hyl hl ha) pi ok hg ht he hs) fun Dn σ H ⟨ρ, env, h, R, E, q⟩ =>
    q_lcH_in (e := u) (gt := gt) (W := W) (new_in (lE.plugS R E q fun d h1 ρ1 H1 v x1 R1 E1 r1 q1 => q1 ρ1 H1 _ (Ext.refl _ _) R1 (E1.set i r1 ni)))
/-- repr of a whole number -/
def fReprI : DM → DH → Res D := fun m h => match m with
  | .v (.int i) => if i.natAbs.log2 < 1920 then .ok (.str (Str.ofString (toString i))) h else .stuck
  | _ => .stuck
theorem cr_reprI : CallR X (.builtin "repr") (fun xs H Q => ∃ i, xs = [.int i] ∧ i.natAbs.log2 < 1920 ∧ Q (.str (toString i)) H) := SkE.call_repr_int
theorem c_reprI : CallM (gm X) (fun xs H Q => ∃ i, xs = [.int i] ∧ i.natAbs.log2 < 1920 ∧ Q (.str (toString i)) H) fReprI := fun W ρ h H m v Q R rm q => by
  cases m with
  | l ds => exact q.elim
  | v d =>
    cases d with
    | int i =>
      have r' : RD (gm X) ρ H (.int i) v := rm
      simp only [RD] at r'
      subst r'
      unfold fReprI at q
      dsimp only at q
      by_cases z : i.natAbs.log2 < 1920
      · rw [if_pos z] at q
        exact ⟨i, rfl, z, q ρ H (Ext.refl _ _) R _ (by simp [RD])⟩
      · rw [if_neg z] at q; exact q.elim
    | _ => exact q.elim
end
end DL
/-! DLv: dicts whose keys are tuples: read, written at. -/
namespace DL
open PySem PySem.Spec PyProof.Rows L2

/-! ### keys, entries by data -/
def nk (d : D) : NestedKey := (nkey d).getD .none
def tupK (d : D) : Bool := match nkey d with
  | some (.tup ks) => decide ((NestedKey.tup ks).depth ≤ 8)
  | _ => false
def tupKs (kvs : List (D × D)) : Bool := kvs.all fun p => tupK p.1
def dget (kvs : List (D × D)) (k : D) : Option D := (kvs.find? fun p => decide (nk p.1 = nk k)).map (·.2)
def dput (kvs : List (D × D)) (k v : D) : List (D × D) := if (dget kvs k).isSome then kvs.map (fun p => if nk p.1 = nk k then (p.1, v) else p) else kvs ++ [(k, v)]
def ddel (kvs : List (D × D)) (k : D) : List (D × D) := kvs.filter fun p => !decide (nk p.1 = nk k)
theorem tupK_ok {d : D} (h : tupK d = true) : nkey d = some (nk d) ∧ (nk d).depth ≤ 8 ∧ ∃ ds, d = .tup ds := by
  unfold tupK at h
  unfold nk
  split at h
  · rename_i ks e
    rw [e]
    refine ⟨rfl, of_decide_eq_true h, ?_⟩
    cases d with
    | tup ds => exact ⟨ds, rfl⟩
    | _ => simp [nkey] at e
  · cases h
mutual
theorem nested_of {X : Cx} {pins : List (Addr × Obj)} {σ : L2.St} {H : Hp} {s : Shared} {ρ : List Addr} (I : Inv X pins σ H s) : ∀ {d : D} {v : V} {u : Value} {k : NestedKey}, RD (gm X) ρ H d v → nkey d = some k → RelV v u → NestedIs s.heap k u
  | .non, v, u, k, r, e, q => by
    simp only [RD] at r; subst r
    simp only [nkey, Option.some.injEq] at e; subst e
    cases q; exact .none
  | .int i, v, u, k, r, e, q => by
    simp only [RD] at r; subst r
    simp only [nkey, Option.some.injEq] at e; subst e
    obtain ⟨t, rfl⟩ := q; exact .int i t
  | .str x, v, u, k, r, e, q => by
    simp only [RD] at r; subst r
    simp only [nkey, Option.some.injEq] at e; subst e
    obtain ⟨t, rfl⟩ := q; exact .text x t
  | .tup ds, v, u, k, r, e, q => by
    simp only [RD] at r
    obtain ⟨a, vs, rfl, s, r⟩ := r
    simp only [nkey, Option.map_eq_some_iff] at e
    obtain ⟨ks, e, rfl⟩ := e
    cases q
    obtain ⟨its, rv, ⟨o, g1, g2, n, g3⟩, _⟩ := I.tuple s
    exact .tup g1 g2 g3 (by simpa using nesteds_of I r e rv)
  | .bl _, _, _, _, _, e, _ => by simp [nkey] at e
  | .rol _, _, _, _, _, e, _ => by simp [nkey] at e
  | .ref _, _, _, _, _, e, _ => by simp [nkey] at e
theorem nesteds_of {X : Cx} {pins : List (Addr × Obj)} {σ : L2.St} {H : Hp} {s : Shared} {ρ : List Addr} (I : Inv X pins σ H s) : ∀ {ds : List D} {vs : List V} {us : List Value} {ks : List NestedKey}, RDs (gm X) ρ H ds vs → nkeys ds = some ks → Vals vs us → NestedAll s.heap ks us
  | [], vs, us, ks, r, e, q => by
    simp only [RDs] at r; subst r
    simp only [nkeys, Option.some.injEq] at e; subst e
    cases q; exact .nil
  | d :: ds, vs, us, ks, r, e, q => by
    simp only [RDs] at r
    obtain ⟨v, t, rfl, r1, r2⟩ := r
    simp only [nkeys] at e
    obtain ⟨k, e1, e⟩ := Option.bind_eq_some_iff.mp e
    obtain ⟨kt, e2, rfl⟩ := Option.map_eq_some_iff.mp e
    cases q with
    | cons q1 q2 => exact .cons (nested_of I r1 e1 q1) (nesteds_of I r2 e2 q2)
end
/-- an entry as key, address, value -/
def KX (g : Gm) (ρ : List Addr) (H : Hp) (p : D × D) (x : NestedKey × Addr × Value) : Prop := nkey p.1 = some x.1 ∧ x.1.depth ≤ 8 ∧ RD g ρ H p.1 (.ref x.2.1) ∧ ∃ vv, RD g ρ H p.2 vv ∧ RelV vv x.2.2
section
variable {g : Gm} {ρ : List Addr} {h : DH} {H : Hp} {prog : Program}
theorem ent_xs : ∀ {kvs : List (D × D)} {es : List DictEntry}, Paired (REnt g ρ H) kvs es → tupKs kvs = true → ∃ xs, es = xs.map (entryOfKey (nestedKind prog g.w)) ∧ Paired (KX g ρ H) kvs xs
  | [], _, .nil, _ => ⟨[], rfl, .nil⟩
  | p :: kvs, _, .cons (b := e) r t, hk => by
    unfold tupKs at hk
    rw [List.all_cons, Bool.and_eq_true] at hk
    obtain ⟨k, kv, vv, n, dp, rk, rv, hh, rd, re⟩ := r
    obtain ⟨xs, e1, px⟩ := ent_xs t hk.2
    obtain ⟨_, _, ds, ed⟩ := tupK_ok hk.1
    have rk' := rk
    rw [ed] at rk'
    simp only [RD] at rk'
    obtain ⟨a, vs, rfl, _⟩ := rk'
    obtain ⟨eh, ek, ev⟩ := e
    cases rv
    dsimp only at hh re
    subst hh
    exact ⟨(k, a, ev) :: xs, by rw [e1]; rfl, .cons ⟨n, dp, rk, vv, rd, re⟩ px⟩
theorem xs_ent : ∀ {kvs : List (D × D)} {xs : List (NestedKey × Addr × Value)}, Paired (KX g ρ H) kvs xs → Paired (REnt g ρ H) kvs (xs.map (entryOfKey (nestedKind prog g.w)))
  | _, _, .nil => .nil
  | _, _, .cons ⟨n, dp, rk, vv, rd, re⟩ t => .cons ⟨_, _, vv, n, dp, rk, rfl, rfl, rd, re⟩ (xs_ent t)
theorem kx_nk {p : D × D} {x : NestedKey × Addr × Value} (h : KX g ρ H p x) : nk p.1 = x.1 := by unfold nk; rw [h.1]; rfl
theorem kx_keys : ∀ {kvs : List (D × D)} {xs : List (NestedKey × Addr × Value)}, Paired (KX g ρ H) kvs xs → (kvs.map fun p => nkey p.1) = (xs.map (·.1)).map some
  | _, _, .nil => rfl
  | _, _, .cons h t => by rw [List.map_cons, List.map_cons, List.map_cons, h.1, kx_keys t]
theorem nodup_some {α : Type} : ∀ {l : List α}, (l.map some).Nodup ↔ l.Nodup
  | [] => by simp
  | a :: l => by
    rw [List.map_cons, List.nodup_cons, List.nodup_cons, nodup_some]
    simp
/-- what stands at a key -/
theorem kx_get {k : D} : ∀ {kvs : List (D × D)} {xs : List (NestedKey × Addr × Value)}, Paired (KX g ρ H) kvs xs →
    (dget kvs k = none ∧ atKey xs (nk k) = none) ∨ ∃ d b u vv, dget kvs k = some d ∧ atKey xs (nk k) = some (b, u) ∧ RD g ρ H d vv ∧ RelV vv u
  | _, _, .nil => .inl ⟨rfl, rfl⟩
  | p :: kvs, x :: xs, .cons h t => by
    have e := kx_nk h
    unfold dget atKey
    rw [List.find?_cons, List.find?_cons, e]
    by_cases z : x.1 = nk k
    · rw [decide_eq_true z]
      obtain ⟨_, _, _, vv, rd, re⟩ := h
      exact .inr ⟨p.2, x.2.1, x.2.2, vv, rfl, rfl, rd, re⟩
    · rw [decide_eq_false z]
      exact kx_get t
theorem kx_put {k v : D} {a : Addr} {vv : V} {u : Value} (hk : nkey k = some (nk k)) (hd : (nk k).depth ≤ 8) (rk : RD g ρ H k (.ref a)) (rv : RD g ρ H v vv) (re : RelV vv u) {kvs : List (D × D)} {xs : List (NestedKey × Addr × Value)} (h : Paired (KX g ρ H) kvs xs) : Paired (KX g ρ H) (dput kvs k v) (storedH xs (nk k) a u) := by
  unfold dput storedH
  rcases kx_get (k := k) h with ⟨e1, e2⟩ | ⟨d, b, u', v', e1, e2, _⟩
  · rw [e1, e2]
    exact h.snoc ⟨hk, hd, rk, vv, rv, re⟩
  · rw [e1, e2]
    show Paired _ (kvs.map _) (xs.map (putAt (nk k) u))
    clear e1 e2
    induction h with
    | nil => exact .nil
    | cons q t ih =>
      refine .cons ?_ ih
      have e := kx_nk q
      unfold putAt
      dsimp only
      rw [e]
      split
      · exact ⟨q.1, q.2.1, q.2.2.1, vv, rv, re⟩
      · exact q
theorem kx_del {k : D} {kvs : List (D × D)} {xs : List (NestedKey × Addr × Value)} (h : Paired (KX g ρ H) kvs xs) : Paired (KX g ρ H) (ddel kvs k) (withoutH xs (nk k)) := by
  unfold ddel withoutH
  induction h with
  | nil => exact .nil
  | @cons p x _ _ q t ih =>
    have e := kx_nk q
    rw [List.filter_cons, List.filter_cons, e]
    by_cases z : x.1 = nk k
    · simpa [z] using ih
    · simpa [z] using Paired.cons q ih
end
/-! ### the machine's dict -/
section
variable {X : Cx} {pins : List (Addr × Obj)} {σ : L2.St} {H : Hp} {s : Shared} {ρ : List Addr} {h : DH} {n : Nat} {a : Addr} {kvs kvs' : List (D × D)} {lk : Bool}
theorem raw_of (I : Inv X pins σ H s) {o : Obj} {es : Array DictEntry} {ep : Nat} (e : H a = some (dctO lk o a es ep)) : s.heap.DictRaw a es ep := by
  have x := I.hok a _ e
  cases lk
  · exact x.1
  · exact x.2.1
theorem dict_at (I : Inv X pins σ H s) (R : RH (gm X) ρ h H) (e : h[n]? = some (.dct lk kvs)) (ea : ρ[n]? = some a) (ht : tupKs kvs = true) :
    ∃ xs : List (NestedKey × Addr × Value), (a == sysModules) = false ∧ s.heap.DictOfH (nestedKind X.prog X.w) a xs ∧ xs.length ≤ sizeLine ∧ Paired (KX (gm X) ρ H) kvs xs ∧ ∃ o es ep, H a = some (dctO lk o a es ep) := by
  obtain ⟨ob, es, ep, e1, hs, hl, pe, nd⟩ := R.ok n _ a e ea
  obtain ⟨xs, ex, px⟩ := ent_xs (prog := X.prog) pe ht
  obtain ⟨o, g1, g2, g3⟩ := raw_of I e1
  refine ⟨xs, hs, ⟨o, es.toArray, ep, g1, g2, g3, by simpa using ex, fun x hx => ?_, ?_⟩, by rw [ex] at hl; simpa using hl, px, ob, es.toArray, ep, e1⟩
  · clear ex nd pe e
    induction px with
    | nil => cases hx
    | cons q t ih =>
      rcases List.mem_cons.mp hx with rfl | hx
      · exact ⟨nested_of I q.2.2.1 q.1 rfl, q.2.1⟩
      · exact ih (by unfold tupKs at ht ⊢; rw [List.all_cons, Bool.and_eq_true] at ht; exact ht.2) (by assumption)
  · rw [kx_keys px] at nd
    exact nodup_some.mp nd
/-- the dict is written at -/
theorem dict_write {h' : Heap} {t' : Nat} {xs' : List (NestedKey × Addr × Value)} (I : Inv X pins σ H s) (R : RH (gm X) ρ h H) (e : h[n]? = some (.dct false kvs)) (ea : ρ[n]? = some a) (hm : h'.DictOfH (nestedKind X.prog X.w) a xs') (sb : Heap.SameBut a s.heap h')
    (hz : xs'.length ≤ sizeLine) (px : Paired (KX (gm X) ρ H) kvs' xs') : ∃ H', Inv X pins σ H' { s with heap := h', toks := t' } ∧ Ext ρ H ρ H' ∧ RH (gm X) ρ (h.set n (.dct false kvs')) H' ∧ ∀ d v, RD (gm X) ρ H d v → RD (gm X) ρ H' d v := by
  obtain ⟨ob, es, ep, e1, hs, hl, pe, nd⟩ := R.ok n _ a e ea
  obtain ⟨o, es', ep', g1, g2, g3, g4, _, g6⟩ := hm
  have e1' : H a = some (rawO a es.toArray ep) := e1
  have nf : ∀ ob u, H a ≠ some (.frz ob u) := fun ob u z => by rw [e1'] at z; cases z
  have st : ∀ b vs, SqT X.K H b vs → SqT X.K (upd H a (rawO a es' ep')) b vs := sqT_upd e1' (fun _ z => by cases z) fun _ _ z => by cases z
  have sr : ∀ b vs, RoL X.K H b vs → RoL X.K (upd H a (rawO a es' ep')) b vs := roL_upd e1' fun _ _ z => by cases z
  have up : ∀ d v, RD (gm X) ρ H d v → RD (gm X) ρ (upd H a (rawO a es' ep')) d v := fun d v r => r.gen st sr fun _ _ q => q
  refine ⟨upd H a (rawO a es' ep'), ?_, Ext.set ea nf, R.set ea nf ?_, up⟩
  · refine I.write (x := a) (e := a) (by rw [e1']; exact trivial) (.inl rfl) (fun b u hb hu => (sb.2 b hb).trans hu) ⟨o, g1⟩ ⟨⟨o, g1, g2, g3⟩, ⟨o, g1⟩, fun h1 h2 ⟨o, e, x, d⟩ k => ⟨o, k o e, x, d⟩⟩
  · refine ⟨ob, xs'.map (entryOfKey (nestedKind X.prog X.w)), ep', ?_, hs, by simpa using hz, ?_, ?_⟩
    · rw [← g4]; exact upd_same
    · have q := xs_ent (g := gm X) (prog := X.prog) px
      exact Paired.mapP q fun _ _ ⟨k, kv, vv, a1, a2, a3, a4, a5, a6, a7⟩ => ⟨k, kv, vv, a1, a2, up _ _ a3, a4, a5, up _ _ a6, a7⟩
    · rw [kx_keys px]; exact nodup_some.mpr g6
theorem dct_ty (I : Inv X pins σ H s) {o : Obj} {es : Array DictEntry} {ep : Nat} (e : H a = some (dctO lk o a es ep)) : s.TypeIs (.ref a) "dict" ∧ ∀ b, Value.ref a = .ref b → ∃ ob, s.heap.get? b = some ob ∧ ob.dict = none := by
  obtain ⟨ob, h1, h2, h3⟩ := raw_of I e
  exact ⟨⟨ob, h1, h2.1⟩, fun b q => by cases q; exact ⟨ob, h1, h2.2.1⟩⟩
end
def asDct (h : DH) : D → Option (Bool × List (D × D))
  | .ref n => match h[n]? with
    | some (.dct lk kvs) => some (lk, kvs)
    | _ => none
  | _ => none
theorem asDct_at {g : Gm} {ρ : List Addr} {h : DH} {H : Hp} (R : RH g ρ h H) {d : D} {v : V} {lk : Bool} {kvs : List (D × D)} (e : asDct h d = some (lk, kvs)) (r : RD g ρ H d v) : ∃ n a, d = .ref n ∧ v = .ref a ∧ h[n]? = some (.dct lk kvs) ∧ ρ[n]? = some a ∧ ∃ o es ep, H a = some (dctO lk o a es ep) := by
  cases d with
  | ref n =>
    simp only [asDct] at e
    split at e
    · rename_i lk' kvs' hz
      cases e
      simp only [RD] at r
      obtain ⟨a, e1, e2⟩ := r
      obtain ⟨o, es, ep, q, _⟩ := R.ok n _ a hz e2
      exact ⟨n, a, rfl, e1, hz, e2, o, _, ep, q⟩
    · cases e
  | _ => cases e
theorem room8 {A : Around} {P : Program} {w : World} (h : A.units + 100 < cLine) : (nestedKind P w).room A.in1 := by
  show A.in1.units + 8 < cLine
  have : A.in1.units ≤ A.units + 1 := Nat.le_refl _
  omega
section
variable {X : Cx} {W : WB} {o e f : Expr} {to tk tz : DE} {apos cpos pos p2 : Pos}
/-- o.get(k, z) -/
def dGet2 (to tk tz : DE) : DE := fun env h => (to env h).bind fun d h0 => match asDct h0 d with
  | some _ => (tk env h0).bind fun k h1 => (tz env h1).bind fun z h2 => match asDct h2 d with
    | some (_, kvs) => if tupKs kvs && tupK k then .ok ((dget kvs k).getD z) h2 else .stuck
    | none => .stuck
  | none => .stuck
theorem d_get2 (hu : X.A.units + 100 < cLine) (po : DEx X W o to) (pk : DEx X W e tk) (pz : DEx X W f tz) (m : M2 X o "get" apos e f cpos) : DEx X W (.Call (.Attribute o "get" apos) [e, f] [] cpos) (dGet2 to tk tz) := by
  constructor
  intro pins s σ H Q I ⟨ρ, env, h, R, E, q⟩
  refine wpAny_Call_method m.base m.few m.line PySem.F.plainAttrs_dict PySem.F.slot_dict_get PySem.F.type_dict_get (thn (po.run pins s σ H (fun v H1 => ∃ a ρ1 d h1, v = .ref a ∧ RH (gm X) ρ1 h1 H1 ∧ REn (gm X) W.xa ρ1 H1 env σ ∧ RD (gm X) ρ1 H1 d (.ref a) ∧ (∃ x, asDct h1 d = some x) ∧
    RR (gm X) (fun c d H' => W.wish c d σ H') ρ1 H1 ((tk env h1).bind fun k h1 => (tz env h1).bind fun z h2 => match asDct h2 d with
      | some (_, kvs) => if tupKs kvs && tupK k then .ok ((dget kvs k).getD z) h2 else .stuck
      | none => .stuck) (fun d _ ρ' H' => ∀ v, RD (gm X) ρ' H' d v → Q v H')) I (lE.plug R E q fun d h1 ρ1 H1 v x1 R1 E1 r1 q1 => ?_)) fun u s1 ⟨x, H1, I1, rx, a, ρ1, d, h1, ex, R1, E1, r1, ⟨⟨lk, kvs⟩, ed⟩, q1⟩ => ?_)
  · cases z : asDct h1 d with
    | none => rw [z] at q1; exact q1.elim
    | some x =>
      rw [z] at q1
      obtain ⟨lk, kvs⟩ := x
      obtain ⟨n, a, e1, e2, _⟩ := asDct_at R1 z r1
      subst e2
      exact ⟨a, ρ1, d, h1, rfl, R1, E1, r1, ⟨_, z⟩, q1⟩
  subst ex
  obtain rfl : u = Value.ref a := rx
  obtain ⟨n, a', rfl, e2, e3, e4, ob, es, ep, e5⟩ := asDct_at R1 ed r1
  cases e2
  obtain ⟨t1, t2⟩ := dct_ty I1 e5
  refine ⟨t1, t2, ?_⟩
  rw [m.trees]
  refine Calls.callWith_builtin rfl (Calls.evalArgs_plain (Calls.spliced_cons (thn (pk.run pins s1 σ H1 _ I1 (lE.plug R1 E1 q1 fun k h2 ρ2 H2 vk x2 R2 E2 r2 q2 => (⟨ρ2, h2, k, x2, R2, E2, r2, q2⟩ :
    ∃ ρ2 h2 k, Ext ρ1 H1 ρ2 H2 ∧ RH (gm X) ρ2 h2 H2 ∧ REn (gm X) W.xa ρ2 H2 env σ ∧ RD (gm X) ρ2 H2 k vk ∧ RR (gm X) (fun c d H' => W.wish c d σ H') ρ2 H2 ((tz env h2).bind fun z h2 => match asDct h2 (.ref n) with
      | some (_, kvs) => if tupKs kvs && tupK k then .ok ((dget kvs k).getD z) h2 else .stuck
      | none => .stuck) (fun d _ ρ' H' => ∀ v, RD (gm X) ρ' H' d v → Q v H')))) fun iv s2 ⟨y, H2, I2, ry, ρ2, h2, k, x2, R2, E2, r2, q2⟩ =>
    Calls.spliced_cons (thn (pz.run pins s2 σ H2 _ I2 (lE.plug R2 E2 q2 fun z h3 ρ3 H3 vz x3 R3 E3 r3 q3 => (⟨ρ3, h3, z, x3, R3, r3, q3⟩ :
      ∃ ρ3 h3 z, Ext ρ2 H2 ρ3 H3 ∧ RH (gm X) ρ3 h3 H3 ∧ RD (gm X) ρ3 H3 z vz ∧ RR (gm X) (fun c d H' => W.wish c d σ H') ρ3 H3 (match asDct h3 (.ref n) with
      | some (_, kvs) => if tupKs kvs && tupK k then .ok ((dget kvs k).getD z) h3 else .stuck
      | none => .stuck) (fun d _ ρ' H' => ∀ v, RD (gm X) ρ' H' d v → Q v H')))) fun fv s3 ⟨vz, H3, I3, rz, ρ3, h3, z, x3, R3, r3, q3⟩ => Calls.spliced_nil ?_))))
  cases zd : asDct h3 (.ref n) with
  | none => rw [zd] at q3; exact q3.elim
  | some p =>
    obtain ⟨lk3, kvs3⟩ := p
    rw [zd] at q3
    dsimp only at q3
    by_cases zk : (tupKs kvs3 && tupK k) = true
    · rw [if_pos zk] at q3
      rw [Bool.and_eq_true] at zk
      have ra : RD (gm X) ρ3 H3 (.ref n) (.ref a) := by simp only [RD]; exact ⟨a, rfl, x3.get (x2.get e4)⟩
      obtain ⟨n', a', q1', q2', q3', q4', _⟩ := asDct_at R3 zd ra
      cases q1'; cases q2'
      obtain ⟨xs, hs, hm, hl, px, _⟩ := dict_at I3 R3 q3' q4' zk.1
      obtain ⟨k1, k2, dks, rfl⟩ := tupK_ok zk.2
      have rk := r2.mono x3 R2
      have rk' := rk
      simp only [RD] at rk'
      obtain ⟨b, vs, rfl, sb, _⟩ := rk'
      cases ry
      have hkey : (nestedKind X.prog X.w).is s3.heap (nk (.tup dks)) b := ⟨nested_of I3 rk k1 rfl, k2⟩
      refine call_meetsIn PySem.F.slot_dict_get hm.typeIs PySem.F.entry_dict_get (PySem.F.args_dict_get_3 _ _ _) (meetsH_dict_get_default (nestedKind X.prog X.w) a b hs fv) ⟨room8 hu, nk (.tup dks), xs, hkey, hm, ?_⟩
      rcases kx_get (k := .tup dks) px with ⟨g1, g2⟩ | ⟨dv, b', uv, vv, g1, g2, g3, g4⟩
      · rw [g1] at q3
        rw [g2]
        exact ⟨vz, H3, I3.tok _, rz, q3 ρ3 H3 (Ext.refl _ _) R3 _ r3⟩
      · rw [g1] at q3
        rw [g2]
        exact ⟨vv, H3, I3.tok _, g4, q3 ρ3 H3 (Ext.refl _ _) R3 _ g3⟩
    · rw [if_neg zk] at q3; exact q3.elim
/-- what a dict and a key are to the machine -/
theorem dict_key {pins : List (Addr × Obj)} {σ : L2.St} {H : Hp} {s : Shared} {ρ : List Addr} {h : DH} {d k : D} {x y : V} {iv : Value} {lk : Bool} {kvs : List (D × D)} (I : Inv X pins σ H s) (R : RH (gm X) ρ h H) (ed : asDct h d = some (lk, kvs)) (rd : RD (gm X) ρ H d x) (rk : RD (gm X) ρ H k y) (ry : RelV y iv) (zk : (tupKs kvs && tupK k) = true) :
    ∃ (n : Nat) (a b : Addr) (xs : List (NestedKey × Addr × Value)), d = .ref n ∧ x = .ref a ∧ y = .ref b ∧ iv = .ref b ∧ h[n]? = some (.dct lk kvs) ∧ ρ[n]? = some a ∧ (a == sysModules) = false ∧ s.heap.DictOfH (nestedKind X.prog X.w) a xs ∧ xs.length ≤ sizeLine ∧ Paired (KX (gm X) ρ H) kvs xs ∧
      (nestedKind X.prog X.w).is s.heap (nk k) b ∧ nkey k = some (nk k) ∧ (nk k).depth ≤ 8 := by
  rw [Bool.and_eq_true] at zk
  obtain ⟨n, a, rfl, rfl, q3, q4, _⟩ := asDct_at R ed rd
  obtain ⟨xs, hs, hm, hl, px, _⟩ := dict_at I R q3 q4 zk.1
  obtain ⟨k1, k2, dks, rfl⟩ := tupK_ok zk.2
  have rk' := rk
  simp only [RD] at rk'
  obtain ⟨b, vs, rfl, sb, _⟩ := rk'
  cases ry
  exact ⟨n, a, b, xs, rfl, rfl, rfl, rfl, q3, q4, hs, hm, hl, px, ⟨nested_of I rk k1 rfl, k2⟩, k1, k2⟩
/-- o[k] -/
def oIxD : D → D → DH → Res D := fun d k h => match asDct h d with
  | some (_, kvs) => if tupKs kvs && tupK k then (match dget kvs k with
    | some v => .ok v h
    | none => .stuck) else .stuck
  | none => .stuck
def rIxD (X : Cx) : R2 := fun x y H Q => ∃ ρ h d k lk kvs v, RH (gm X) ρ h H ∧ asDct h d = some (lk, kvs) ∧ RD (gm X) ρ H d x ∧ RD (gm X) ρ H k y ∧ (tupKs kvs && tupK k) = true ∧ dget kvs k = some v ∧ ∀ u, RD (gm X) ρ H v u → Q u H
theorem ix_dct (hu : X.A.units + 100 < cLine) : IxR X (rIxD X) := by
  intro value slice pins s σ H x y v u Q I rx ry h hs
  obtain ⟨ρ, h, d, k, lk, kvs, w, R, ed, rd, rk, zk, g, q⟩ := h
  obtain ⟨n, a, b, xs, rfl, rfl, rfl, rfl, q3, q4, hs', hm, hl, px, hk, k1, k2⟩ := dict_key I R ed rd rk ry zk
  cases rx
  rcases kx_get (k := k) px with ⟨g1, g2⟩ | ⟨dv, b', uv, vv, g1, g2, g3, g4⟩
  · rw [g] at g1; cases g1
  · rw [g] at g1; cases g1
    have fin : ∀ s', Inv X pins σ H s' → EP X pins σ Q uv s' := fun s' I' => ⟨vv, H, I', g4, q vv g3⟩
    exact subscriptTail_builtinR (x := uv) hm.typeIs F.slot_dict_getitem.lookup (wpAny_getItem_heap (Q := fun r s' => r = uv ∧ EP X pins σ Q r s') (room8 hu) hk hm g2 ⟨rfl, fin _ (I.tok _)⟩) hs
theorem d_ixD (hu : X.A.units + 100 < cLine) (pa : DEx X W o to) (pb : DEx X W e tk) (hs : PlainIx e := by exact fun _ _ => rfl) : DEx X W (.Subscript o e pos) (dOp oIxD to tk) :=
  PE.imp (pe_ix (ix_dct hu) pa pb hs) fun σ H Q ⟨ρ, env, h, R, E, q⟩ => lE.plug R E q fun x h1 ρ1 H1 v x1 R1 E1 r1 q1 => lE.plug R1 E1 q1 fun y h2 ρ2 H2 u x2 R2 E2 r2 q2 => by
    unfold oIxD at q2
    cases z : asDct h2 x with
    | none => rw [z] at q2; exact q2.elim
    | some p =>
      obtain ⟨lk, kvs⟩ := p
      rw [z] at q2
      dsimp only at q2
      by_cases zk : (tupKs kvs && tupK y) = true
      · rw [if_pos zk] at q2
        cases g : dget kvs y with
        | none => rw [g] at q2; exact q2.elim
        | some w =>
          rw [g] at q2
          exact ⟨ρ2, h2, x, y, lk, kvs, w, R2, z, r1.mono x2 R1, r2, zk, g, fun u r => q2 ρ2 H2 (Ext.refl _ _) R2 u r⟩
      · rw [if_neg zk] at q2; exact q2.elim
/-- o[k] = v -/
def sSetD (tv to tk : DE) : DS := fun env h => (tv env h).out env fun y h1 => (to env h1).out env fun d h2 => (tk env h2).out env fun k h3 => match d with
  | .ref n => match h3[n]? with
    | some (.dct false kvs) => if (tupKs kvs && tupK k && small (kvs.length + 1)) = true then .nx env (h3.set n (.dct false (dput kvs k y))) else .stuck
    | _ => .stuck
  | _ => .stuck
def rSetD (X : Cx) : TSet := fun x y z H Q => ∃ ρ h n k v kvs, RH (gm X) ρ h H ∧ h[n]? = some (.dct false kvs) ∧ RD (gm X) ρ H (.ref n) x ∧ RD (gm X) ρ H k y ∧ RD (gm X) ρ H v z ∧ (tupKs kvs && tupK k) = true ∧ small (kvs.length + 1) = true ∧ ∀ H', Ext ρ H ρ H' → RH (gm X) ρ (h.set n (.dct false (dput kvs k v))) H' → Q H'
theorem stored_len {K : Type} [DecidableEq K] {xs : List (K × Addr × Value)} {k : K} {a : Addr} {v : Value} : (storedH xs k a v).length ≤ xs.length + 1 := by
  unfold storedH
  split <;> simp
theorem set_dct (hu : X.A.units + 100 < cLine) : PSet X (rSetD X) := by
  intro pins s σ H x y z ov iv u Q I rx ry rz h
  obtain ⟨ρ, h, n, k, v, kvs, R, en, rd, rk, rv, zk, sm, q⟩ := h
  obtain ⟨n', a, b, xs, e0, rfl, rfl, rfl, q3, q4, hs', hm, hl, px, hk, k1, k2⟩ := dict_key (d := .ref n) (lk := false) (kvs := kvs) I R (by simp only [asDct, en]) rd rk ry zk
  cases e0
  cases rx
  have lx : kvs.length = xs.length := Paired.length px
  have sm' := small_le sm
  refine wpAny_setItem_heap (room8 hu) hk hm (fun h' hm' sb => ?_) hl
  obtain ⟨H', I', x', R', _⟩ := dict_write (t' := s.toks + (nestedKind X.prog X.w).draws (nk k)) I R q3 q4 hm' sb (by have := stored_len (xs := xs) (k := nk k) (a := b) (v := u); omega) (kx_put k1 k2 rk rv rz px)
  exact ⟨H', I', q H' x' R'⟩
theorem s_setD {pos' : Pos} {tv : DE} (hu : X.A.units + 100 < cLine) (pv : DEx X W f tv) (po : DEx X W o to) (pk : DEx X W e tk) (ha : ∀ v, assign (.Subscript o e pos') X.env v = (do
      let ov ← holding [v] (eval o X.env)
      let iv ← holding [v, ov] (eval e X.env)
      standAt pos'
      holding [v, ov, iv] (setItem ov iv v)
      release [v, ov, iv] []) := by intro _; rfl) (hs : swapsWithSole [.Subscript o e pos'] f pos.line X.env = pure false := by rfl) (hw : swappedStores [.Subscript o e pos'] f X.env = pure none := by rfl)
    (h1 : (assignEach [.Subscript o e pos'] X.env).map (·.2) = [assign (.Subscript o e pos') X.env] := by rfl) : DSx X W (.Assign [.Subscript o e pos'] f pos) (sSetD tv to tk) :=
  PS.imp (ps_asg pv (pg_sub po pk (set_dct hu) ha) hs hw h1) fun Dn σ H ⟨ρ, env, h, R, E, q⟩ => lE.plugS R E q fun y h1 ρ1 H1 v x1 R1 E1 r1 q1 => lE.plugS R1 E1 q1 fun d h2 ρ2 H2 u x2 R2 E2 r2 q2 => lE.plugS R2 E2 q2 fun k h3 ρ3 H3 w x3 R3 E3 r3 q3 => by
    cases d with
    | ref n =>
      dsimp only at q3
      split at q3
      · rename_i kvs hz
        split at q3
        · rename_i zz
          rw [Bool.and_eq_true] at zz
          exact ⟨ρ3, h3, n, k, y, kvs, R3, hz, r2.mono x3 R2, r3, (r1.mono x2 R1).mono x3 R2, zz.1, zz.2, fun H' x' R' => q3 ρ3 H' σ x' R' (E3.mono x' R3)⟩
        · exact q3.elim
      · exact q3.elim
    | _ => exact q3.elim
/-- o.pop(k) -/
def dPop1 (to tk : DE) : DE := fun env h => (to env h).bind fun d h0 => match d with
  | .ref n => match h0[n]? with
    | some (.dct _ _) => (tk env h0).bind fun k h1 => match h1[n]? with
      | some (.dct false kvs) => if tupKs kvs && tupK k then (match dget kvs k with
        | some v => .ok v (h1.set n (.dct false (ddel kvs k)))
        | none => .stuck) else .stuck
      | _ => .stuck
    | _ => .stuck
  | _ => .stuck
theorem d_pop1 (hu : X.A.units + 100 < cLine) (po : DEx X W o to) (pk : DEx X W e tk) (m : M1 X o "pop" apos e cpos) : DEx X W (.Call (.Attribute o "pop" apos) [e] [] cpos) (dPop1 to tk) := by
  constructor
  intro pins s σ H Q I ⟨ρ, env, h, R, E, q⟩
  refine wpAny_Call_method m.base m.few m.line PySem.F.plainAttrs_dict PySem.F.slot_dict_pop PySem.F.type_dict_pop (thn (po.run pins s σ H (fun v H1 => ∃ (a : Addr) (ρ1 : List Addr) (n : Nat) (h1 : DH) (lk : Bool) (kvs : List (D × D)), v = .ref a ∧ RH (gm X) ρ1 h1 H1 ∧ REn (gm X) W.xa ρ1 H1 env σ ∧ ρ1[n]? = some a ∧ h1[n]? = some (.dct lk kvs) ∧
    RR (gm X) (fun c d H' => W.wish c d σ H') ρ1 H1 ((tk env h1).bind fun k h1 => match h1[n]? with
      | some (.dct false kvs) => if tupKs kvs && tupK k then (match dget kvs k with
        | some v => .ok v (h1.set n (.dct false (ddel kvs k)))
        | none => .stuck) else .stuck
      | _ => .stuck) (fun d _ ρ' H' => ∀ v, RD (gm X) ρ' H' d v → Q v H')) I (lE.plug R E q fun d h1 ρ1 H1 v x1 R1 E1 r1 q1 => ?_)) fun u s1 ⟨x, H1, I1, rx, a, ρ1, n, h1, lk, kvs, ex, R1, E1, ea, en, q1⟩ => ?_)
  · cases d with
    | ref n =>
      dsimp only at q1
      simp only [RD] at r1
      obtain ⟨a, e1, e2⟩ := r1
      split at q1
      · rename_i lk kvs hz
        exact ⟨a, ρ1, n, h1, lk, kvs, e1, R1, E1, e2, hz, q1⟩
      · exact q1.elim
    | _ => exact q1.elim
  subst ex
  obtain rfl : u = Value.ref a := rx
  obtain ⟨o1, es1, ep1, e5, _⟩ := R1.ok n _ a en ea
  obtain ⟨t1, t2⟩ := dct_ty I1 e5
  refine ⟨t1, t2, ?_⟩
  rw [m.trees]
  refine Calls.callWith_builtin rfl (Calls.evalArgs_plain (Calls.spliced_cons (thn (pk.run pins s1 σ H1 _ I1 (lE.plug R1 E1 q1 fun k h2 ρ2 H2 vk x2 R2 E2 r2 q2 => (⟨ρ2, h2, k, x2, R2, r2, q2⟩ :
    ∃ (ρ2 : List Addr) (h2 : DH) (k : D), Ext ρ1 H1 ρ2 H2 ∧ RH (gm X) ρ2 h2 H2 ∧ RD (gm X) ρ2 H2 k vk ∧ RR (gm X) (fun c d H' => W.wish c d σ H') ρ2 H2 (match h2[n]? with
      | some (.dct false kvs) => if tupKs kvs && tupK k then (match dget kvs k with
        | some v => .ok v (h2.set n (.dct false (ddel kvs k)))
        | none => .stuck) else .stuck
      | _ => .stuck) (fun d _ ρ' H' => ∀ v, RD (gm X) ρ' H' d v → Q v H')))) fun iv s2 ⟨y, H2, I2, ry, ρ2, h2, k, x2, R2, r2, q2⟩ => Calls.spliced_nil ?_)))
  split at q2
  · rename_i kvs2 hz
    split at q2
    · rename_i zk
      have ra : RD (gm X) ρ2 H2 (.ref n) (.ref a) := by simp only [RD]; exact ⟨a, rfl, x2.get ea⟩
      obtain ⟨n', a', b, xs, e0, e1, rfl, rfl, q3, q4, hs', hm, hl, px, hk, k1, k2⟩ := dict_key (d := .ref n) (lk := false) (kvs := kvs2) I2 R2 (by simp only [asDct, hz]) ra r2 ry zk
      cases e0; cases e1
      rcases kx_get (k := k) px with ⟨g1, g2⟩ | ⟨dv, b', uv, vv, g1, g2, g3, g4⟩
      · rw [g1] at q2; exact q2.elim
      · rw [g1] at q2
        refine call_pop_heap (.inl rfl) (PySem.F.args_dict_pop_2 _ _) (room8 hu) hk hs' hm g2 (fun h' hm' sb => ?_) hl
        obtain ⟨H', I', x', R', up⟩ := dict_write (t' := s2.toks + (nestedKind X.prog X.w).draws (nk k)) I2 R2 q3 q4 hm' sb (by
          have : (withoutH xs (nk k)).length ≤ xs.length := by unfold withoutH; exact List.length_filter_le _ _
          omega) (kx_del px)
        exact ⟨vv, H', I', g4, q2 ρ2 H' x' R' vv (up _ _ g3)⟩
    · exact q2.elim
  · exact q2.elim
/-- len of a dict -/
def fLenD : DM → DH → Res D := fun m h => match m with
  | .v d => match asDct h d with
    | some (_, kvs) => if tupKs kvs then .ok (.int kvs.length) h else .stuck
    | none => .stuck
  | _ => .stuck
def rLenD (X : Cx) : List V → Hp → VK → Prop := fun xs H Q => ∃ ρ h d v lk kvs, xs = [v] ∧ RH (gm X) ρ h H ∧ asDct h d = some (lk, kvs) ∧ RD (gm X) ρ H d v ∧ tupKs kvs = true ∧ Q (.int kvs.length) H
theorem call_lenD : CallR X (.builtin "len") (rLenD X) := by
  intro pins s σ H xs us Q I r h
  obtain ⟨ρ, h, d, v, lk, kvs, rfl, R, ed, rd, zk, q⟩ := h
  obtain ⟨u, rfl, rx⟩ := vals1 r
  obtain ⟨n, a, rfl, rfl, q3, q4, _⟩ := asDct_at R ed rd
  cases rx
  obtain ⟨xs, hs, hm, hl, px, _⟩ := dict_at I R q3 q4 zk
  have lx : kvs.length = xs.length := Paired.length px
  refine call_len_dictH hs hm (by
    have e := sizeLine_eq
    have h63 : (16777216 : Int) < 2 ^ 63 := by decide
    omega) ⟨.int kvs.length, H, (I.tok _).tok _, ⟨_, by rw [lx]⟩, q⟩
theorem c_lenD : CallM (gm X) (rLenD X) fLenD := fun W ρ h H m v Q R rm q => by
  cases m with
  | l ds => exact q.elim
  | v d =>
    have r' : RD (gm X) ρ H d v := rm
    unfold fLenD at q
    cases z : asDct h d with
    | none => simp only [z] at q; exact q.elim
    | some p =>
      obtain ⟨lk, kvs⟩ := p
      simp only [z] at q
      by_cases zk : tupKs kvs = true
      · rw [if_pos zk] at q
        exact ⟨ρ, h, d, v, lk, kvs, rfl, R, z, r', zk, q ρ H (Ext.refl _ _) R _ (by simp [RD])⟩
      · rw [if_neg zk] at q; exact q.elim
end
end DL
/-! DLm: what the top has left, read as answers of functions; a law's end. -/
namespace DL
open PySem PySem.Spec PyProof.Rows L2
abbrev FaX := PySem.W.Frag → Bool
def obsX (fs : List FaX) (fn : List He.DefD) (K : PySem.W.Frag) : He.AlD := ((fs.all fun f => f K) && fn.all fun d => d.ok K, fn.map fun d => He.fnW K d.at_)
def SaysX (fs : List FaX) (fn : List He.DefD) (K : PySem.W.Frag) : Prop := obsX fs fn K = (true, fn.map He.DefD.val)
def obsXG (n : Nat) (fs : List FaX) (fn : List He.DefD) (g : Addr → Option Obj) : He.AlD := obsX fs fn (He.frG g (He.asD g n))
def hookX (n : Nat) (fs : List FaX) (fn : List He.DefD) : PySem.W.Hook where
  α := He.AlD
  obs := fun s => obsXG n fs fn s.heap.get?
  val := fun _ => (true, fn.map He.DefD.val)
  says := fun _ h => ∃ K : PySem.W.Frag, K.In h ∧ SaysX fs fn K
  of := fun _ _ e => ⟨_, He.frG_in, e⟩
  keeps := fun _ _ _ ⟨K, hK, c⟩ k => ⟨K, PySem.W.Frag.In.keeps hK k, c⟩
theorem obsXG_eq {n : Nat} {fs : List FaX} {fn : List He.DefD} {g : Addr → Option Obj} {s : Shared} (h : ∀ a, g a = s.heap.get? a) : obsXG n fs fn g = (hookX n fs fn).obs s := by
  have e : g = s.heap.get? := funext h
  rw [e] <;> rfl
section
variable {fs : List FaX} {fn : List He.DefD} {K : PySem.W.Frag}
theorem SaysX.fact (c : SaysX fs fn K) (i : Nat) {f : FaX} (h : fs[i]? = some f) : f K = true :=
  List.all_eq_true.mp (Bool.and_eq_true_iff.mp (show ((fs.all fun f => f K) && fn.all fun d => d.ok K) = true from congrArg (fun z : He.AlD => z.1) c)).1 f (List.mem_of_getElem? h)
theorem SaysX.def_ (c : SaysX fs fn K) (i : Nat) {d : He.DefD} (h : fn[i]? = some d) : ∃ fd, FunD K d.name d.qual d.params d.body d.scope (d.dvs K) (d.kws K) (He.fAd K d.at_) fd := by
  have c2 := (Bool.and_eq_true_iff.mp (show ((fs.all fun f => f K) && fn.all fun d => d.ok K) = true from congrArg (fun z : He.AlD => z.1) c)).2
  have e2 : (fn.map fun d => He.fnW K d.at_)[i]? = (fn.map He.DefD.val)[i]? := by rw [show fn.map (fun d => He.fnW K d.at_) = fn.map He.DefD.val from congrArg (fun z : He.AlD => z.2) c]
  rw [List.getElem?_map, List.getElem?_map, h] at e2
  exact He.DefD.funD (Option.some.inj e2) (List.all_eq_true.mp c2 d (List.mem_of_getElem? h))
end
/-! ### facts -/
def xGlo (x : Str) : FaX := fun K => (He.Fa.glo x).ok K
def xFree (x : Str) : FaX := fun K => (He.Fa.free x).ok K
def xInt (x : Str) (i : Int) : FaX := fun K => (He.Fa.int x i).ok K
def xStr (x z : Str) : FaX := fun K => (He.Fa.str x z).ok K
/-- an exception class of the program's own -/
def oexB (K : PySem.W.Frag) (C : Addr) : Bool := (match K.lookup C with
  | some ⟨.type "type", _, .cls cd, sl⟩ => (match cd.mro, sl.toList with
    | .ref C' :: bm, [_, _, _, _, some (.builtin n), _] => C' == C && (n == "ValueError.__new__" && (!cd.hasDel && (cd.hasDict && PySem.HandSPX.refsVE bm)))
    | _, _ => false)
  | _ => false) && (He.eqO (PySem.W.findIn K (.ref C) "__setattr__") (some (some (.builtin "object.__setattr__"))) && (decide (PySem.W.subIn K (.ref C) (.type "BaseException") = some true) && (decide (PySem.W.typeIn K (.ref C) = some (.type "type")) && PySem.W.keepIn K (.ref C))))
theorem oexB_ok {K : PySem.W.Frag} {C : Addr} (h : oexB K C = true) : OexC K C := by
  unfold oexB at h
  rw [Bool.and_eq_true, Bool.and_eq_true, Bool.and_eq_true, Bool.and_eq_true] at h
  obtain ⟨q, h1, h2, h3, h4⟩ := h
  refine ⟨?_, He.eqO_ok h1, of_decide_eq_true h2, of_decide_eq_true h3, h4⟩
  split at q
  · rename_i dd cd sl ho
    split at q
    · rename_i C' bm k0 k1 k2 k3 n k5 hm hs
      simp only [Bool.and_eq_true, beq_iff_eq, Bool.not_eq_true'] at q
      obtain ⟨rfl, rfl, hdel, hdd, ht⟩ := q
      obtain ⟨nm, bs, mro, ns, qn, hd, sn, sub, ab, col, del⟩ := cd
      dsimp only at hm hdel hdd
      subst hm hdel hdd
      obtain ⟨l⟩ := sl
      simp only at hs
      subst hs
      exact ⟨nm, qn, ns, bs, bm, sn, sub, ab, col, dd, k0, k1, k2, k3, k5, ho, ht⟩
    · cases q
  · cases q
def xOex (x fld : Str) : FaX := fun K => oexB K (He.ga K x) && (He.eqO (PySem.W.findIn K (.ref (He.ga K x)) "__init__") (some (some (.ref (He.ma K (He.ga K x) "__init__")))) && (decide (PySem.W.typeIn K (.ref (He.ma K (He.ga K x) "__init__")) = some (.type "function")) && He.eqO (PySem.W.findIn K (.ref (He.ga K x)) fld) (some none)))
structure Oex1 (K : PySem.W.Frag) (C fI : Addr) (fld : Str) : Prop where
  T : OexC K C
  ini : PySem.W.findIn K (.ref C) "__init__" = some (some (.ref fI))
  ty : PySem.W.typeIn K (.ref fI) = some (.type "function")
  nf : PySem.W.findIn K (.ref C) fld = some none
theorem xOex_ok {K : PySem.W.Frag} {x fld : Str} (h : xOex x fld K = true) : Oex1 K (He.ga K x) (He.ma K (He.ga K x) "__init__") fld := by
  unfold xOex at h
  rw [Bool.and_eq_true, Bool.and_eq_true, Bool.and_eq_true] at h
  exact ⟨oexB_ok h.1, He.eqO_ok h.2.1, of_decide_eq_true h.2.2.1, He.eqO_ok h.2.2.2⟩
def xExm (x y : Str) (b : Bool) : FaX := fun K => decide (PySem.W.exmOne K (.ref (He.ga K x)) (.ref (He.ga K y)) = some b)
def xExmB (x : Str) (T : String) (b : Bool) : FaX := fun K => decide (PySem.W.exmOne K (.ref (He.ga K x)) (.type T) = some b)
def xKit (x y : Str) (b : Bool) : FaX := fun K => decide (PySem.W.kitOne K (.ref (He.ga K x)) (.ref (He.ga K y)) = some b)
def xKitB (x : Str) (T : String) (b : Bool) : FaX := fun K => decide (PySem.W.kitOne K (.ref (He.ga K x)) (.type T) = some b)
def xExi (x : Str) : FaX := fun K => exiB K (He.ga K x)
def xXf (x f : Str) : FaX := fun K => xfB K (He.ga K x) && He.eqO (PySem.W.findIn K (.ref (He.ga K x)) f) (some none)
theorem xXf_ok {K : PySem.W.Frag} {x f : Str} (h : xXf x f K = true) : XfC K (He.ga K x) ∧ PySem.W.findIn K (.ref (He.ga K x)) f = some none := by
  unfold xXf at h
  rw [Bool.and_eq_true] at h
  exact ⟨xfB_ok h.1, He.eqO_ok h.2⟩
theorem units5 {k : Nat} {A : Around} (r : Room k A) : A.units + 65 < cLine := by have := r.un; omega
theorem units100 {k : Nat} {A : Around} (r : Room k A) : A.units + 100 < cLine := by have := r.un; omega
theorem fd_one {K : PySem.W.Frag} {x qual : Str} {params : Arguments} {body : List Stmt} {scope : Scope} {dvs : List V} {kws : List (Str × V)} {f : Addr} {fd fd' : FuncData} (F : FunD K x qual params body scope dvs kws f fd) (F' : FunD K x qual params body scope dvs kws f fd') : fd = fd' := by
  obtain ⟨_, _, _, _, _, _, _, _, _, _, _, e, _⟩ := F.ex
  obtain ⟨_, _, _, _, _, _, _, _, _, _, _, e', _⟩ := F'.ex
  rw [e] at e'
  simp at e'
  exact e'.2.2.1
theorem RDs.ints' (g : Gm) (ρ : List Addr) (H : Hp) : ∀ ns : List Int, RDs g ρ H (ns.map D.int) (ns.map V.int)
  | [] => by simp [RDs]
  | n :: ns => by
    simp only [List.map_cons, RDs]
    exact ⟨_, _, rfl, by simp [RD], RDs.ints' g ρ H ns⟩
/-- a law's end: what is left is plain mathematics of F -/
theorem walk_X {l : PySem.W.OpenLaw} {n k : Nat} {q : Program} {loose : List Str} {XP : (Str → Option Value) → Heap → Prop} {YP : World → Heap → Prop} {d : DefRec} {x : Str} {F : FD}
    (hn : l.most = some n) (hn2 : n ≤ sizeLine) (hdf : d.params.defaults = []) (hr : Room k callerA)
    (FF : ∀ (w : World) (mg : Str → Option Value) (fa : Addr) (h : Heap), YP w h → h.Ns mainGlobals mg → mg d.name = some (.ref fa) →
      ∃ (K : PySem.W.Frag) (fd : FuncData), K.In h ∧ (∀ (s : Shared) (u : Value), BindsTo s fd ⟨[u], []⟩ [(x, u)]) ∧
        ∀ base : Heap, K.In base → base.Ns mainGlobals mg → FnOk l.prog w K mg base (L2.CX l.prog w) k fa fd [x] (spD ⟨l.prog, w, K, mg⟩ 1 F))
    (h : ∀ ns : List Int, ns.length ≤ n → ∃ h', F [.rol (ns.map .int)] [] = .ok (.bl true) h') :
    PySem.W.WalkO q loose XP YP l.row.toRowW d [] (fun f vs => PySem.call f vs) := by
  refine Att.attach_call hn hdf fun w s₀ s₁ mg mb fa o pm cd doc a vs ns G Y ho hd hcd hmg hobj hints hlen hg => ?_
  obtain ⟨K, fd, KX, hb, hF⟩ := FF w mg fa _ Y G.T.g hmg
  refine law_call KX G.T.g G.T.b G.T.builtins G.T.nolimit hg hobj hints (Nat.le_trans hlen hn2) hr hF hb (fun H hO hS => ?_) fun H e s' z => ?_
  · obtain ⟨h', e⟩ := h ns hlen
    have rol : RoL K H a (ns.map V.int) := by
      rcases hS with (z | z) | z
      · rcases hO a with y | ⟨ob, xs, y⟩
        · rw [y] at z; cases z
        · rw [y] at z; cases z
      · exact .inl z
      · exact .inr z
    refine ⟨rfl, [], [.rol (ns.map .int)], [], ⟨rfl, List.nodup_nil, fun n o b e => by simp at e⟩, ?_, ?_⟩
    · simp only [RDs, RD]
      exact ⟨_, [], rfl, ⟨a, _, rfl, rol, RDs.ints' _ _ _ ns⟩, rfl⟩
    · rw [e]
      intro ρ' H' _ _ v r
      simpa [RD] using r
  · obtain ⟨_, _, _, _, _, _, _, _, _, _, _, _, z⟩ := z
    exact z.elim
end DL
/-! DLn: what a reading by functions ends in: rules for it, most of them for simp. -/
namespace DL
open PySem PySem.Spec PyProof.Rows L2
def Res.wp0 {α : Type} (r : Res α) (Q : α → DH → Prop) (X : Exn → DH → Prop) : Prop := match r with
  | .ok a h => Q a h
  | .exc e h => X e h
  | .stuck => False
/-- what r ends in (a structure: nothing unfolds it unasked) -/
structure Res.wp {α : Type} (r : Res α) (Q : α → DH → Prop) (X : Exn → DH → Prop) : Prop where
  get : r.wp0 Q X
theorem Res.wp_eq {α : Type} {r : Res α} {Q : α → DH → Prop} {X : Exn → DH → Prop} : r.wp Q X = r.wp0 Q X := propext ⟨fun z => z.get, fun z => ⟨z⟩⟩
structure Po where
  nx : En → DH → Prop
  rt : D → DH → Prop
  bk : En → DH → Prop
  ct : En → DH → Prop
  ex : Exn → En → DH → Prop
def Out.wp0 (o : Out) (P : Po) : Prop := match o with
  | .nx e h => P.nx e h
  | .rt d h => P.rt d h
  | .bk e h => P.bk e h
  | .ct e h => P.ct e h
  | .exc x e h => P.ex x e h
  | .stuck => False
structure Out.wp (o : Out) (P : Po) : Prop where
  get : o.wp0 P
theorem Out.wp_eq {o : Out} {P : Po} : o.wp P = o.wp0 P := propext ⟨fun z => z.get, fun z => ⟨z⟩⟩
def Po.seq (P : Po) (b : DS) : Po := { P with nx := fun e h => (b e h).wp P }
def Po.fn (Q : D → DH → Prop) (X : Exn → DH → Prop) : Po := ⟨fun _ h => Q .non h, Q, fun _ _ => False, fun _ _ => False, fun e _ h => X e h⟩
def optP {α : Type} (o : Option α) (p : α → Prop) : Prop := ∃ a, o = some a ∧ p a
section
variable {α β : Type} {Q : α → DH → Prop} {X : Exn → DH → Prop} {P : Po} {h : DH} {env : En}
@[simp] theorem optP_some {a : α} {p : α → Prop} : optP (some a) p = p a := by simp [optP]
@[simp] theorem optP_none {p : α → Prop} : optP (none : Option α) p = False := by simp [optP]
theorem Res.wp_mono {r : Res α} {Q' : α → DH → Prop} {X' : Exn → DH → Prop} (q : r.wp Q X) (i : ∀ a h, Q a h → Q' a h) (j : ∀ e h, X e h → X' e h) : r.wp Q' X' := by
  cases r <;> simp only [Res.wp_eq, Res.wp0] at q ⊢
  · exact i _ _ q
  · exact j _ _ q
theorem Out.wp_mono {o : Out} {P' : Po} (q : o.wp P) (i1 : ∀ a h, P.nx a h → P'.nx a h) (i2 : ∀ a h, P.rt a h → P'.rt a h) (i3 : ∀ a h, P.bk a h → P'.bk a h) (i4 : ∀ a h, P.ct a h → P'.ct a h) (i5 : ∀ x a h, P.ex x a h → P'.ex x a h) : o.wp P' := by
  cases o <;> simp only [Out.wp_eq, Out.wp0] at q ⊢
  · exact i1 _ _ q
  · exact i2 _ _ q
  · exact i3 _ _ q
  · exact i4 _ _ q
  · exact i5 _ _ _ q
@[simp] theorem wp_ok {a : α} : (Res.ok a h).wp Q X = Q a h := Res.wp_eq
@[simp] theorem wp_exc {e : Exn} : (Res.exc e h : Res α).wp Q X = X e h := Res.wp_eq
@[simp] theorem wp_stuck : (Res.stuck : Res α).wp Q X = False := Res.wp_eq
@[simp] theorem wp_bind {r : Res β} {f : β → DH → Res α} : (r.bind f).wp Q X = r.wp (fun a h => (f a h).wp Q X) X := by cases r <;> simp only [Res.wp_eq] <;> rfl
@[simp] theorem wp_if {c : Prop} [Decidable c] {a : α} : (if c then Res.ok a h else .stuck).wp Q X = (c ∧ Q a h) := by by_cases z : c <;> simp [z]
@[simp] theorem wo_nx : (Out.nx env h).wp P = P.nx env h := Out.wp_eq
@[simp] theorem wo_rt {d : D} : (Out.rt d h).wp P = P.rt d h := Out.wp_eq
@[simp] theorem wo_bk : (Out.bk env h).wp P = P.bk env h := Out.wp_eq
@[simp] theorem wo_ct : (Out.ct env h).wp P = P.ct env h := Out.wp_eq
@[simp] theorem wo_exc {x : Exn} : (Out.exc x env h).wp P = P.ex x env h := Out.wp_eq
@[simp] theorem wo_stuck : Out.stuck.wp P = False := Out.wp_eq
@[simp] theorem wo_out {r : Res β} {f : β → DH → Out} : (r.out env f).wp P = r.wp (fun a h => (f a h).wp P) (fun e h => P.ex e env h) := by cases r <;> simp only [Res.wp_eq, Out.wp_eq] <;> rfl
@[simp] theorem seq_rt {b : DS} : (P.seq b).rt = P.rt := rfl
@[simp] theorem seq_bk {b : DS} : (P.seq b).bk = P.bk := rfl
@[simp] theorem seq_ct {b : DS} : (P.seq b).ct = P.ct := rfl
@[simp] theorem seq_ex {b : DS} : (P.seq b).ex = P.ex := rfl
theorem seq_nx {b : DS} : (P.seq b).nx env h = (b env h).wp P := rfl
variable {Qd : D → DH → Prop}
@[simp] theorem fn_nx : (Po.fn Qd X).nx env h = Qd .non h := rfl
@[simp] theorem fn_rt {d : D} : (Po.fn Qd X).rt d h = Qd d h := rfl
@[simp] theorem fn_bk : (Po.fn Qd X).bk env h = False := rfl
@[simp] theorem fn_ct : (Po.fn Qd X).ct env h = False := rfl
@[simp] theorem fn_ex {e : Exn} : (Po.fn Qd X).ex e env h = X e h := rfl
theorem wp_run {k : Nat} {b : DS} {ds : List D} : (runB k b ds h).wp Qd X = (b (ds.map some ++ List.replicate k none) h).wp (Po.fn Qd X) := by
  unfold runB
  cases b (ds.map some ++ List.replicate k none) h <;> simp only [Res.wp_eq, Out.wp_eq] <;> rfl
theorem eq_of_wp {r : Res α} {a : α} (q : r.wp (fun b h' => b = a ∧ h' = h) (fun _ _ => False)) : r = .ok a h := by
  replace q := q.get
  cases r with
  | ok b h' => obtain ⟨e1, e2⟩ := q; rw [e1, e2]
  | exc e h' => exact q.elim
  | stuck => exact q.elim
theorem some_of_wp {r : Res D} {a : D} (q : r.wp (fun b _ => b = a) (fun _ _ => False)) : ∃ h', r = .ok a h' := by
  replace q := q.get
  cases r with
  | ok b h' => exact ⟨h', by rw [show b = a from q]⟩
  | exc e h' => exact q.elim
  | stuck => exact q.elim
/-! ### expressions -/
/-- the list at a number -/
def lstAt (h : DH) (n : Nat) : Option (List D) := match h[n]? with
  | some (.lst ds) => some ds
  | _ => none
@[simp] theorem asList_ref {n : Nat} : asList h (.ref n) = lstAt h n := rfl
@[simp] theorem asList_rol {ds : List D} : asList h (.rol ds) = some ds := rfl
theorem lstAt_of {n : Nat} {ds : List D} (e : h[n]? = some (.lst ds)) : lstAt h n = some ds := by unfold lstAt; rw [e]
theorem lstAt_iff {n : Nat} {ds : List D} : lstAt h n = some ds ↔ h[n]? = some (.lst ds) := by
  unfold lstAt
  cases h[n]? with
  | none => simp
  | some o => cases o <;> simp
@[simp] theorem lstAt_last {ds : List D} : lstAt (h ++ [.lst ds]) h.length = some ds := lstAt_of (by simp)
def vr (o : Option (Option D)) (h : DH) : Res D := match o with
  | some (some d) => .ok d h
  | _ => .stuck
@[simp] theorem vr_some {d : D} : vr (some (some d)) h = .ok d h := rfl
@[simp] theorem wp_var {i : Nat} : (dVar i env h).wp Qd X = (vr env[i]? h).wp Qd X := by
  show Res.wp (match env[i]? with | some (some d) => _ | _ => _) _ _ = _
  unfold vr; cases env[i]? with
  | none => rfl
  | some o => cases o <;> rfl
@[simp] theorem wp_c {d : D} : (dC d env h).wp Qd X = Qd d h := wp_ok
variable {ta tb tc : DE} {f f' : D → D → DH → Res D} {Qb : Bool → DH → Prop} {t u : DT} {Ql : List D → DH → Prop} {Qm : DM → DH → Prop}
@[simp] theorem wp_op : (dOp f ta tb env h).wp Qd X = (ta env h).wp (fun x h => (tb env h).wp (fun y h => (f x y h).wp Qd X) X) X := by simp [dOp]
def blP (d : D) (p : Bool → Prop) : Prop := match d with
  | .bl b => p b
  | _ => False
@[simp] theorem blP_bl {b : Bool} {p : Bool → Prop} : blP (.bl b) p = p b := rfl
@[simp] theorem wp_dB : (dB ta env h).wp Qb X = (ta env h).wp (fun d h => blP d fun b => Qb b h) X := by
  unfold dB
  rw [wp_bind]
  congr 1
  funext d h
  cases d <;> first | rfl | (simp only [Res.wp_eq] <;> rfl)
@[simp] theorem wp_chain : (dChain f f' ta tb tc env h).wp Qd X = (ta env h).wp (fun x h => (tb env h).wp (fun y h => (f x y h).wp (fun z h => blP z fun b => if b then (tc env h).wp (fun w h => (f' y w h).wp Qd X) X else Qd (.bl false) h) X) X) X := by
  simp only [dChain, wp_bind]
  congr 1; funext x h; congr 1; funext y h; congr 1; funext z h
  cases z <;> try first | rfl | (simp only [Res.wp_eq] <;> rfl)
  rename_i b
  cases b <;> simp [blP]
@[simp] theorem wp_not : (dNot t env h).wp Qb X = (t env h).wp (fun b h => Qb (!b) h) X := by simp [dNot]
@[simp] theorem wp_and : (dAnd t u env h).wp Qb X = (t env h).wp (fun b h => if b then (u env h).wp Qb X else Qb false h) X := by
  simp only [dAnd, wp_bind]; congr 1; funext b h; cases b <;> first | rfl | (simp only [Res.wp_eq, Out.wp_eq] <;> rfl)
@[simp] theorem wp_or : (dOr t u env h).wp Qb X = (t env h).wp (fun b h => if b then Qb true h else (u env h).wp Qb X) X := by
  simp only [dOr, wp_bind]; congr 1; funext b h; cases b <;> first | rfl | (simp only [Res.wp_eq, Out.wp_eq] <;> rfl)
@[simp] theorem wp_notV : (dNotV ta env h).wp Qd X = (ta env h).wp (fun d h => blP d fun b => Qd (.bl (!b)) h) X := by
  simp only [dNotV, wp_bind]; congr 1; funext b h; cases b <;> first | rfl | (simp only [Res.wp_eq, Out.wp_eq] <;> rfl)
@[simp] theorem wp_andV : (dAndV ta tb env h).wp Qd X = (ta env h).wp (fun d h => blP d fun b => if b then (tb env h).wp Qd X else Qd (.bl false) h) X := by
  simp only [dAndV, wp_bind]; congr 1; funext b h; cases b <;> try first | rfl | (simp only [Res.wp_eq] <;> rfl)
  rename_i b; cases b <;> first | rfl | (simp only [Res.wp_eq, Out.wp_eq] <;> rfl)
@[simp] theorem wp_orV : (dOrV ta tb env h).wp Qd X = (ta env h).wp (fun d h => blP d fun b => if b then Qd (.bl true) h else (tb env h).wp Qd X) X := by
  simp only [dOrV, wp_bind]; congr 1; funext b h; cases b <;> try first | rfl | (simp only [Res.wp_eq] <;> rfl)
  rename_i b; cases b <;> first | rfl | (simp only [Res.wp_eq, Out.wp_eq] <;> rfl)
@[simp] theorem wp_ifE : (dIfE t ta tb env h).wp Qd X = (t env h).wp (fun b h => if b then (ta env h).wp Qd X else (tb env h).wp Qd X) X := by
  simp only [dIfE, wp_bind]; congr 1; funext b h; cases b <;> first | rfl | (simp only [Res.wp_eq, Out.wp_eq] <;> rfl)
variable {a c : DA} {m m' : DO} {ds : List D}
@[simp] theorem wp_aNil : (aNil env h).wp Ql X = Ql [] h := wp_ok
@[simp] theorem wp_aCons : (aCons ta a env h).wp Ql X = (ta env h).wp (fun d h => (a env h).wp (fun ds h => Ql (d :: ds) h) X) X := by simp [aCons]
@[simp] theorem wp_tup : (dTup a env h).wp Qd X = (a env h).wp (fun ds h => small ds.length = true ∧ Qd (.tup ds) h) X := by simp [dTup]
@[simp] theorem wp_lst : (qLst a env h).wp Ql X = (a env h).wp (fun ds h => small ds.length = true ∧ Ql ds h) X := by simp [qLst]
@[simp] theorem wp_new : (dNew a env h).wp Qd X = (a env h).wp (fun ds h => Qd (.ref h.length) (h ++ [.lst ds])) X := by simp [dNew]
@[simp] theorem wp_mV : (mV ta env h).wp Qm X = (ta env h).wp (fun d h => Qm (.v d) h) X := by simp [mV]
@[simp] theorem wp_mL : (mL a env h).wp Qm X = (a env h).wp (fun d h => Qm (.l d) h) X := by simp [mL]
@[simp] theorem wp_opM {g : DM → DM → DH → Res D} : (dOpM g m m' env h).wp Qd X = (m env h).wp (fun x h => (m' env h).wp (fun y h => (g x y h).wp Qd X) X) X := by simp [dOpM]
@[simp] theorem wp_eqM {k : Bool → Bool} {x y : DM} : (eqM k x y h).wp Qd X = optP (toPyM h x) fun a => optP (toPyM h y) fun b => Qd (.bl (k (PyData.eqv a b))) h := by
  unfold eqM
  cases toPyM h x <;> cases toPyM h y <;> simp
@[simp] theorem wp_isN {k : Bool → Bool} : (isN k ta env h).wp Qd X = (ta env h).wp (fun d h => Qd (.bl (k d.isNon)) h) X := by simp [isN]
def inP (d : D) (p : Int → Prop) : Prop := match d with
  | .int i => p i
  | _ => False
@[simp] theorem inP_int {i : Int} {p : Int → Prop} : inP (.int i) p = p i := rfl
@[simp] theorem wp_neg : (dNeg ta env h).wp Qd X = (ta env h).wp (fun d h => inP d fun i => Qd (.int (-i)) h) X := by
  simp only [dNeg, wp_bind]; congr 1; funext b h; cases b <;> first | rfl | (simp only [Res.wp_eq, Out.wp_eq] <;> rfl)
@[simp] theorem wp_ix : (dIx m tb env h).wp Qd X = (m env h).wp (fun x h => (tb env h).wp (fun y h => (oIx x y h).wp Qd X) X) X := by simp [dIx]
variable {Qo : Option Int → DH → Prop} {tl th : DP}
@[simp] theorem wp_pNone : (pNone env h).wp Qo X = Qo none h := wp_ok
@[simp] theorem wp_pSome : (pSome ta env h).wp Qo X = (ta env h).wp (fun d h => inP d fun i => Qo (some i) h) X := by
  simp only [pSome, wp_bind]; congr 1; funext b h; cases b <;> first | rfl | (simp only [Res.wp_eq, Out.wp_eq] <;> rfl)
def slR (x : D) (l u : Option Int) (h : DH) : Res D := match x with
  | .tup ds => .ok (.tup (cutD ds l u)) h
  | .str z => if small z.length then .ok (.str (cutS z l u)) h else .stuck
  | _ => .stuck
@[simp] theorem slR_tup {l u : Option Int} : slR (.tup ds) l u h = .ok (.tup (cutD ds l u)) h := rfl
@[simp] theorem slR_str {z : Str} {l u : Option Int} : slR (.str z) l u h = if small z.length then .ok (.str (cutS z l u)) h else .stuck := rfl
@[simp] theorem wp_sl : (dSl ta tl th env h).wp Qd X = (ta env h).wp (fun x h => (tl env h).wp (fun l h => (th env h).wp (fun u h => (slR x l u h).wp Qd X) X) X) X := by
  simp only [dSl, wp_bind]; congr 1
def qslR (x : DM) (l u : Option Int) (h : DH) : Res (List D) := match x with
  | .l ds => .ok (cutD ds l u) h
  | .v d => match asList h d with
    | some ds => .ok (cutD ds l u) h
    | none => .stuck
@[simp] theorem qslR_l {l u : Option Int} : qslR (.l ds) l u h = .ok (cutD ds l u) h := rfl
@[simp] theorem wp_qslR {d : D} {l u : Option Int} : (qslR (.v d) l u h).wp Ql X = optP (asList h d) fun ds => Ql (cutD ds l u) h := by
  unfold qslR; dsimp only; cases asList h d <;> simp
@[simp] theorem wp_qsl : (qSl m tl th env h).wp Ql X = (m env h).wp (fun x h => (tl env h).wp (fun l h => (th env h).wp (fun u h => (qslR x l u h).wp Ql X) X) X) X := by
  simp only [qSl, wp_bind]; congr 1
@[simp] theorem wp_cat : (qCat m m' env h).wp Ql X = (m env h).wp (fun x h => (m' env h).wp (fun y h => optP (x.lst h) fun ds => optP (y.lst h) fun es => small (ds.length + es.length) = true ∧ Ql (ds ++ es) h) X) X := by
  simp only [qCat, wp_bind]; congr 1; funext x h; congr 1; funext y h
  cases x.lst h <;> cases y.lst h <;> simp
@[simp] theorem wp_rep : (qRep m tb env h).wp Ql X = (m env h).wp (fun x h => (tb env h).wp (fun y h => optP (x.lst h) fun ds => inP y fun k => (-(2 ^ 63) ≤ k ∧ k < 2 ^ 63 ∧ small (ds.length * k.toNat) = true) ∧ Ql (List.replicate k.toNat ds).flatten h) X) X := by
  simp only [qRep, wp_bind]; congr 1; funext x h; congr 1; funext y h
  cases x.lst h <;> cases y <;> simp [inP]
@[simp] theorem wp_callM {g : DM → DH → Res D} : (dCallM g m env h).wp Qd X = (m env h).wp (fun x h => (g x h).wp Qd X) X := by simp [dCallM]
@[simp] theorem wp_call2 : (dCall2 f ta tb env h).wp Qd X = (ta env h).wp (fun x h => (tb env h).wp (fun y h => (f x y h).wp Qd X) X) X := by simp [dCall2]
@[simp] theorem wp_call {n k : Nat} {F : FD} {g : List D → List D → List D} : (dCall n k F g a c env h).wp Qd X = (a env h).wp (fun ds h => (c env h).wp (fun zs h => (ds.length = n ∧ zs.length = k) ∧ (F (g ds zs) h).wp Qd X) X) X := by
  simp only [dCall, wp_bind]; congr 1; funext ds h; congr 1; funext zs h
  by_cases z : ds.length = n ∧ zs.length = k <;> simp [z]
/-! operators on told data -/
variable {i j : Int} {b : Bool} {s : Str} {es : List D}
@[simp] theorem oAdd_int : oAdd (.int i) (.int j) h = .ok (.int (i + j)) h := rfl
@[simp] theorem oAdd_tup : oAdd (.tup ds) (.tup es) h = if small (ds.length + es.length) then .ok (.tup (ds ++ es)) h else .stuck := rfl
@[simp] theorem oAdd_str {z : Str} : oAdd (.str s) (.str z) h = if small (s.length + z.length) then .ok (.str (s ++ z)) h else .stuck := rfl
@[simp] theorem oI_int {C : Int → Int → Bool} {k : Int → Int → D} : oI C k (.int i) (.int j) h = if C i j then .ok (k i j) h else .stuck := rfl
@[simp] theorem oI0_int {k : Int → Int → D} : oI0 k (.int i) (.int j) h = .ok (k i j) h := rfl
@[simp] theorem fMax2_int : fMax2 (.int i) (.int j) h = .ok (.int (if j > i then j else i)) h := rfl
@[simp] theorem fMin2_int : fMin2 (.int i) (.int j) h = .ok (.int (if j < i then j else i)) h := rfl
def lnP (m : DM) (h : DH) (p : Int → Prop) : Prop := match m with
  | .v (.str z) => small z.length = true ∧ p z.length
  | m => optP (m.seq h) fun ds => p ds.length
@[simp] theorem lnP_l {p : Int → Prop} : lnP (.l ds) h p = p ds.length := by simp [lnP, DM.seq]
@[simp] theorem lnP_tup {p : Int → Prop} : lnP (.v (.tup ds)) h p = p ds.length := by simp [lnP, DM.seq]
@[simp] theorem lnP_rol {p : Int → Prop} : lnP (.v (.rol ds)) h p = p ds.length := by simp [lnP, DM.seq, asList]
@[simp] theorem lnP_str {p : Int → Prop} : lnP (.v (.str s)) h p = (small s.length = true ∧ p s.length) := rfl
@[simp] theorem lnP_ref {n : Nat} {p : Int → Prop} : lnP (.v (.ref n)) h p = optP (lstAt h n) fun ds => p ds.length := rfl
@[simp] theorem wp_len {x : DM} : (fLen x h).wp Qd X = lnP x h fun n => Qd (.int n) h := by
  cases x with
  | l ds => simp [fLen, lnP, DM.seq]
  | v d =>
    cases d with
    | ref n => simp only [fLen, lnP_ref, DM.seq, asList_ref]; cases lstAt h n <;> simp
    | _ => simp [fLen, lnP, DM.seq, asList]
@[simp] theorem wp_bls {k : List Bool → Bool} {x : DM} : (fBls k x h).wp Qd X = optP ((match x with | .l ds => some ds | .v d => asList h d).bind (mapO blOf)) fun bs => Qd (.bl (k bs)) h := by
  cases x with
  | l ds => simp only [fBls, Option.bind_some]; cases mapO blOf ds <;> simp
  | v d => simp only [fBls]; cases (asList h d).bind (mapO blOf) <;> simp
@[simp] theorem fTup_tup : fTup (.v (.tup ds)) h = .ok (.tup ds) h := rfl
@[simp] theorem fTup_l : fTup (.l ds) h = .ok (.tup ds) h := rfl
@[simp] theorem fTup_rol : fTup (.v (.rol ds)) h = .ok (.tup ds) h := rfl
@[simp] theorem wp_fTup_ref {n : Nat} : (fTup (.v (.ref n)) h).wp Qd X = optP (lstAt h n) fun ds => Qd (.tup ds) h := by
  unfold fTup DM.seq; simp only [asList_ref]; cases lstAt h n <;> simp
@[simp] theorem fInt_int : fInt (.v (.int i)) h = .ok (.int i) h := rfl
@[simp] theorem fInt_bl {b : Bool} : fInt (.v (.bl b)) h = .ok (.int (if b then 1 else 0)) h := rfl
@[simp] theorem wp_is {k : BT} {x : DM} : (fIs k x h).wp Qd X = optP (tyD h x) fun t => Qd (.bl (isT t k)) h := by
  unfold fIs; cases tyD h x <;> simp
@[simp] theorem wp_isM {k : List BT} {x : DM} : (fIsN k x h).wp Qd X = optP (tyD h x) fun t => Qd (.bl (k.any (isT t ·))) h := by
  unfold fIsN; cases tyD h x <;> simp
@[simp] theorem ty_l : tyD h (.l ds) = some .lst := rfl
@[simp] theorem ty_non : tyD h (.v .non) = some .non := rfl
@[simp] theorem ty_bl : tyD h (.v (.bl b)) = some .bl := rfl
@[simp] theorem ty_int : tyD h (.v (.int i)) = some .int := rfl
@[simp] theorem ty_str : tyD h (.v (.str s)) = some .str := rfl
@[simp] theorem ty_tup : tyD h (.v (.tup ds)) = some .tup := rfl
@[simp] theorem ty_rol : tyD h (.v (.rol ds)) = some .lst := rfl
@[simp] theorem seq_tup : DM.seq h (.v (.tup ds)) = some ds := rfl
@[simp] theorem seq_l : DM.seq h (.l ds) = some ds := rfl
@[simp] theorem seq_rol : DM.seq h (.v (.rol ds)) = some ds := rfl
@[simp] theorem seq_ref {n : Nat} : DM.seq h (.v (.ref n)) = lstAt h n := rfl
def ixR (m : DM) (i : Int) (h : DH) : Res D := match m.seq h with
  | some ds => match atI ds i with
    | some d => .ok d h
    | none => .stuck
  | none => .stuck
@[simp] theorem wp_ixl : (oIx (.l ds) (.int i) h).wp Qd X = optP (atI ds i) fun d => Qd d h := by
  rw [show oIx (.l ds) (.int i) h = ixR (.l ds) i h from rfl]
  unfold ixR; simp only [seq_l, seq_tup, seq_rol]; cases atI ds i <;> simp
@[simp] theorem wp_ixt : (oIx (.v (.tup ds)) (.int i) h).wp Qd X = optP (atI ds i) fun d => Qd d h := by
  rw [show oIx (.v (.tup ds)) (.int i) h = ixR (.v (.tup ds)) i h from rfl]
  unfold ixR; simp only [seq_l, seq_tup, seq_rol]; cases atI ds i <;> simp
@[simp] theorem wp_ixo : (oIx (.v (.rol ds)) (.int i) h).wp Qd X = optP (atI ds i) fun d => Qd d h := by
  rw [show oIx (.v (.rol ds)) (.int i) h = ixR (.v (.rol ds)) i h from rfl]
  unfold ixR; simp only [seq_l, seq_tup, seq_rol]; cases atI ds i <;> simp
@[simp] theorem wp_ixr {n : Nat} : (oIx (.v (.ref n)) (.int i) h).wp Qd X = optP (lstAt h n) fun ds => optP (atI ds i) fun d => Qd d h := by
  rw [show oIx (.v (.ref n)) (.int i) h = ixR (.v (.ref n)) i h from rfl]
  unfold ixR; simp only [seq_ref]
  cases lstAt h n with
  | none => simp
  | some ds => cases z : atI ds i <;> simp [z]
/-! ### statements -/
variable {b1 b2 : DS} {g : DG} {gs : DGs} {d : D}
@[simp] theorem wo_nil : (sNil env h).wp P = P.nx env h := wo_nx
@[simp] theorem wo_pass : (sPass env h).wp P = P.nx env h := wo_nx
@[simp] theorem wo_break : (sBreak env h).wp P = P.bk env h := wo_bk
@[simp] theorem wo_cont : (sCont env h).wp P = P.ct env h := wo_ct
@[simp] theorem wo_seq : (sSeq b1 b2 env h).wp P = (b1 env h).wp (P.seq b2) := by
  unfold sSeq; cases b1 env h <;> simp only [Out.wp_eq] <;> first | rfl | (simp only [Out.wp0, Po.seq, Out.wp_eq])
@[simp] theorem wo_expr : (sExpr ta env h).wp P = (ta env h).wp (fun _ h => P.nx env h) (fun e h => P.ex e env h) := by simp [sExpr]
@[simp] theorem wo_ret : (sRet ta env h).wp P = (ta env h).wp (fun d h => P.rt d h) (fun e h => P.ex e env h) := by simp [sRet]
@[simp] theorem wo_retN : (sRetN env h).wp P = P.rt .non h := wo_rt
@[simp] theorem wo_if : (sIf t b1 b2 env h).wp P = (t env h).wp (fun b h => if b then (b1 env h).wp P else (b2 env h).wp P) (fun e h => P.ex e env h) := by
  simp only [sIf, wo_out]; congr 1; funext b h; cases b <;> first | rfl | (simp only [Res.wp_eq, Out.wp_eq] <;> rfl)
@[simp] theorem wo_asg : (sAsg ta g env h).wp P = (ta env h).wp (fun d h => optP (g d env) fun env' => P.nx env' h) (fun e h => P.ex e env h) := by
  simp only [sAsg, wo_out]; congr 1; funext d h; cases g d env <;> simp
@[simp] theorem g_nameE {n : Nat} : gdName n d env = some (env.set n (some d)) := rfl
@[simp] theorem gs_nilE : gsNil [] env = some env := rfl
@[simp] theorem gs_consE : gsCons g gs (d :: ds) env = (g d env).bind fun e => gs ds e := rfl
@[simp] theorem g_tupE {n : Nat} : gdTup n gs (.tup ds) env = if ds.length = n then gs ds env else none := rfl
@[simp] theorem wo_raise {x y : Str} : (sRaise x y ta env h).wp P = (ta env h).wp (fun d h => P.ex ⟨x, [(y, d)]⟩ env h) (fun e h => P.ex e env h) := by simp [sRaise]
def setP (d i y : D) (h : DH) (p : DH → Prop) : Prop := match d, i with
  | .ref n, .int k => optP (lstAt h n) fun ds => optP (ixN ds.length k) fun j => p (h.set n (.lst (ds.set j y)))
  | _, _ => False
@[simp] theorem setP_ref {n : Nat} {y : D} {p : DH → Prop} : setP (.ref n) (.int i) y h p = optP (lstAt h n) fun ds => optP (ixN ds.length i) fun j => p (h.set n (.lst (ds.set j y))) := rfl
@[simp] theorem wo_setL : (sSetL ta tb tc env h).wp P = (ta env h).wp (fun y h => (tb env h).wp (fun d h => (tc env h).wp (fun i h => setP d i y h fun h => P.nx env h) (fun e h => P.ex e env h)) (fun e h => P.ex e env h)) (fun e h => P.ex e env h) := by
  simp only [sSetL, wo_out]
  congr 1; funext y h; congr 1; funext d h; congr 1; funext i h
  cases d with
  | ref n =>
    cases i with
    | int k =>
      simp only [setP, lstAt]
      cases h[n]? with
      | none => simp
      | some o =>
        cases o with
        | lst ds => cases z : ixN ds.length k <;> simp [z]
        | _ => simp
    | _ => simp [setP]
  | _ => simp [setP]
/-! lists, dicts, in, is -/
@[simp] theorem wp_sorted : (qSorted m env h).wp Ql X = (m env h).wp (fun x h => optP (x.aslst h) fun ds => okSort h ds = true ∧ Ql (srtD h ds) h) X := by
  simp only [qSorted, wp_bind]; congr 1; funext x h; cases x.aslst h <;> simp
@[simp] theorem wp_list : (qList m env h).wp Ql X = (m env h).wp (fun x h => optP (x.seq h) fun ds => Ql ds h) X := by
  simp only [qList, wp_bind]; congr 1; funext x h; cases x.seq h <;> simp
@[simp] theorem wp_dict0 : (dDict0 env h).wp Qd X = Qd (.ref h.length) (h ++ [.dct false []]) := wp_ok
def appP (d y : D) (h : DH) (p : DH → Prop) : Prop := match d with
  | .ref n => optP (lstAt h n) fun ds => small (ds.length + 1) = true ∧ p (h.set n (.lst (ds ++ [y])))
  | _ => False
@[simp] theorem appP_ref {n : Nat} {y : D} {p : DH → Prop} : appP (.ref n) y h p = optP (lstAt h n) fun ds => small (ds.length + 1) = true ∧ p (h.set n (.lst (ds ++ [y]))) := rfl
@[simp] theorem wp_app : (dApp ta tb env h).wp Qd X = (ta env h).wp (fun d h => optP (asList h d) fun _ => (tb env h).wp (fun y h => appP d y h fun h => Qd .non h) X) X := by
  simp only [dApp, wp_bind]; congr 1; funext d h
  cases asList h d with
  | none => simp
  | some es =>
    simp only [wp_bind, optP_some]
    congr 1; funext y h
    cases d with
    | ref n =>
      simp only [appP, lstAt]
      cases h[n]? with
      | none => simp
      | some o => cases o <;> simp
    | _ => simp [appP]
@[simp] theorem wp_in {k : Bool → Bool} {x y : DM} : (oIn k x y h).wp Qd X = optP (inM x y h) fun b => Qd (.bl (k b)) h := by
  unfold oIn; cases inM x y h <;> simp
@[simp] theorem oIs_bl {k : Bool → Bool} {c : Bool} : oIs k (.bl b) (.bl c) h = .ok (.bl (k (decide (b = c)))) h := rfl
@[simp] theorem oRep1_tup {k : Int} : oRep1 (.tup ds) (.int k) h = if ds ≠ [] ∧ 1 ≤ k ∧ k ≤ 1000 ∧ ds.length ≤ 1000 then .ok (.tup (List.replicate k.toNat ds).flatten) h else .stuck := rfl
def extP (k : Int → List Int → Int) (l : List Int) (p : Int → Prop) : Prop := match l with
  | i :: is => p (k i is)
  | [] => False
@[simp] theorem extP_cons {k : Int → List Int → Int} {i : Int} {is : List Int} {p : Int → Prop} : extP k (i :: is) p = p (k i is) := rfl
@[simp] theorem wp_ext {k : Int → List Int → Int} {x : DM} : (fExt k x h).wp Qd X = optP ((x.aslst h).bind (mapO intOf)) fun l => extP k l fun i => Qd (.int i) h := by
  unfold fExt
  cases (x.aslst h).bind (mapO intOf) with
  | none => simp
  | some l => cases l <;> simp [extP]
@[simp] theorem aslst_l : DM.aslst h (.l ds) = some ds := rfl
@[simp] theorem aslst_v : DM.aslst h (.v d) = asList h d := rfl
variable {x : Exn} {fld : Str} {tab : List (Str × Bool)} {su : Exn → DS} {i' : Nat}
@[simp] theorem wp_xf : (dXf x fld env h).wp Qd X = optP (x.fs.lookup fld) fun d => Qd d h := by
  unfold dXf; cases x.fs.lookup fld <;> simp
@[simp] theorem wp_isX : (dIsX x tab env h).wp Qd X = optP (tab.lookup x.cls) fun b => Qd (.bl b) h := by
  unfold dIsX; cases tab.lookup x.cls <;> simp
def Po.cl (P : Po) (i : Nat) : Po := ⟨fun e h => P.nx (e.set i none) h, P.rt, fun e h => P.bk (e.set i none) h, fun e h => P.ct (e.set i none) h, fun _ _ _ => False⟩
@[simp] theorem cl_nx : (P.cl i').nx env h = P.nx (env.set i' none) h := rfl
@[simp] theorem cl_rt : (P.cl i').rt d h = P.rt d h := rfl
@[simp] theorem cl_bk : (P.cl i').bk env h = P.bk (env.set i' none) h := rfl
@[simp] theorem cl_ct : (P.cl i').ct env h = P.ct (env.set i' none) h := rfl
@[simp] theorem cl_ex : (P.cl i').ex x env h = False := rfl
@[simp] theorem wo_clr {o : Out} : (clr i' o).wp P = o.wp (P.cl i') := by cases o <;> simp [clr]
def trP (k : Option Bool) (y : Prop) (n : Prop) : Prop := match k with
  | some true => y
  | some false => n
  | none => False
@[simp] theorem trP_y {y n : Prop} : trP (some true) y n = y := rfl
@[simp] theorem trP_n {y n : Prop} : trP (some false) y n = n := rfl
def Po.tr (P : Po) (tab : List (Str × Bool)) (i : Nat) (s : Exn → DS) : Po := { P with ex := fun e env h => trP (tab.lookup e.cls) (i < env.length ∧ (s e (env.set i none) h).wp (P.cl i)) (P.ex e env h) }
@[simp] theorem tr_nx : (P.tr tab i' su).nx env h = P.nx env h := rfl
@[simp] theorem tr_rt : (P.tr tab i' su).rt d h = P.rt d h := rfl
@[simp] theorem tr_bk : (P.tr tab i' su).bk env h = P.bk env h := rfl
@[simp] theorem tr_ct : (P.tr tab i' su).ct env h = P.ct env h := rfl
@[simp] theorem tr_ex : (P.tr tab i' su).ex x env h = trP (tab.lookup x.cls) (i' < env.length ∧ (su x (env.set i' none) h).wp (P.cl i')) (P.ex x env h) := rfl
@[simp] theorem wo_try : (sTryT tab i' b1 su env h).wp P = (b1 env h).wp (P.tr tab i' su) := by
  unfold sTryT
  cases b1 env h with
  | exc e env1 h1 =>
    simp only [wo_exc, tr_ex]
    cases tab.lookup e.cls with
    | none => simp [trP]
    | some k =>
      cases k with
      | false => simp
      | true => by_cases z : i' < env1.length <;> simp [z]
  | _ => simp
variable {it : DI}
@[simp] theorem wo_for : (sFor it g b1 env h).wp P = (it env h).wp (fun p h => (dLoop p.2 g b1 p.1 env h).wp P) (fun e h => P.ex e env h) := by simp [sFor]
variable {Qi : List D × (DH → Bool) → DH → Prop}
@[simp] theorem wp_it : (dIt m env h).wp Qi X = (m env h).wp (fun x h => optP (x.items h) fun ds => Qi (ds, liveM h x) h) X := by
  simp only [dIt, wp_bind]; congr 1; funext x h; cases x.items h <;> simp
@[simp] theorem wp_enu : (dEnu m env h).wp Qi X = (m env h).wp (fun x h => optP (x.seq h) fun ds => Qi (numd ds, liveM h x) h) X := by
  simp only [dEnu, wp_bind]; congr 1; funext x h; cases x.seq h <;> simp
@[simp] theorem wp_zip : (dZip m m' env h).wp Qi X = (m env h).wp (fun x h => (m' env h).wp (fun y h => optP (x.seq h) fun ds => optP (y.seq h) fun es => ds.length = es.length ∧ Qi (zipd ds es, fun h' => liveM h x h' && liveM h y h') h) X) X := by
  simp only [dZip, wp_bind]; congr 1; funext x h; congr 1; funext y h; cases x.seq h <;> cases y.seq h <;> simp
@[simp] theorem wp_rng1 : (dRng1 ta env h).wp Qi X = (ta env h).wp (fun d h => inP d fun j => big62 j = true ∧ Qi (cnt 0 j.toNat, fun _ => true) h) X := by
  simp only [dRng1, wp_bind]; congr 1; funext d h; cases d <;> simp [inP]
@[simp] theorem wp_rng2 : (dRng2 ta tb env h).wp Qi X = (ta env h).wp (fun d h => (tb env h).wp (fun d' h => inP d fun i => inP d' fun j => (big62 i && big62 j) = true ∧ Qi (cnt i (j - i).toNat, fun _ => true) h) X) X := by
  simp only [dRng2, wp_bind]; congr 1; funext d h; congr 1; funext d' h; cases d <;> cases d' <;> simp [inP]
@[simp] theorem wp_lc {vs : List Nat} : (qLc it g t ta vs env h).wp Ql X = (it env h).wp (fun p h => (lcLoop p.2 g t ta (wipeD env vs) p.1 [] h).wp Ql X) X := by simp [qLc]
@[simp] theorem items_tup : DM.items h (.v (.tup ds)) = some ds := rfl
@[simp] theorem items_l : DM.items h (.l ds) = some ds := rfl
@[simp] theorem items_rol : DM.items h (.v (.rol ds)) = some ds := rfl
@[simp] theorem items_ref {n : Nat} : DM.items h (.v (.ref n)) = lstAt h n := rfl
@[simp] theorem items_str : DM.items h (.v (.str s)) = some (s.cps.toList.map fun c => .str ⟨#[c]⟩) := rfl
@[simp] theorem live_tup {h' : DH} : liveM h (.v (.tup ds)) h' = true := rfl
@[simp] theorem live_l {h' : DH} : liveM h (.l ds) h' = true := rfl
@[simp] theorem live_rol {h' : DH} : liveM h (.v (.rol ds)) h' = true := rfl
@[simp] theorem live_str {h' : DH} : liveM h (.v (.str s)) h' = true := rfl
theorem live_ref {n : Nat} {h' : DH} : liveM h (.v (.ref n)) h' = true ↔ h'[n]? = h[n]? := by
  unfold liveM
  classical simp
/-! ### loops -/
/-- a loop by an invariant; what the turns return, raise, goes through -/
theorem loop_inv {live : DH → Bool} {xs : List D} (I : Nat → En → DH → Prop) (h0 : I 0 env h) (hl : ∀ i env h, I i env h → live h = true)
    (hs : ∀ i x env h, xs[i]? = some x → I i env h → optP (g x env) fun env1 => (b1 env1 h).wp ⟨I (i + 1), P.rt, P.nx, I (i + 1), P.ex⟩)
    (hd : ∀ env h, I xs.length env h → P.nx env h) : (dLoop live g b1 xs env h).wp P := by
  suffices H : ∀ (ys : List D) (i : Nat) (env : En) (h : DH), xs.drop i = ys → i ≤ xs.length → I i env h → (dLoop live g b1 ys env h).wp P from H xs 0 env h (by simp) (Nat.zero_le _) h0
  intro ys
  induction ys with
  | nil =>
    intro i env h e hi hI
    unfold dLoop
    rw [hl i env h hI, if_pos rfl]
    have hlen : xs.length ≤ i := by simpa using e
    have : i = xs.length := by omega
    exact ⟨hd env h (this ▸ hI)⟩
  | cons y ys ih =>
    intro i env h e hi hI
    unfold dLoop
    rw [hl i env h hI, if_pos rfl]
    have hx : xs[i]? = some y := by
      have := congrArg (·[0]?) e
      simpa using this
    have hlt := (List.getElem?_eq_some_iff.mp hx).1
    have e2 : xs.drop (i + 1) = ys := by
      have := congrArg (List.drop 1) e
      simpa using this
    obtain ⟨env1, e1, q⟩ := hs i y env h hx hI
    rw [e1]
    dsimp only
    cases z : b1 env1 h with
    | nx e' h' => rw [z] at q; exact ih (i + 1) e' h' e2 (by omega) q.get
    | ct e' h' => rw [z] at q; exact ih (i + 1) e' h' e2 (by omega) q.get
    | bk e' h' => rw [z] at q; exact ⟨q.get⟩
    | rt d' h' => rw [z] at q; exact ⟨q.get⟩
    | exc x e' h' => rw [z] at q; exact ⟨q.get⟩
    | stuck => rw [z] at q; exact q.get.elim
/-- a comprehension by an invariant that says of the items so far -/
theorem lc_inv {live : DH → Bool} {xs : List D} (I : List D → Nat → DH → Prop) (h0 : I [] 0 h) (hl : ∀ acc i h, I acc i h → live h = true)
    (hs : ∀ acc i x h, xs[i]? = some x → I acc i h → acc.length ≤ i → optP (g x env) fun env1 => (t env1 h).wp (fun b h => if b then (ta env1 h).wp (fun d h => I (acc ++ [d]) (i + 1) h) (fun _ _ => False) else I acc (i + 1) h) (fun _ _ => False))
    (hz : xs.length ≤ 16777216) (hd : ∀ acc h, I acc xs.length h → acc.length ≤ xs.length → Ql acc h) : (lcLoop live g t ta env xs [] h).wp Ql X := by
  suffices H : ∀ (ys : List D) (i : Nat) (acc : List D) (h : DH), xs.drop i = ys → i ≤ xs.length → I acc i h → acc.length ≤ i → (lcLoop live g t ta env ys acc h).wp Ql X from H xs 0 [] h (by simp) (Nat.zero_le _) h0 (Nat.le_refl _)
  intro ys
  induction ys with
  | nil =>
    intro i acc h e hi hI ha
    unfold lcLoop
    rw [hl acc i h hI, if_pos rfl]
    have hlen : xs.length ≤ i := by simpa using e
    have : i = xs.length := by omega
    exact ⟨hd acc h (this ▸ hI) (this ▸ ha)⟩
  | cons y ys ih =>
    intro i acc h e hi hI ha
    unfold lcLoop
    rw [hl acc i h hI, if_pos rfl]
    have hx : xs[i]? = some y := by
      have := congrArg (·[0]?) e
      simpa using this
    have hlt := (List.getElem?_eq_some_iff.mp hx).1
    have e2 : xs.drop (i + 1) = ys := by
      have := congrArg (List.drop 1) e
      simpa using this
    obtain ⟨env1, e1, q⟩ := hs acc i y h hx hI ha
    rw [e1]
    dsimp only
    cases z : t env1 h with
    | exc x h' => rw [z] at q; exact q.get.elim
    | stuck => rw [z] at q; exact q.get.elim
    | ok b h' =>
      rw [z] at q
      cases b with
      | false => exact ih (i + 1) acc h' e2 (by omega) (by simpa using q) (by omega)
      | true =>
        have q : (ta env1 h').wp (fun d h => I (acc ++ [d]) (i + 1) h) (fun _ _ => False) := by simpa using q
        dsimp only
        cases z2 : ta env1 h' with
        | exc x h2 => rw [z2] at q; exact q.get.elim
        | stuck => rw [z2] at q; exact q.get.elim
        | ok d h2 =>
          rw [z2] at q
          dsimp only
          rw [if_pos (by simp [small]; omega)]
          exact ih (i + 1) _ h2 e2 (by omega) q.get (by simp; omega)
/-- each item by itself, the heap as it was -/
theorem lc_map {live : DH → Bool} {xs : List D} (f : D → D) (hl : live h = true) (hz : xs.length ≤ 16777216) (hc : t = cYes)
    (hs : ∀ x ∈ xs, optP (g x env) fun env1 => (ta env1 h).wp (fun d h' => d = f x ∧ h' = h) (fun _ _ => False)) (hd : Ql (xs.map f) h) : (lcLoop live g t ta env xs [] h).wp Ql X := by
  subst hc
  refine lc_inv (fun acc i h' => h' = h ∧ acc = (xs.take i).map f) ⟨rfl, by simp⟩ (fun acc i h' e => by rw [e.1]; exact hl) (fun acc i x h' hx e _ => ?_) hz (fun acc h' e _ => ?_)
  · obtain ⟨rfl, rfl⟩ := e
    obtain ⟨env1, e1, q⟩ := hs x (List.mem_of_getElem? hx)
    refine ⟨env1, e1, ?_⟩
    show (cYes env1 h').wp _ _
    simp only [cYes, wp_ok, if_true]
    refine Res.wp_mono (r := ta env1 h') q (fun d h2 ⟨e1, e2⟩ => ⟨e2, ?_⟩) fun _ _ z => z
    rw [e1, List.take_succ, hx]
    simp
  · obtain ⟨rfl, rfl⟩ := e
    rw [List.take_length]
    exact hd
end
end DL
/-! DLo: plain facts that the laws' mathematics leans on. -/
namespace DL
open PySem PySem.Spec PyProof.Rows L2
theorem wp_ite {α : Type} {c : Prop} [Decidable c] {r s : Res α} {Q : α → DH → Prop} {X : Exn → DH → Prop} : (if c then r else s).wp Q X = if c then r.wp Q X else s.wp Q X := by
  by_cases z : c <;> simp [z]
theorem log_ok {i : Int} (h : i.natAbs < 2 ^ 100) : i.natAbs.log2 < 100 := by
  by_cases z : i.natAbs = 0
  · rw [z]; decide
  · exact (Nat.log2_lt z).mpr h
theorem mul_ok {i j : Int} (h : i.natAbs < 2 ^ 100) (h' : j.natAbs < 2 ^ 100) : okMul i j = true := by
  have := log_ok h
  have := log_ok h'
  simp only [okMul, decide_eq_true_eq]
  omega
theorem div_ok {i j : Int} (h0 : 0 < j) (h' : j.natAbs < 2 ^ 100) : okDiv i j = true := by
  have := log_ok h'
  simp only [okDiv, decide_eq_true_eq]
  exact ⟨h0, by omega⟩
theorem mod_ok {i j : Int} (h0 : 0 < j) : okMod i j = true := by simp only [okMod, decide_eq_true_eq]; exact h0
theorem atI_nat {α : Type} (xs : List α) (i : Nat) : atI xs (i : Int) = xs[i]? := by
  unfold atI ixN
  by_cases z : i < xs.length
  · rw [if_pos (by omega), if_pos (by omega)]; simp
  · rw [if_pos (by omega), if_neg (by omega), List.getElem?_eq_none (by omega)]; rfl
theorem atI_pos {α : Type} (xs : List α) {i : Int} (h : 0 ≤ i) : atI xs i = xs[i.toNat]? := by
  have := atI_nat xs i.toNat
  rwa [Int.toNat_of_nonneg h] at this
@[simp] theorem atI_0 {α : Type} {x : α} {xs : List α} : atI (x :: xs) 0 = some x := atI_nat (x :: xs) 0
@[simp] theorem atI_1 {α : Type} {x y : α} {xs : List α} : atI (x :: y :: xs) 1 = some y := atI_nat (x :: y :: xs) 1
@[simp] theorem atI_2 {α : Type} {x y z : α} {xs : List α} : atI (x :: y :: z :: xs) 2 = some z := atI_nat (x :: y :: z :: xs) 2
@[simp] theorem ixN_0 {n : Nat} : ixN (n + 1) 0 = some 0 := by unfold ixN; rw [if_pos (by omega), if_pos (by omega)]; rfl
@[simp] theorem ixN_1 {n : Nat} : ixN (n + 1 + 1) 1 = some 1 := by unfold ixN; rw [if_pos (by omega), if_pos (by omega)]; rfl
theorem lstAt_set {h : DH} {n : Nat} {ds : List D} (hn : n < h.length) : lstAt (List.set h n (.lst ds)) n = some ds := lstAt_of (by simp [hn])
/-! ### equality -/
section
variable {h : DH} {n : Nat}
@[simp] theorem toPy_non : toPy h (n + 1) .non = some .none := rfl
@[simp] theorem toPy_bl {b : Bool} : toPy h (n + 1) (.bl b) = some (.bool b) := rfl
@[simp] theorem toPy_int {i : Int} : toPy h (n + 1) (.int i) = some (.int i) := rfl
@[simp] theorem toPy_tup {ds : List D} : toPy h (n + 1) (.tup ds) = (mapO (toPy h n) ds).map .tuple := rfl
@[simp] theorem toPy_rol {ds : List D} : toPy h (n + 1) (.rol ds) = (mapO (toPy h n) ds).map .list := rfl
@[simp] theorem toPy_ref {k : Nat} : toPy h (n + 1) (.ref k) = (lstAt h k).bind fun ds => (mapO (toPy h n) ds).map .list := by
  show (match h[k]? with | some (.lst ds) => _ | _ => _) = _
  unfold lstAt
  cases h[k]? with
  | none => rfl
  | some o => cases o <;> rfl
@[simp] theorem toPyM_v {d : D} : toPyM h (.v d) = toPy h 12 d := rfl
@[simp] theorem toPyM_l {ds : List D} : toPyM h (.l ds) = (mapO (toPy h 11) ds).map .list := rfl
@[simp] theorem mapO_nil {α β : Type} {f : α → Option β} : mapO f [] = some [] := rfl
@[simp] theorem mapO_cons {α β : Type} {f : α → Option β} {a : α} {l : List α} : mapO f (a :: l) = (f a).bind fun b => (mapO f l).map fun c => b :: c := rfl
theorem mapO_map {α β : Type} {f : α → Option β} {g : α → β} : ∀ {l : List α}, (∀ a ∈ l, f a = some (g a)) → mapO f l = some (l.map g)
  | [], _ => rfl
  | a :: l, h => by
    rw [mapO_cons, h a (by simp), mapO_map fun b hb => h b (by simp [hb])]
    rfl
@[simp] theorem mapO_toPy_ints {is : List Int} : mapO (toPy h (n + 1)) (is.map .int) = some (is.map .int) := by
  induction is with
  | nil => rfl
  | cons i is ih => simp [ih]
@[simp] theorem mapO_toPy_bls {bs : List Bool} : mapO (toPy h (n + 1)) (bs.map .bl) = some (bs.map .bool) := by
  induction bs with
  | nil => rfl
  | cons i is ih => simp [ih]
@[simp] theorem eqv_int {i j : Int} : PyData.eqv (.int i) (.int j) = (i == j) := rfl
@[simp] theorem eqv_bool {i j : Bool} : PyData.eqv (.bool i) (.bool j) = (i == j) := rfl
@[simp] theorem eqv_non : PyData.eqv .none .none = true := rfl
@[simp] theorem eqv_str {i j : Str} : PyData.eqv (.str i) (.str j) = (i == j) := rfl
@[simp] theorem eqv_list {i j : List PyData} : PyData.eqv (.list i) (.list j) = PyData.eqvAll i j := rfl
@[simp] theorem eqv_tuple {i j : List PyData} : PyData.eqv (.tuple i) (.tuple j) = PyData.eqvAll i j := rfl
@[simp] theorem eqv_x_none_bool {b2 : Bool} : PyData.eqv .none (.bool b2) = false := rfl
@[simp] theorem eqv_x_none_int {i2 : Int} : PyData.eqv .none (.int i2) = false := rfl
@[simp] theorem eqv_x_none_str {s2 : Str} : PyData.eqv .none (.str s2) = false := rfl
@[simp] theorem eqv_x_none_list {l2 : List PyData} : PyData.eqv .none (.list l2) = false := rfl
@[simp] theorem eqv_x_none_tuple {l2 : List PyData} : PyData.eqv .none (.tuple l2) = false := rfl
@[simp] theorem eqv_x_bool_none {b1 : Bool} : PyData.eqv (.bool b1) .none = false := rfl
@[simp] theorem eqv_x_bool_str {b1 : Bool} {s2 : Str} : PyData.eqv (.bool b1) (.str s2) = false := rfl
@[simp] theorem eqv_x_bool_list {b1 : Bool} {l2 : List PyData} : PyData.eqv (.bool b1) (.list l2) = false := rfl
@[simp] theorem eqv_x_bool_tuple {b1 : Bool} {l2 : List PyData} : PyData.eqv (.bool b1) (.tuple l2) = false := rfl
@[simp] theorem eqv_x_int_none {i1 : Int} : PyData.eqv (.int i1) .none = false := rfl
@[simp] theorem eqv_x_int_str {i1 : Int} {s2 : Str} : PyData.eqv (.int i1) (.str s2) = false := rfl
@[simp] theorem eqv_x_int_list {i1 : Int} {l2 : List PyData} : PyData.eqv (.int i1) (.list l2) = false := rfl
@[simp] theorem eqv_x_int_tuple {i1 : Int} {l2 : List PyData} : PyData.eqv (.int i1) (.tuple l2) = false := rfl
@[simp] theorem eqv_x_str_none {s1 : Str} : PyData.eqv (.str s1) .none = false := rfl
@[simp] theorem eqv_x_str_bool {s1 : Str} {b2 : Bool} : PyData.eqv (.str s1) (.bool b2) = false := rfl
@[simp] theorem eqv_x_str_int {s1 : Str} {i2 : Int} : PyData.eqv (.str s1) (.int i2) = false := rfl
@[simp] theorem eqv_x_str_list {s1 : Str} {l2 : List PyData} : PyData.eqv (.str s1) (.list l2) = false := rfl
@[simp] theorem eqv_x_str_tuple {s1 : Str} {l2 : List PyData} : PyData.eqv (.str s1) (.tuple l2) = false := rfl
@[simp] theorem eqv_x_list_none {l1 : List PyData} : PyData.eqv (.list l1) .none = false := rfl
@[simp] theorem eqv_x_list_bool {l1 : List PyData} {b2 : Bool} : PyData.eqv (.list l1) (.bool b2) = false := rfl
@[simp] theorem eqv_x_list_int {l1 : List PyData} {i2 : Int} : PyData.eqv (.list l1) (.int i2) = false := rfl
@[simp] theorem eqv_x_list_str {l1 : List PyData} {s2 : Str} : PyData.eqv (.list l1) (.str s2) = false := rfl
@[simp] theorem eqv_x_list_tuple {l1 : List PyData} {l2 : List PyData} : PyData.eqv (.list l1) (.tuple l2) = false := rfl
@[simp] theorem eqv_x_tuple_none {l1 : List PyData} : PyData.eqv (.tuple l1) .none = false := rfl
@[simp] theorem eqv_x_tuple_bool {l1 : List PyData} {b2 : Bool} : PyData.eqv (.tuple l1) (.bool b2) = false := rfl
@[simp] theorem eqv_x_tuple_int {l1 : List PyData} {i2 : Int} : PyData.eqv (.tuple l1) (.int i2) = false := rfl
@[simp] theorem eqv_x_tuple_str {l1 : List PyData} {s2 : Str} : PyData.eqv (.tuple l1) (.str s2) = false := rfl
@[simp] theorem eqv_x_tuple_list {l1 : List PyData} {l2 : List PyData} : PyData.eqv (.tuple l1) (.list l2) = false := rfl
@[simp] theorem eqv_x_bool_int {b : Bool} {i : Int} : PyData.eqv (.bool b) (.int i) = ((if b then 1 else 0) == i) := rfl
@[simp] theorem eqv_x_int_bool {b : Bool} {i : Int} : PyData.eqv (.int i) (.bool b) = (i == (if b then 1 else 0)) := rfl
@[simp] theorem eqvAll_nil : PyData.eqvAll [] [] = true := rfl
@[simp] theorem eqvAll_cons {x y : PyData} {xs ys : List PyData} : PyData.eqvAll (x :: xs) (y :: ys) = (PyData.eqv x y && PyData.eqvAll xs ys) := rfl
@[simp] theorem eqvAll_cn {x : PyData} {xs : List PyData} : PyData.eqvAll (x :: xs) [] = false := rfl
@[simp] theorem eqvAll_nc {x : PyData} {xs : List PyData} : PyData.eqvAll [] (x :: xs) = false := rfl
@[simp] theorem eqvAll_ints {is js : List Int} : PyData.eqvAll (is.map .int) (js.map .int) = (is == js) := by
  induction is generalizing js with
  | nil => cases js <;> rfl
  | cons i is ih => cases js <;> simp [ih]
@[simp] theorem eqvAll_bools {is js : List Bool} : PyData.eqvAll (is.map .bool) (js.map .bool) = (is == js) := by
  induction is generalizing js with
  | nil => cases js <;> rfl
  | cons i is ih => cases js <;> simp [ih]
@[simp] theorem mapO_blOf {bs : List Bool} : mapO blOf (bs.map .bl) = some bs := by
  induction bs with
  | nil => rfl
  | cons i is ih => simp [ih, blOf]
theorem cnt_eq {n : Nat} : cnt 0 n = (List.range n).map fun i => .int (i : Nat) := by simp [cnt]
theorem cnt_at {lo : Int} {n i : Nat} {x : D} (e : (cnt lo n)[i]? = some x) : i < n ∧ x = .int (lo + i) := by
  unfold cnt at e
  rw [List.getElem?_map] at e
  by_cases hi : i < n
  · rw [List.getElem?_eq_getElem (by simpa using hi)] at e
    simp at e
    exact ⟨hi, e.symm⟩
  · rw [List.getElem?_eq_none (by simpa using hi)] at e; cases e
@[simp] theorem cnt_len {lo : Int} {n : Nat} : (cnt lo n).length = n := by simp [cnt]
theorem big_ok {i : Int} (h0 : 0 ≤ i) (h1 : i < 2 ^ 62) : big62 i = true := by
  unfold big62; simp; omega
theorem small_ok {n : Nat} (h : n ≤ 1000000) : small n = true := by unfold small; simp; omega
theorem cut_hi {α : Type} {xs : List α} {k : Nat} : cutD xs none (some (k : Int)) = xs.take k := by
  unfold cutD
  rw [HT.sIx_none, HT.sIx_nat, List.drop_zero, Nat.sub_zero]
  exact (List.take_eq_take_iff.mpr (by omega))
theorem cut_lo {α : Type} {xs : List α} {k : Nat} : cutD xs (some (k : Int)) none = xs.drop k := by
  unfold cutD
  rw [HT.sIx_none, HT.sIx_nat, List.take_of_length_le (by simp)]
  by_cases h : k ≤ xs.length
  · rw [Nat.min_eq_left h]
  · rw [Nat.min_eq_right (by omega), List.drop_length, List.drop_of_length_le (by omega)]
theorem cut_lo1 {α : Type} {xs : List α} {k : Nat} : cutD xs (some ((k : Int) + 1)) none = xs.drop (k + 1) := cut_lo (k := k + 1)
theorem cut_hi1 {α : Type} {xs : List α} {k : Nat} : cutD xs none (some ((k : Int) + 1)) = xs.take (k + 1) := cut_hi (k := k + 1)
@[simp] theorem lst_l {h : DH} {ds : List D} : DM.lst h (.l ds) = some ds := rfl
@[simp] theorem lst_ref {h : DH} {n : Nat} : DM.lst h (.v (.ref n)) = lstAt h n := rfl
@[simp] theorem lstAt_app {h g : DH} {k : Nat} : lstAt (h ++ g) (h.length + k) = lstAt g k := by
  unfold lstAt; rw [List.getElem?_append_right (by omega)]; simp
@[simp] theorem lstAt_app0 {h g : DH} : lstAt (h ++ g) h.length = lstAt g 0 := lstAt_app (k := 0)
@[simp] theorem lstAt_z {g : DH} {ds : List D} : lstAt (.lst ds :: g) 0 = some ds := rfl
@[simp] theorem lstAt_s {g : DH} {o : OD} {k : Nat} : lstAt (o :: g) (k + 1) = lstAt g k := rfl
/-- times as data -/
@[reducible] def tm (t : List Int) : D := .tup (t.map .int)
end
/-! ### loops over told items -/
def Po.lp (P : Po) (live : DH → Bool) (g : DG) (b : DS) (xs : List D) : Po := ⟨fun e h => (dLoop live g b xs e h).wp P, P.rt, P.nx, fun e h => (dLoop live g b xs e h).wp P, P.ex⟩
section
variable {P : Po} {live : DH → Bool} {g : DG} {b : DS} {xs : List D} {x : D} {env : En} {h : DH}
@[simp] theorem lp_nx : (P.lp live g b xs).nx env h = (dLoop live g b xs env h).wp P := rfl
@[simp] theorem lp_ct : (P.lp live g b xs).ct env h = (dLoop live g b xs env h).wp P := rfl
@[simp] theorem lp_bk : (P.lp live g b xs).bk env h = P.nx env h := rfl
@[simp] theorem lp_rt {d : D} : (P.lp live g b xs).rt d h = P.rt d h := rfl
@[simp] theorem lp_ex {e : Exn} : (P.lp live g b xs).ex e env h = P.ex e env h := rfl
@[simp] theorem wo_loop0 : (dLoop live g b [] env h).wp P = (live h = true ∧ P.nx env h) := by
  unfold dLoop; by_cases z : live h = true <;> simp [z]
@[simp] theorem wo_loop1 : (dLoop live g b (x :: xs) env h).wp P = (live h = true ∧ optP (g x env) fun e => (b e h).wp (P.lp live g b xs)) := by
  conv => lhs; unfold dLoop
  by_cases z : live h = true
  · rw [if_pos z]
    cases y : g x env with
    | none => simp
    | some e =>
      dsimp only
      rw [show (live h = true ∧ optP (some e) fun e => (b e h).wp (P.lp live g b xs)) = (b e h).wp (P.lp live g b xs) by simp [z]]
      cases b e h <;> simp
  · rw [if_neg z]; simp [z]
variable {c : DT} {e : DE} {Q : List D → DH → Prop} {X : Exn → DH → Prop} {acc : List D}
end
end DL
/-! DLw: dicts that are walked: locked while that is so. -/
namespace DL
open PySem PySem.Spec PyProof.Rows L2

/-- the keys, the pairs of the locked dict at d -/
def ItDk (d : Addr) (o : Obj) (es : Array DictEntry) (ep : Nat) (ks : List V) : It :=
  ⟨fun i H => H d = some (.frz o (rawO d es ep)) ∧ i < ks.length, fun i H x H' => H' = H ∧ ks[i]? = some x, fun i H => H d = some (.frz o (rawO d es ep)) ∧ ks.length ≤ i⟩
def ItDi (d : Addr) (o : Obj) (es : Array DictEntry) (ep : Nat) (ks vs : List V) : It :=
  ⟨fun i H => H d = some (.frz o (rawO d es ep)) ∧ i < ks.length, fun i H x H' => ∃ T k v, ks[i]? = some k ∧ vs[i]? = some v ∧ x = .ref T ∧ H T = none ∧ H' = upd H T (.tup [k, v]), fun i H => H d = some (.frz o (rawO d es ep)) ∧ ks.length ≤ i⟩
section
variable {P : Program} {w : World} {K : PySem.W.Frag} {tg : Expr} {d : Addr} {o : Obj} {es : Array DictEntry} {ep : Nat} {ks vs : List V}
theorem frz_raw {X : Cx} {pins : List (Addr × Obj)} {σ : L2.St} {H : Hp} {s : Shared} (I : Inv X pins σ H s) (e : H d = some (.frz o (rawO d es ep))) : s.heap.get? d = some o ∧ o.ExactDict ∧ o.data = .dict es ep := by
  obtain ⟨e1, ⟨o', e2, x, dd⟩, _⟩ := I.hok d _ e
  rw [e1] at e2; cases e2
  exact ⟨e1, x, dd⟩
theorem turn_dk (it : Addr) (hk : Vals ks (es.toList.map (·.key))) : Turn P w K tg (ItDk d o es ep ks) [it] it (fun i h => h.IsKeyIter it d i es.size ep) where
  mem := by simp
  obj := fun i h st b hb => by
    rw [List.mem_singleton.mp hb]
    obtain ⟨oi, e, c, dd⟩ := st
    exact ⟨oi, e, fun v z => by rw [dd] at z; cases z⟩
  keep := fun i h h' st k => st.at fun oi e => k it (List.mem_singleton.mpr rfl) oi e
  item := by
    intro X hP hw hK hc i pins s σ H E I hf st hg
    subst hP hw hK
    obtain ⟨hd, hi⟩ := hg
    obtain ⟨f0, f1, f2, f3, f4, f5⟩ := hf it (List.mem_singleton.mpr rfl)
    obtain ⟨g1, g2, g3⟩ := frz_raw I hd
    obtain ⟨v, hv⟩ : ∃ v, ks[i]? = some v := ⟨ks[i], List.getElem?_eq_getElem hi⟩
    obtain ⟨u, hu, ru⟩ := hk.get hv
    rw [List.getElem?_map, Array.getElem?_toList] at hu
    obtain ⟨en, hen, rfl⟩ := Option.map_eq_some_iff.mp hu
    refine next_key_item st g1 g3 rfl hen fun h' st' sb => ?_
    have I1 : Inv X pins σ H { s with heap := h' } := I.turned (t' := s.toks) (fun b ob hb e => (sb.2 b hb).trans e) f0 f1 f3 f4 f5
    obtain ⟨oi, e, c, dd⟩ := id st'
    exact ⟨en.key, rfl, go_of (s := { s with heap := h' }) e c dd (by decide) ⟨v, H, I1, ru, ⟨rfl, hv⟩, st', fun b hb => (hf b hb).1⟩⟩
  done := by
    intro X hP hw hK hc i pins s σ H E I hf st hg
    subst hP hw hK
    obtain ⟨hd, hi⟩ := hg
    obtain ⟨f0, f1, f2, f3, f4, f5⟩ := hf it (List.mem_singleton.mpr rfl)
    obtain ⟨g1, g2, g3⟩ := frz_raw I hd
    have hl := hk.length
    simp at hl
    exact next_key_end (I.ok.hd hc) st g1 g3 rfl (by omega) fun h' eb => ⟨rfl, I.turned (t' := s.toks) (fun b ob hb e => eb b ob hb e) f0 f1 f3 f4 f5⟩
  self := fun A i s Q E st h => by
    refine wpAny_pyIter_slot st.typeIs F.slot_dict_keyiterator_iter (wpAny_call_entry F.slot_dict_keyiterator_iter st.typeIs F.entry_dict_keyiterator_iter ?_ (F.args_dict_keyiterator_iter_1 _))
    change wpAny _ _ (ret (.ref it)) _ _ s
    exact wpAny_pure ⟨_, rfl, "dict_keyiterator", _, st.typeIs, F.slot_dict_keyiterator_next.lookup, h⟩
theorem turn_di {elts : List Expr} {kk : Nat} {tpos : Pos} (it : Addr) (hk : Vals ks (es.toList.map (·.key))) (hv : Vals vs (es.toList.map (·.val))) : Turn P w K (.Tuple elts kk tpos) (ItDi d o es ep ks vs) [it] it (fun i h => ∃ ok ov, IsItemIter h it d i es.size ep ok ov) where
  mem := by simp
  obj := fun i h st b hb => by
    rw [List.mem_singleton.mp hb]
    obtain ⟨ok, ov, e⟩ := st
    exact ⟨_, e, fun v z => nomatch z⟩
  keep := fun i h h' st k => let ⟨ok, ov, e⟩ := st; ⟨ok, ov, k it (List.mem_singleton.mpr rfl) _ e⟩
  item := by
    intro X hP hw hK hc i pins s σ H E I hf st hg
    subst hP hw hK
    obtain ⟨hd, hi⟩ := hg
    obtain ⟨g1, g2, g3⟩ := frz_raw I hd
    have hl := hk.length
    have hl2 := hv.length
    simp at hl hl2
    have hi2 : i < es.size := by omega
    obtain ⟨k, ek⟩ : ∃ v, ks[i]? = some v := ⟨ks[i], List.getElem?_eq_getElem hi⟩
    obtain ⟨v, ev⟩ : ∃ v, vs[i]? = some v := ⟨vs[i], List.getElem?_eq_getElem (by omega)⟩
    obtain ⟨uk, huk, ruk⟩ := hk.get ek
    obtain ⟨uv, huv, ruv⟩ := hv.get ev
    rw [List.getElem?_map, Array.getElem?_toList, Array.getElem?_eq_getElem hi2] at huk huv
    cases huk; cases huv
    obtain ⟨ok, ov, he⟩ := st
    have hlt : it < s.heap.objs.size := Heap.lt_size he
    refine wpAny_pyNext_items_item_raw he ⟨o, g1, g2, g3⟩ hi2 fun h' ho hT hz hkp => ?_
    refine ⟨_, rfl, wpAny_letOwnedTupleGo_items (s := { s with heap := h' }) ho fun h'' he' sb => ?_⟩
    have hT2 : h''.get? s.heap.objs.size = some { cls := .type "tuple", data := .seq #[es[i].key, es[i].val] } := (sb.2 _ (Nat.ne_of_gt hlt)).trans hT
    have new : ObjOk X.prog X.w (upd H s.heap.objs.size (.tup [k, v])) h'' s.heap.objs.size (.tup [k, v]) :=
      ⟨by show 2 ≤ sizeLine; decide, [es[i].key, es[i].val], .cons ruk (.cons ruv .nil), ⟨_, hT2, rfl, _, rfl⟩⟩
    have I1 : Inv X pins σ (upd H s.heap.objs.size (.tup [k, v])) { s with heap := h'' } :=
      I.turnedNew (t' := s.toks) (ch := [it]) (fun b ob hb e => (sb.2 b (by simpa using hb)).trans (hkp b ob (by simpa using hb) e)) hf (Nat.le_refl _) new
    refine ⟨.ref s.heap.objs.size, _, I1, rfl, ⟨_, k, v, ek, ev, rfl, I.hok.fresh (Nat.le_refl _), rfl⟩, ⟨_, _, he'⟩, fun b hb => ?_⟩
    rw [List.mem_singleton.mp hb, upd_ne (Nat.ne_of_lt hlt)]
    exact (hf it (List.mem_singleton.mpr rfl)).1
  done := by
    intro X hP hw hK hc i pins s σ H E I hf st hg
    subst hP hw hK
    obtain ⟨hd, hi⟩ := hg
    obtain ⟨f0, f1, f2, f3, f4, f5⟩ := hf it (List.mem_singleton.mpr rfl)
    obtain ⟨g1, g2, g3⟩ := frz_raw I hd
    have hl := hk.length
    simp at hl
    obtain ⟨ok, ov, he⟩ := st
    exact wpAny_pyNext_items_end_raw (I.ok.hd hc) he ⟨o, g1, g2, g3⟩ (by omega) fun h' eb => ⟨rfl, I.turned (t' := s.toks) (fun b ob hb e => eb b ob hb e) f0 f1 f3 f4 f5⟩
  self := fun A i s Q E st h => let ⟨_, _, e⟩ := st; wpAny_pyIter_itemiter e h
end
section
variable {X : Cx} {tg e : Expr} {td : TE} {apos cpos : Pos}
def iDk (td : TE) : TI := fun σ H R => td σ H fun x H1 => ∃ d o es ep ks, x = .ref d ∧ (d == sysModules) = false ∧ H1 d = some (.frz o (rawO d es ep)) ∧ Vals ks (es.toList.map (·.key)) ∧ R (ItDk d o es ep ks) H1
def iDi (td : TE) : TI := fun σ H R => td σ H fun x H1 => ∃ d o es ep ks vs, x = .ref d ∧ (d == sysModules) = false ∧ H1 d = some (.frz o (rawO d es ep)) ∧ Vals ks (es.toList.map (·.key)) ∧ Vals vs (es.toList.map (·.val)) ∧ R (ItDi d o es ep ks vs) H1
theorem pi_dk (he : PE X e td) : PI X tg e (iDk td) := by
  refine ⟨fun pins s σ H R I h => ?_⟩
  refine thn (he.run pins s σ H _ I h) fun u s1 ⟨x, H1, I1, rx, d, o, es, ep, ks, ex, hs, hd, hk, q⟩ => ?_
  subst ex
  obtain rfl : u = Value.ref d := rx
  obtain ⟨g1, g2, g3⟩ := frz_raw I1 hd
  exact iter_keys hs g1 g2 g3 (pi_one (tk := s1.toks) I1 _ (turn_dk _ hk) ⟨_, Heap.get?_push_size _ rfl, rfl, rfl⟩ q)
theorem pi_di {elts : List Expr} {kk : Nat} {tpos : Pos} (he : PE X e td) (hbase : attributeBase e "items" X.env (eval e X.env) = eval e X.env) (hline : (apos.endLine == cpos.line) = true) :
    PI X (.Tuple elts kk tpos) (.Call (.Attribute e "items" apos) [] [] cpos) (iDi td) := by
  refine ⟨fun pins s σ H R I h => ?_⟩
  refine wpAny_Call_method (T := "dict") (id := "dict.items") hbase rfl hline F.plainAttrs_dict F.slot_dict_items F.type_dict_items (thn (he.run pins s σ H _ I h) fun u s1 ⟨x, H1, I1, rx, d, o, es, ep, ks, vs, ex, hs, hd, hk, hv, q⟩ => ?_)
  subst ex
  obtain rfl : u = Value.ref d := rx
  obtain ⟨g1, g2, g3⟩ := frz_raw I1 hd
  have raw : s1.heap.DictRaw d es ep := ⟨o, g1, g2, g3⟩
  refine ⟨raw.typeIs, fun b z => by cases z; exact ⟨o, g1, g2.2.1⟩, ?_⟩
  have I2 : Inv X pins σ H1 { s1 with heap := s1.heap.push { cls := .type "dict_items", data := .fields #[.ref d] } } := I1.kept (t' := s1.toks) fun b ob z => Heap.get?_push_of_some _ z
  have fin : wpAny (model X.prog X.w) X.A (pyIter (.ref s1.heap.objs.size)) (PIE X pins σ (.Tuple elts kk tpos) R) X.xe { s1 with heap := s1.heap.push { cls := .type "dict_items", data := .fields #[.ref d] } } :=
    wpAny_pyIter_items_raw (d := d) (es := es) (ep := ep) ⟨_, Heap.get?_push_size _ rfl, rfl, rfl⟩ (raw.at fun _ z => Heap.get?_push_of_some _ z) (pi_one (tk := s1.toks) I2 _ (turn_di _ hk hv) ⟨.none, .none, Heap.get?_push_size _ rfl⟩ q)
  show wpAny _ _ (callWith cpos (.builtin "dict.items") [.ref d] [] []) _ X.xe s1
  exact method_meetsIn F.slot_dict_items F.entry_dict_items rfl (PySem.evalArgs_none ⟨rfl, raw.typeIs, F.args_dict_items_1 _, _, meets_dict_items_raw d hs, ⟨⟨es, ep, raw⟩, fin⟩⟩)
end
/-! ### by functions -/
section
variable {X : Cx} {W : WB} {tg e : Expr} {te : DE} {apos cpos pos p tpos : Pos} {elts : List Expr} {kk : Nat}
/-- a locked dict's keys, pairs -/
def dItK (te : DE) : DI := fun env h => (te env h).bind fun d h1 => match asDct h1 d with
  | some (true, kvs) => .ok (kvs.map (·.1), fun _ => true) h1
  | _ => .stuck
def dItI (te : DE) : DI := fun env h => (te env h).bind fun d h1 => match asDct h1 d with
  | some (true, kvs) => .ok (kvs.map fun p => .tup [p.1, p.2], fun _ => true) h1
  | _ => .stuck
theorem ents_vals {g : Gm} {ρ : List Addr} {H : Hp} : ∀ {kvs : List (D × D)} {es : List DictEntry}, Paired (REnt g ρ H) kvs es → ∃ ks vs : List V, Vals ks (es.map (·.key)) ∧ Vals vs (es.map (·.val)) ∧ RDs g ρ H (kvs.map (·.1)) ks ∧ RDs g ρ H (kvs.map (·.2)) vs
  | _, _, .nil => ⟨[], [], .nil, .nil, RDs.nil, RDs.nil⟩
  | _, _, .cons ⟨k, kv, vv, n, dp, rk, rv, hh, rd, re⟩ t => by
    obtain ⟨ks, vs, a, b, c, d⟩ := ents_vals t
    exact ⟨kv :: ks, vv :: vs, .cons rv a, .cons re b, RDs.cons rk c, RDs.cons rd d⟩
theorem dct_walk {g : Gm} {ρ : List Addr} {h : DH} {H : Hp} (R : RH g ρ h H) {d : D} {v : V} {kvs : List (D × D)} (z : asDct h d = some (true, kvs)) (r : RD g ρ H d v) :
    ∃ a o es ep ks vs, v = .ref a ∧ (a == sysModules) = false ∧ H a = some (.frz o (rawO a es ep)) ∧ Vals ks (es.toList.map (·.key)) ∧ Vals vs (es.toList.map (·.val)) ∧ RDs g ρ H (kvs.map (·.1)) ks ∧ RDs g ρ H (kvs.map (·.2)) vs := by
  obtain ⟨n, a, rfl, rfl, q3, q4, _⟩ := asDct_at R z r
  obtain ⟨o, es, ep, e1, hs, hl, pe, nd⟩ := R.ok n _ a q3 q4
  obtain ⟨ks, vs, k1, k2, k3, k4⟩ := ents_vals pe
  exact ⟨a, o, es.toArray, ep, ks, vs, rfl, hs, e1, by simpa using k1, by simpa using k2, k3, k4⟩
theorem i_dk (pe : DEx X W e te) : DIx X W tg e (dItK te) :=
  PI.imp (pi_dk pe) fun σ H Q ⟨ρ, env, h, R, E, q⟩ => lE.plug R E q fun d h1 ρ1 H1 v x1 R1 E1 r1 q1 => by
    split at q1
    · rename_i kvs z
      obtain ⟨a, o, es, ep, ks, vs, rfl, hs, e1, k1, k2, k3, k4⟩ := dct_walk R1 z r1
      refine ⟨a, o, es, ep, ks, rfl, hs, e1, k1, q1 ρ1 H1 (Ext.refl _ _) R1 _ fun i ρ' h' H' x' R' _ => ?_⟩
      have kl := k3.length
      refine ⟨fun y hy => ⟨⟨x'.fz _ _ _ e1, by rw [kl]; exact (List.getElem?_eq_some_iff.mp hy).1⟩, fun u H2 ⟨e2, eu⟩ => ?_⟩, fun hi => ⟨x'.fz _ _ _ e1, by dsimp only at hi; omega⟩⟩
      subst e2
      obtain ⟨u', e3, r3⟩ := k3.at hy
      rw [eu] at e3; cases e3
      exact ⟨Ext.refl _ _, R', r3.mono x' R1⟩
    · exact q1.elim
theorem i_di (pe : DEx X W e te) (hbase : attributeBase e "items" X.env (eval e X.env) = eval e X.env := by rfl) (hline : (apos.endLine == cpos.line) = true := by rfl) : DIx X W (.Tuple elts kk tpos) (.Call (.Attribute e "items" apos) [] [] cpos) (dItI te) :=
  PI.imp (pi_di pe hbase hline) fun σ H Q ⟨ρ, env, h, R, E, q⟩ => lE.plug R E q fun d h1 ρ1 H1 v x1 R1 E1 r1 q1 => by
    split at q1
    · rename_i kvs z
      obtain ⟨a, o, es, ep, ks, vs, rfl, hs, e1, k1, k2, k3, k4⟩ := dct_walk R1 z r1
      refine ⟨a, o, es, ep, ks, vs, rfl, hs, e1, k1, k2, q1 ρ1 H1 (Ext.refl _ _) R1 _ fun i ρ' h' H' x' R' _ => ?_⟩
      have kl := k3.length
      simp at kl
      refine ⟨fun y hy => ⟨⟨x'.fz _ _ _ e1, ?_⟩, fun u H2 ⟨T, k, v, ek, ev, eu, hT, e2⟩ => ?_⟩, fun hi => ⟨x'.fz _ _ _ e1, ?_⟩⟩
      · have := (List.getElem?_eq_some_iff.mp hy).1
        simp at this; omega
      · subst e2 eu
        rw [List.getElem?_map] at hy
        obtain ⟨p, hp, rfl⟩ := Option.map_eq_some_iff.mp hy
        obtain ⟨k', e3, r3⟩ := k3.at (i := i) (d := p.1) (by rw [List.getElem?_map, hp]; rfl)
        obtain ⟨v', e4, r4⟩ := k4.at (i := i) (d := p.2) (by rw [List.getElem?_map, hp]; rfl)
        rw [ek] at e3; cases e3
        rw [ev] at e4; cases e4
        exact pairRD R' hT (r3.mono x' R1) (r4.mono x' R1)
      · simp at hi; omega
    · exact q1.elim
/-! ### locking -/
/-- which dict is meant: a local name's, an attribute's of a local name's object -/
abbrev LO := En → DH → Option Nat
def loVar (i : Nat) : LO := fun env _ => match env[i]? with
  | some (some (.ref n)) => some n
  | _ => none
def loFld (i : Nat) (f : Str) : LO := fun env h => match env[i]? with
  | some (some (.ref m)) => match h[m]? with
    | some (.ins _ fs) => match fs.lookup f with
      | some (.ref n) => some n
      | _ => none
    | _ => none
  | _ => none
def unlk (n : Nat) (h : DH) : Option DH := match h[n]? with
  | some (.dct true kvs) => some (h.set n (.dct false kvs))
  | _ => none
def unlkO (n : Nat) : Out → Out
  | .nx env h => match unlk n h with
    | some h' => .nx env h'
    | none => .stuck
  | .rt d h => match unlk n h with
    | some h' => .rt d h'
    | none => .stuck
  | .bk env h => match unlk n h with
    | some h' => .bk env h'
    | none => .stuck
  | .ct env h => match unlk n h with
    | some h' => .ct env h'
    | none => .stuck
  | .exc e env h => .exc e env h
  | .stuck => .stuck
def sLock (lo : LO) (t : DS) : DS := fun env h => match lo env h with
  | some n => match h[n]? with
    | some (.dct false kvs) => unlkO n (t env (h.set n (.dct true kvs)))
    | _ => .stuck
  | none => .stuck
def qLock (lo : LO) (t : DA) : DA := fun env h => match lo env h with
  | some n => match h[n]? with
    | some (.dct false kvs) => match t env (h.set n (.dct true kvs)) with
      | .ok ds h' => match unlk n h' with
        | some h'' => .ok ds h''
        | none => .stuck
      | .exc e h' => .exc e h'
      | .stuck => .stuck
    | _ => .stuck
  | none => .stuck
section
variable {g : Gm} {ρ ρ' : List Addr} {h h' h'' : DH} {H H' : Hp} {n : Nat} {a : Addr} {od : Obj} {es : Array DictEntry} {ep : Nat} {kvs : List (D × D)}
theorem lock_in (R : RH g ρ h H) (en : h[n]? = some (.dct false kvs)) : ∃ a es ep, ρ[n]? = some a ∧ H a = some (rawO a es ep) ∧ ∀ od, RH g ρ (h.set n (.dct true kvs)) (upd H a (.frz od (rawO a es ep))) ∧ Ext ρ H ρ (upd H a (.frz od (rawO a es ep))) := by
  have hn : n < h.length := (List.getElem?_eq_some_iff.mp en).1
  obtain ⟨a, ea⟩ : ∃ a, ρ[n]? = some a := ⟨ρ[n]'(by rw [R.len]; exact hn), List.getElem?_eq_getElem _⟩
  obtain ⟨o, es, ep, e1, hs, hl, pe, nd⟩ := R.ok n _ a en ea
  have e1' : H a = some (rawO a es.toArray ep) := e1
  have nf : ∀ ob u, H a ≠ some (.frz ob u) := fun ob u z => by rw [e1'] at z; cases z
  refine ⟨a, es.toArray, ep, ea, e1', fun od => ?_⟩
  have st : ∀ b vs, SqT g.K H b vs → SqT g.K (upd H a (.frz od (rawO a es.toArray ep))) b vs := sqT_upd e1' (fun _ z => by cases z) fun _ _ z => by cases z
  have sr : ∀ b vs, RoL g.K H b vs → RoL g.K (upd H a (.frz od (rawO a es.toArray ep))) b vs := roL_upd e1' fun _ _ z => by cases z
  exact ⟨R.set ea nf ⟨od, es, ep, upd_same, hs, hl, Paired.mapP pe fun _ _ ⟨k, kv, vv, a1, a2, a3, a4, a5, a6, a7⟩ => ⟨k, kv, vv, a1, a2, a3.gen st sr fun _ _ q => q, a4, a5, a6.gen st sr fun _ _ q => q, a7⟩, nd⟩, Ext.set ea nf⟩
theorem lock_out (R' : RH g ρ' h' H') (ea : ρ'[n]? = some a) (ef : H' a = some (.frz od (rawO a es ep))) (eu : unlk n h' = some h'') :
    RH g ρ' h'' (upd H' a (rawO a es ep)) ∧ (∀ d v, RD g ρ' H' d v → RD g ρ' (upd H' a (rawO a es ep)) d v) ∧ ∀ dd fs, H' dd = some (.xd fs) → upd H' a (rawO a es ep) dd = some (.xd fs) := by
  unfold unlk at eu
  split at eu
  · rename_i kvs hz
    cases eu
    obtain ⟨o, es', ep', e1, hs, hl, pe, nd⟩ := R'.ok n _ a hz ea
    have e1' : H' a = some (.frz o (rawO a es'.toArray ep')) := e1
    rw [ef] at e1'
    have eo : rawO a es'.toArray ep' = rawO a es ep := by
      have := Option.some.inj e1'
      injection this with _ q
      exact q.symm
    have nx : ∀ b vs, SqT g.K H' b vs → SqT g.K (upd H' a (rawO a es ep)) b vs := fun b vs s => by
      rcases s with (s | ⟨ob, s⟩) | s
      · exact .inl (.inl (by rw [upd_ne (ne_of s ef (by intro z; cases z))]; exact s))
      · exact .inl (.inr ⟨ob, by rw [upd_ne (ne_of s ef (by intro z; unfold rawO at z; cases z))]; exact s⟩)
      · exact .inr s
    have nr : ∀ b vs, RoL g.K H' b vs → RoL g.K (upd H' a (rawO a es ep)) b vs := fun b vs s => by
      rcases s with ⟨ob, s⟩ | s
      · exact .inl ⟨ob, by rw [upd_ne (ne_of s ef (by intro z; unfold rawO at z; cases z))]; exact s⟩
      · exact .inr s
    have up : ∀ d v, RD g ρ' H' d v → RD g ρ' (upd H' a (rawO a es ep)) d v := fun d v r => r.gen nx nr fun _ _ q => q
    refine ⟨⟨by simp [R'.len], R'.nd, fun m ob b e2 e3 => ?_⟩, up, fun dd fs q => by rw [upd_ne (ne_of q ef (by intro z; cases z))]; exact q⟩
    by_cases hm : m = n
    · subst hm
      rw [ea] at e3; cases e3
      have hl' : m < h'.length := (List.getElem?_eq_some_iff.mp hz).1
      rw [List.getElem?_set_self hl'] at e2
      cases e2
      exact ⟨o, es', ep', by rw [upd_same]; exact congrArg some eo.symm, hs, hl, Paired.mapP pe fun _ _ ⟨k, kv, vv, a1, a2, a3, a4, a5, a6, a7⟩ => ⟨k, kv, vv, a1, a2, up _ _ a3, a4, a5, up _ _ a6, a7⟩, nd⟩
    · rw [List.getElem?_set_ne (Ne.symm hm)] at e2
      have q := R'.ok m ob b e2 e3
      have nb : b ≠ a := fun z => by
        subst z
        obtain ⟨h1, q1⟩ := List.getElem?_eq_some_iff.mp ea
        obtain ⟨h2, q2⟩ := List.getElem?_eq_some_iff.mp e3
        exact hm ((List.getElem_inj R'.nd).mp (q2.trans q1.symm))
      cases ob with
      | lst ds => obtain ⟨vs, e1, r⟩ := q; exact ⟨vs, by rw [upd_ne nb]; exact e1, r.gen nx nr fun _ _ q => q⟩
      | dct lk kvs => obtain ⟨ob, es, ep, e1, n, z, r, nd⟩ := q; exact ⟨ob, es, ep, by rw [upd_ne nb]; exact e1, n, z, Paired.mapP r fun _ _ ⟨k, kv, vv, a1, a2, a3, a4, a5, a6, a7⟩ => ⟨k, kv, vv, a1, a2, up _ _ a3, a4, a5, up _ _ a6, a7⟩, nd⟩
      | ins c fs => obtain ⟨C, dx, fvs, m, e1, r⟩ := q; exact ⟨C, dx, fvs, m, by rw [upd_ne nb]; exact e1, r.gen nx nr fun _ _ q => q⟩
      | tbl p l =>
        obtain ⟨ps, e0, e1, t, cs⟩ := q
        refine ⟨ps, e0, by rw [upd_ne nb]; exact e1, t, fun pos cv hc => ?_⟩
        obtain ⟨c, ec, hc2, hn⟩ := cs pos cv hc
        exact ⟨c, ec, by rw [upd_ne (ne_of hc2 ef (by intro z; unfold LamX.CodeO at z; cases z))]; exact hc2, hn⟩
  · cases eu
theorem lock_ext (ea : ρ[n]? = some a) (e0 : H a = some (rawO a es ep)) (x : Ext ρ (upd H a (.frz od (rawO a es ep))) ρ' H') : Ext ρ H ρ' (upd H' a (rawO a es ep)) := by
  have ma : a ∈ ρ := List.mem_of_getElem? ea
  refine ⟨x.pre, fun b hb nb => ?_, fun b o eb nb => ?_, fun b ob u eb => ?_⟩
  · have := x.new b hb nb
    rw [upd_ne (fun z => by rw [z] at nb; exact nb ma)] at this
    exact this
  · have ne : b ≠ a := fun z => by rw [z] at nb; exact nb ma
    rw [upd_ne ne]
    exact x.frm b o (by rw [upd_ne ne]; exact eb) nb
  · have ne : b ≠ a := fun z => by rw [z, e0] at eb; cases eb
    rw [upd_ne ne]
    exact x.fz b ob u (by rw [upd_ne ne]; exact eb)
end
theorem s_lock {st : Stmt} {lo : LO} {t : DS} (p : DSx X W st t) : DSx X W st (sLock lo t) := PS.imp (ps_lock p) fun Dn σ H ⟨ρ, env, h, R, E, q⟩ => by
  unfold sLock at q
  split at q
  · rename_i n en
    split at q
    · rename_i kvs hz
      obtain ⟨a, es, ep, ea, e0, lk⟩ := lock_in R hz
      refine ⟨a, _, e0, trivial, fun od => ?_⟩
      obtain ⟨R1, x1⟩ := lk od
      refine ⟨ρ, env, _, R1, E.mono x1 R, ?_⟩
      have ef : ∀ {ρ' : List Addr} {H' : Hp}, Ext ρ (upd H a (.frz od (rawO a es ep))) ρ' H' → H' a = some (.frz od (rawO a es ep)) := fun x => x.fz a _ _ upd_same
      have enr : ∀ {ρ' : List Addr} {h' h'' : DH} {H' : Hp} {env' : En} {σ' : L2.St}, Ext ρ (upd H a (.frz od (rawO a es ep))) ρ' H' → RH (gm X) ρ' h' H' → unlk n h' = some h'' → REn (gm X) W.xa ρ' H' env' σ' → REn (gm X) W.xa ρ' (upd H' a (rawO a es ep)) env' σ' := by
        intro ρ' h' h'' H' env' σ' x R' eu E'
        obtain ⟨_, up, ux⟩ := lock_out R' (x.get ea) (ef x) eu
        refine ⟨E'.len, fun i d e => let ⟨v, e1, r⟩ := E'.at_ i d e; ⟨v, e1, up _ _ r⟩, fun y hy => ⟨(E'.hx y hy).1, ?_⟩⟩
        obtain ⟨C, m, c, z⟩ := (E'.hx y hy).2
        refine ⟨C, m, c, ?_⟩
        rcases z with z | ⟨dd, fvs, z1, z2, z3⟩
        · exact .inl z
        · refine .inr ⟨dd, fvs, z1, ux _ _ z2, ?_⟩
          have : ∀ {fs : List (Str × D)} {vs : List (Str × V)}, RFs (gm X) ρ' H' fs vs → RFs (gm X) ρ' (upd H' a (rawO a es ep)) fs vs := by
            intro fs
            induction fs with
            | nil => intro vs r; simpa [RFs] using r
            | cons d fs ih => obtain ⟨f, d⟩ := d; intro vs r; simp only [RFs] at r ⊢; obtain ⟨v, t, e, q1, q2⟩ := r; exact ⟨v, t, e, up _ _ q1, ih q2⟩
          exact this z3
      cases z : t env (h.set n (.dct true kvs)) with
      | nx env' h' =>
        rw [z] at q
        simp only [unlkO] at q
        cases eu : unlk n h' with
        | none => rw [eu] at q; exact q.elim
        | some h'' =>
          rw [eu] at q
          exact fun ρ' H' σ' x R' E' => ⟨ef x, q ρ' _ σ' (lock_ext ea e0 x) (lock_out R' (x.get ea) (ef x) eu).1 (enr x R' eu E')⟩
      | bk env' h' =>
        rw [z] at q
        simp only [unlkO] at q
        cases eu : unlk n h' with
        | none => rw [eu] at q; exact q.elim
        | some h'' =>
          rw [eu] at q
          exact fun ρ' H' σ' x R' E' => ⟨ef x, q ρ' _ σ' (lock_ext ea e0 x) (lock_out R' (x.get ea) (ef x) eu).1 (enr x R' eu E')⟩
      | ct env' h' =>
        rw [z] at q
        simp only [unlkO] at q
        cases eu : unlk n h' with
        | none => rw [eu] at q; exact q.elim
        | some h'' =>
          rw [eu] at q
          exact fun ρ' H' σ' x R' E' => ⟨ef x, q ρ' _ σ' (lock_ext ea e0 x) (lock_out R' (x.get ea) (ef x) eu).1 (enr x R' eu E')⟩
      | rt d h' =>
        rw [z] at q
        simp only [unlkO] at q
        cases eu : unlk n h' with
        | none => rw [eu] at q; exact q.elim
        | some h'' =>
          rw [eu] at q
          exact fun ρ' H' v x R' r => ⟨ef x, q ρ' _ v (lock_ext ea e0 x) (lock_out R' (x.get ea) (ef x) eu).1 ((lock_out R' (x.get ea) (ef x) eu).2.1 _ _ r)⟩
      | exc e env' h' =>
        rw [z] at q
        exact fun ρ' H' σ' cls d x R' E' xr => q ρ' H' σ' cls d (x1.trans x) R' E' xr
      | stuck => rw [z] at q; exact q.elim
    · exact q.elim
  · exact q.elim
theorem q_lock {e : Expr} {lo : LO} {t : DA} (p : DQx X W e t) : DQx X W e (qLock lo t) := PE.imp (pe_lock p) fun σ H Q ⟨ρ, env, h, R, E, q⟩ => by
  unfold qLock at q
  split at q
  · rename_i n en
    split at q
    · rename_i kvs hz
      obtain ⟨a, es, ep, ea, e0, lk⟩ := lock_in R hz
      refine ⟨a, _, e0, trivial, fun od => ?_⟩
      obtain ⟨R1, x1⟩ := lk od
      refine ⟨ρ, env, _, R1, E.mono x1 R, ?_⟩
      have ef : ∀ {ρ' : List Addr} {H' : Hp}, Ext ρ (upd H a (.frz od (rawO a es ep))) ρ' H' → H' a = some (.frz od (rawO a es ep)) := fun x => x.fz a _ _ upd_same
      cases z : t env (h.set n (.dct true kvs)) with
      | ok ds h' =>
        rw [z] at q
        dsimp only at q
        cases eu : unlk n h' with
        | none => rw [eu] at q; exact q.elim
        | some h'' =>
          rw [eu] at q
          refine fun ρ' H' x R' b vs eb nb fb r => ⟨ef x, ?_⟩
          have lo := lock_out R' (x.get ea) (ef x) eu
          have nb' : b ≠ a := fun y => by rw [y, ef x] at eb; cases eb
          refine q ρ' _ (lock_ext ea e0 x) lo.1 b vs (by rw [upd_ne nb']; exact eb) nb (by rw [upd_ne nb'] at fb; exact fb) ?_
          have : ∀ {ds : List D} {vs : List V}, RDs (gm X) ρ' H' ds vs → RDs (gm X) ρ' (upd H' a (rawO a es ep)) ds vs := by
            intro ds
            induction ds with
            | nil => intro vs r; simpa [RDs] using r
            | cons d ds ih => intro vs r; simp only [RDs] at r ⊢; obtain ⟨v, t, e, q1, q2⟩ := r; exact ⟨v, t, e, lo.2.1 _ _ q1, ih q2⟩
          exact this r
      | exc e h' =>
        rw [z] at q
        exact fun ρ' H' cls d x R' xr => q ρ' H' cls d (x1.trans x) R' xr
      | stuck => rw [z] at q; exact q.elim
    · exact q.elim
  · exact q.elim
end
end DL
/-! DLx: wp rules for stars, pairs, dicts. -/
namespace DL
open PySem PySem.Spec PyProof.Rows L2
section
variable {env : En} {h : DH} {P : Po} {ta tb : DE} {g : DG} {t : DGH} {ts : DGHs} {d : D} {ds : List D}
@[simp] theorem wo_asgH : (sAsgH ta t env h).wp P = (ta env h).wp (fun d h => optP (t d env h) fun p => P.nx p.1 p.2) (fun e h => P.ex e env h) := by
  unfold sAsgH
  rw [wo_out]
  congr 1
  funext d h1
  cases z : t d env h1 with
  | none => simp
  | some p => simp
@[simp] theorem wo_par {i j : Nat} : (sPar i j ta tb env h).wp P = (ta env h).wp (fun x h => (tb env h).wp (fun y h => P.nx ((env.set i (some x)).set j (some y)) h) (fun e h => P.ex e env h)) (fun e h => P.ex e env h) := by simp [sPar]
@[simp] theorem ghOf_E : ghOf g d env h = (g d env).map fun e => (e, h) := rfl
@[simp] theorem ghs_nilE : ghsNil [] env h = some (env, h) := rfl
@[simp] theorem ghs_consE : ghsCons t ts (d :: ds) env h = (t d env h).bind fun r => ts ds r.1 r.2 := rfl
@[simp] theorem ghTup_E {n : Nat} : ghTup n ts (.tup ds) env h = if ds.length = n then ts ds env h else none := rfl
theorem ghStar_E {n i : Nat} (e : unD h d = some ds) (hz : n ≤ ds.length + 1 ∧ ds.length ≤ 16384) : ghStar n i ts d env h = ts (ds.take i ++ [.ref h.length] ++ (ds.drop i).drop (ds.length + 1 - n)) env (h ++ [.lst ((ds.drop i).take (ds.length + 1 - n))]) := by
  unfold ghStar
  rw [e]
  exact if_pos hz
@[simp] theorem unD_tup : unD h (.tup ds) = some ds := rfl
@[simp] theorem unD_ref {n : Nat} : unD h (.ref n) = lstAt h n := rfl
end
/-! ### dicts -/
section
variable {env : En} {h : DH} {P : Po} {to tk tz tv te : DE} {d k : D} {n : Nat} {kvs : List (D × D)} {Qd : D → DH → Prop} {Ql : List D → DH → Prop} {X : Exn → DH → Prop} {Qi : List D × (DH → Bool) → DH → Prop}
def dctAt (h : DH) (n : Nat) : Option (Bool × List (D × D)) := match h[n]? with
  | some (.dct lk kvs) => some (lk, kvs)
  | _ => none
@[simp] theorem asDct_ref : asDct h (.ref n) = dctAt h n := rfl
theorem dctAt_of {lk : Bool} (e : h[n]? = some (.dct lk kvs)) : dctAt h n = some (lk, kvs) := by unfold dctAt; rw [e]
theorem dctAt_iff {lk : Bool} : dctAt h n = some (lk, kvs) ↔ h[n]? = some (.dct lk kvs) := by
  unfold dctAt
  refine ⟨fun e => ?_, fun e => by rw [e]⟩
  split at e
  · rename_i q; cases e; exact q
  · cases e
@[simp] theorem dctAt_set {lk : Bool} (hn : n < h.length) : dctAt (h.set n (.dct lk kvs)) n = some (lk, kvs) := dctAt_of (by simp [hn])
@[simp] theorem dctAt_new {lk : Bool} {g : DH} : dctAt (h ++ .dct lk kvs :: g) h.length = some (lk, kvs) := dctAt_of (by simp)
@[simp] theorem wp_dget2 : (dGet2 to tk tz env h).wp Qd X = (to env h).wp (fun d h => optP (asDct h d) fun _ => (tk env h).wp (fun k h => (tz env h).wp (fun z h => optP (asDct h d) fun p => (tupKs p.2 && tupK k) = true ∧ Qd ((dget p.2 k).getD z) h) X) X) X := by
  unfold dGet2
  simp only [wp_bind]
  congr 1; funext d h1
  cases asDct h1 d with
  | none => simp
  | some p =>
    simp only [optP_some, wp_bind]
    congr 1; funext k h2; congr 1; funext z h3
    cases asDct h3 d with
    | none => simp
    | some q =>
      obtain ⟨lk, kvs⟩ := q
      simp only [optP_some]
      by_cases c : (tupKs kvs && tupK k) = true
      · simp [c]
      · simp [c]
@[simp] theorem wp_ixD : (oIxD d k h).wp Qd X = optP (asDct h d) fun p => (tupKs p.2 && tupK k) = true ∧ optP (dget p.2 k) fun v => Qd v h := by
  unfold oIxD
  cases asDct h d with
  | none => simp
  | some q =>
    obtain ⟨lk, kvs⟩ := q
    simp only [optP_some]
    by_cases c : (tupKs kvs && tupK k) = true
    · rw [if_pos c]; cases z : dget kvs k <;> simp [c]
    · rw [if_neg c]; simp [c]
def setDP (d k y : D) (h : DH) (p : DH → Prop) : Prop := match d with
  | .ref n => optP (dctAt h n) fun q => q.1 = false ∧ (tupKs q.2 && tupK k && small (q.2.length + 1)) = true ∧ p (h.set n (.dct false (dput q.2 k y)))
  | _ => False
@[simp] theorem setDP_ref {y : D} {p : DH → Prop} : setDP (.ref n) k y h p = optP (dctAt h n) fun q => q.1 = false ∧ (tupKs q.2 && tupK k && small (q.2.length + 1)) = true ∧ p (h.set n (.dct false (dput q.2 k y))) := rfl
@[simp] theorem wo_setD : (sSetD tv to tk env h).wp P = (tv env h).wp (fun y h => (to env h).wp (fun d h => (tk env h).wp (fun k h => setDP d k y h fun h => P.nx env h) (fun e h => P.ex e env h)) (fun e h => P.ex e env h)) (fun e h => P.ex e env h) := by
  simp only [sSetD, wo_out]
  congr 1; funext y h1; congr 1; funext d h2; congr 1; funext k h3
  cases d with
  | ref n =>
    simp only [setDP, dctAt]
    cases z : h3[n]? with
    | none => simp
    | some o =>
      cases o with
      | dct lk kvs =>
        cases lk
        · simp only [optP_some]
          by_cases c : (tupKs kvs && tupK k && small (kvs.length + 1)) = true
          · simp [c]
          · simp [c]
        · simp
      | _ => simp
  | _ => simp [setDP]
def popP (d k : D) (h : DH) (p : D → DH → Prop) : Prop := match d with
  | .ref n => optP (dctAt h n) fun q => q.1 = false ∧ (tupKs q.2 && tupK k) = true ∧ optP (dget q.2 k) fun v => p v (h.set n (.dct false (ddel q.2 k)))
  | _ => False
@[simp] theorem popP_ref {p : D → DH → Prop} : popP (.ref n) k h p = optP (dctAt h n) fun q => q.1 = false ∧ (tupKs q.2 && tupK k) = true ∧ optP (dget q.2 k) fun v => p v (h.set n (.dct false (ddel q.2 k))) := rfl
@[simp] theorem wp_pop1 : (dPop1 to tk env h).wp Qd X = (to env h).wp (fun d h => optP (asDct h d) fun _ => (tk env h).wp (fun k h => popP d k h Qd) X) X := by
  unfold dPop1
  simp only [wp_bind]
  congr 1; funext d h1
  cases d with
  | ref n =>
    simp only [asDct_ref, dctAt, popP]
    cases z : h1[n]? with
    | none => simp
    | some o =>
      cases o with
      | dct lk kvs =>
        simp only [optP_some, wp_bind]
        congr 1; funext k h2
        cases z : h2[n]? with
        | none => simp
        | some o =>
          cases o with
          | dct lk kvs =>
            cases lk
            · simp only [optP_some]
              by_cases c : (tupKs kvs && tupK k) = true
              · rw [if_pos c]; cases z : dget kvs k <;> simp [c]
              · simp [c]
            · simp
          | _ => simp
      | _ => simp
  | _ => simp [asDct]
@[simp] theorem wp_lenD : (fLenD (.v d) h).wp Qd X = optP (asDct h d) fun q => tupKs q.2 = true ∧ Qd (.int q.2.length) h := by
  unfold fLenD
  cases z : asDct h d with
  | none => simp [z]
  | some q =>
    simp only [z, optP_some]
    by_cases c : tupKs q.2 = true <;> simp [c]
@[simp] theorem wp_itK : (dItK te env h).wp Qi X = (te env h).wp (fun d h => optP (asDct h d) fun q => q.1 = true ∧ Qi (q.2.map (·.1), fun _ => true) h) X := by
  unfold dItK
  simp only [wp_bind]
  congr 1; funext d h1
  cases asDct h1 d with
  | none => simp
  | some q => obtain ⟨lk, kvs⟩ := q; cases lk <;> simp
@[simp] theorem wp_itI : (dItI te env h).wp Qi X = (te env h).wp (fun d h => optP (asDct h d) fun q => q.1 = true ∧ Qi (q.2.map fun p => .tup [p.1, p.2], fun _ => true) h) X := by
  unfold dItI
  simp only [wp_bind]
  congr 1; funext d h1
  cases asDct h1 d with
  | none => simp
  | some q => obtain ⟨lk, kvs⟩ := q; cases lk <;> simp
def Po.un (P : Po) (n : Nat) : Po := ⟨fun e h => optP (unlk n h) fun h => P.nx e h, fun d h => optP (unlk n h) fun h => P.rt d h, fun e h => optP (unlk n h) fun h => P.bk e h, fun e h => optP (unlk n h) fun h => P.ct e h, P.ex⟩
@[simp] theorem un_nx : (P.un n).nx env h = optP (unlk n h) fun h => P.nx env h := rfl
@[simp] theorem un_rt : (P.un n).rt d h = optP (unlk n h) fun h => P.rt d h := rfl
@[simp] theorem un_bk : (P.un n).bk env h = optP (unlk n h) fun h => P.bk env h := rfl
@[simp] theorem un_ct : (P.un n).ct env h = optP (unlk n h) fun h => P.ct env h := rfl
@[simp] theorem un_ex {x : Exn} : (P.un n).ex x env h = P.ex x env h := rfl
theorem unlk_of (e : dctAt h n = some (true, kvs)) : unlk n h = some (h.set n (.dct false kvs)) := by
  unfold unlk
  rw [dctAt_iff.mp e]
@[simp] theorem wo_unlk {o : Out} : (unlkO n o).wp P = o.wp (P.un n) := by
  cases o <;> simp only [unlkO]
  case nx e h => cases z : unlk n h <;> simp [z]
  case rt e h => cases z : unlk n h <;> simp [z]
  case bk e h => cases z : unlk n h <;> simp [z]
  case ct e h => cases z : unlk n h <;> simp [z]
  all_goals simp
@[simp] theorem wo_lock {lo : LO} {t : DS} : (sLock lo t env h).wp P = optP (lo env h) fun n => optP (dctAt h n) fun q => q.1 = false ∧ (t env (h.set n (.dct true q.2))).wp (P.un n) := by
  unfold sLock
  cases lo env h with
  | none => simp
  | some n =>
    simp only [optP_some, dctAt]
    cases z : h[n]? with
    | none => simp
    | some o =>
      cases o with
      | dct lk kvs => cases lk <;> simp
      | _ => simp
@[simp] theorem wp_qlock {lo : LO} {t : DA} : (qLock lo t env h).wp Ql X = optP (lo env h) fun n => optP (dctAt h n) fun q => q.1 = false ∧ (t env (h.set n (.dct true q.2))).wp (fun ds h => optP (unlk n h) fun h => Ql ds h) X := by
  unfold qLock
  cases lo env h with
  | none => simp
  | some n =>
    simp only [optP_some, dctAt]
    cases z : h[n]? with
    | none => simp
    | some o =>
      cases o with
      | dct lk kvs =>
        cases lk
        · simp only [optP_some, true_and]
          cases t env (h.set n (.dct true kvs)) with
          | ok ds h' => simp only [wp_ok]; cases unlk n h' <;> simp
          | exc e h' => simp
          | stuck => simp
        · simp
      | _ => simp
theorem loVar_E {i : Nat} {m : Nat} (e : env[i]? = some (some (.ref m))) : loVar i env h = some m := by unfold loVar; rw [e]
end
end DL
/-! DLub: try with several clauses, each with a name. -/
namespace DL
open PySem PySem.Spec PyProof.Rows L2
abbrev AsL := List (Value × Nat × (Addr → Value → Option Addr → TS))
/-- the ends of a clause's suite: its name is gone behind it -/
def clE (i : Nat) (D : Ends) : Ends := { nx := fun τ J => D.nx (τ.set i none) J, rt := D.rt, bk := fun τ J => D.bk (τ.set i none) J, ct := fun τ J => D.ct (τ.set i none) J }
def wAsM (K : PySem.W.Frag) (Wo : WX) (D : Ends) : AsL → WX
  | [] => Wo
  | q :: r => fun cls d σ H => ∃ b, PySem.W.exmOne K cls q.1 = some b ∧ (b = true → ∀ a, H a = none → q.2.2 a cls d (clE q.2.1 D) (σ.set q.2.1 (some (.ref a))) H) ∧ (b = false → wAsM K Wo D r cls d σ H)
inductive AsOk (X : Cx) : List ExceptHandler → AsL → Prop
  | fin : AsOk X [] []
  | more {x n : Str} {c : Value} {i : Nat} {ts : Addr → Value → Option Addr → TS} {s0 : Stmt} {su : List Stmt} {p1 p2 : Pos} {hs : List ExceptHandler} {l : AsL} (hc : L2.Names X x c) (hi : X.N[i]? = some n) (hn : X.env.kindOf n = some .local)
      (hsu : ∀ (a : Addr) (oe : Obj) (cls : Value) (d : Option Addr) (pn : List (Addr × Obj)), Zc cls d oe → (∃ vs, oe.data = .fields vs) → PSs (X.suite a ((a, oe) :: pn)) (s0 :: su) (ts a cls d)) (r : AsOk X hs l) :
      AsOk X (.ExceptHandler (some (.Name x p1)) (some n) (s0 :: su) p2 :: hs) ((c, i, ts) :: l)
section
variable {X : Cx} {body : List Stmt} {h0 : ExceptHandler} {hds : List ExceptHandler} {l : AsL} {pos : Pos} {tb : WX → TS} {Wo : WX}
theorem ps_asM (st : X.stack = X.env :: X.outer) (fr : X.env.frame = some X.env.locals) (hN : X.N.Nodup) (tk : L2.Takes X Wo)
    (hb : ∀ (W' : WX) (pn : List (Addr × Obj)) (xe : Value → Shared → Prop), L2.Takes (X.tr pn xe) W' → PassesOwn (model X.prog X.w) X.A X.env xe → PSs (X.tr pn xe) body (tb W')) (hh : AsOk X (h0 :: hds) l) :
    PS X (.Try body (h0 :: hds) [] [] pos) (fun D σ H => tb (wAsM X.K Wo D l) D σ H) := by
  refine ⟨fun ps s σ H D I hyp => ?_⟩
  have iok := I.ok
  have frm : X.A.frames = some (X.env :: X.outer) := by rw [iok.frames, st]
  refine wpAny_Try_except (wpAny_mono ((hb (wAsM X.K Wo D l) (X.pn ++ ps) (fun e t1 => wpAny (model X.prog X.w) X.A (noteFrame e X.env) (fun _ t2 => wpAny (model X.prog X.w) X.A (setFlight e none) (fun _ t3 =>
    wpAny (model X.prog X.w) X.A (handleBy e X.env (h0 :: hds)) (SP X ps D) X.xe t3) X.xe t2) X.xe t1) (fun u s' caught => ?_) PassesOwn.looking).run [] s σ H D (I.toTry _) hyp) (fun f s1 fin => ?_) fun e s1 he => he)
  · obtain ⟨a, B, sI, ps', σ', H', cls, d, rfl, J0, nb, up, sky, na, os, ag, wish⟩ := caught
    have J : Inv X ps σ' H' sI := J0.ofTry iok
    show wpAny (model X.prog X.w) X.A (noteFrame (.ref a) X.env) _ _ _
    refine Sky.land Zc.steady frm fr (show Sky B (X.env :: X.outer) a (Zc cls d) X.env.locals s'.heap by rw [← st]; exact sky) fun g1 fly up1 => ?_
    have J1 : Inv X ps σ' H' { s' with heap := g1 } := J.landed nb fly.1 (up.trans up1) os ag
    obtain ⟨o1, v1, ho1, hz1, hd1⟩ := fly.there
    have nfr : a ∉ frs (X.env :: X.outer) := fun hm => by
      obtain ⟨_, o', e', hnf⟩ := (fly.2.2.1).mem hm
      rw [ho1] at e'; cases e'; exact hnf _ hd1
    have nL : a ≠ X.env.locals := fun z => nfr (List.mem_filterMap.mpr ⟨X.env, List.mem_cons_self, by rw [fr, z]⟩)
    have nF : a ∉ X.fs := fun hm => by
      obtain ⟨y, hy, q⟩ := List.mem_filterMap.mp hm
      exact nfr (List.mem_filterMap.mpr ⟨y, List.mem_cons_of_mem _ hy, q⟩)
    have SU := J1.suite ho1 hd1 na nL nF
    have walk : ∀ {hs' : List ExceptHandler} {l' : AsL}, AsOk X hs' l' → wAsM X.K Wo D l' cls d σ' H' → wpAny (model X.prog X.w) X.A (handleBy (.ref a) X.env hs') (SP X ps D) X.xe { s' with heap := g1 } := by
      intro hs' l' ok
      induction ok with
      | fin =>
        intro wi
        refine wpAny_handleBy_nil ?_
        obtain ⟨k1, k2, k3, oe, vs, T, oT, ts', he, hz, hd, h1, hr⟩ := id fly
        unfold PySem.passOn
        refine wpAny_bind (wpAny_field he hd h1 ?_)
        rw [if_neg (by simp : ¬ ((Value.ref T == Value.none) = true))]
        have out : wpAny (model X.prog X.w) X.A (setFlight (.ref a) X.env.frame) (fun _ t4 => wpAny (model X.prog X.w) X.A (throw (.ref a) : Sem Flow) (SP X ps D) X.xe t4) X.xe { s' with heap := g1 } := by
          rw [fr]
          exact HandSPX.setFlight_upZ fly fun g2 hg2 up2 => wpAny_throw (tk _ _ ⟨a, B, sI, ps, σ', H', cls, d, rfl, J, nb, (up.trans up1).trans up2, .inr (.inr (by rw [st]; exact hg2)), na, os, ag, wi⟩)
        first | exact wpAny_bind (wpAny_pure (wpAny_bind out)) | exact wpAny_bind out
      | @more x n c i ts s0 su p1 p2 hs2 l2 hc hi hn hsu r ih =>
        intro wi
        obtain ⟨b, eb, yes, no⟩ := wi
        refine wpAny_handleBy_cons (codeAny_handlers_test ?_) (by intro q; cases q)
        have tyA : PySem.W.Looks (model X.prog X.w) g1 (typeOf (.ref a)) cls := fun A' Q E s2 k q => wpAny_typeOf_ref (k _ _ ho1) (by rw [hz1.1]; exact q)
        have asks : ∀ {Q : Value → Shared → Prop} {E : Value → Shared → Prop}, Q c { s' with heap := g1 } → wpAny (model X.prog X.w) (X.A.mark (some (.ref a))) (eval (.Name x p1) X.env) Q E { s' with heap := g1 } := fun {Q E} q => by
          obtain ⟨c1, c2, c3 | ⟨c3, c4, c5⟩⟩ := hc
          · exact ld_glob (X := X.suite a ((a, o1) :: (X.pn ++ ps))) SU c1 c3 q c2
          · exact ld_blt (X := X.suite a ((a, o1) :: (X.pn ++ ps))) SU c1 c3 c4 q c5 c2
        refine asks ((PySem.W.exm_one (M := model X.prog X.w) J1.kIn tyA eb).here ?_)
        cases b with
        | false => exact ih (no rfl)
        | true =>
          refine codeAny_handlers_suite_as (HandSPX.lands_againZ fly fun g2 fly2 up2 => ?_)
          have J2 : Inv X ps σ' H' { s' with heap := g2 } := J.landed nb fly2.1 ((up.trans up1).trans up2) os ag
          obtain ⟨o2, v2, ho2, hz2, hd2⟩ := fly2.there
          refine store_ok (X := X.suite a ((a, o2) :: (X.pn ++ ps))) (v := .ref a) (J2.suite ho2 hd2 na nL nF) hN hi (.inl hn : Loc X.env.scope n) rfl (fun s5 S5 => ?_) (.inr hn)
          refine wpAny_mono ((hsu a o2 cls d (X.pn ++ ps) hz2 ⟨_, hd2⟩).run [] s5 _ H' _ S5 (yes rfl a na)) (fun f s6 fin => ?_) (fun _ _ z => z.elim)
          have bye : ∀ {τ : L2.St} {G : Hp} {Q : Shared → Prop}, Inv (X.suite a ((a, o2) :: (X.pn ++ ps))) [] τ G s6 → (∀ s7, Inv X ps (τ.set i none) G s7 → Q s7) →
              wpAny (model X.prog X.w) X.A (do bindName X.env n .none; unbindBehindTheSuite X.env n p2) (fun _ s7 => Q s7) X.xe s6 := fun S6 hq => gone_ok (S6.unsuite iok) hN hi hn hq
          cases f with
          | next => obtain ⟨τ, G, S6, q6⟩ := fin; exact bye S6 fun s7 J7 => ⟨_, _, J7, q6⟩
          | brk => obtain ⟨τ, G, S6, q6⟩ := fin; exact bye S6 fun s7 J7 => ⟨_, _, J7, q6⟩
          | cont => obtain ⟨τ, G, S6, q6⟩ := fin; exact bye S6 fun s7 J7 => ⟨_, _, J7, q6⟩
          | ret u => obtain ⟨v6, τ, G, S6, r6, q6⟩ := fin; exact bye S6 fun s7 J7 => ⟨_, _, _, J7, r6, q6⟩
    exact walk hh wish
  · cases f with
    | next => obtain ⟨τ, G, J', q⟩ := fin; exact wpAny_execs_nil ⟨τ, G, J'.ofTry iok, q⟩
    | brk => obtain ⟨τ, G, J', q⟩ := fin; exact ⟨τ, G, J'.ofTry iok, q⟩
    | cont => obtain ⟨τ, G, J', q⟩ := fin; exact ⟨τ, G, J'.ofTry iok, q⟩
    | ret u => obtain ⟨v, τ, G, J', r, q⟩ := fin; exact ⟨v, τ, G, J'.ofTry iok, r, q⟩
end
/-! ### by functions -/
abbrev Hd := List (Str × Bool) × Nat × (Exn → DS)
def catchM : List Hd → Exn → En → DH → Out
  | [], e, env, h => .exc e env h
  | q :: r, e, env, h => match q.1.lookup e.cls with
    | some true => if q.2.1 < env.length then clr q.2.1 (q.2.2 e (env.set q.2.1 none) h) else .stuck
    | some false => catchM r e env h
    | none => .stuck
def sTryM (hs : List Hd) (b : DS) : DS := fun env h => match b env h with
  | .exc e env1 h1 => catchM hs e env1 h1
  | o => o
def tsOf (g : Gm) (q : Hd) : Addr → Value → Option Addr → TS := fun a cls d => lX g q.2.1 a cls d fun e => if q.1.lookup e.cls = some true then q.2.2 e else fun _ _ => .stuck
inductive HdOk (X : Cx) : List ExceptHandler → List Hd → List Value → Prop
  | fin : HdOk X [] [] []
  | more {x n : Str} {c : Value} {i : Nat} {tab : List (Str × Bool)} {ts : Exn → DS} {s0 : Stmt} {su : List Stmt} {p1 p2 : Pos} {hs : List ExceptHandler} {l : List Hd} {cs : List Value} (hi : X.N[i]? = some n) (hn : X.env.kindOf n = some .local) (hc : L2.Names X x c) (hx : ExmT (gm X) tab c)
      (hsu : ∀ (a : Addr) (oe : Obj) (cls : Value) (d : Option Addr) (pn : List (Addr × Obj)) (e : Exn), tab.lookup e.cls = some true → Zc cls d oe → (∃ vs, oe.data = .fields vs) → PSs (SuiteX X a oe pn) (s0 :: su) (lS (gm X) ⟨fun _ _ _ _ => False, some ⟨i, a, cls, d, e⟩⟩ (ts e))) (r : HdOk X hs l cs) :
      HdOk X (.ExceptHandler (some (.Name x p1)) (some n) (s0 :: su) p2 :: hs) ((tab, i, ts) :: l) (c :: cs)
def asL (g : Gm) : List Hd → List Value → AsL
  | q :: l, c :: cs => (c, q.2.1, tsOf g q) :: asL g l cs
  | _, _ => []
theorem HdOk.as {X : Cx} {hs : List ExceptHandler} {l : List Hd} {cs : List Value} (h : HdOk X hs l cs) : AsOk X hs (asL (gm X) l cs) := by
  induction h with
  | fin => exact .fin
  | @more x n c i tab ts s0 su p1 p2 hs l cs hi hn hc hx hsu r ih =>
    refine .more hc hi hn (fun a oe cls d pn z1 z2 => x_in fun e => ?_) ih
    show PSs _ _ (lS _ _ (if tab.lookup e.cls = some true then ts e else fun _ _ => .stuck))
    by_cases he : tab.lookup e.cls = some true
    · rw [if_pos he]; exact hsu a oe cls d pn e he z1 z2
    · rw [if_neg he]; exact ⟨fun pins s σ H Dn I ⟨_, _, _, _, _, q⟩ => q.elim⟩
section
variable {X : Cx} {W : WB} {body : List Stmt} {h0 : ExceptHandler} {hds : List ExceptHandler} {l : List Hd} {cs : List Value} {pos : Pos} {tb : DS}
theorem s_tryM (hs : X.stack = X.env :: X.outer) (hf : X.env.frame = some X.env.locals) (hN : X.N.Nodup) (tk : L2.Takes X W.wish) (hw : W.xa = none)
    (hb : ∀ (W' : WX) (pn : List (Addr × Obj)) (xe : Value → Shared → Prop), L2.Takes (X.tr pn xe) W' → PassesOwn (model X.prog X.w) X.A X.env xe → DSsx (X.tr pn xe) ⟨W', none⟩ body tb)
    (hh : HdOk X (h0 :: hds) l cs) : DSx X W (.Try body (h0 :: hds) [] [] pos) (sTryM l tb) :=
  PS.imp (ps_asM (tb := fun W' => lS (gm X) ⟨W', none⟩ tb) hs hf hN tk (fun W' pn xe t po => hb W' pn xe t po) hh.as) fun Dn σ H ⟨ρ, env, h, R, E, q⟩ => by
    rw [hw] at E
    refine ⟨ρ, env, h, R, E, ?_⟩
    unfold sTryM at q
    cases z : tb env h with
    | nx env' h' => rw [z] at q; exact fun ρ' H' σ' x R' E' => q ρ' H' σ' x R' (by rw [hw]; exact E')
    | rt d h' => rw [z] at q; exact q
    | bk env' h' => rw [z] at q; exact fun ρ' H' σ' x R' E' => q ρ' H' σ' x R' (by rw [hw]; exact E')
    | ct env' h' => rw [z] at q; exact fun ρ' H' σ' x R' E' => q ρ' H' σ' x R' (by rw [hw]; exact E')
    | stuck => rw [z] at q; exact q
    | exc e env1 h1 =>
      rw [z] at q
      intro ρ1 H1 σ1 cls d x1 R1 E1 xr
      dsimp only at q
      obtain ⟨C1, m1, ec, xr'⟩ := id xr
      have key : ∀ {hs' : List ExceptHandler} {l' : List Hd} {cs' : List Value}, HdOk X hs' l' cs' → RO (gm X) W ρ H (catchM l' e env1 h1) Dn → wAsM X.K W.wish Dn (asL (gm X) l' cs') cls d σ1 H1 := by
        intro hs' l' cs' ok
        induction ok with
        | fin =>
          intro q
          exact q ρ1 H1 σ1 _ _ x1 R1 (by rw [hw]; exact E1) xr
        | @more x n c i tab ts s0 su p1 p2 hs2 l2 cs2 hi hn hc hx hsu r ih =>
          intro q
          unfold catchM at q
          dsimp only at q
          cases zk : tab.lookup e.cls with
          | none => rw [zk] at q; exact q.elim
          | some k =>
            rw [zk] at q
            have ex := hx e.cls C1 k zk m1
            refine ⟨k, by rw [ec]; exact ex, fun hd a na => ?_, fun hd => ?_⟩
            · subst hd
              dsimp only at q
              by_cases hl0 : i < env1.length
              · rw [if_pos hl0] at q
                have E2 : REn (gm X) (some ⟨i, a, cls, d, e⟩) ρ1 H1 (env1.set i none) (σ1.set i (some (.ref a))) := by
                  have E0 := E1.none i (some (.ref a))
                  refine ⟨E0.len, E0.at_, fun y hy => ?_⟩
                  have : (⟨i, a, cls, d, e⟩ : XA) = y := Option.some.inj hy
                  subst this
                  exact ⟨List.getElem?_set_self (by rw [← E1.len]; exact hl0), xr⟩
                refine ⟨ρ1, env1.set i none, h1, e, R1, E2, ?_⟩
                simp only [if_pos zk]
                have q := RO.mono q x1
                cases z2 : ts e (env1.set i none) h1 with
                | nx env' h' => rw [z2] at q; exact fun ρ' H' σ' x R' E' => q ρ' H' _ x R' (by rw [hw]; exact E'.none i none)
                | bk env' h' => rw [z2] at q; exact fun ρ' H' σ' x R' E' => q ρ' H' _ x R' (by rw [hw]; exact E'.none i none)
                | ct env' h' => rw [z2] at q; exact fun ρ' H' σ' x R' E' => q ρ' H' _ x R' (by rw [hw]; exact E'.none i none)
                | rt d' h' => rw [z2] at q; exact fun ρ' H' v x R' r' => q ρ' H' v x R' r'
                | exc e' env' h' => rw [z2] at q; exact q.elim
                | stuck => rw [z2] at q; exact q.elim
              · rw [if_neg hl0] at q; exact q.elim
            · subst hd
              exact ih q
      exact key hh q
end
end DL
/-! DLuc: own exception classes over another built-in one than ValueError. -/
namespace DL
open PySem PySem.Spec PyProof.Rows L2
/-- own classes, then the built-in one's row -/
def ownThen (tl : List Value) : List Value → Bool
  | .ref _ :: r => ownThen tl r
  | l => l == tl
theorem ownThen_cases {tl : List Value} : ∀ l : List Value, ownThen tl l = true → (∃ c r, l = .ref c :: r ∧ ownThen tl r = true) ∨ l = tl
  | .ref c :: r, e => .inl ⟨c, r, rfl, e⟩
  | [], e => .inr (eq_of_beq e)
  | .none :: _, e => .inr (eq_of_beq e)
  | .ellipsis :: _, e => .inr (eq_of_beq e)
  | .notImplemented :: _, e => .inr (eq_of_beq e)
  | .bool _ :: _, e => .inr (eq_of_beq e)
  | .int _ _ :: _, e => .inr (eq_of_beq e)
  | .float _ _ :: _, e => .inr (eq_of_beq e)
  | .str _ _ :: _, e => .inr (eq_of_beq e)
  | .bytes _ _ :: _, e => .inr (eq_of_beq e)
  | .type _ :: _, e => .inr (eq_of_beq e)
  | .builtin _ :: _, e => .inr (eq_of_beq e)
/-- what a built-in exception class is asked -/
structure BaseX (B newId initId : String) (tl : List Value) : Prop where
  F : ExcBaseFacts B newId initId tl
  pass : ∀ self, refuseLoop self "__setattr__" tl = pure ()
  typ : typeOf (.type B) = pure (.type "type")
  ob : tl.contains (.type "object") = true
  some_ : tl.isEmpty = false
theorem baseOverflow : BaseX "OverflowError" "OverflowError.__new__" "OverflowError.__init__" [.type "OverflowError", .type "ArithmeticError", .type "Exception", .type "BaseException", .type "object"] :=
  ⟨PySem.F.excBase_OverflowError, fun self => PySem.F.store_OverflowError.passes self, by kernel_rfl, by decide +kernel, rfl⟩
section
variable {B newId initId : String} {tl : List Value}
theorem BaseX.refuse (Z : BaseX B newId initId tl) (self : Value) : ∀ l : List Value, ownThen tl l = true → refuseLoop self "__setattr__" l = pure ()
  | [], e => by
    rcases ownThen_cases [] e with ⟨_, _, q, _⟩ | q
    · cases q
    · rw [q]; exact Z.pass self
  | x :: r, e => by
    rcases ownThen_cases (x :: r) e with ⟨c, r', q, h⟩ | q
    · obtain ⟨rfl, rfl⟩ := List.cons.inj q
      rw [refuseLoop_ref]; exact Z.refuse self r h
    · rw [q]; exact Z.pass self
theorem ownThen_has (Y : String) : ∀ l : List Value, ownThen tl l = true → l.contains (.type Y) = tl.contains (.type Y)
  | [], e => by
    rcases ownThen_cases [] e with ⟨_, _, q, _⟩ | q
    · cases q
    · rw [q]
  | x :: r, e => by
    rcases ownThen_cases (x :: r) e with ⟨c, r', q, h⟩ | q
    · obtain ⟨rfl, rfl⟩ := List.cons.inj q
      rw [List.contains_cons, ownThen_has Y r h]; rfl
    · rw [q]
theorem ownThen_ne (hn : tl.isEmpty = false) {l : List Value} (e : ownThen tl l = true) : l.isEmpty = false := by
  rcases ownThen_cases l e with ⟨_, _, q, _⟩ | q
  · rw [q]; rfl
  · rw [q]; exact hn
end
end DL
namespace DL
open PySem PySem.Spec PyProof.Rows L2
open Builtin Builtin.ObjectAttr
section
variable {prog : Program} {w : World} {A : Around} {R : Result → Shared → Prop} {hp : Heap} {g : Array GenState} {dr : Drawn} {t : Nat} {os : OsState} {B newId initId : String} {tl : List Value}
/-- the first field of an exception that has no dict yet -/
theorem set_first (Z : BaseX B newId initId tl) {K : PySem.W.Frag} {f : Str} {tk : Tok} {v : Value} {x C : Addr} {fv : Array Value} {cd : ClassData} (kI : K.In hp) (gx : hp.get? x = some { cls := .ref C, data := .fields fv })
    (ec : PySem.W.clsIn K C = some cd) (em : ownThen tl cd.mro = true) (ed : cd.hasDict = true) (nf : PySem.W.findIn K (.ref C) f = some none)
    (k : ∀ h' tk' dx, (∀ b o, b ≠ x → hp.get? b = some o → h'.get? b = some o) → hp.objs.size ≤ dx → dx ≠ x → h'.get? x = some { cls := .ref C, dict := some dx, data := .fields fv } → h'.Ns1 dx (fun y => if y = f then some v else none) → R (.ok (.ret .none)) ⟨h', g, dr, tk', os⟩) :
    codeAny (model prog w) A (.call (.builtin "object.__setattr__") ⟨[.ref x, .str f tk, v], []⟩) R ⟨hp, g, dr, t, os⟩ := by
  have at_ : PySem.W.InstAt hp x { cls := .ref C, data := .fields fv } C none := ⟨gx, rfl, rfl, trivial⟩
  have so := PySem.F.store_object
  have hasO : cd.mro.contains (.type "object") = true := (ownThen_has "object" _ em).trans Z.ob
  have xn : x ≠ hp.objs.size := Nat.ne_of_lt (Heap.lt_size gx)
  have isO : PySem.W.Looks (model prog w) hp (isInstance (.ref x) (.type "object")) true := at_.type.andThen (PySem.W.looks_mroIn kI (by unfold PySem.W.mroIn; rw [ec, Option.bind_some, if_neg (by rw [ownThen_ne Z.some_ em]; decide), hasO]))
  refine codeAny_call_builtin so.slot.plain so.entry (@PySem.W.check_slot (model prog w) _ _ ⟨hp, g, dr, t, os⟩ "object.__setattr__" "object" "__setattr__" (.ref x) [.str f tk, v] [] _ so.kind so.split isO (so.args (.ref x) (.str f tk) v) ?_)
  have lc : PySem.W.Looks (model prog w) hp (classData C) cd := PySem.W.looks_clsIn kI ec
  rw [PySem.W.osa_eq, refuse_eq]
  refine wpAny_bind (wpAny_bind (at_.type.at (wpAny_bind (((PySem.W.looks_clsIn kI ec).andThen .now : PySem.W.Looks (model prog w) hp (mroOf (.ref C)) cd.mro).at ?_))))
  rw [Z.refuse _ _ em]
  refine wpAny_pure (wpAny_bind (at_.type.at (wpAny_bind ((PySem.W.looks_findIn kI nf).at (wpAny_bind ((.now : PySem.W.Looks (model prog w) hp (storeTaker? none) none).at ?_))))))
  show wpAny _ _ (storeInOwnDict (.ref x) (.ref C) (.str f tk) f v false) _ _ _
  obtain ⟨a1, a2, a3, a4, a5, a6, a7, a8, a9, a10, a11⟩ := cd
  dsimp only at ed
  subst ed
  unfold storeInOwnDict ownDictForStores
  repeat (first | with_reducible refine PySem.HandSPX.store_in_new ?_ ?_ | with_reducible refine wpAny_loadPart_at gx ?_ | with_reducible refine lc.at ?_ | wp_step)
  · exact ⟨_, #[], _, (Heap.get?_update_ne _ _ _ _ xn.symm).trans (Heap.get?_push_at rfl rfl), rfl, fun e he => absurd he (by simp), fun _ => rfl⟩
  · intro h' tk' n1 sb
    have g1 : (hp.push { cls := .type "dict", data := .dict #[] }).get? x = some { cls := .ref C, data := .fields fv } := Heap.get?_push_of_some _ gx
    exact k h' tk' hp.objs.size (fun b o hb ho => (sb.2 b (Nat.ne_of_lt (Heap.lt_size ho))).trans ((Heap.get?_update_ne _ _ _ _ hb).trans (Heap.get?_push_of_some _ ho))) (Nat.le_refl _) xn.symm ((sb.2 x xn).trans (Heap.get?_update_self _ g1 rfl)) n1
end
/-- what the written part says of the class -/
structure OexN (newId : String) (tl : List Value) (K : PySem.W.Frag) (C : Addr) : Prop where
  cls : ∃ nm q N bs bm sn sub ab col dd k0 k1 k2 k3 k5, K.lookup C = some (excClassObj nm q C N bs bm true sn sub ab col dd k0 k1 k2 k3 k5 newId) ∧ ownThen tl bm = true
  sa : PySem.W.findIn K (.ref C) "__setattr__" = some (some (.builtin "object.__setattr__"))
  exC : PySem.W.subIn K (.ref C) (.type "BaseException") = some true
  tyC : PySem.W.typeIn K (.ref C) = some (.type "type")
  kC : PySem.W.keepIn K (.ref C) = true
section
variable {B newId initId : String} {tl : List Value} {X : Cx} {pins : List (Addr × Obj)} {σ : L2.St} {H : Hp} {s : Shared} {a C : Addr} {f : Str} {y : V} {u : Value} {E : Value → Shared → Prop} {A : Around}
theorem first_ok {Q : Unit → Shared → Prop} (Z : BaseX B newId initId tl) (T : OexN newId tl X.K C) (I : Inv X pins σ H s) (e : H a = some (exo a C none)) (nf : PySem.W.findIn X.K (.ref C) f = some none) (ry : RelV y u)
    (k : ∀ dx s', H dx = none → dx ≠ a → Inv X pins σ (upd (upd H dx (exd dx [(f, y)])) a (exo a C (some dx))) s' → Q () s') : wpAny (model X.prog X.w) A (setAttr (.ref a) f u) Q E s := by
  obtain ⟨nm, q, N, bs, bm, sn, sub, ab, col, dd, k0, k1, k2, k3, k5, hC, hbm⟩ := T.cls
  have hcl : PySem.W.clsIn X.K C = some ⟨nm, bs, .ref C :: bm, N, q, true, sn, sub, ab, col, false⟩ := by unfold PySem.W.clsIn; rw [hC] <;> rfl
  obtain ⟨t1, ho⟩ := exo_at I.hok e
  obtain ⟨hp, g, dr, t, os⟩ := s
  refine PySem.W.set_plain I.kIn (ox := ⟨.ref C, none, .fields #[.ref t1, .none, .none, .none, .bool false, .none], #[]⟩) (od := none) ⟨ho, rfl, rfl, trivial⟩ T.sa ?_
  refine set_first Z I.kIn ho hcl (show ownThen tl (.ref C :: bm) = true from hbm) rfl nf fun h' tk' dx kp dn dne hx hn => ?_
  have fr : H dx = none := I.hok.fresh dn
  have nd : ∀ {b : Addr} {o : Obj}, hp.get? b = some o → b ≠ dx := fun {b o} q => Nat.ne_of_lt (Nat.lt_of_lt_of_le (Heap.lt_size q) dn)
  have na : ∀ {b : Addr}, H b = none → b ≠ a := fun {b} n z => by rw [z, e] at n; cases n
  have U : Un X.fs [] H (upd (upd H dx (exd dx [(f, y)])) a (exo a C (some dx))) hp h' := ⟨fun b o q n _ _ => kp b o (na n) q, fun b o q n _ _ => ⟨o.slots, kp b o (na n) q⟩, fun b o q n _ => by rw [upd_ne (na n), upd_ne (nd q)]; exact n,
    fun b o q _ => by
      by_cases hb : b = a
      · exact ⟨_, by rw [hb]; exact hx⟩
      · exact ⟨o, kp b o hb q⟩,
    fun b xs q => by rw [upd_ne (at_ne e q exo_tup), upd_ne (ne_of_none q fr)]; exact q, fun b o v q => by rw [upd_ne (at_ne e q exo_frz), upd_ne (ne_of_none q fr)]; exact q,
    fun b ps q => ⟨#[], by rw [upd_ne (at_ne e q exo_tbl), upd_ne (ne_of_none q fr), q]; simp⟩⟩
  refine k dx _ fr dne (I.un (t' := tk') U fun b o q => ?_)
  by_cases hb : b = a
  · subst hb; rw [upd_same] at q; cases q; exact exo_ok hx
  · rw [upd_ne hb] at q
    by_cases hd : b = dx
    · subst hd; rw [upd_same] at q; cases q
      exact exd_ok hn (relO_put (fs := []) ry fun g => True.intro)
    · rw [upd_ne hd] at q
      refine (I.hok b o q).stay (fun c v hc z => kp c v ?_ z) (fun c hc => by rw [upd_ne (at_ne e hc exo_own), upd_ne (ne_of_none hc fr)]; exact hc) fun c xs hc => by rw [upd_ne (at_ne e hc exo_tup), upd_ne (ne_of_none hc fr)]; exact hc
      rcases hc with hc | hc
      · rw [hc]; exact hb
      · exact at_ne e hc exo_own
theorem binit_ok {us : List Value} {Q : Value → Shared → Prop} (Z : BaseX B newId initId tl) (T : OexN newId tl X.K C) (I : Inv X pins σ H s) (e : H a = some (exo a C none)) (hl : us.length ≤ sizeLine) (k : ∀ s', Inv X pins σ H s' → Q .none s') :
    wpAny (model X.prog X.w) A (call (.builtin initId) (.ref a :: us)) Q E s := by
  obtain ⟨nm, q, N, bs, bm, sn, sub, ab, col, dd, k0, k1, k2, k3, k5, hC, hbm⟩ := T.cls
  obtain ⟨t1, ho⟩ := exo_at I.hok e
  obtain ⟨hp, g, dr, t, os⟩ := s
  refine wpAny_call (PySem.HandSPX.init_base Z.F (fun Y => ownThen_has Y bm hbm) (I.kIn _ _ hC) ho hl fun h' t2 kp hx => ?_)
  have J := I.write (t' := t) (x := a) (e := a) (o := exo a C none) (by rw [e]; exact True.intro) (.inl rfl) kp ⟨_, hx⟩ (exo_ok hx)
  rw [show upd H a (exo a C none) = H from funext fun b => by
    by_cases hb : b = a
    · rw [hb, upd_same, e]
    · rw [upd_ne hb]] at J
  exact k _ J
end
def tBIn (newId : String) (tl : List Value) (K : PySem.W.Frag) (ta : TA) : TE := fun σ H Q => ta σ H fun vs H1 => ∃ (a C : Addr) (ws : List V), vs = .ref a :: ws ∧ ws.length ≤ 1000 ∧ OexN newId tl K C ∧ H1 a = some (exo a C none) ∧ Q .non H1
def tFst (newId : String) (tl : List Value) (K : PySem.W.Frag) (f : Str) (to te : TE) : TS := fun D σ H => te σ H fun y H1 => to σ H1 fun x H2 => ∃ a C : Addr, x = .ref a ∧ OexN newId tl K C ∧ PySem.W.findIn K (.ref C) f = some none ∧ H2 a = some (exo a C none) ∧ ∀ dx, H2 dx = none → dx ≠ a → D.nx σ (upd (upd H2 dx (exd dx [(f, y)])) a (exo a C (some dx)))
section
variable {B newId initId : String} {tl : List Value} {X : Cx} {o e : Expr} {es : List Expr} {to te : TE} {ta : TA} {f : Str} {p p' p1 p2 pos : Pos} {b : Str}
theorem pe_binit {pl : Sem Bool} (Z : BaseX B newId initId tl) (hg : Gl X b) (hm : X.mg b = none) (hb : bootBuiltins b = some (.type B)) (hb1 : b ≠ "__name__") (hb2 : (b == ("__debug__" : Str)) = false) (ns : Manifest.isStub B = false) (vV : PySem.W.findCls X.K (.type B) (.type "type") "__init__" = some (.val (.builtin initId)))
    (hd1 : PySem.W.handedIn (.builtin initId) = true) (ha : PA X (e :: es) ta)
    (hc : eval (.Call (.Attribute (.Name b p1) "__init__" p2) (e :: es) [] pos) X.env = (do
      let ov ← eval (.Name b p1) X.env
      standAt p2.atName
      let (f, first) ← holding [ov] (getMethod ov "__init__" pl)
      callWith pos f first (backTo pos (starEach (e :: es) X.env)) (backToKw pos (keywordEach [] X.env))) := by rfl)
    (he : starEach (e :: es) X.env = (false, eval e X.env) :: starEach es X.env := by rfl) (hpl : (backTo pos (starEach es X.env)).any (·.1) = false := by rfl) :
    PE X (.Call (.Attribute (.Name b p1) "__init__" p2) (e :: es) [] pos) (tBIn newId tl X.K ta) := by
  refine ⟨fun pins s σ H Q I h => PySem.W.methodCall_KW (ld_blt I hg hm hb ?_ hb1 hb2) hc⟩
  obtain ⟨m, fr⟩ := I.fr
  refine PySem.W.method_type fr I.ok.mod.kin Z.typ ns vV hd1 ?_
  show wpAny _ _ (callWith pos (Value.builtin initId) [] (backTo pos (starEach (e :: es) X.env)) []) _ _ _
  refine PyProof.Rows.callWith_method1 (thn (ha.run pos pins _ σ H _ (I.tok _) h) fun us s1 ⟨vs, H1, I1, r1, a, C, ws, ev, hl, T, ea, q⟩ => ?_) he hpl
  subst ev
  cases r1 with
  | @cons _ u0 _ ur ra rw' =>
    cases (show u0 = Value.ref a from ra)
    exact binit_ok Z T I1 ea (by rw [← Paired.length rw', sizeLine_eq]; omega) fun s' J => ⟨.non, H1, J, rfl, q⟩
theorem ps_fst (Z : BaseX B newId initId tl) (ho : PE X o to) (he : PE X e te) (hs : swapsWith e (some (.Attribute o f p')) pos.line X.env = pure false := by rfl) : PS X (.Assign [.Attribute o f p'] e pos) (tFst newId tl X.K f to te) := by
  refine ⟨fun pins s σ H D I h => plainObj_wpAny_Assign_Attribute (thn (he.run pins s σ H _ I h) fun v s1 ⟨y, H1, I1, r1, q1⟩ => thn (ho.run pins s1 σ H1 _ I1 q1) fun u s2 ⟨x, H2, I2, r2, a, C, ex, T, hno, ea, q⟩ => ?_) hs⟩
  subst ex
  cases (show u = Value.ref a from r2)
  exact first_ok Z T I2 ea hno r1 fun dx s' n ne J => ⟨σ, _, J, q dx n ne⟩
theorem pmk_own {CX : CXT} {x : Str} {C fI : Addr} {k : Nat} {fd : FuncData} {ps : List Str} {sp : Sp} {ds : List Value} {dvs : List V} (Z : BaseX B newId initId tl) (T : OexN newId tl X.K C) (iC : PySem.W.findIn X.K (.ref C) "__init__" = some (some (.ref fI))) (tI : PySem.W.typeIn X.K (.ref fI) = some (.type "function"))
    (F1 : FnOk X.prog X.w X.K X.mg X.base CX k fI fd ps sp) (hr : Room (k + 1) X.A) (hb : Binds X.K fd ps ds) (hd : Vals dvs ds) (hx : Passes CX X (fun _ _ _ => False)) (hg : Gl X x) (hm : X.mg x = some (.ref C)) (ha : PA X (e :: es) ta)
    (hdb : (x == ("__debug__" : Str)) = false := by decide) (he : starEach (e :: es) X.env = (false, eval e X.env) :: starEach es X.env := by rfl) (hpl : (backTo pos (starEach es X.env)).any (·.1) = false := by rfl) :
    PMk X (.Call (.Name x p) (e :: es) [] pos) (tMkO C sp dvs ta) := by
  intro pins s σ H Q I h
  obtain ⟨nm, q, N, bs, bm, sn, sub, ab, col, dd, k0, k1, k2, k3, k5, hC, hbm⟩ := T.cls
  refine wpAny_Call_Name_kw (ld_glob I hg hm (PySem.W.callWith_K (h₀ := X.base) I.ok.mod.kin T.kC (thn (ha.run pos pins s σ H _ I h) fun us s1 ⟨vs, H1, I1, r1, hz, q1⟩ => ⟨I1.kIn, ?_⟩) he hpl) hdb)
  show wpAny _ _ (call (.ref C) us) _ _ _
  obtain ⟨hp, g, dr, tk, os⟩ := s1
  have up1 : hp.objs.size ≤ hp.objs.size + 1 := Nat.le_succ _
  have hq := q1 (hp.objs.size + 1) (I1.hok.fresh up1)
  have old : ∀ b o, hp.get? b = some o → ((hp.push (PySem.W.kdv_tup us)).push (PySem.HandSPX.excO C hp.objs.size)).get? b = some o := fun b o e => Heap.get?_push_of_some _ (Heap.get?_push_of_some _ e)
  have new_ : ((hp.push (PySem.W.kdv_tup us)).push (PySem.HandSPX.excO C hp.objs.size)).get? (hp.objs.size + 1) = some (PySem.HandSPX.excO C hp.objs.size) := by heap_get
  have I2 : Inv X pins σ (upd H1 (hp.objs.size + 1) (exo (hp.objs.size + 1) C none)) ⟨(hp.push (PySem.W.kdv_tup us)).push (PySem.HandSPX.excO C hp.objs.size), g, dr, tk, os⟩ :=
    I1.laid (t' := tk) (a := hp.objs.size + 1) (o := exo (hp.objs.size + 1) C none) old up1 (exo_ok new_)
  have rv2 : Vals (V.ref (hp.objs.size + 1) :: (vs ++ dvs)) (Value.ref (hp.objs.size + 1) :: (us ++ ds)) := .cons rfl (r1.append hd)
  have ln : (Value.ref (hp.objs.size + 1) :: us ++ ds).length = ps.length := by
    have z := rv2.length
    rw [F1.len _ _ _ _ hq] at z
    exact z.symm
  have uz : us.length ≤ sizeLine := by rw [← Paired.length r1, sizeLine_eq]; omega
  refine wpAny_call (PySem.HandSPX.call_own Z.F (fun Y => ownThen_has Y bm hbm) (I1.kIn _ _ hC) (PySem.W.looks_findIn I1.kIn iC) (fun self => PySem.W.bind_fn I1.kIn self tI) uz
    (codeAny_mono (F1.run _ X.stack _ _ ⟨Value.ref (hp.objs.size + 1) :: us, []⟩ (Value.ref (hp.objs.size + 1) :: (us ++ ds)) _ _ (fun _ _ _ => False) (hr.make C us []) (I2.env0.make C us []) (hb _ (Value.ref (hp.objs.size + 1) :: us) I2.kIn ln) rv2 hq) fun r s' fin => ?_))
  cases r with
  | error er => exact hx pins σ _ _ er s' I2 fin
  | ok fl =>
    cases fl with
    | ret u =>
      obtain ⟨v, H2, os2, bare2, un2, hok2, rv, ev, d, fs, ea, ed, hd1, q2⟩ := fin
      subst ev
      obtain ⟨h2, g2, d2, t2, os'⟩ := s'
      exact ⟨rv, mk_end (raises_own T.exC T.tyC) I1 up1 old un2 hok2 os2 bare2 ea ed hd1 q2⟩
    | next => exact fin.elim
    | brk => exact fin.elim
    | cont => exact fin.elim
end
/-! ### made, raised -/
theorem okInitN {B newId initId : String} {tl : List Value} {P : Program} {w : World} {K : PySem.W.Frag} {mg : Str → Option Value} {base : Heap} {qual fld txt b : Str} {params : Arguments} {body : List Stmt} {scope : Scope} {dvs : List V} {kws : List (Str × V)} {f C : Addr} {fd : FuncData} {j : Nat} {pl : Addr → Value → Sem Bool} {p1 p2 p3 p4 p5 p6 p7 p8 p9 p10 : Pos}
    (Z : BaseX B newId initId tl) (F : FunD K "__init__" qual params body scope dvs kws f fd) (S : FnScope ["self", fld] ["self", fld] scope)
    (eb : body = [.Expr (.Call (.Attribute (.Name b p1) "__init__" p2) [.Name "self" p3, .Constant (.str txt) j p4] [] p5) p6, .Assign [.Attribute (.Name "self" p7) fld p8] (.Name fld p9) p10])
    (h0 : scope.names.lookup ("self" : Str) = some .local) (h1 : scope.names.lookup fld = some .local) (hV : scope.names.lookup b = some .globalImplicit) (d1 : (fld == ("__debug__" : Str)) = false) (d2 : (fld == ("__classdict__" : Str)) = false)
    (hcall : ∀ (L : Addr) (cdv : Value), eval (.Call (.Attribute (.Name b p1) "__init__" p2) [.Name "self" p3, .Constant (.str txt) j p4] [] p5) (envOfC qual scope L f cdv) = (do
      let ov ← eval (.Name b p1) (envOfC qual scope L f cdv)
      standAt p2.atName
      let (f', first) ← holding [ov] (getMethod ov "__init__" (pl L cdv))
      callWith p5 f' first (backTo p5 (starEach [.Name "self" p3, .Constant (.str txt) j p4] (envOfC qual scope L f cdv))) (backToKw p5 (keywordEach [] (envOfC qual scope L f cdv)))) := by intros; rfl)
    (hm : mg b = none) (hb : bootBuiltins b = some (.type B)) (hb1 : b ≠ "__name__") (hb2 : (b == ("__debug__" : Str)) = false) (ns : Manifest.isStub B = false) (hh : PySem.W.handedIn (.builtin initId) = true)
    (vV : PySem.W.findCls K (.type B) (.type "type") "__init__" = some (.val (.builtin initId))) (T : OexN newId tl K C) (nf : PySem.W.findIn K (.ref C) fld = some none) :
    FnOk P w K mg base (L2.CX P w) (0 + 1) f fd ["self", fld] (spInit C fld) := by
  subst eb
  refine F.ok S (fun vs H Q E h => ?_) (fun cdv A outer s H vs Q E hr h => ?_)
  · obtain ⟨a, v, e, _⟩ := h; rw [e]; rfl
  · obtain ⟨a, v, e, ea, k⟩ := h
    subst e
    refine ⟨_, pss_cons (ps_expr (pe_binit (X := cxOf (L2.CX P w) P w K mg base ["self", fld] qual scope f cdv A outer s H E) (pl := pl _ _) Z hV hm hb hb1 hb2 ns vV hh (pa_cons (pe_var (i := 0) rfl (.inl h0)) (pa_cons pe_str pa_nil)) (hcall _ _)))
      (pss_one (ps_fst Z (pe_var (i := 0) rfl (.inl h0)) (pe_var (i := 1) rfl (.inl h1) d1 d2))), ?_⟩
    exact ⟨_, rfl, a, C, [_], rfl, (by show 1 ≤ 1000; decide), T, ea, v, rfl, .ref a, rfl, a, C, rfl, T, nf, ea, fun dx n1 n2 => k dx n1 n2⟩
section
variable {B newId initId : String} {tl : List Value} {X : Cx} {W : WB} {e : Expr} {pos p : Pos} {te : DE} {c fld : Str} {C fI : Addr} {k : Nat} {fd : FuncData}
theorem s_raiseN (Z : BaseX B newId initId tl) (hc : X.calm = true) (tk : L2.Takes X W.wish) (T : OexN newId tl X.K C) (iC : PySem.W.findIn X.K (.ref C) "__init__" = some (some (.ref fI))) (tI : PySem.W.typeIn X.K (.ref fI) = some (.type "function"))
    (F : FnOk X.prog X.w X.K X.mg X.base (L2.CX X.prog X.w) k fI fd ["self", fld] (spInit C fld)) (hr : Room (k + 1) X.A) (hb : Binds X.K fd ["self", fld] []) (hm : X.mg c = some (.ref C)) (pe : DEx X W e te)
    (hg : Gl X c := by rfl) (hdb : (c == ("__debug__" : Str)) = false := by decide) (he : starEach (e :: []) X.env = (false, eval e X.env) :: starEach [] X.env := by rfl) (hpl : (backTo pos (starEach [] X.env)).any (·.1) = false := by rfl) {rpos : Pos} :
    DSx X W (.Raise (some (.Call (.Name c p) [e] [] pos)) none rpos) (sRaise c fld te) := by
  have pm := pmk_own (p := p) (pos := pos) (ta := lA (gm X) W (aCons te aNil)) (dvs := []) Z T iC tI F hr hb .nil (fun pins σ H s er s' I z => (passL (X := X)) pins σ H s er s' I z) hg hm (a_cons pe a_nil he) hdb he hpl
  refine PS.imp (ps_raise hc tk pm) fun Dn σ H ⟨ρ, env, h, R, E, q⟩ => ?_
  refine ⟨ρ, env, h, R, E, ?_⟩
  unfold sRaise at q
  have q := RO.res R E q
  show RR _ _ ρ H ((te env h).bind fun d h1 => ((Res.ok [] h1 : Res (List D)).bind fun ds h2 => Res.ok (d :: ds) h2)) _
  cases z : te env h with
  | exc x h1 => rw [z] at q; exact q
  | stuck => rw [z] at q; exact q
  | ok d h1 =>
    rw [z] at q
    intro ρ1 H1 x1 R1 vs rv
    have q1 := q ρ1 H1 x1 R1
    simp only [RDs] at rv
    obtain ⟨v, t, e1, rd, e2⟩ := rv
    subst e2; subst e1
    refine ⟨(by show 1 ≤ 1000; decide), fun a na => ⟨a, v, rfl, upd_same, fun dx n1 n2 => ⟨rfl, dx, [(fld, v)], upd_same, ?_, ?_, ?_⟩⟩⟩
    · rw [upd_ne n2, upd_same]
    · rw [upd_ne n2] at n1; exact n1
    · have n1' : H1 dx = none := by rw [upd_ne n2] at n1; exact n1
      have eH : upd (del (upd (upd (upd H1 a (exo a C none)) dx (exd dx [(fld, v)])) a (exo a C (some dx))) a) dx (.xd [(fld, v)]) = upd H1 dx (.xd [(fld, v)]) := by
        funext b
        by_cases b1 : b = dx
        · subst b1; rw [upd_same, upd_same]
        · rw [upd_ne b1, upd_ne b1]
          by_cases b2 : b = a
          · subst b2; rw [del_same, na]
          · rw [del_ne b2, upd_ne b2, upd_ne b1, upd_ne b2]
      rw [eH]
      have xe : Ext ρ1 H1 ρ1 (upd H1 dx (.xd [(fld, v)])) := Ext.tup n1'
      refine q1 ρ1 _ σ _ _ xe (R1.tup n1') ((E.mono x1 R).mono xe R1) ⟨C, hm, rfl, .inr ⟨dx, _, rfl, upd_same, ?_⟩⟩
      simp only [RFs]
      exact ⟨v, [], rfl, rd.mono xe R1, rfl⟩
end
/-! ### facts -/
def oexNB (newId : String) (tl : List Value) (K : PySem.W.Frag) (C : Addr) : Bool := (match K.lookup C with
  | some ⟨.type "type", _, .cls cd, sl⟩ => (match cd.mro, sl.toList with
    | .ref C' :: bm, [_, _, _, _, some (.builtin n), _] => C' == C && (n == newId && (!cd.hasDel && (cd.hasDict && ownThen tl bm)))
    | _, _ => false)
  | _ => false) && (He.eqO (PySem.W.findIn K (.ref C) "__setattr__") (some (some (.builtin "object.__setattr__"))) && (decide (PySem.W.subIn K (.ref C) (.type "BaseException") = some true) && (decide (PySem.W.typeIn K (.ref C) = some (.type "type")) && PySem.W.keepIn K (.ref C))))
theorem oexNB_ok {newId : String} {tl : List Value} {K : PySem.W.Frag} {C : Addr} (h : oexNB newId tl K C = true) : OexN newId tl K C := by
  unfold oexNB at h
  rw [Bool.and_eq_true, Bool.and_eq_true, Bool.and_eq_true, Bool.and_eq_true] at h
  obtain ⟨q, h1, h2, h3, h4⟩ := h
  refine ⟨?_, He.eqO_ok h1, of_decide_eq_true h2, of_decide_eq_true h3, h4⟩
  split at q
  · rename_i dd cd sl ho
    split at q
    · rename_i C' bm k0 k1 k2 k3 n k5 hm hs
      simp only [Bool.and_eq_true, beq_iff_eq, Bool.not_eq_true'] at q
      obtain ⟨rfl, rfl, hdel, hdd, ht⟩ := q
      obtain ⟨nm, bs, mro, ns, qn, hd, sn, sub, ab, col, del⟩ := cd
      dsimp only at hm hdel hdd
      subst hm hdel hdd
      obtain ⟨l⟩ := sl
      simp only at hs
      subst hs
      exact ⟨nm, qn, ns, bs, bm, sn, sub, ab, col, dd, k0, k1, k2, k3, k5, ho, ht⟩
    · cases q
  · cases q
structure OexN1 (newId : String) (tl : List Value) (K : PySem.W.Frag) (C fI : Addr) (fld : Str) : Prop where
  T : OexN newId tl K C
  ini : PySem.W.findIn K (.ref C) "__init__" = some (some (.ref fI))
  ty : PySem.W.typeIn K (.ref fI) = some (.type "function")
  nf : PySem.W.findIn K (.ref C) fld = some none
abbrev ofTail : List Value := [.type "OverflowError", .type "ArithmeticError", .type "Exception", .type "BaseException", .type "object"]
def xOexO (x fld : Str) : FaX := fun K => oexNB "OverflowError.__new__" ofTail K (He.ga K x) && (He.eqO (PySem.W.findIn K (.ref (He.ga K x)) "__init__") (some (some (.ref (He.ma K (He.ga K x) "__init__")))) && (decide (PySem.W.typeIn K (.ref (He.ma K (He.ga K x) "__init__")) = some (.type "function")) && He.eqO (PySem.W.findIn K (.ref (He.ga K x)) fld) (some none)))
theorem xOexO_ok {K : PySem.W.Frag} {x fld : Str} (h : xOexO x fld K = true) : OexN1 "OverflowError.__new__" ofTail K (He.ga K x) (He.ma K (He.ga K x) "__init__") fld := by
  unfold xOexO at h
  rw [Bool.and_eq_true, Bool.and_eq_true, Bool.and_eq_true] at h
  exact ⟨oexNB_ok h.1, He.eqO_ok h.2.1, of_decide_eq_true h.2.2.1, He.eqO_ok h.2.2.2⟩
end DL
/-! DLud: sorted(..) of a dict's keys; zip of tuples, the shorter one's end. -/
namespace DL
open PySem PySem.Spec PyProof.Rows L2
open PySem.W (EachIs AllAlike Sortable alike dataLe)
theorem vals_of {α : Type} {P : α → V → Prop} : ∀ {l : List α} {us : List Value}, us.length = l.length → (∀ (i : Nat) (x : α) (u : Value), l[i]? = some x → us[i]? = some u → ∃ v, P x v ∧ RelV v u) → ∃ vs : List V, Vals vs us ∧ Paired P l vs
  | [], [], _, _ => ⟨[], .nil, .nil⟩
  | x :: l, u :: us, hl, h => by
    obtain ⟨v, p, r⟩ := h 0 x u rfl rfl
    obtain ⟨vs, r2, p2⟩ := vals_of (l := l) (us := us) (by simpa using hl) fun i y w e1 e2 => h (i + 1) y w (by simpa using e1) (by simpa using e2)
    exact ⟨v :: vs, .cons r r2, .cons p p2⟩
  | [], _ :: _, hl, _ => by simp at hl
  | _ :: _, [], hl, _ => by simp at hl
/-- sorted(d): the keys stand for data that can be compared -/
def rSrtD (K : PySem.W.Frag) : List V → Hp → VK → Prop := fun xs H Q => ∃ (a : Addr) (lk : Bool) (o : Obj) (es : List DictEntry) (ep : Nat) (zs : List (V × PyData)), xs = [.ref a] ∧ H a = some (dctO lk o a es.toArray ep) ∧ (a == sysModules) = false ∧ es.length ≤ sizeLine ∧
  Vals (zs.map (·.1)) (es.map (·.key)) ∧ (∀ z ∈ zs, Dp K H z.1 z.2) ∧ AllAlike (zs.map (·.2)) ∧ Sortable (zs.map (·.2)) ∧ (∀ z ∈ zs, z.2.depth ≤ 12) ∧ ∀ p, H p = none → Q (.ref p) (upd H p (.lst ((zs.mergeSort (dataLe false fun z => z.2)).map (·.1))))
theorem call_srtD {X : Cx} (hc : X.calm = true) (hu : X.A.units + 100 < cLine) : CallR X (.builtin "sorted") (rSrtD X.K) := by
  intro pins s σ H xs us Q I r h
  obtain ⟨a, lk, o, es, ep, zs, rfl, eH, na, hz, rv, hd, hal, hk, hdp, q⟩ := h
  obtain ⟨u, rfl, ru⟩ := vals1 r
  obtain rfl : u = Value.ref a := ru
  have raw := raw_of I eH
  have lz : zs.length = es.length := by
    have := rv.length
    simp at this; omega
  refine Calls.call_function_entry PyProof.Rows.kind_sorted PyProof.Rows.plain_sorted PyProof.Rows.entry_sorted (PyProof.Rows.args_sorted1 _) ?_
  unfold Builtin.«sorted»
  refine wpAny_bind (m := checkCount "sorted" 1 1 _) (wpAny_pure ?_)
  refine wpAny_bind (PySem.W.kdu_collect (A := X.A.in1) (KdlSrc.rawDict (es := es.toArray) (ep := ep) na) (I.ok.hd hc) raw (by simpa using hz) fun h' tk acc kp hacc => ?_)
  have el : acc.toList.length = es.length := by rw [Array.length_toList, hacc.1]; simp
  have eq : acc.toList = es.map (·.key) := by
    apply List.ext_getElem?
    intro i
    rw [List.getElem?_map]
    cases z : acc.toList[i]? with
    | none =>
      have := List.getElem?_eq_none_iff.mp z
      rw [List.getElem?_eq_none (by omega)]; rfl
    | some v =>
      obtain ⟨hi, e⟩ := hacc.2 i v (by rw [← Array.getElem?_toList]; exact z)
      have hi' : i < es.length := by simpa using hi
      rw [List.getElem?_eq_getElem hi', e]
      simp
  have I1 : Inv X pins σ H { s with heap := h', toks := tk } := I.kept kp
  obtain ⟨e1, e2⟩ := each_of I1 rv hd
  refine wpAny_bind (wpAny_newList ?_ (by rw [el]; exact hz))
  rw [eq]
  have hoL : (h'.push (seqObj "list" (es.map (·.key)).toArray 0)).get? h'.objs.size = some (seqObj "list" (es.map (·.key)).toArray 0) := Heap.get?_push_size _ rfl
  show wpAny _ _ _ _ _ { s with heap := h'.push (seqObj "list" (es.map (·.key)).toArray 0), toks := tk }
  have er : EachIs (fun u (z : V × PyData) => ∃ as, Reads (h'.push (seqObj "list" (es.map (·.key)).toArray 0)) u z.2 as ∧ h'.objs.size ∉ as) (es.map (·.key)) zs := e2.mono fun v z ⟨as, rd⟩ => ⟨as, PyProof.Rows.Reads.keeps (fun b o e => Heap.get?_push_of_some _ e) rd, fun hm => by
    obtain ⟨o, e⟩ := PyProof.On.reads_mem_get rd _ hm
    exact Nat.lt_irrefl _ (Heap.lt_size e)⟩
  refine wpAny_bind (wpAny_holding (PySem.W.list_sort_data (enc := fun z : V × PyData => z.2) hoL e1 er hal hk (by rw [lz]; exact hz) (fun z hm => by
      have := hdp z hm
      have : X.A.in1.units ≤ X.A.units + 1 := Nat.le_refl _
      omega) fun out hol ho => ?_))
  obtain ⟨e', he'⟩ := PyProof.Rows.sortedHeap_at (vs := es.map (·.key)) (out := out.toArray) hoL
  refine wpAny_pure ⟨_, rfl, .ref h'.objs.size, upd H h'.objs.size (.lst ((zs.mergeSort (dataLe false fun z => z.2)).map (·.1))), I1.laid (t' := tk) (fun b u e => ?_) (Nat.le_refl _)
    (show ObjOk X.prog X.w _ _ _ (.lst ((zs.mergeSort (dataLe false fun z => z.2)).map (·.1))) from ⟨by rw [List.length_map, List.length_mergeSort, lz]; exact hz, out, e', vals_each ho, he'⟩), rfl, q _ (I1.hok.fresh (Nat.le_refl _))⟩
  have hb : b < h'.objs.size := Heap.lt_size e
  rw [PyProof.Rows.sortedHeap_old (Nat.ne_of_lt hb) (by rw [size_push']; exact Nat.lt_succ_of_lt hb)]
  exact Heap.get?_push_of_some _ e
def qSortedD (te : DE) : DA := fun env h => (te env h).bind fun d h1 => match asDct h1 d with
  | some (_, kvs) => if okSort h1 (kvs.map (·.1)) then .ok (srtD h1 (kvs.map (·.1))) h1 else .stuck
  | none => .stuck
theorem q_sortedD {X : Cx} {W : WB} {a : Expr} {te : DE} {pos p : Pos} (hc : X.calm = true) (hu : X.A.units + 100 < cLine) (hm : X.mg "sorted" = none) (pa : DEx X W a te) (hg : Gl X "sorted" := by rfl) (hs : starEach (a :: []) X.env = (false, eval a X.env) :: starEach [] X.env := by rfl) (hpl : (backTo pos (starEach [] X.env)).any (·.1) = false := by rfl) :
    DQx X W (.Call (.Name "sorted" p) [a] [] pos) (qSortedD te) :=
  PE.imp (pe_callB (call_srtD hc hu) hg hm (by decide +kernel) (pa_one pa hs) (by decide) (by decide) hs hpl) fun σ H Q ⟨ρ, env, h, R, E, q⟩ => lE.plug R E q fun d h1 ρ1 H1 v x1 R1 E1 r1 q1 => by
    cases z : asDct h1 d with
    | none => simp only [z] at q1; exact q1.elim
    | some pr =>
      obtain ⟨lk, kvs⟩ := pr
      simp only [z] at q1
      by_cases ok : okSort h1 (kvs.map (·.1)) = true
      · rw [if_pos ok] at q1
        obtain ⟨n, a, ed, ev, en, ea, _⟩ := asDct_at R1 z r1
        subst ed ev
        obtain ⟨ob, es, ep, eH, na, hz, pe, nn⟩ := R1.ok _ _ a en ea
        unfold okSort at ok
        rw [Bool.and_eq_true, Bool.and_eq_true] at ok
        obtain ⟨o1, o2, o3⟩ := ok
        obtain ⟨vs, rv, r⟩ : ∃ vs : List V, Vals vs (es.map (·.key)) ∧ RDs (gm X) ρ1 H1 (kvs.map (·.1)) vs := by
          clear q1 o1 o2 o3 z hz eH en nn
          induction pe with
          | nil => exact ⟨[], .nil, RDs.nil⟩
          | @cons p e kvs es x pe ih =>
            obtain ⟨vs, h1, h2⟩ := ih
            obtain ⟨k, kv, vv, _, _, rk, rl, _⟩ := x
            exact ⟨kv :: vs, .cons rl h1, RDs.cons rk h2⟩
        obtain ⟨zs, z1, z2, z3⟩ := rds_zip R1 o1 r
        have m1 : ∀ z ∈ zs, z.1 ∈ kvs.map (·.1) := fun z hz => by rw [← z1]; exact List.mem_map.mpr ⟨z, hz, rfl⟩
        refine ⟨a, lk, ob, es, ep, zs.map (·.2), rfl, eH, na, hz, ?_, ?_, ?_, ?_, ?_, fun p hp => ?_⟩
        · rw [List.map_map]; rw [← z2] at rv; exact rv
        · intro y hy
          obtain ⟨x, hx, rfl⟩ := List.mem_map.mp hy
          exact (z3 x hx).2.1
        · intro d hd d' hd'
          rw [List.map_map] at hd hd'
          obtain ⟨x, hx, rfl⟩ := List.mem_map.mp hd
          obtain ⟨x', hx', rfl⟩ := List.mem_map.mp hd'
          have := List.all_eq_true.mp (List.all_eq_true.mp o2 x.1 (m1 x hx)) x'.1 (m1 x' hx')
          show alike x.2.2 x'.2.2 = true
          rw [(z3 x hx).2.2.1, (z3 x' hx').2.2.1]
          exact this
        · rw [Bool.or_eq_true] at o3
          rcases o3 with o3 | o3
          · left
            intro d hd
            rw [List.map_map] at hd
            obtain ⟨x, hx, rfl⟩ := List.mem_map.mp hd
            have := List.all_eq_true.mp o3 x.1 (m1 x hx)
            show ∃ y r, x.2.2 = .tuple (y :: r)
            rw [(z3 x hx).2.2.1]
            unfold isTup at this
            split at this
            · exact ⟨_, _, by assumption⟩
            · cases this
          · right
            intro d hd
            rw [List.map_map] at hd
            obtain ⟨x, hx, rfl⟩ := List.mem_map.mp hd
            have := List.all_eq_true.mp o3 x.1 (m1 x hx)
            show x.2.2 ≠ .none ∧ ∀ xs, x.2.2 ≠ .tuple xs
            rw [(z3 x hx).2.2.1]
            unfold isOth at this
            split at this
            · cases this
            · cases this
            · rename_i n1 n2
              exact ⟨fun e => n2 e, fun xs e => n1 xs e⟩
        · intro y hy
          obtain ⟨x, hx, rfl⟩ := List.mem_map.mp hy
          exact (z3 x hx).2.2.2
        · have srt : (zs.mergeSort fun x y => dataLe false (encD h1) x.1 y.1).map (·.1) = srtD h1 (kvs.map (·.1)) := by
            rw [merge_fst (fun z : D × V × PyData => z.1) (dataLe false (encD h1)), z1]; rfl
          have srt2 : ((zs.map (·.2)).mergeSort (dataLe false fun z => z.2)) = (zs.mergeSort fun x y => dataLe false (encD h1) x.1 y.1).map (·.2) := by
            rw [List.map_mergeSort (s := dataLe false fun z : V × PyData => z.2) (r := fun x y : D × V × PyData => dataLe false (encD h1) x.1 y.1)]
            intro x hx y hy
            show dataLe false (encD h1) x.1 y.1 = dataLe false (fun z : V × PyData => z.2) x.2 y.2
            rw [PySem.W.dataLe_eq, PySem.W.dataLe_eq]
            dsimp only
            rw [(z3 x hx).2.2.1, (z3 y hy).2.2.1]
          rw [srt2, List.map_map]
          refine q1 ρ1 _ (Ext.tup hp) (R1.tup hp) p _ upd_same (R1.not hp) (x1.fresh R R1 hp) ?_
          rw [← srt]
          have pz : ∀ z ∈ (zs.mergeSort fun x y => dataLe false (encD h1) x.1 y.1), RD (gm X) ρ1 H1 z.1 z.2.1 := fun z hz => (z3 z (List.mem_mergeSort.mp hz)).1
          refine RDs.mono (Ext.tup hp) R1 ?_
          clear srt srt2
          generalize (zs.mergeSort fun x y => dataLe false (encD h1) x.1 y.1) = ys at pz
          induction ys with
          | nil => simp [RDs]
          | cons y ys ih =>
            simp only [List.map_cons, RDs]
            exact ⟨_, _, rfl, pz y (by simp), ih fun z hz => pz z (by simp [hz])⟩
      · rw [if_neg ok] at q1; exact q1.elim
/-! ### zip of tuples -/
theorem zipd_len2 : ∀ {xs ys : List D}, (zipd xs ys).length = min xs.length ys.length
  | [], _ => by simp [zipd]
  | _ :: _, [] => by simp [zipd]
  | x :: xs, y :: ys => by
    have := zipd_len2 (xs := xs) (ys := ys)
    simp [zipd, this]
theorem tup_stays {g : Gm} {ρ : List Addr} {H : Hp} {h : DH} {ds : List D} {v : V} (R : RH g ρ h H) (r : RD g ρ H (.tup ds) v) : ∃ a, v = .ref a ∧ (∃ vs, SqT g.K H a vs) ∧ ∀ ρ' H', Ext ρ H ρ' H' → ∃ vs, SqT g.K H' a vs ∧ RDs g ρ' H' ds vs := by
  have r' := r
  simp only [RD] at r'
  obtain ⟨a, vs, e, s, _⟩ := r'
  refine ⟨a, e, ⟨vs, s⟩, fun ρ' H' x => ?_⟩
  have r2 := r.mono x R
  simp only [RD] at r2
  obtain ⟨a', vs', e', s', q⟩ := r2
  rw [e] at e'
  cases e'
  exact ⟨vs', s', q⟩
theorem serves_zipT {g : Gm} {ρ : List Addr} {H : Hp} {a b : Addr} {ds es : List D} (S : ∀ ρ' H', Ext ρ H ρ' H' → ∃ vs, SqT g.K H' a vs ∧ RDs g ρ' H' ds vs) (S' : ∀ ρ' H', Ext ρ H ρ' H' → ∃ vs, SqT g.K H' b vs ∧ RDs g ρ' H' es vs) :
    Serves g (RZ.ItzT g.K a b) ρ H (zipd ds es) (fun _ => true) := fun i ρ' h' H' x R' lv => by
  obtain ⟨vs, s, r⟩ := S ρ' H' x
  obtain ⟨us, s', r'⟩ := S' ρ' H' x
  have l1 := r.length
  have l2 := r'.length
  refine ⟨fun d e => ?_, fun hi => ?_⟩
  · obtain ⟨c, c', ec, ec', e2⟩ := zipd_at e
    subst e2
    obtain ⟨v, ev, rv⟩ := r.at ec
    obtain ⟨u, eu, ru⟩ := r'.at ec'
    exact ⟨⟨vs, us, v, u, s, s', ev, eu⟩, fun t H2 y => by
      obtain ⟨T, w, w', rfl, hT, rfl, y, y'⟩ := y
      have := y vs s
      rw [ev] at this; cases this
      have := y' us s'
      rw [eu] at this; cases this
      exact pairRD R' hT rv ru⟩
  · rw [zipd_len2] at hi
    exact ⟨vs, us, s, s', by omega⟩
def dZipT (ta tb : DE) : DI := fun env h => (ta env h).bind fun x h1 => (tb env h1).bind fun y h2 => match x, y with
  | .tup ds, .tup es => .ok (zipd ds es, fun _ => true) h2
  | _, _ => .stuck
section
variable {X : Cx} {W : WB} {a b : Expr} {ta tb : DE} {p pos tpos : Pos} {elts : List Expr} {kk : Nat}
theorem i_zipT (hm : X.mg "zip" = none) (pa : DEx X W a ta) (pb : DEx X W b tb) (hg : Gl X "zip" := by rfl) (hs : starEach (a :: [b]) X.env = (false, eval a X.env) :: starEach [b] X.env := by rfl) (hs2 : starEach (b :: []) X.env = (false, eval b X.env) :: starEach [] X.env := by rfl) (hpl : (backTo pos (starEach [b] X.env)).any (·.1) = false := by rfl) :
    DIx X W (.Tuple elts kk tpos) (.Call (.Name "zip" p) [a, b] [] pos) (dZipT ta tb) :=
  PI.imp (RZ.pi_zipA hg hm (pa_cons pa (pa_one pb hs2) hs) hs hpl) fun σ H Q ⟨ρ, env, h, R, E, q⟩ => lE.plug R E q fun x h1 ρ1 H1 v x1 R1 E1 r1 q1 => lE.plug R1 E1 q1 fun y h2 ρ2 H2 u x2 R2 E2 r2 q2 => by
    cases x with
    | tup ds =>
      cases y with
      | tup es =>
        obtain ⟨c, e1, ⟨vs, s⟩, S⟩ := tup_stays R2 (r1.mono x2 R1)
        obtain ⟨c', e1', ⟨us, s'⟩, S'⟩ := tup_stays R2 r2
        exact ⟨c, c', vs, us, by rw [e1, e1'], .inr ⟨s, s', q2 ρ2 H2 (Ext.refl _ _) R2 _ (serves_zipT S S')⟩⟩
      | _ => exact q2.elim
    | _ => exact q2.elim
end
end DL
/-! DLy: dicts compared; own classes: facts, len, ==, isinstance; lists the other way round. -/
namespace DL
open PySem PySem.Spec PyProof.Rows L2

section
variable {prog : Program} {w : World} {K : Type} [DecidableEq K] {knd : HeapKind prog w K} {A : Around} {E : Value → Shared → Prop} {s : Shared}
/-- entry by entry: is the key there, with an equal value -/
inductive Meet {K : Type} [DecidableEq K] (A : Around) (s : Shared) (ys : List (K × Addr × Value)) : List (K × Addr × Value) → Bool → Prop
  | fin : Meet A s ys [] true
  | out {x : K × Addr × Value} {l : List (K × Addr × Value)} : atKey ys x.1 = none → Meet A s ys (x :: l) false
  | on {x : K × Addr × Value} {l : List (K × Addr × Value)} {p : Addr × Value} {c d : Bool} : atKey ys x.1 = some p → SeqAt.EqAt A s x.2.2 p.2 c → Meet A s ys l d → Meet A s ys (x :: l) (c && d)
theorem Meet.look {ys : List (K × Addr × Value)} {x : K × Addr × Value} {l : List (K × Addr × Value)} {r : Bool} (m : Meet A s ys (x :: l) r) :
    (atKey ys x.1 = none ∧ r = false) ∨ ∃ p c d, atKey ys x.1 = some p ∧ SeqAt.EqAt A s x.2.2 p.2 c ∧ Meet A s ys l d ∧ r = (c && d) := by
  cases m with
  | out h => exact .inl ⟨h, rfl⟩
  | on h1 h2 h3 => exact .inr ⟨_, _, _, h1, h2, h3, rfl⟩
theorem pairs_same {nm : String} {a b : Addr} {xs ys : List (K × Addr × Value)} {r : Bool} {Q : Bool → Shared → Prop} (na : (a == sysModules) = false) (nb : (b == sysModules) = false) (hu : knd.room A)
    (da : s.heap.DictOfH knd a xs) (db : s.heap.DictOfH knd b ys) (m : xs.length = ys.length → Meet A s ys xs r) (q : Q (xs.length == ys.length && r) s) : wpAny (model prog w) A (Builtin.Dict.samePairs nm a b) Q E s := by
  obtain ⟨o1, e1, p1, g1, _, d1, t1, i1, _⟩ := da
  obtain ⟨o2, e2, p2, g2, _, d2, t2, i2, n2⟩ := db
  have z1 : e1.size = xs.length := size_of_entries t1
  have z2 : e2.size = ys.length := size_of_entries t2
  rw [← z1, ← z2] at q
  unfold Builtin.Dict.samePairs Builtin.Dict.showsAll
  rw [if_neg (by rw [na]; decide), if_neg (by rw [nb]; decide)]
  refine wpAny_bind (wpAny_pure (wpAny_bind (wpAny_pure (wpAny_bind (wpAny_dictEntries g1 d1 ?_)))))
  dsimp only
  refine wpAny_bind (wpAny_dictEntries g2 d2 ?_)
  by_cases hz : e1.size = e2.size
  case neg =>
    have hb : (e1.size == e2.size) = false := by simpa using hz
    rw [hb] at q
    rw [if_pos (by simpa using hz)]
    exact wpAny_bind (wpAny_rule (wpAny_pure (by simpa using q)))
  case pos =>
    have q' : Q r s := by simpa [hz] using q
    have m' := m (by rw [← z1, ← z2]; exact hz)
    rw [if_neg (by simp [hz])]
    refine wpAny_bind (wpAny_dictEpoch g1 d1 (wpAny_bind ?_))
    rw [Std.Legacy.Range.forIn_eq_forIn_range', show (_ : Std.Legacy.Range).size = e1.size by simp [Std.Legacy.Range.size]]
    refine wpAny_forIn_list _ (fun l u s' => s' = s ∧ u = (none, ()) ∧ ∃ i, l = List.range' i (e1.size - i) ∧ i ≤ e1.size ∧ Meet A s ys (xs.drop i) r) _ ?_ ?_ _ _ ⟨rfl, rfl, 0, by simp, Nat.zero_le _, m'⟩
    · rintro x l u s' ⟨rfl, rfl, i, hl, hi, mi⟩
      have lt : i < e1.size := by
        by_cases c : i < e1.size
        · exact c
        · rw [show e1.size - i = 0 by omega] at hl; cases hl
      rw [show e1.size - i = (e1.size - (i + 1)) + 1 by omega, List.range'_succ] at hl
      obtain ⟨rfl, rfl⟩ := List.cons.inj hl
      have lx : x < xs.length := by omega
      have ex : e1[x]? = some (entryOfKey knd (xs[x]'lx)) := by rw [entry_at t1, List.getElem?_eq_getElem lx]; rfl
      rw [List.drop_eq_getElem_cons lx] at mi
      have ki := i1 _ (List.getElem_mem lx)
      generalize xs[x]'lx = y at ex mi ki
      refine wpAny_bind (wpAny_dictEntries g1 d1 ?_)
      rw [ex]
      refine wpAny_bind (wpAny_holding ?_)
      refine wpAny_bind (wpAny_dictFind_heap (knd := knd) (k := y.1) (a := y.2.1) hu ki g2 d2 t2 i2 n2 (fun hno => ?_) fun j p hj => ?_)
      · rcases mi.look with ⟨h1, rfl⟩ | ⟨p, _, _, h1, _⟩
        · refine wpAny_pure ?_
          show wpAny _ _ (if (!false) = true then _ else _) _ _ _
          rw [if_pos (show (!false) = true by decide)]
          exact wpAny_pure (wpAny_pure q')
        · rw [atKey_none_of_get hno] at h1; cases h1
      · have ej : e2[j]? = some (entryOfKey knd (y.1, p)) := by rw [entry_at t2, hj]; rfl
        refine wpAny_bind (wpAny_dictEntries g2 d2 ?_)
        rw [ej]
        rcases mi.look with ⟨h1, _⟩ | ⟨p', c, d, h1, h2, h3, hr⟩
        · rw [atKey_of_get n2 hj] at h1; cases h1
        · rw [atKey_of_get n2 hj] at h1; cases h1
          refine wpAny_holding (h2 prog w _ _ ?_)
          cases c with
          | false =>
            rw [hr, Bool.false_and] at q'
            show wpAny _ _ (if (!false) = true then _ else _) _ _ _
            rw [if_pos (show (!false) = true by decide)]
            exact wpAny_pure (wpAny_pure q')
          | true =>
            rw [Bool.true_and] at hr
            subst hr
            show wpAny _ _ (if (!true) = true then _ else _) _ _ _
            rw [if_neg (by decide)]
            refine wpAny_bind (wpAny_dictEpoch g1 d1 ?_)
            rw [if_neg (by simp)]
            exact wpAny_pure ⟨rfl, rfl, x + 1, rfl, lt, h3⟩
    · rintro u s' ⟨rfl, rfl, i, hl, hi, mi⟩
      have hin : i = e1.size := by
        by_cases c : i < e1.size
        · rw [show e1.size - i = (e1.size - (i + 1)) + 1 by omega, List.range'_succ] at hl; cases hl
        · omega
      refine wpAny_pure ?_
      rw [hin, z1, List.drop_length] at mi
      cases mi
      exact q'
theorem dict_eqH {a b : Addr} {xs ys : List (K × Addr × Value)} {r : Bool} {Q : Value → Shared → Prop} (na : (a == sysModules) = false) (nb : (b == sysModules) = false) (hk : knd.room A.in1) (hu : A.units < cLine)
    (da : s.heap.DictOfH knd a xs) (db : s.heap.DictOfH knd b ys) (m : xs.length = ys.length → Meet A.in1 s ys xs r) (q : Q (.bool (xs.length == ys.length && r)) s) : wpAny (model prog w) A (compareOp .Eq (.ref a) (.ref b)) Q E s := by
  refine wpAny_richCompare_same_room (op := .Eq) da.typeIs db.typeIs PySem.F.slot_dict_eq (wpAny_call_entry PySem.F.slot_dict_eq da.typeIs PySem.F.entry_dict_eq (by
    show wpAny _ _ (Builtin.Dict.dictSlotArgs "__eq__" ⟨[.ref a, .ref b], []⟩ >>= _) _ _ s
    unfold Builtin.Dict.dictSlotArgs
    refine wpAny_bind (wpAny_bind (wpAny_notOrdered_dict da.typeIs ?_))
    change wpAny _ _ (pure (Value.ref a, Value.ref b)) _ _ s
    refine wpAny_pure (wpAny_bind (wpAny_isInstance (T := "dict") db.typeIs PySem.F.sub_dict_dict ?_))
    rw [if_neg (by decide)]
    refine wpAny_bind (wpAny_pure ?_)
    refine wpAny_bind (wpAny_pure ?_)
    refine wpAny_bind (pairs_same na nb hk da db m ?_)
    refine wpAny_pure ⟨_, rfl, ?_, ?_⟩
    · exact fun x => nomatch x
    · simpa using q) (PySem.F.args_dict_eq_2 _ _)) hu
theorem dict_neH {a b : Addr} {xs ys : List (K × Addr × Value)} {r : Bool} {Q : Value → Shared → Prop} (na : (a == sysModules) = false) (nb : (b == sysModules) = false) (hk : knd.room A.in1) (hu : A.units < cLine)
    (da : s.heap.DictOfH knd a xs) (db : s.heap.DictOfH knd b ys) (m : xs.length = ys.length → Meet A.in1 s ys xs r) (q : Q (.bool (!(xs.length == ys.length && r))) s) : wpAny (model prog w) A (compareOp .NotEq (.ref a) (.ref b)) Q E s := by
  refine wpAny_richCompare_same_room (op := .NotEq) da.typeIs db.typeIs PySem.F.slot_dict_ne (wpAny_call_entry PySem.F.slot_dict_ne da.typeIs PySem.F.entry_dict_ne (by
    show wpAny _ _ (Builtin.Dict.dictSlotArgs "__ne__" ⟨[.ref a, .ref b], []⟩ >>= _) _ _ s
    unfold Builtin.Dict.dictSlotArgs
    refine wpAny_bind (wpAny_bind (wpAny_notOrdered_dict da.typeIs ?_))
    change wpAny _ _ (pure (Value.ref a, Value.ref b)) _ _ s
    refine wpAny_pure (wpAny_bind (wpAny_isInstance (T := "dict") db.typeIs PySem.F.sub_dict_dict ?_))
    rw [if_neg (by decide)]
    refine wpAny_bind (wpAny_pure ?_)
    refine wpAny_bind (wpAny_pure ?_)
    refine wpAny_bind (pairs_same na nb hk da db m ?_)
    refine wpAny_pure ⟨_, rfl, ?_, ?_⟩
    · exact fun x => nomatch x
    · simpa using q) (PySem.F.args_dict_ne_2 _ _)) hu
end
/-! ### by functions -/
/-- every entry of the one stands in the other -/
def meetD (h : DH) (ls : List (D × D)) : List (D × D) → Option Bool
  | [] => some true
  | p :: r => match dget ls p.1 with
    | none => some false
    | some d => (toPy h 12 p.2).bind fun a => (toPy h 12 d).bind fun b => (meetD h ls r).map fun c => PyData.eqv a b && c
def eqDct (h : DH) (ks ls : List (D × D)) : Option Bool := if ks.length = ls.length then meetD h ls ks else some false
section
variable {X : Cx} {W : WB} {pins : List (Addr × Obj)} {σ : L2.St} {H : Hp} {s : Shared} {ρ : List Addr} {h : DH}
theorem meet_of (hu : X.A.units + 100 < cLine) (I : Inv X pins σ H s) (R : RH (gm X) ρ h H) {ls : List (D × D)} {ys : List (NestedKey × Addr × Value)} (py : Paired (KX (gm X) ρ H) ls ys) :
    ∀ {ks : List (D × D)} {xs : List (NestedKey × Addr × Value)} {r : Bool}, Paired (KX (gm X) ρ H) ks xs → meetD h ls ks = some r → Meet X.A.in1 s ys xs r
  | [], _, r, .nil, e => by simp only [meetD, Option.some.injEq] at e; subst e; exact .fin
  | p :: ks, x :: xs, r, .cons q t, e => by
    have ek := kx_nk q
    simp only [meetD] at e
    rcases kx_get (k := p.1) py with ⟨g1, g2⟩ | ⟨d, b, u, vv, g1, g2, g3, g4⟩
    · rw [g1] at e
      cases e
      exact .out (by rw [← ek]; exact g2)
    · rw [g1] at e
      dsimp only at e
      obtain ⟨pa, e1, e⟩ := Option.bind_eq_some_iff.mp e
      obtain ⟨pb, e2, e⟩ := Option.bind_eq_some_iff.mp e
      obtain ⟨c, e3, e⟩ := Option.map_eq_some_iff.mp e
      subst e
      obtain ⟨_, _, _, v1, r1, v2⟩ := q
      obtain ⟨d1, s1⟩ := toPyM_ok R (m := .v p.2) e1 r1
      obtain ⟨d2, s2⟩ := toPyM_ok R (m := .v d) e2 g3
      obtain ⟨as, l1⟩ := Dp.reads I pa v1 _ d1 v2
      obtain ⟨bs, l2⟩ := Dp.reads I pb vv _ d2 g4
      exact .on (p := (b, u)) (by rw [← ek]; exact g2) (PySem.W.keq_at l1 l2 s1 s2 (by
        have : X.A.in1.units ≤ X.A.units + 1 := Nat.le_refl _
        omega)) (meet_of hu I R py t e3)
def oEqD (k : Bool → Bool) : D → D → DH → Res D := fun x y h => match asDct h x, asDct h y with
  | some (_, ks), some (_, ls) => if tupKs ks && tupKs ls then (match eqDct h ks ls with
    | some r => .ok (.bl (k r)) h
    | none => .stuck) else .stuck
  | _, _ => .stuck
def rEqDct (X : Cx) (k : Bool → Bool) : R2 := fun x y H Q => ∃ ρ h d e lk ks lk' ls r, RH (gm X) ρ h H ∧ asDct h d = some (lk, ks) ∧ asDct h e = some (lk', ls) ∧ RD (gm X) ρ H d x ∧ RD (gm X) ρ H e y ∧ (tupKs ks && tupKs ls) = true ∧ eqDct h ks ls = some r ∧ Q (.bl (k r)) H
theorem eqd_in (hu : X.A.units + 100 < cLine) (I : Inv X pins σ H s) (R : RH (gm X) ρ h H) {d e : D} {x y : V} {lk lk' : Bool} {ks ls : List (D × D)} {r : Bool} (ed : asDct h d = some (lk, ks)) (ee : asDct h e = some (lk', ls)) (rd : RD (gm X) ρ H d x) (re : RD (gm X) ρ H e y) (zk : (tupKs ks && tupKs ls) = true) (q : eqDct h ks ls = some r) :
    ∃ (a b : Addr) (xs ys : List (NestedKey × Addr × Value)) (m : Bool), x = .ref a ∧ y = .ref b ∧ (a == sysModules) = false ∧ (b == sysModules) = false ∧ s.heap.DictOfH (nestedKind X.prog X.w) a xs ∧ s.heap.DictOfH (nestedKind X.prog X.w) b ys ∧ (xs.length = ys.length → Meet X.A.in1 s ys xs m) ∧ r = (xs.length == ys.length && m) := by
  rw [Bool.and_eq_true] at zk
  obtain ⟨n, a, rfl, rfl, q3, q4, _⟩ := asDct_at R ed rd
  obtain ⟨n', b, rfl, rfl, q3', q4', _⟩ := asDct_at R ee re
  obtain ⟨xs, hs, hm, hl, px, _⟩ := dict_at I R q3 q4 zk.1
  obtain ⟨ys, hs', hm', hl', py, _⟩ := dict_at I R q3' q4' zk.2
  have lx : ks.length = xs.length := Paired.length px
  have ly : ls.length = ys.length := Paired.length py
  unfold eqDct at q
  by_cases c : ks.length = ls.length
  · rw [if_pos c] at q
    exact ⟨a, b, xs, ys, r, rfl, rfl, hs, hs', hm, hm', fun _ => meet_of hu I R py px q, by rw [show (xs.length == ys.length) = true by simp; omega]; rfl⟩
  · rw [if_neg c] at q
    cases q
    exact ⟨a, b, xs, ys, false, rfl, rfl, hs, hs', hm, hm', fun e => absurd (by omega) c, by simp⟩
theorem op_eqDct (hu : X.A.units + 100 < cLine) : OpR X (compareOp .Eq) (rEqDct X id) := by
  intro pins s σ H x y v u Q I rx ry ⟨ρ, h, d, e, lk, ks, lk', ls, r, R, ed, ee, rd, re, zk, er, q⟩
  obtain ⟨a, b, xs, ys, m, rfl, rfl, na, nb, da, db, mt, rfl⟩ := eqd_in hu I R ed ee rd re zk er
  cases rx; cases ry
  exact dict_eqH na nb (room8 hu) (by omega) da db mt ⟨.bl _, H, I, rfl, q⟩
theorem op_neDct (hu : X.A.units + 100 < cLine) : OpR X (compareOp .NotEq) (rEqDct X not) := by
  intro pins s σ H x y v u Q I rx ry ⟨ρ, h, d, e, lk, ks, lk', ls, r, R, ed, ee, rd, re, zk, er, q⟩
  obtain ⟨a, b, xs, ys, m, rfl, rfl, na, nb, da, db, mt, rfl⟩ := eqd_in hu I R ed ee rd re zk er
  cases rx; cases ry
  exact dict_neH na nb (room8 hu) (by omega) da db mt ⟨.bl _, H, I, rfl, q⟩
theorem o_eqDct {k : Bool → Bool} : OpD (gm X) (rEqDct X k) (oEqD k) := fun W ρ h H x y v u Q R rx ry q => by
  unfold oEqD at q
  split at q
  · rename_i lk ks lk' ls z1 z2
    split at q
    · rename_i zk
      cases er : eqDct h ks ls with
      | none => rw [er] at q; exact q.elim
      | some r =>
        rw [er] at q
        exact ⟨ρ, h, x, y, lk, ks, lk', ls, r, R, z1, z2, rx, ry, zk, er, q ρ H (Ext.refl _ _) R _ (by simp [RD])⟩
    · exact q.elim
  · exact q.elim
variable {a b e : Expr} {ta tb te : DE} {pos : Pos}
theorem d_eqD (hu : X.A.units + 100 < cLine) (ha : DEx X W a ta) (hb : DEx X W b tb) : DEx X W (.Compare a [.Eq] [b] pos) (dOp (oEqD id) ta tb) := d_cmp (op_eqDct hu) o_eqDct ha hb
theorem d_neD (hu : X.A.units + 100 < cLine) (ha : DEx X W a ta) (hb : DEx X W b tb) : DEx X W (.Compare a [.NotEq] [b] pos) (dOp (oEqD not) ta tb) := d_cmp (op_neDct hu) o_eqDct ha hb
theorem t_eqD (hu : X.A.units + 100 < cLine) (ha : DEx X W a ta) (hb : DEx X W b tb) : DTx X W (.Compare a [.Eq] [b] pos) (dB (dOp (oEqD id) ta tb)) := d_testc (op_eqDct hu) o_eqDct ha hb
theorem t_neD (hu : X.A.units + 100 < cLine) (ha : DEx X W a ta) (hb : DEx X W b tb) : DTx X W (.Compare a [.NotEq] [b] pos) (dB (dOp (oEqD not) ta tb)) := d_testc (op_neDct hu) o_eqDct ha hb
end
end DL
/-! DLy2: own classes: facts, len, ==, !=, isinstance; lists the other way round; an empty tuple as default. -/
namespace DL
open PySem PySem.Spec PyProof.Rows L2
def xCls (x : Str) : FaX := fun K => (He.Fa.cls x).ok K
def xMkr (x : Str) : FaX := fun K => (He.Fa.mkr x).ok K
def xNoat (x f : Str) : FaX := fun K => (He.Fa.noat x f).ok K
def xMeth (x m : Str) : FaX := fun K => (He.Fa.meth x m).ok K
/-- an empty tuple of the written part -/
def Tup0 (K : PySem.W.Frag) (a : Addr) : Prop := ∃ dd n sl, K.lookup a = some ⟨.type "tuple", dd, .seq #[] n, sl⟩
def xTup0 (f : Str × Option Str) (i : Nat) : FaX := fun K => match K.lookup (He.dflAt f i K) with
  | some ⟨.type "tuple", _, .seq its _, _⟩ => its.isEmpty
  | _ => false
theorem xTup0_ok {K : PySem.W.Frag} {f : Str × Option Str} {i : Nat} (h : xTup0 f i K = true) : Tup0 K (He.dflAt f i K) := by
  unfold xTup0 at h
  split at h
  · rename_i dd its n sl e
    have : its = #[] := by simpa using h
    subst this
    exact ⟨_, _, _, e⟩
  · cases h
theorem rds_tup0 {g : Gm} {ρ : List Addr} {H : Hp} {a : Addr} (z : Tup0 g.K a) : RDs g ρ H [.tup []] [.ref a] := by
  obtain ⟨dd, n, sl, e⟩ := z
  simp only [RDs, RD]
  exact ⟨_, [], rfl, ⟨a, [], rfl, .inr ⟨_, #[], n, e, rfl, rfl, Nat.zero_le _, .nil⟩, rfl⟩, rfl⟩
/-- an own class without own !=, with own == -/
structure NeqC (K : PySem.W.Frag) (C : Addr) : Prop where
  ne : PySem.W.findIn K (.ref C) "__ne__" = some (some (.builtin "object.__ne__"))
  ob : PySem.W.subIn K (.ref C) (.type "object") = some true
def xNeq (x : Str) : FaX := fun K => He.eqO (PySem.W.findIn K (.ref (He.ga K x)) "__ne__") (some (some (.builtin "object.__ne__"))) && decide (PySem.W.subIn K (.ref (He.ga K x)) (.type "object") = some true)
theorem xNeq_ok {K : PySem.W.Frag} {x : Str} (h : xNeq x K = true) : NeqC K (He.ga K x) := by
  unfold xNeq at h
  rw [Bool.and_eq_true] at h
  exact ⟨He.eqO_ok h.1, of_decide_eq_true h.2⟩
/-! ### calls within built-ins -/
section
variable {X : Cx} {pins : List (Addr × Obj)} {σ : L2.St} {H : Hp} {s : Shared} {ρ : List Addr} {h : DH} {k n : Nat} {f C : Addr} {fd : FuncData} {ps : List Str} {Fd : FD} {gD : List D → List D → List D} {c : Str}
theorem own_call {A : Around} {Q : VK} {ds : List D} {us : List Value} {vs : List V} (hA : A.frames = X.A.frames) (F : FnOk X.prog X.w X.K X.mg X.base (L2.CX X.prog X.w) k f fd ps (spD (gm X) n Fd)) (hr : Room k A) (I : Inv X pins σ H s) (hb : KB (gm X) fd ps ds.length [] gD) (hgd : ∀ ds' zs, ds'.length = ds.length → zs.length = ([] : List Str).length → (gD ds' zs).length = n)
    (R : RH (gm X) ρ h H) (rd : RDs (gm X) ρ H ds vs) (r : Vals vs us) (q : RR (gm X) (fun _ _ _ => False) ρ H (Fd (gD ds []) h) fun d _ ρ' H' => ∀ v, RD (gm X) ρ' H' d v → Q v H') : wpAny (model X.prog X.w) A (call (.ref f) us) (EP X pins σ Q) X.xe s := by
  obtain ⟨gw, gv, kb, hrd⟩ := hb.ex
  have e0 : Env0 X.prog X.w X.K X.mg X.base A X.stack s H := by
    have e := I.env0
    exact ⟨by rw [hA]; exact e.frames, e.mod, e.bs, e.bsz, e.funs, e.frf, e.hok, e.bare⟩
  have lus : us.length = ds.length := by rw [← r.length, rd.length]
  have rr := hrd ρ H ds [] vs [] rd RDs.nil
  have sp : spD (gm X) n Fd (gv vs []) H Q (fun _ _ _ => False) := ⟨by rw [rr.length]; exact hgd _ _ rfl rfl, ρ, _, h, R, rr, q⟩
  have hbt := kb.to s us [] I.kIn lus rfl
  have run := F.run A X.stack s H ⟨us, []⟩ _ _ Q (fun _ _ _ => False) hr e0 (by simpa using hbt) (kb.rel r .nil) sp
  refine wpAny_call (codeAny_mono run fun y s' z => ?_)
  cases y with
  | error er =>
    obtain ⟨_, _, _, _, _, _, _, _, _, _, _, _, z⟩ := z
    exact z.elim
  | ok fl =>
    cases fl with
    | ret u => exact I.after z
    | next => exact z.elim
    | brk => exact z.elim
    | cont => exact z.elim
/-- an object of the class -/
def insAt (c : Str) (h : DH) : D → Bool
  | .ref n => match h[n]? with
    | some (.ins c' _) => decide (c' = c)
    | _ => false
  | _ => false
theorem insAt_ok (T : ClsD (gm X) c C) (R : RH (gm X) ρ h H) {d : D} {v : V} (e : insAt c h d = true) (r : RD (gm X) ρ H d v) : ∃ a dx fs, v = .ref a ∧ H a = some (.ins C dx fs) := by
  cases d with
  | ref n =>
    simp only [insAt] at e
    split at e
    · rename_i c' fs hz
      have zc := of_decide_eq_true e
      subst zc
      simp only [RD] at r
      obtain ⟨a, e1, e2⟩ := r
      obtain ⟨C', dx, fvs, m, e3, _⟩ := R.ok _ _ a hz e2
      have m2 := T.mg
      rw [m] at m2
      cases m2
      exact ⟨a, dx, fvs, e1, e3⟩
    · cases e
  | _ => cases e
/-- len(o) by an own __len__ -/
def fLenOwn (c : Str) (F : FD) (gD : List D → List D → List D) : DM → DH → Res D := fun m h => match m with
  | .v d => if insAt c h d then (match F (gD [d] []) h with
    | .ok (.int i) h2 => if 0 ≤ i ∧ i < 2 ^ 63 then .ok (.int i) h2 else .stuck
    | _ => .stuck) else .stuck
  | _ => .stuck
def rLenOwn (X : Cx) (c : Str) (F : FD) (gD : List D → List D → List D) : List V → Hp → VK → Prop := fun xs H Q => ∃ ρ h d v i h2, xs = [v] ∧ RH (gm X) ρ h H ∧ RD (gm X) ρ H d v ∧ insAt c h d = true ∧ F (gD [d] []) h = .ok (.int i) h2 ∧ 0 ≤ i ∧ i < 2 ^ 63 ∧ ∀ ρ' H', Ext ρ H ρ' H' → RH (gm X) ρ' h2 H' → Q (.int i) H'
theorem call_lenOwn (T : ClsD (gm X) c C) (M : Meth X.K C "__len__" f) (F : FnOk X.prog X.w X.K X.mg X.base (L2.CX X.prog X.w) k f fd ps (spD (gm X) n Fd)) (hr : Room (k + 1) X.A) (hb : KB (gm X) fd ps 1 [] gD) (hgd : ∀ ds zs, ds.length = 1 → zs.length = ([] : List Str).length → (gD ds zs).length = n) : CallR X (.builtin "len") (rLenOwn X c Fd gD) := by
  intro pins s σ H xs us Q I r ⟨ρ, h, d, v, i, h2, e0, R, rd, ins, ef, i0, i1, q⟩
  subst e0
  obtain ⟨u, rfl, rx⟩ := vals1 r
  obtain ⟨a, dx, fs, rfl, ea⟩ := insAt_ok T R ins rd
  cases rx
  obtain ⟨mA, J, _⟩ := ins_get I.hok ea
  obtain ⟨od, J, _⟩ := J.look
  obtain ⟨m, hF⟩ := I.fr
  refine PySem.W.len_K hF I.ok.mod.kin J M.at_ M.fn (wpAny_mono (own_call (A := X.A.in1) (Q := fun v H' => v = .int i ∧ Q (.int i) H') (ds := [d]) rfl F hr.in1 I hb hgd R (RDs.cons rd RDs.nil) (.cons rfl .nil) ?_) (fun u' s' ⟨v', H', I', rv, ev, q'⟩ => ?_) fun _ _ z => z)
  · rw [ef]
    intro ρ' H' x' R' v' r'
    simp only [RD] at r'
    exact ⟨r', q ρ' H' x' R'⟩
  · subst ev
    obtain ⟨t, rfl⟩ := rv
    exact ⟨⟨i0, i1⟩, .int i, H', I'.tok _, ⟨_, rfl⟩, q'⟩
theorem c_lenOwn : CallM (gm X) (rLenOwn X c Fd gD) (fLenOwn c Fd gD) := fun W ρ h H m v Q R rm q => by
  cases m with
  | l ds => exact q.elim
  | v d =>
    have r' : RD (gm X) ρ H d v := rm
    unfold fLenOwn at q
    dsimp only at q
    by_cases zi : insAt c h d = true
    · rw [if_pos zi] at q
      split at q
      · rename_i i h2 ef
        by_cases zb : 0 ≤ i ∧ i < 2 ^ 63
        · rw [if_pos zb] at q
          exact ⟨ρ, h, d, v, i, h2, rfl, R, r', zi, ef, zb.1, zb.2, fun ρ' H' x' R' => q ρ' H' x' R' _ (by simp [RD])⟩
        · rw [if_neg zb] at q; exact q.elim
      · exact q.elim
    · rw [if_neg zi] at q; exact q.elim
/-- o == p, o != p of two objects of one class, by its own __eq__ -/
def oEqOwn (c : Str) (F : FD) (gD : List D → List D → List D) (k : Bool → Bool) : D → D → DH → Res D := fun x y h => if insAt c h x && insAt c h y then (match F (gD [x, y] []) h with
    | .ok (.bl b) h2 => .ok (.bl (k b)) h2
    | _ => .stuck) else .stuck
def rEqOwn (X : Cx) (c : Str) (F : FD) (gD : List D → List D → List D) (k : Bool → Bool) : R2 := fun x y H Q => ∃ ρ h d e b h2, RH (gm X) ρ h H ∧ RD (gm X) ρ H d x ∧ RD (gm X) ρ H e y ∧ insAt c h d = true ∧ insAt c h e = true ∧ F (gD [d, e] []) h = .ok (.bl b) h2 ∧ ∀ ρ' H', Ext ρ H ρ' H' → RH (gm X) ρ' h2 H' → Q (.bl (k b)) H'
theorem o_eqOwn {k : Bool → Bool} : OpD (gm X) (rEqOwn X c Fd gD k) (oEqOwn c Fd gD k) := fun W ρ h H x y v u Q R rx ry q => by
  unfold oEqOwn at q
  split at q
  · rename_i zi
    rw [Bool.and_eq_true] at zi
    split at q
    · rename_i b h2 ef
      exact ⟨ρ, h, x, y, b, h2, R, rx, ry, zi.1, zi.2, ef, fun ρ' H' x' R' => q ρ' H' x' R' _ (by simp [RD])⟩
    · exact q.elim
  · exact q.elim
theorem op_eqOwn (T : ClsD (gm X) c C) (M : Meth X.K C "__eq__" f) (F : FnOk X.prog X.w X.K X.mg X.base (L2.CX X.prog X.w) k f fd ps (spD (gm X) n Fd)) (hr : Room k X.A) (hb : KB (gm X) fd ps 2 [] gD) (hgd : ∀ ds zs, ds.length = 2 → zs.length = ([] : List Str).length → (gD ds zs).length = n) : OpR X (compareOp .Eq) (rEqOwn X c Fd gD id) := by
  intro pins s σ H x y v u Q I rx ry ⟨ρ, h, d, e, b, h2, R, rd, re, i1, i2, ef, q⟩
  obtain ⟨a, dx, fs, rfl, ea⟩ := insAt_ok T R i1 rd
  obtain ⟨a', dx', fs', rfl, ea'⟩ := insAt_ok T R i2 re
  cases rx; cases ry
  obtain ⟨mA, J, _⟩ := ins_get I.hok ea
  obtain ⟨mB, J', _⟩ := ins_get I.hok ea'
  obtain ⟨od, J, _⟩ := J.look
  obtain ⟨od', J', _⟩ := J'.look
  obtain ⟨m, hF⟩ := I.fr
  refine PySem.W.cmp_K (op := .Eq) (tb := .ref C) hr.units0 hF I.ok.mod.kin J J'.type (by simp [PySem.W.notFirst]) M.at_ M.fn (wpAny_mono (own_call (A := X.A) (Q := fun v H' => v = .bl b ∧ Q (.bl b) H') (ds := [d, e]) rfl F hr I hb hgd R (RDs.cons rd (RDs.cons re RDs.nil)) (.cons rfl (.cons rfl .nil)) ?_) (fun u' s' ⟨v', H', I', rv, ev, q'⟩ => ?_) fun _ _ z => z)
  · rw [ef]
    intro ρ' H' x' R' v' r'
    simp only [RD] at r'
    exact ⟨r', q ρ' H' x' R'⟩
  · subst ev
    cases rv
    exact ⟨.bl b, H', I', rfl, q'⟩
end
/-- o != p: the own __eq__, the other way about -/
theorem ne_own {prog : Program} {w : World} {A : Around} {E : Value → Shared → Prop} {s : Shared} {K : PySem.W.Frag} {x C f L : Addr} {h0 : Heap} {m : Str → Option Value} {ox : Obj} {od : Option Obj} {b : Value} {Q : Value → Shared → Prop} (hu : A.units + 2 < cLine) (Fg : Fr h0 L s.heap m) (X0 : K.In h0) (I : PySem.W.InstAt s.heap x ox C od)
    (hb : PySem.W.Looks (model prog w) s.heap (typeOf b) (.ref C)) (hs : PySem.W.findIn K (.ref C) "__eq__" = some (some (.ref f))) (hf : PySem.W.isFn K (.ref f) = true) (N : NeqC K C)
    (h : wpAny (model prog w) A.in1 (call (.ref f) [.ref x, b]) (fun v s' => ∃ c, v = .bool c ∧ Q (.bool (!c)) s') E s) : wpAny (model prog w) A (richCompare .NotEq (.ref x) b) Q E s := by
  have X := X0.keeps Fg.keep
  have body : wpAny (model prog w) A.in1 (Builtin.«object.__ne__» ⟨[.ref x, b], []⟩) (fun fin s' => ∃ v, fin = .done (.ret v) ∧ Q v s' ∧ ∃ c, v = .bool c) E s := by
    unfold Builtin.«object.__ne__»
    have hu1 : A.in1.units < cLine := by
      have : A.in1.units ≤ A.units + 1 := Nat.le_refl _
      omega
    repeat (first
      | with_reducible refine wpAny_cRoomFor hu1 ?_
      | (refine wpAny_bind (m := callSpecialIfBound? (.ref x) (Str.ofString "__eq__") [b]) (PySem.W.ifBound_K X I hs hf (wpAny_mono h (fun v s' hv => by
          obtain ⟨c, rfl, q⟩ := hv
          repeat (first | exact ⟨_, rfl, q, _, rfl⟩ | exact wpAny_pure ⟨_, rfl, q, _, rfl⟩ | (refine wpAny_bind (m := truthy (.bool _)) (wpAny_truthy_bool ?_)) | wp_step)) fun _ _ z => z)))
      | wp_step)
  have one : wpAny (model prog w) A (tryCompare (.ref x) "__ne__" b) (fun r s' => ∃ v, r = some v ∧ Q v s') E s := by
    unfold tryCompare
    have fin : wpAny (model prog w) A (call (.builtin "object.__ne__") [.ref x, b]) (fun v s' => Q v s' ∧ ∃ c, v = .bool c) E s :=
      wpAny_call (codeAny_call_builtin PySem.F.slot_object_ne.plain PySem.F.cmpEntry_ne (PySem.W.check_slot PySem.F.cmpKind_ne PySem.F.cmpSplit_ne (I.type.andThen (PySem.W.looks_subIn X N.ob)) (PySem.F.cmpArgs_ne _ _) (wpAny_mono body (fun fin s' ⟨v, e, q, c⟩ => by subst e; exact ⟨q, c⟩) fun _ _ z => z)))
    have fin2 : wpAny (model prog w) A (call (.builtin "object.__ne__") [.ref x, b] >>= fun v => pure (some v)) (fun r s' => ∃ c, r = some (.bool c) ∧ Q (.bool c) s') E s := wpAny_bind (wpAny_mono fin (fun v s' ⟨q, c, e⟩ => wpAny_pure ⟨c, by rw [e], by rw [e] at q; exact q⟩) fun _ _ z => z)
    have all : wpAny (model prog w) A (callSpecialIfBound? (.ref x) "__ne__" [b]) (fun r s' => ∃ c, r = some (.bool c) ∧ Q (.bool c) s') E s := by
      simp only [callSpecialIfBound?, bindSpecialIfBound?]
      refine wpAny_holding (wpAny_bind (wpAny_bind (wpAny_bind (I.type.here ((PySem.W.looks_findIn X N.ne).here ?_)))))
      simp only [PySem.F.slot_object_ne.bind]
      refine wpAny_bind (wpAny_askSetting (wpAny_ite ?_))
      split
      · exact wpAny_bind (wpAny_pure (wpAny_pure fin2))
      · exact wpAny_tryCatch (wpAny_bind (wpAny_pure (wpAny_pure fin2)))
    refine wpAny_bind (wpAny_mono all (fun r s' ⟨c, e, q⟩ => ?_) fun _ _ z => z)
    subst e
    exact wpAny_pure ⟨_, rfl, q⟩
  unfold richCompare
  simp only [oneThing_ref]
  refine wpAny_holding (wpAny_bind (wpAny_cRoomFor (by omega) (wpAny_bind (I.type.here (wpAny_bind (hb.here ?_))))))
  split
  · rename_i q
    simp at q
  · refine wpAny_bind (wpAny_pure ?_)
    rw [if_neg (by decide)]
    refine wpAny_bind (wpAny_mono one (fun r s' ⟨v, e, q⟩ => ?_) fun _ _ z => z)
    subst e
    exact wpAny_pure q
section
variable {X : Cx} {W : WB} {k n : Nat} {f C : Addr} {fd : FuncData} {ps : List Str} {Fd : FD} {gD : List D → List D → List D} {c x : Str} {a b e : Expr} {ta tb te : DE} {to : DO} {pos p p1 p2 p3 tpos : Pos}
theorem op_neOwn (T : ClsD (gm X) c C) (M : Meth X.K C "__eq__" f) (N : NeqC X.K C) (F : FnOk X.prog X.w X.K X.mg X.base (L2.CX X.prog X.w) k f fd ps (spD (gm X) n Fd)) (hr : Room (k + 1) X.A) (hb : KB (gm X) fd ps 2 [] gD) (hgd : ∀ ds zs, ds.length = 2 → zs.length = ([] : List Str).length → (gD ds zs).length = n) : OpR X (compareOp .NotEq) (rEqOwn X c Fd gD not) := by
  intro pins s σ H x y v u Q I rx ry ⟨ρ, h, d, e, b, h2, R, rd, re, i1, i2, ef, q⟩
  obtain ⟨a, dx, fs, rfl, ea⟩ := insAt_ok T R i1 rd
  obtain ⟨a', dx', fs', rfl, ea'⟩ := insAt_ok T R i2 re
  cases rx; cases ry
  obtain ⟨mA, J, _⟩ := ins_get I.hok ea
  obtain ⟨mB, J', _⟩ := ins_get I.hok ea'
  obtain ⟨od, J, _⟩ := J.look
  obtain ⟨od', J', _⟩ := J'.look
  obtain ⟨m, hF⟩ := I.fr
  have hu := hr.un
  refine ne_own (by omega) hF I.ok.mod.kin J J'.type M.at_ M.fn N (wpAny_mono (own_call (A := X.A.in1) (Q := fun v H' => v = .bl b ∧ Q (.bl (!b)) H') (ds := [d, e]) rfl F hr.in1 I hb hgd R (RDs.cons rd (RDs.cons re RDs.nil)) (.cons rfl (.cons rfl .nil)) ?_) (fun u' s' ⟨v', H', I', rv, ev, q'⟩ => ?_) fun _ _ z => z)
  · rw [ef]
    intro ρ' H' x' R' v' r'
    simp only [RD] at r'
    exact ⟨r', q ρ' H' x' R'⟩
  · subst ev
    cases rv
    exact ⟨b, rfl, .bl (!b), H', I', rfl, q'⟩
theorem d_lenOwn (hm : X.mg "len" = none) (T : ClsD (gm X) c C) (M : Meth X.K C "__len__" f) (F : FnOk X.prog X.w X.K X.mg X.base (L2.CX X.prog X.w) k f fd ps (spD (gm X) n Fd)) (hr : Room (k + 1) X.A) (hb : KB (gm X) fd ps 1 [] gD) (hgd : ∀ ds zs, ds.length = 1 → zs.length = ([] : List Str).length → (gD ds zs).length = n) (pa : DMx X W e to) (hg : Gl X "len" := by rfl)
    (hs : starEach (e :: []) X.env = (false, eval e X.env) :: starEach [] X.env := by rfl) (hpl : (backTo pos (starEach [] X.env)).any (·.1) = false := by rfl) : DEx X W (.Call (.Name "len" p) [e] [] pos) (dCallM (fLenOwn c Fd gD) to) :=
  d_callB (call_lenOwn T M F hr hb hgd) c_lenOwn hm (by decide +kernel) pa hg (by decide) (by decide) hs hs hpl
theorem d_eqOwn (T : ClsD (gm X) c C) (M : Meth X.K C "__eq__" f) (F : FnOk X.prog X.w X.K X.mg X.base (L2.CX X.prog X.w) k f fd ps (spD (gm X) n Fd)) (hr : Room k X.A) (hb : KB (gm X) fd ps 2 [] gD) (hgd : ∀ ds zs, ds.length = 2 → zs.length = ([] : List Str).length → (gD ds zs).length = n) (ha : DEx X W a ta) (hb' : DEx X W b tb) : DEx X W (.Compare a [.Eq] [b] pos) (dOp (oEqOwn c Fd gD id) ta tb) := d_cmp (op_eqOwn T M F hr hb hgd) o_eqOwn ha hb'
theorem t_eqOwn (T : ClsD (gm X) c C) (M : Meth X.K C "__eq__" f) (F : FnOk X.prog X.w X.K X.mg X.base (L2.CX X.prog X.w) k f fd ps (spD (gm X) n Fd)) (hr : Room k X.A) (hb : KB (gm X) fd ps 2 [] gD) (hgd : ∀ ds zs, ds.length = 2 → zs.length = ([] : List Str).length → (gD ds zs).length = n) (ha : DEx X W a ta) (hb' : DEx X W b tb) : DTx X W (.Compare a [.Eq] [b] pos) (dB (dOp (oEqOwn c Fd gD id) ta tb)) := d_testc (op_eqOwn T M F hr hb hgd) o_eqOwn ha hb'
theorem d_neOwn (T : ClsD (gm X) c C) (M : Meth X.K C "__eq__" f) (N : NeqC X.K C) (F : FnOk X.prog X.w X.K X.mg X.base (L2.CX X.prog X.w) k f fd ps (spD (gm X) n Fd)) (hr : Room (k + 1) X.A) (hb : KB (gm X) fd ps 2 [] gD) (hgd : ∀ ds zs, ds.length = 2 → zs.length = ([] : List Str).length → (gD ds zs).length = n) (ha : DEx X W a ta) (hb' : DEx X W b tb) : DEx X W (.Compare a [.NotEq] [b] pos) (dOp (oEqOwn c Fd gD not) ta tb) := d_cmp (op_neOwn T M N F hr hb hgd) o_eqOwn ha hb'
theorem t_neOwn (T : ClsD (gm X) c C) (M : Meth X.K C "__eq__" f) (N : NeqC X.K C) (F : FnOk X.prog X.w X.K X.mg X.base (L2.CX X.prog X.w) k f fd ps (spD (gm X) n Fd)) (hr : Room (k + 1) X.A) (hb : KB (gm X) fd ps 2 [] gD) (hgd : ∀ ds zs, ds.length = 2 → zs.length = ([] : List Str).length → (gD ds zs).length = n) (ha : DEx X W a ta) (hb' : DEx X W b tb) : DTx X W (.Compare a [.NotEq] [b] pos) (dB (dOp (oEqOwn c Fd gD not) ta tb)) := d_testc (op_neOwn T M N F hr hb hgd) o_eqOwn ha hb'
/-- xs[::-1] of a list -/
def qRevL (te : DE) : DA := fun env h => (te env h).bind fun d h1 => match asList h1 d with
  | some ds => .ok ds.reverse h1
  | none => .stuck
theorem RDs.reverse {g : Gm} {ρ : List Addr} {H : Hp} : ∀ {ds : List D} {vs : List V}, RDs g ρ H ds vs → RDs g ρ H ds.reverse vs.reverse
  | [], _, r => by simp only [RDs] at r; subst r; exact RDs.nil
  | d :: ds, vs, r => by
    simp only [RDs] at r
    obtain ⟨v, t, rfl, r1, r2⟩ := r
    rw [List.reverse_cons, List.reverse_cons]
    exact (RDs.reverse r2).append (RDs.cons r1 RDs.nil)
theorem q_revL {j : Nat} (pe : DEx X W e te) : DQx X W (.Subscript e (.Slice none none (some (.UnaryOp .USub (.Constant (.int 1) j p1) p2)) p3) pos) (qRevL te) :=
  PE.imp (pe_revL pe) fun σ H Q ⟨ρ, env, h, R, E, q⟩ => lE.plug R E q fun d h1 ρ1 H1 v x1 R1 E1 r1 q1 => by
    cases z : asList h1 d with
    | none => rw [z] at q1; exact q1.elim
    | some ds =>
      rw [z] at q1
      obtain ⟨a, vs, rfl, s, r⟩ := asList_sq R1 z r1
      exact ⟨a, vs, rfl, s, fun p hp => q1 ρ1 _ (Ext.tup hp) (R1.tup hp) p _ upd_same (R1.not hp) (x1.fresh R R1 hp) ((r.reverse).mono (Ext.tup hp) R1)⟩
/-! ### isinstance of an own class -/
structure IKit (K : PySem.W.Frag) (C : Addr) : Prop where
  ca : PySem.W.findIn K (.ref C) "__class__" = some (some (.builtin "object.__class__"))
  cn : PySem.W.specialIn K (.builtin "object.__class__") "__get__" = some (some (.builtin "getset_descriptor.__get__"))
  tk : PySem.W.takesIn K (.builtin "object.__class__") = some true
  mo : PySem.W.mroIn K C (.type "object") = some true
  own : PySem.W.kitOne K (.ref C) (.ref C) = some true
  oth : ∀ t : Ty, PySem.W.kitOne K (.type t.nm) (.ref C) = some false
def tysAll : List Ty := [.non, .bl, .int, .str, .tup, .lst, .dct]
def xIkit (x : Str) : FaX := fun K => decide (PySem.W.findIn K (.ref (He.ga K x)) "__class__" = some (some (.builtin "object.__class__"))) && (decide (PySem.W.specialIn K (.builtin "object.__class__") "__get__" = some (some (.builtin "getset_descriptor.__get__"))) && (decide (PySem.W.takesIn K (.builtin "object.__class__") = some true) &&
  (decide (PySem.W.mroIn K (He.ga K x) (.type "object") = some true) && (decide (PySem.W.kitOne K (.ref (He.ga K x)) (.ref (He.ga K x)) = some true) && tysAll.all fun t => decide (PySem.W.kitOne K (.type t.nm) (.ref (He.ga K x)) = some false)))))
theorem xIkit_ok {K : PySem.W.Frag} {x : Str} (h : xIkit x K = true) : IKit K (He.ga K x) := by
  unfold xIkit at h
  simp only [Bool.and_eq_true, decide_eq_true_eq, List.all_eq_true] at h
  obtain ⟨h1, h2, h3, h4, h5, h6⟩ := h
  exact ⟨h1, h2, h3, h4, h5, fun t => h6 t (by cases t <;> simp [tysAll])⟩
def dIsOwn (c : Str) (te : DE) : DE := fun env h => (te env h).bind fun d h1 => if insAt c h1 d then .ok (.bl true) h1 else (match tyD h1 (.v d) with
  | some _ => .ok (.bl false) h1
  | none => .stuck)
def rIsOwn (K : PySem.W.Frag) (C : Addr) : List V → Hp → VK → Prop := fun xs H Q => ∃ (x : V) (t : Value) (b : Bool), xs = [x, .ref C] ∧ (TyY K H x t ∨ ∃ a dx fs, x = .ref a ∧ t = .ref C ∧ H a = some (.ins C dx fs) ∧ Cls K C ∧ IKit K C) ∧ PySem.W.kitOne K t (.ref C) = some b ∧ Q (.bl b) H
theorem call_isOwn : CallR X (.builtin "isinstance") (rIsOwn X.K C) := by
  intro pins s σ H xs us Q I r ⟨x, t, b, e0, ty, e, q⟩
  subst e0
  obtain ⟨u1, u2, rfl, r1, r2⟩ := vals2 r
  cases (show u2 = Value.ref C from r2)
  rcases ty with ty | ⟨a, dx, fs, rfl, rfl, ea, cl, z⟩
  · obtain ⟨P, Z, p, hx⟩ := kit_ofY I r1 ty
    exact PySem.W.kia_one Z I.kIn p e hx fun tk => ⟨.bl b, H, I.tok tk, rfl, q⟩
  · cases (show u1 = Value.ref a from r1)
    obtain ⟨mA, O, _⟩ := ins_get I.hok ea
    obtain ⟨od, J, _⟩ := O.look
    exact PySem.W.kia_one (PySem.W.kitx_own (cl.get _) cl.hd z.ca z.cn z.tk z.mo) I.kIn J e (fun y => nomatch y) fun tk => ⟨.bl b, H, I.tok tk, rfl, q⟩
theorem d_isOwn (hm : X.mg "isinstance" = none) (T : ClsD (gm X) c C) (Z : IKit X.K C) (pa : DEx X W a ta) (hg : Gl X "isinstance" := by rfl) (hgc : Gl X c := by rfl) (hd : (c == ("__debug__" : Str)) = false := by decide)
    (hs : starEach (a :: [.Name c p]) X.env = (false, eval a X.env) :: starEach [.Name c p] X.env := by rfl) (hs2 : starEach (.Name c p :: []) X.env = (false, eval (.Name c p) X.env) :: starEach [] X.env := by rfl)
    (hpl : (backTo pos (starEach [.Name c p] X.env)).any (·.1) = false := by rfl) : DEx X W (.Call (.Name "isinstance" tpos) [a, .Name c p] [] pos) (dIsOwn c ta) :=
  PE.imp (pe_callB (call_isOwn (C := C)) hg hm (by decide +kernel) (pa_cons pa (pa_one (pe_glob (v := .ref C) hgc T.mg rfl hd) hs2) hs) (by decide) (by decide) hs hpl) fun σ H Q ⟨ρ, env, h, R, E, q⟩ => lE.plug R E q fun d h1 ρ1 H1 v x1 R1 E1 r1 q1 => by
    by_cases zi : insAt c h1 d = true
    · rw [if_pos zi] at q1
      obtain ⟨a, dx, fs, rfl, ea⟩ := insAt_ok T R1 zi r1
      exact ⟨_, _, true, rfl, .inr ⟨a, dx, fs, rfl, rfl, ea, T.cl, Z⟩, Z.own, q1 ρ1 H1 (Ext.refl _ _) R1 _ (by simp [RD])⟩
    · rw [if_neg zi] at q1
      cases z : tyD h1 (.v d) with
      | none => rw [z] at q1; exact q1.elim
      | some t =>
        rw [z] at q1
        exact ⟨_, _, false, rfl, .inl (tyD_ok R1 z r1), Z.oth t, q1 ρ1 H1 (Ext.refl _ _) R1 _ (by simp [RD])⟩
end
end DL
/-! DLx2: wp rules for dicts' equality and own classes. -/
namespace DL
open PySem PySem.Spec PyProof.Rows L2
section
variable {env : En} {h : DH} {P : Po} {te tv : DE} {d x y : D} {n m l : Nat} {c f : Str} {fs : List (Str × D)} {Qd : D → DH → Prop} {Ql : List D → DH → Prop} {X : Exn → DH → Prop} {F : FD} {gD : List D → List D → List D} {t tk : DA} {k : Bool → Bool}
def objAt (h : DH) (n : Nat) : Option (Str × List (Str × D)) := match h[n]? with
  | some (.ins c fs) => some (c, fs)
  | _ => none
theorem objAt_of (e : h[n]? = some (.ins c fs)) : objAt h n = some (c, fs) := by unfold objAt; rw [e]
theorem objAt_iff : objAt h n = some (c, fs) ↔ h[n]? = some (.ins c fs) := by
  unfold objAt
  refine ⟨fun e => ?_, fun e => by rw [e]⟩
  split at e
  · rename_i q; cases e; exact q
  · cases e
def insP (c : Str) (d : D) (h : DH) (p : Nat → List (Str × D) → Prop) : Prop := match d with
  | .ref n => optP (objAt h n) fun q => q.1 = c ∧ p n q.2
  | _ => False
@[simp] theorem insP_ref {p : Nat → List (Str × D) → Prop} : insP c (.ref n) h p = optP (objAt h n) fun q => q.1 = c ∧ p n q.2 := rfl
def nonP (d : D) (p : Prop) : Prop := match d with
  | .non => p
  | _ => False
@[simp] theorem nonP_non {p : Prop} : nonP .non p = p := rfl
theorem insAt_of (e : objAt h n = some (c, fs)) : insAt c h (.ref n) = true := by
  have e := objAt_iff.mp e
  simp only [insAt, e, decide_true]
@[simp] theorem wp_fld : (dFld c f te env h).wp Qd X = (te env h).wp (fun d h => insP c d h fun _ fs => optP (fs.lookup f) fun v => Qd v h) X := by
  unfold dFld
  simp only [wp_bind]
  congr 1; funext d h1
  cases d with
  | ref n =>
    simp only [insP, objAt]
    cases h1[n]? with
    | none => simp
    | some o =>
      cases o with
      | ins c' fs =>
        by_cases z : c' = c
        · simp only [z, if_true, optP_some, true_and]
          cases fs.lookup f <;> simp
        · simp [z]
      | _ => simp
  | _ => simp [insP]
@[simp] theorem wo_fld : (sFld' c f te tv env h).wp P = (tv env h).wp (fun y h => (te env h).wp (fun d h => insP c d h fun n fs => fs.length < 1000 ∧ P.nx env (h.set n (.ins c (putD f y fs)))) (fun e h => P.ex e env h)) (fun e h => P.ex e env h) := by
  simp only [sFld', wo_out]
  congr 1; funext y h1; congr 1; funext d h2
  cases d with
  | ref n =>
    simp only [insP, objAt]
    cases h2[n]? with
    | none => simp
    | some o =>
      cases o with
      | ins c' fs =>
        by_cases z : c' = c ∧ fs.length < 1000
        · simp [z]
        · simp only [z, if_false, wo_stuck, optP_some]
          refine propext ⟨fun q => q.elim, fun q => z ⟨q.1, q.2.1⟩⟩
      | _ => simp
  | _ => simp [insP]
/-- no field of that name -/
def noF (m : Str) (fs : List (Str × D)) : Prop := fs.lookup m = none
@[simp] theorem wp_meth {mn : Str} : (dMeth c mn n l F gD te t tk env h).wp Qd X = (te env h).wp (fun d h0 => insP c d h0 fun a fs => noF mn fs ∧ (t env h0).wp (fun ds h1 => (tk env h1).wp (fun zs h2 => (ds.length = n ∧ zs.length = l) ∧ (F (gD (.ref a :: ds) zs) h2).wp Qd X) X) X) X := by
  unfold dMeth noF
  simp only [wp_bind]
  congr 1; funext d h1
  cases d with
  | ref a =>
    simp only [insP, objAt]
    cases h1[a]? with
    | none => simp
    | some o =>
      cases o with
      | ins c' fs =>
        by_cases z : c' = c ∧ fs.lookup mn = none
        · simp only [z, if_true, optP_some, true_and, wp_bind]
          congr 1; funext ds h2; congr 1; funext zs h3
          by_cases q : ds.length = n ∧ zs.length = l <;> simp [q]
        · simp only [z, if_false, wp_stuck, optP_some]
          refine propext ⟨fun q => q.elim, fun q => z ⟨q.1, q.2.1⟩⟩
      | _ => simp
  | _ => simp [insP]
@[simp] theorem wp_make : (dMake c n l F gD t tk env h).wp Qd X = (t env h).wp (fun ds h1 => (tk env h1).wp (fun zs h2 => (ds.length = n ∧ zs.length = l) ∧ (F (gD (.ref h2.length :: ds) zs) (h2 ++ [.ins c []])).wp (fun d h3 => nonP d (Qd (.ref h2.length) h3)) X) X) X := by
  unfold dMake
  simp only [wp_bind]
  congr 1; funext ds h1; congr 1; funext zs h2
  by_cases q : ds.length = n ∧ zs.length = l
  · simp only [q, and_self, if_true, wp_bind, true_and]
    congr 1; funext d h3
    cases d <;> simp [nonP]
  · simp [q]
@[simp] theorem wp_lenOwn : (fLenOwn c F gD (.v d) h).wp Qd X = (insAt c h d = true ∧ (F (gD [d] []) h).wp (fun d h2 => inP d fun i => (0 ≤ i ∧ i < 2 ^ 63) ∧ Qd (.int i) h2) fun _ _ => False) := by
  unfold fLenOwn
  dsimp only
  by_cases z : insAt c h d = true
  · rw [if_pos z]
    cases F (gD [d] []) h with
    | ok v h2 => cases v <;> simp [z, inP]
    | exc e h2 => simp
    | stuck => simp
  · rw [if_neg z]; simp [z]
@[simp] theorem wp_eqOwn : (oEqOwn c F gD k x y h).wp Qd X = ((insAt c h x && insAt c h y) = true ∧ (F (gD [x, y] []) h).wp (fun d h2 => blP d fun b => Qd (.bl (k b)) h2) fun _ _ => False) := by
  unfold oEqOwn
  by_cases z : (insAt c h x && insAt c h y) = true
  · rw [if_pos z]
    cases F (gD [x, y] []) h with
    | ok v h2 => cases v <;> simp [z, blP]
    | exc e h2 => simp
    | stuck => simp
  · rw [if_neg z]; simp [z]
@[simp] theorem wp_eqD : (oEqD k x y h).wp Qd X = optP (asDct h x) fun p => optP (asDct h y) fun q => (tupKs p.2 && tupKs q.2) = true ∧ optP (eqDct h p.2 q.2) fun r => Qd (.bl (k r)) h := by
  unfold oEqD
  cases asDct h x with
  | none => simp
  | some p =>
    cases asDct h y with
    | none => simp
    | some q =>
      obtain ⟨_, ks⟩ := p
      obtain ⟨_, ls⟩ := q
      simp only [optP_some]
      by_cases z : (tupKs ks && tupKs ls) = true
      · rw [if_pos z]; cases eqDct h ks ls <;> simp [z]
      · rw [if_neg z]; simp [z]
@[simp] theorem wp_isOwn : (dIsOwn c te env h).wp Qd X = (te env h).wp (fun d h => if insAt c h d = true then Qd (.bl true) h else optP (tyD h (.v d)) fun _ => Qd (.bl false) h) X := by
  unfold dIsOwn
  simp only [wp_bind]
  congr 1; funext d h1
  by_cases z : insAt c h1 d = true
  · rw [if_pos z, if_pos z]; simp
  · rw [if_neg z, if_neg z]; cases tyD h1 (.v d) <;> simp
@[simp] theorem wp_revL : (qRevL te env h).wp Ql X = (te env h).wp (fun d h => optP (asList h d) fun ds => Ql ds.reverse h) X := by
  unfold qRevL
  simp only [wp_bind]
  congr 1; funext d h1
  cases asList h1 d <;> simp
theorem loFld_E {i : Nat} (e : env[i]? = some (some (.ref m))) (e2 : h[m]? = some (.ins c fs)) (e3 : fs.lookup f = some (.ref n)) : loFld i f env h = some n := by
  unfold loFld
  rw [e]
  dsimp only
  rw [e2]
  dsimp only
  rw [e3]
@[simp] theorem dctAt_app {g : DH} {k : Nat} : dctAt (h ++ g) (h.length + k) = dctAt g k := by
  unfold dctAt; rw [List.getElem?_append_right (by omega)]; simp
@[simp] theorem dctAt_app0 {g : DH} : dctAt (h ++ g) h.length = dctAt g 0 := dctAt_app (k := 0)
@[simp] theorem dctAt_z {g : DH} {lk : Bool} {kvs : List (D × D)} : dctAt (.dct lk kvs :: g) 0 = some (lk, kvs) := rfl
@[simp] theorem dctAt_s {g : DH} {o : OD} {k : Nat} : dctAt (o :: g) (k + 1) = dctAt g k := rfl
@[simp] theorem objAt_app {g : DH} {k : Nat} : objAt (h ++ g) (h.length + k) = objAt g k := by
  unfold objAt; rw [List.getElem?_append_right (by omega)]; simp
@[simp] theorem objAt_app0 {g : DH} : objAt (h ++ g) h.length = objAt g 0 := objAt_app (k := 0)
@[simp] theorem objAt_z {g : DH} : objAt (.ins c fs :: g) 0 = some (c, fs) := rfl
@[simp] theorem objAt_s {g : DH} {o : OD} {k : Nat} : objAt (o :: g) (k + 1) = objAt g k := rfl
@[simp] theorem set_app {g : DH} {k : Nat} {o : OD} : List.set (h ++ g) (h.length + k) o = h ++ List.set g k o := by
  rw [List.set_append_right _ _ (by omega)]; simp
@[simp] theorem set_app0 {g : DH} {o : OD} : List.set (h ++ g) h.length o = h ++ List.set g 0 o := set_app (k := 0)
theorem ty_dct {lk : Bool} {kvs : List (D × D)} (e : dctAt h n = some (lk, kvs)) : tyD h (.v (.ref n)) = some .dct := by
  have e := dctAt_iff.mp e
  simp only [tyD, e]
variable {it : DI} {gh : DGH} {ct : DT} {vs : List Nat}
@[simp] theorem wp_lcH : (qLcH it gh ct te vs env h).wp Ql X = (it env h).wp (fun p h => (lcLoopH p.2 gh ct te (wipeD env vs) p.1 [] h).wp Ql X) X := by simp [qLcH]
@[simp] theorem wp_reprI {i : Int} : (fReprI (.v (.int i)) h).wp Qd X = (i.natAbs.log2 < 1920 ∧ Qd (.str (Str.ofString (toString i))) h) := by
  show (if i.natAbs.log2 < 1920 then _ else _ : Res D).wp Qd X = _
  by_cases z : i.natAbs.log2 < 1920 <;> simp [z]
theorem lcH_inv {live : DH → Bool} {xs : List D} (I : List D → Nat → DH → Prop) (h0 : I [] 0 h) (hl : ∀ acc i h, I acc i h → live h = true)
    (hs : ∀ acc i x h, xs[i]? = some x → I acc i h → acc.length ≤ i → optP (gh x env h) fun r => (ct r.1 r.2).wp (fun b h => if b then (te r.1 h).wp (fun d h => I (acc ++ [d]) (i + 1) h) (fun _ _ => False) else I acc (i + 1) h) (fun _ _ => False))
    (hz : xs.length ≤ 16777216) (hd : ∀ acc h, I acc xs.length h → acc.length ≤ xs.length → Ql acc h) : (lcLoopH live gh ct te env xs [] h).wp Ql X := by
  suffices H : ∀ (ys : List D) (i : Nat) (acc : List D) (h : DH), xs.drop i = ys → i ≤ xs.length → I acc i h → acc.length ≤ i → (lcLoopH live gh ct te env ys acc h).wp Ql X from H xs 0 [] h (by simp) (Nat.zero_le _) h0 (Nat.le_refl _)
  intro ys
  induction ys with
  | nil =>
    intro i acc h e hi hI ha
    unfold lcLoopH
    rw [hl acc i h hI, if_pos rfl]
    have hlen : xs.length ≤ i := by simpa using e
    have : i = xs.length := by omega
    exact ⟨hd acc h (this ▸ hI) (this ▸ ha)⟩
  | cons y ys ih =>
    intro i acc h e hi hI ha
    unfold lcLoopH
    rw [hl acc i h hI, if_pos rfl]
    have hx : xs[i]? = some y := by
      have := congrArg (·[0]?) e
      simpa using this
    have hlt := (List.getElem?_eq_some_iff.mp hx).1
    have e2 : xs.drop (i + 1) = ys := by
      have := congrArg (List.drop 1) e
      simpa using this
    obtain ⟨⟨env1, h1⟩, e1, q⟩ := hs acc i y h hx hI ha
    rw [e1]
    dsimp only at q ⊢
    cases z : ct env1 h1 with
    | exc x h' => rw [z] at q; exact q.get.elim
    | stuck => rw [z] at q; exact q.get.elim
    | ok b h' =>
      rw [z] at q
      cases b with
      | false => exact ih (i + 1) acc h' e2 (by omega) (by simpa using q) (by omega)
      | true =>
        have q : (te env1 h').wp (fun d h => I (acc ++ [d]) (i + 1) h) (fun _ _ => False) := by simpa using q
        dsimp only
        cases z2 : te env1 h' with
        | exc x h2 => rw [z2] at q; exact q.get.elim
        | stuck => rw [z2] at q; exact q.get.elim
        | ok d h2 =>
          rw [z2] at q
          dsimp only
          rw [if_pos (by simp [small]; omega)]
          exact ih (i + 1) _ h2 e2 (by omega) q.get (by simp; omega)
@[simp] theorem wp_sortedD : (qSortedD te env h).wp Ql X = (te env h).wp (fun d h => optP (asDct h d) fun q => okSort h (q.2.map (·.1)) = true ∧ Ql (srtD h (q.2.map (·.1))) h) X := by
  unfold qSortedD
  simp only [wp_bind]
  congr 1; funext d h1
  cases asDct h1 d with
  | none => simp
  | some q =>
    simp only [optP_some]
    by_cases z : okSort h1 (q.2.map (·.1)) = true <;> simp [z]
variable {Qi : List D × (DH → Bool) → DH → Prop} {ds es : List D}
def zipP (x y : D) (p : List D → Prop) : Prop := match x, y with
  | .tup ds, .tup es => p (zipd ds es)
  | _, _ => False
@[simp] theorem zipP_tup {p : List D → Prop} : zipP (.tup ds) (.tup es) p = p (zipd ds es) := rfl
@[simp] theorem wp_zipT : (dZipT te tv env h).wp Qi X = (te env h).wp (fun x h => (tv env h).wp (fun y h => zipP x y fun l => Qi (l, fun _ => true) h) X) X := by
  unfold dZipT
  simp only [wp_bind]
  congr 1; funext x h1; congr 1; funext y h2
  cases x <;> first | (simp [zipP]; done) | (cases y <;> simp [zipP])
variable {b : DS} {hs : List Hd} {q : Hd} {x : Exn}
def Po.trM (P : Po) (hs : List Hd) : Po := { P with ex := fun e env h => (catchM hs e env h).wp P }
@[simp] theorem trM_nx : (P.trM hs).nx env h = P.nx env h := rfl
@[simp] theorem trM_rt : (P.trM hs).rt d h = P.rt d h := rfl
@[simp] theorem trM_bk : (P.trM hs).bk env h = P.bk env h := rfl
@[simp] theorem trM_ct : (P.trM hs).ct env h = P.ct env h := rfl
@[simp] theorem trM_ex : (P.trM hs).ex x env h = (catchM hs x env h).wp P := rfl
@[simp] theorem wo_catch0 : (catchM [] x env h).wp P = P.ex x env h := by unfold catchM; simp
@[simp] theorem wo_catch1 : (catchM (q :: hs) x env h).wp P = trP (q.1.lookup x.cls) (q.2.1 < env.length ∧ (q.2.2 x (env.set q.2.1 none) h).wp (P.cl q.2.1)) ((catchM hs x env h).wp P) := by
  conv => lhs; unfold catchM
  cases q.1.lookup x.cls with
  | none => simp [trP]
  | some k =>
    cases k with
    | false => simp
    | true => by_cases z : q.2.1 < env.length <;> simp [z]
@[simp] theorem wo_tryM : (sTryM hs b env h).wp P = (b env h).wp (P.trM hs) := by
  unfold sTryM
  cases b env h <;> simp
end
end DL
/-! DLve: defs that are only run where no guard stands (for repr of lists and tuples), and repr of plain data. -/
namespace DL
open PySem PySem.Spec PyProof.Rows L2
/-- a def's promise where no guard stands -/
structure FnG (P : Program) (w : World) (K : PySem.W.Frag) (mg : Str → Option Value) (base : Heap) (CX : CXT) (k : Nat) (f : Addr) (fd : FuncData) (ps : List Str) (sp : Sp) : Prop where
  len : ∀ vs H Q E, sp vs H Q E → vs.length = ps.length
  run : ∀ (A : Around) (outer : List Env) (s : Shared) (H : Hp) (args : Args) (us : List Value) (vs : List V) (Q : VK) (E : XK), A.guards = some [] → Room k A → Env0 P w K mg base A outer s H → BindsTo s fd args (ps.zip us) → Vals vs us → sp vs H Q E →
    codeAny (model P w) A (.call (.ref f) args) (CR CX outer P w H s Q E) s
theorem okDG {P : Program} {w : World} {K : PySem.W.Frag} {mg : Str → Option Value} {base : Heap} {x qual : Str} {params : Arguments} {body : List Stmt} {scope : Scope} {dvs : List V} {kws : List (Str × V)} {f : Addr} {fd : FuncData} {N ps : List Str} {k m : Nat} {tb : DS}
    (F : FunD K x qual params body scope dvs kws f fd) (S : FnScope N ps scope) (hm : N.length - ps.length = m)
    (hb : ∀ (cdv : Value) (A : Around) (outer : List Env) (s : Shared) (H : Hp) (E : XK), (A.deeper (envOfC qual scope s.heap.objs.size f cdv)).guards = some [] → Room k (A.deeper (envOfC qual scope s.heap.objs.size f cdv)) →
      L2.Takes (cxOf (L2.CX P w) P w K mg base N qual scope f cdv A outer s H E) (fun c d _ H' => E c d H') →
      PassesOwn (model P w) (A.deeper (envOfC qual scope s.heap.objs.size f cdv)) (envOfC qual scope s.heap.objs.size f cdv) (cxOf (L2.CX P w) P w K mg base N qual scope f cdv A outer s H E).xe → DSsx (cxOf (L2.CX P w) P w K mg base N qual scope f cdv A outer s H E) ⟨fun c d _ H' => E c d H', none⟩ body tb) :
    FnG P w K mg base (L2.CX P w) (k + 1) f fd ps (spD ⟨P, w, K, mg⟩ ps.length (runB m tb)) := by
  obtain ⟨oc, od, dV, kV, doc, pm, an, cdv, ct, osl, rfl, lk, hcd, _, _⟩ := F.ex
  refine ⟨fun vs H Q E h => h.1, fun A outer s H args us vs Q E hgu hr e0 hbd r hsp => ?_⟩
  have hl : vs.length = ps.length := hsp.1
  have KX : K.In s.heap := e0.mod.kin.keeps fun b o e => (e0.bs b o e).1
  have lim : s.heap.NoLimit := e0.mod.nolimit.keeps fun b o e => (e0.bs b o e).1
  have hkind : ∀ y ∈ ps.zip us, scope.names.lookup y.1 = some .local ∨ (scope.names.lookup y.1 = some .cell ∧ ((cellsFrom (s.heap.objs.size + 1) scope.names []).lookup y.1).isSome = true) := by
    rintro ⟨n, v⟩ hy
    rcases S.par n (List.of_mem_zip hy).1 with q | q
    · exact .inl q
    · exact .inr ⟨q, PySem.W.cellsFrom_some _ _ _ (.inl q)⟩
  refine codeAny_call_function hr.depth (KX _ _ lk) rfl S.co S.gen rfl (PySem.W.codeRec_of KX hcd) (hbd _ _ _ _ ?_)
  refine wpAny_newFunctionEnv_cells S.kind hkind fun env he s1 x => ?_
  subst he
  refine ⟨lim.keeps x.toInCall.keep, codeAny_func ?_⟩
  have I : Inv (cxOf (L2.CX P w) P w K mg base N qual scope f cdv A outer s H E) [] (start N vs) H s1 := inv_start S hr.hd e0 hl r x
  obtain ⟨_, ρ, ds, h0, R, rr, q⟩ := hsp
  have body_ok := hb cdv A outer s H E hgu (hr.deeper _) (takes_of rfl rfl rfl rfl) (passes_of (X := cxOf (L2.CX P w) P w K mg base N qual scope f cdv A outer s H E) rfl)
  refine wpAny_mono (body_ok.run [] s1 (start N vs) H ⟨fun _ H' => Q .non H', Q, fun _ _ => False, fun _ _ => False⟩ I ⟨ρ, _, h0, R, REn.start (N := N) (k := m) rr (by rw [hl]; exact hm), ?_⟩) (fun fl s' hs => ?_) fun e s' hs => hs
  · unfold runB at q
    cases z : tb (ds.map some ++ List.replicate m Option.none) h0 with
    | nx env h1 => rw [z] at q; exact fun ρ' H' σ' x1 R1 E1 => q ρ' H' x1 R1 _ (by simp [RD])
    | rt d h1 => rw [z] at q; exact fun ρ' H' v x1 R1 r1 => q ρ' H' x1 R1 v r1
    | bk env h1 => rw [z] at q; exact q.elim
    | ct env h1 => rw [z] at q; exact q.elim
    | exc e env h1 => rw [z] at q; exact fun ρ' H' σ' cls d x1 R1 E1 z1 => q ρ' H' cls d x1 R1 z1
    | stuck => rw [z] at q; exact q.elim
  · have fin : ∀ {σ' : L2.St} {H' : Hp} {v : V} {u : Value}, Inv (cxOf (L2.CX P w) P w K mg base N qual scope f cdv A outer s H E) [] σ' H' s' → RelV v u → Q v H' → CE outer P w H s Q u s' :=
      fun {σ' H' v u} J rv q => ⟨v, H', J.os, J.bare, J.base, J.hok, rv, q⟩
    cases fl with
    | ret u =>
      obtain ⟨v, σ', H', J, rv, q⟩ := hs
      exact fin J rv q
    | next =>
      obtain ⟨σ', H', J, q⟩ := hs
      exact fin (v := V.non) (u := Value.none) J rfl q
    | brk =>
      obtain ⟨_, _, _, q⟩ := hs
      exact q.elim
    | cont =>
      obtain ⟨_, _, _, q⟩ := hs
      exact q.elim
/-! ### repr of plain data -/
def fRepr : DM → DH → Res D := fun m h => match m with
  | .v (.int i) => if i.natAbs.log2 < 1920 then .ok (.str (toString i)) h else .stuck
  | m => match toPyM h m with
    | some (.list xs) => if (PyData.list xs).showable = true ∧ (PyData.list xs).shown.length ≤ sizeLine then .ok (.str (PyData.list xs).shown) h else .stuck
    | some (.tuple xs) => if (PyData.tuple xs).showable = true ∧ (PyData.tuple xs).shown.length ≤ sizeLine then .ok (.str (PyData.tuple xs).shown) h else .stuck
    | _ => .stuck
/-- a list or tuple of plain data -/
def rRepr (K : PySem.W.Frag) : List V → Hp → VK → Prop := fun xs H Q => (∃ i, xs = [.int i] ∧ i.natAbs.log2 < 1920 ∧ Q (.str (toString i)) H) ∨
  ∃ a p, xs = [.ref a] ∧ Dp K H (.ref a) p ∧ p.canLay0 = true ∧ p.depth ≤ 64 ∧ p.showable = true ∧ p.shown.length ≤ sizeLine ∧ Q (.str p.shown) H
theorem call_reprD {X : Cx} {k : Nat} (hg : X.A.guards = some []) (hr : Room k X.A) : CallR X (.builtin "repr") (rRepr X.K) := by
  intro pins s σ H xs us Q I r h
  rcases h with ⟨i, rfl, hz, q⟩ | ⟨a, p, rfl, dp, c1, c2, c3, c4, q⟩
  · obtain ⟨u, rfl, t, rfl⟩ := vals1 r
    exact PySem.P.repr_of_int hz ⟨.str _, H, I.tok _, ⟨_, rfl⟩, q⟩
  · obtain ⟨u, rfl, ru⟩ := vals1 r
    obtain rfl : u = Value.ref a := ru
    obtain ⟨as, rd⟩ := Dp.reads I p _ _ dp rfl
    have hu := hr.un
    exact repr_of_reads' rd c3 (PyData.noDict_hsm (PyData.hasDict_of_canLay p c1)) hg (by omega) (fun b o e => e) (fun h' u tk hk => ⟨.str p.shown, H, I.kept hk, ⟨_, rfl⟩, q⟩) c4
theorem c_reprD {X : Cx} : CallM (gm X) (rRepr X.K) fRepr := fun W ρ h H m v Q R rm q => by
  have gen : ∀ p, toPyM h m = some p → (∀ d, m = .v d → ∀ i, d ≠ .int i) → (∃ xs, p = .list xs ∨ p = .tuple xs) → p.showable = true → p.shown.length ≤ sizeLine → RR (gm X) W ρ H (.ok (.str p.shown) h) (fun d _ ρ' H' => ∀ v, RD (gm X) ρ' H' d v → Q v H') → rRepr X.K [v] H Q := by
    intro p ep hm hp c3 c4 q
    obtain ⟨dp, sh⟩ := toPyM_ok R ep rm
    unfold SeqAt.shaped at sh
    rw [Bool.and_eq_true] at sh
    have q' := q ρ H (Ext.refl _ _) R (.str p.shown) (by simp [RD])
    have fin : ∀ a, v = .ref a → rRepr X.K [v] H Q := fun a e => by
      subst e
      exact .inr ⟨a, p, rfl, dp, sh.1, by have := of_decide_eq_true sh.2; omega, c3, c4, q'⟩
    obtain ⟨xs, rfl | rfl⟩ := hp
    · cases dp; exact fin _ rfl
    · cases dp; exact fin _ rfl
  unfold fRepr at q
  split at q
  · rename_i i
    have r' : RD (gm X) ρ H (.int i) v := rm
    simp only [RD] at r'
    subst r'
    by_cases z : i.natAbs.log2 < 1920
    · rw [if_pos z] at q
      exact .inl ⟨i, rfl, z, q ρ H (Ext.refl _ _) R _ (by simp [RD])⟩
    · rw [if_neg z] at q; exact q.elim
  · rename_i hm
    split at q
    · rename_i xs ep
      by_cases z : (PyData.list xs).showable = true ∧ (PyData.list xs).shown.length ≤ sizeLine
      · rw [if_pos z] at q
        exact gen _ ep (fun d e i e2 => hm i (by rw [e, e2])) ⟨xs, .inl rfl⟩ z.1 z.2 q
      · rw [if_neg z] at q; exact q.elim
    · rename_i xs ep
      by_cases z : (PyData.tuple xs).showable = true ∧ (PyData.tuple xs).shown.length ≤ sizeLine
      · rw [if_pos z] at q
        exact gen _ ep (fun d e i e2 => hm i (by rw [e, e2])) ⟨xs, .inr rfl⟩ z.1 z.2 q
      · rw [if_neg z] at q; exact q.elim
    · exact q.elim
/-! ### a law's end, of a promise where no guard stands -/
theorem law_callG {P : Program} {w : World} {K : PySem.W.Frag} {mg mb : Str → Option Value} {CX : CXT} {k : Nat} {fa a : Addr} {fd : FuncData} {x : Str} {sp : Sp} {s₁ : Shared} {vs : List Value} {ns : List Int}
    (KX : K.In s₁.heap) (hns : s₁.heap.Ns mainGlobals mg) (hb : s₁.heap.Ns builtinsNs mb) (hbb : ∀ x : Str, x ≠ "__name__" → mb x = bootBuiltins x) (hlim : s₁.heap.NoLimit) (hg : s₁.gens = #[])
    (ha : s₁.heap.get? a = some { cls := .type "list", data := .seq vs.toArray }) (hi : IntsAre vs ns) (hl : ns.length ≤ sizeLine) (hr : Room k callerA)
    (F : ∀ base : Heap, K.In base → base.Ns mainGlobals mg → FnG P w K mg base CX k fa fd [x] sp) (hbind : ∀ (s : Shared) (u : Value), BindsTo s fd ⟨[u], []⟩ [(x, u)])
    (hsp : ∀ H : Hp, Only H → SqL K H a (ns.map V.int) → sp [.ref a] H (fun v _ => v = .bl true) fun _ _ _ => False)
    (hCX : ∀ H e s', CX [] H s₁ (fun _ _ _ => False) e s' → False) :
    codeAny (model P w) callerA (.call (.ref fa) ⟨[.ref a], []⟩) (fun r s' => r = .ok (.ret (.bool true)) ∧ OldK s₁.heap s'.heap ∧ s'.os = s₁.os ∧ AllBare s'.gens) s₁ := by
  have rv := vals_ints hi
  have lenV := hi.length
  -- H: what is tracked of the script, if anything
  have core : ∀ H : Hp, Only H → SqL K H a (ns.map V.int) → HOk P w H s₁.heap → (∀ b, H b ≠ none → b = a) → (H a ≠ none → K.lookup a = none) →
      codeAny (model P w) callerA (.call (.ref fa) ⟨[.ref a], []⟩) (fun r s' => r = .ok (.ret (.bool true)) ∧ OldK s₁.heap s'.heap ∧ s'.os = s₁.os ∧ AllBare s'.gens) s₁ := by
    intro H hO hS hok hA hK
    have notA : ∀ {b : Addr} {o : Obj} {es : Array DictEntry} {ep : Nat}, s₁.heap.get? b = some o → o.data = .dict es ep → H b = none := by
      intro b o es ep e d
      by_cases z : H b = none
      · exact z
      · have e' := hA b z
        rw [e', ha] at e
        cases e
        cases (show Data.seq vs.toArray _ = Data.dict es ep from d)
    have hid : ∀ {b : Addr} {o : Obj}, s₁.heap.get? b = some o → H b = none → (hidT s₁.heap H).get? b = some o := fun e n => hidT_get e n
    have nsK : ∀ {b : Addr} {m : Str → Option Value}, s₁.heap.Ns b m → (hidT s₁.heap H).Ns b m := by
      rintro b m ⟨o, es, ep, e, d, r⟩
      exact ⟨o, es, ep, hid e (notA e d), d, r⟩
    have hKb : K.In (hidT s₁.heap H) := by
      intro b o e
      refine hid (KX b o e) ?_
      by_cases z : H b = none
      · exact z
      · have e' := hA b z
        subst e'
        rw [hK z] at e
        cases e
    have hM : Mod K mg (hidT s₁.heap H) := ⟨hKb, nsK hns, ⟨mb, nsK hb, hbb⟩, by obtain ⟨mc, h1, h2⟩ := hlim; exact ⟨mc, nsK h1, h2⟩⟩
    have e0 : Env0 P w K mg (hidT s₁.heap H) callerA [] s₁ H := ⟨rfl, hM, fun b o e => of_hidT e, Nat.le_of_eq (hidT_size _ _), trivial, fun b hb => absurd (show b ∈ ([] : List Addr) from hb) (by simp), hok, .of_eq hg⟩
    refine codeAny_mono ((F _ hKb (nsK hns)).run callerA [] s₁ H ⟨[.ref a], []⟩ [.ref a] [.ref a] _ _ rfl hr e0 (hbind s₁ (.ref a)) (.cons rfl .nil) (hsp H hO hS)) fun r s' h => ?_
    cases r with
    | error e => exact (hCX H e s' h).elim
    | ok fl =>
      cases fl with
      | next => exact h.elim
      | brk => exact h.elim
      | cont => exact h.elim
      | ret u =>
        obtain ⟨v, H', os, bare, un, hok', r', q⟩ := h
        obtain rfl : v = .bl true := q
        obtain rfl : u = Value.bool true := r'
        refine ⟨rfl, OldK.of_keep fun b o e => ?_, os, bare⟩
        rcases hO b with q | ⟨ob, xs, q⟩
        · exact un.keep b o e q (by intro z; exact absurd (show b ∈ ([] : List Addr) from z) (by simp)) (by simp)
        · have z2 := un.frzs b ob _ q
          obtain ⟨e1, _⟩ := hok b _ q
          obtain ⟨e2, _⟩ := hok' b _ z2
          rw [e] at e1; cases e1
          exact e2
  cases hk : K.lookup a with
  | some o =>
    have e := KX a o hk
    rw [ha] at e
    cases e
    exact core (fun _ => none) (fun _ => .inl rfl) (.inr ⟨_, vs.toArray, _, hk, rfl, rfl, rfl, by rw [List.size_toArray, lenV]; exact hl, by simpa using rv⟩) (fun b u z => by cases (show (none : Option HO) = some u from z)) (fun b z => absurd rfl z) fun z => absurd rfl z
  | none =>
    have at_a : ∀ b, (if b = a then some (HO.frz { cls := .type "list", data := .seq vs.toArray } (.lst (ns.map V.int))) else none) ≠ none → b = a := fun b z => by
      by_cases hb : b = a
      · exact hb
      · exact absurd (if_neg hb) z
    refine core (fun b => if b = a then some (.frz { cls := .type "list", data := .seq vs.toArray } (.lst (ns.map V.int))) else none) (fun b => ?_) (.inl (.inr ⟨{ cls := .type "list", data := .seq vs.toArray }, if_pos rfl⟩)) (fun b u z => ?_) at_a fun _ => hk
    · by_cases hb : b = a
      · exact .inr ⟨_, _, if_pos hb⟩
      · exact .inl (if_neg hb)
    · have hb := at_a b (fun q => by have z2 := q.symm.trans z; cases z2)
      have z' := (if_pos hb).symm.trans z
      cases z'
      subst hb
      exact ⟨ha, by rw [List.length_map]; exact hl, vs, _, rv, ha⟩
theorem walk_XG {l : PySem.W.OpenLaw} {n k : Nat} {q : Program} {loose : List Str} {XP : (Str → Option Value) → Heap → Prop} {YP : World → Heap → Prop} {d : DefRec} {x : Str} {F : FD}
    (hn : l.most = some n) (hn2 : n ≤ sizeLine) (hdf : d.params.defaults = []) (hr : Room k callerA)
    (FF : ∀ (w : World) (mg : Str → Option Value) (fa : Addr) (h : Heap), YP w h → h.Ns mainGlobals mg → mg d.name = some (.ref fa) →
      ∃ (K : PySem.W.Frag) (fd : FuncData), K.In h ∧ (∀ (s : Shared) (u : Value), BindsTo s fd ⟨[u], []⟩ [(x, u)]) ∧
        ∀ base : Heap, K.In base → base.Ns mainGlobals mg → FnG l.prog w K mg base (L2.CX l.prog w) k fa fd [x] (spD ⟨l.prog, w, K, mg⟩ 1 F))
    (h : ∀ ns : List Int, ns.length ≤ n → ∃ h', F [.rol (ns.map .int)] [] = .ok (.bl true) h') :
    PySem.W.WalkO q loose XP YP l.row.toRowW d [] (fun f vs => PySem.call f vs) := by
  refine Att.attach_call hn hdf fun w s₀ s₁ mg mb fa o pm cd doc a vs ns G Y ho hd hcd hmg hobj hints hlen hg => ?_
  obtain ⟨K, fd, KX, hb, hF⟩ := FF w mg fa _ Y G.T.g hmg
  refine law_callG KX G.T.g G.T.b G.T.builtins G.T.nolimit hg hobj hints (Nat.le_trans hlen hn2) hr hF hb (fun H hO hS => ?_) fun H e s' z => ?_
  · obtain ⟨h', e⟩ := h ns hlen
    have rol : RoL K H a (ns.map V.int) := by
      rcases hS with (z | z) | z
      · rcases hO a with y | ⟨ob, xs, y⟩
        · rw [y] at z; cases z
        · rw [y] at z; cases z
      · exact .inl z
      · exact .inr z
    refine ⟨rfl, [], [.rol (ns.map .int)], [], ⟨rfl, List.nodup_nil, fun n o b e => by simp at e⟩, ?_, ?_⟩
    · simp only [RDs, RD]
      exact ⟨_, [], rfl, ⟨a, _, rfl, rol, RDs.ints' _ _ _ ns⟩, rfl⟩
    · rw [e]
      intro ρ' H' _ _ v r
      simpa [RD] using r
  · obtain ⟨_, _, _, _, _, _, _, _, _, _, _, _, z⟩ := z
    exact z.elim
/-! ### calls of such defs -/
section
variable {X : Cx} {W : WB} {k n l : Nat} {f : Addr} {fd : FuncData} {ps ks : List Str} {Fd : FD} {gD : List D → List D → List D} {x : Str} {p pos : Pos} {e : Expr} {es : List Expr} {kws : List Keyword} {t tk' : DA}
theorem call_atG {pins : List (Addr × Obj)} {σ : L2.St} {H : Hp} {s : Shared} {Q : VK} {us ws : List Value} {vs zs : List V} (hgu : X.A.guards = some []) (F : FnG X.prog X.w X.K X.mg X.base (L2.CX X.prog X.w) k f fd ps (spD (gm X) l Fd)) (hr : Room k X.A) (tk : L2.Takes X W.wish)
    (hb : KB (gm X) fd ps n ks gD) (hgd : ∀ ds zs, ds.length = n → zs.length = ks.length → (gD ds zs).length = l) (I : Inv X pins σ H s) (r : Vals vs us) (r' : Vals zs ws) (q : ArgsAt X W σ Q n ks.length (fun ds zs h => Fd (gD ds zs) h) vs zs H) :
    wpAny (model X.prog X.w) X.A (call (.ref f) us (ks.zip ws)) (EP X pins σ Q) X.xe s := by
  obtain ⟨ρ, ds, es, h, R, rd, re, l1, l2, q⟩ := q
  obtain ⟨gw, gv, kb, hrd⟩ := hb.ex
  have rr := hrd ρ H _ _ _ _ rd re
  have hsp : spD (gm X) l Fd (gv vs zs) H Q (fun c d H' => W.wish c d σ H') := ⟨by rw [rr.length]; exact hgd ds es l1 l2, ρ, _, h, R, rr, q⟩
  refine wpAny_call (codeAny_mono (F.run X.A X.stack s H _ _ _ Q (fun c d H' => W.wish c d σ H') hgu hr I.env0 (kb.to s us ws I.kIn (by rw [← r.length, rd.length, l1]) (by rw [← r'.length, re.length, l2])) (kb.rel r r') hsp) fun y s' z => ?_)
  cases y with
  | error er => exact tk er s' (XE.of_call I (fun _ _ _ q => q) z)
  | ok fl =>
    cases fl with
    | ret u => exact I.after z
    | next => exact z
    | brk => exact z
    | cont => exact z
theorem d_callG (hgu : X.A.guards = some []) (F : FnG X.prog X.w X.K X.mg X.base (L2.CX X.prog X.w) k f fd ps (spD (gm X) l Fd)) (hr : Room k X.A) (tk : L2.Takes X W.wish) (hm : X.mg x = some (.ref f)) (hk : PySem.W.keepIn X.K (.ref f) = true) (hb : KB (gm X) fd ps n ks gD)
    (hgd : ∀ ds zs, ds.length = n → zs.length = ks.length → (gD ds zs).length = l) (ha : DAx X W (e :: es) t) (hkw : DKx X W kws tk') (hall : (backToKw pos (keywordEach kws X.env)).all (·.1.isSome) = true := by rfl) (hks : (backToKw pos (keywordEach kws X.env)).filterMap (·.1) = ks := by rfl)
    (hg : Gl X x := by rfl) (hdb : (x == ("__debug__" : Str)) = false := by decide) (he : starEach (e :: es) X.env = (false, eval e X.env) :: starEach es X.env := by rfl)
    (hpl : ((backTo pos (starEach (e :: es) X.env)).any (·.1) || (backToKw pos (keywordEach kws X.env)).any (·.1.isNone)) = false := by rfl) : DEx X W (.Call (.Name x p) (e :: es) kws pos) (dCall n ks.length Fd gD t tk') := by
  constructor
  intro pins s σ H Q I lq
  refine wpAny_Call_Name_kw (ld_glob (pos := p) I hg hm ?_ hdb)
  refine PySem.W.callWith_KW (first := []) (h₀ := X.base) I.mod.kin hk hall (thn (ha.run pos pins s σ H _ I (args_in (K := fun ds zs h => Fd (gD ds zs) h) lq)) fun us s1 ⟨vs, H1, I1, r1, q1⟩ => ?_) hpl he
  refine thn (hkw.run pos pins s1 σ H1 _ I1 q1) fun ws s2 ⟨zs, H2, I2, r2, q2⟩ => ⟨I2.kIn, ?_⟩
  rw [hks]
  exact call_atG hgu F hr tk hb hgd I2 r1 r2 q2
end
end DL
/-! DLvf: a dict's display with one pair, its key a tuple. -/
namespace DL
open PySem PySem.Spec PyProof.Rows L2
section
variable {X : Cx} {W : WB} {pos : Pos} {e f : Expr} {tk tv : DE}
def dDict1 (tk tv : DE) : DE := fun env h => (tk env (h ++ [.dct false []])).bind fun k h1 => (tv env h1).bind fun v h2 => match h2[h.length]? with
  | some (.dct false []) => if tupK k then .ok (.ref h.length) (h2.set h.length (.dct false [(k, v)])) else .stuck
  | _ => .stuck
theorem d_dict1 (hu : X.A.units + 100 < cLine) (pk : DEx X W e tk) (pv : DEx X W f tv) : DEx X W (.Dict [some e] [f] pos) (dDict1 tk tv) := by
  constructor
  intro pins s σ H Q I ⟨ρ, env, h, R, E, q⟩
  refine wpAny_Dict_any rfl rfl (by simp) (by simp) ?_
  have hb := I.big
  have ne : (s.heap.objs.size == sysModules) = false := beq_eq_false_iff_ne.mpr (Ne.symm (Nat.ne_of_lt hb))
  have raw : (s.heap.push { cls := .type "dict", data := .dict #[] }).DictRaw s.heap.objs.size #[] 0 := ⟨_, Heap.get?_push_size _ rfl, ⟨rfl, rfl, rfl⟩, rfl⟩
  have hp : H s.heap.objs.size = none := I.hok.fresh (Nat.le_refl _)
  have I0 : Inv X pins σ (upd H s.heap.objs.size (rawO s.heap.objs.size #[] 0)) { s with heap := s.heap.push { cls := .type "dict", data := .dict #[] } } :=
    I.laid (a := s.heap.objs.size) (o := rawO s.heap.objs.size #[] 0) (t' := s.toks) (fun _ _ q => Heap.get?_push_of_some _ q) (Nat.le_refl _) ⟨raw, ⟨_, Heap.get?_push_size _ rfl⟩, fun h1 h2 ⟨o, e, x, d⟩ k => ⟨o, k o e, x, d⟩⟩
  generalize s.heap.objs.size = p at *
  have x0 := Ext.new1 (o := rawO p #[] 0) R hp
  have R0 : RH (gm X) (ρ ++ [p]) (h ++ [.dct false []]) (upd H p (rawO p #[] 0)) := R.new1 (od := .dct false []) hp ⟨default, [], 0, upd_same, ne, Nat.zero_le _, .nil, List.nodup_nil⟩
  have E0 := E.mono x0 R
  have ep : (ρ ++ [p])[h.length]? = some p := by rw [← R.len, List.getElem?_append_right (Nat.le_refl _)]; simp
  have q1 := q.mono x0
  unfold dDict1 at q1
  show wpAny (model X.prog X.w) X.A (evalPairs [(eval e X.env, do let x ← eval f X.env; standAt pos; pure x)]) _ X.xe _
  unfold evalPairs
  refine wpAny_bind (thn (pk.run pins _ σ _ _ I0 (lE.plug R0 E0 q1 fun k h1 ρ1 H1 vk x1 R1 E1 r1 q2 => (⟨ρ1, h1, k, x1, R1, E1, r1, q2⟩ :
    ∃ ρ1 h1 k, Ext (ρ ++ [p]) (upd H p (rawO p #[] 0)) ρ1 H1 ∧ RH (gm X) ρ1 h1 H1 ∧ REn (gm X) W.xa ρ1 H1 env σ ∧ RD (gm X) ρ1 H1 k vk ∧ RR (gm X) (fun c d H' => W.wish c d σ H') ρ1 H1 ((tv env h1).bind fun v h2 => match h2[h.length]? with
      | some (.dct false []) => if tupK k then .ok (.ref h.length) (h2.set h.length (.dct false [(k, v)])) else .stuck
      | _ => .stuck) (fun d _ ρ' H' => ∀ v, RD (gm X) ρ' H' d v → Q v H')))) fun iv s1 ⟨y, H1, I1, ry, ρ1, h1, k, x1, R1, E1, r1, q2⟩ => ?_)
  refine wpAny_bind (wpAny_holding (wpAny_bind (thn (pv.run pins _ σ _ _ I1 (lE.plug R1 E1 q2 fun v h2 ρ2 H2 vv x2 R2 E2 r2 q3 => (⟨ρ2, h2, v, x2, R2, r2, q3⟩ :
    ∃ ρ2 h2 v, Ext ρ1 H1 ρ2 H2 ∧ RH (gm X) ρ2 h2 H2 ∧ RD (gm X) ρ2 H2 v vv ∧ RR (gm X) (fun c d H' => W.wish c d σ H') ρ2 H2 (match h2[h.length]? with
      | some (.dct false []) => if tupK k then .ok (.ref h.length) (h2.set h.length (.dct false [(k, v)])) else .stuck
      | _ => .stuck) (fun d _ ρ' H' => ∀ v, RD (gm X) ρ' H' d v → Q v H')))) fun uv s2 ⟨vv, H2, I2, rv, ρ2, h2, v, x2, R2, r2, q3⟩ => ?_)))
  refine wpAny_bind (wpAny_standAt (wpAny_pure (wpAny_bind (wpAny_holding (wpAny_pure (wpAny_pure ?_))))))
  unfold storeAll
  split at q3
  · rename_i hz
    by_cases zk : tupK k = true
    · rw [if_pos zk] at q3
      have ra : RD (gm X) ρ2 H2 (.ref h.length) (.ref p) := by simp only [RD]; exact ⟨p, rfl, x2.get (x1.get ep)⟩
      obtain ⟨n, a, b, xs, e0, e1, rfl, rfl, q4, q5, hs', hm, hl, px, hk, k1, k2⟩ := dict_key (d := .ref h.length) (lk := false) (kvs := []) I2 R2 (by simp only [asDct, hz]) ra (r1.mono x2 R1) ry (by rw [zk]; rfl)
      cases e0
      cases e1
      rw [List.forIn_cons]
      cases px
      refine wpAny_bind (wpAny_bind (wpAny_dictSet_heap (by show X.A.units + 8 < cLine; omega) hk hm (fun h' hm' sb => ?_) (Nat.zero_le _)))
      have sz : (storedH ([] : List (NestedKey × Addr × Value)) (nk k) b uv).length ≤ sizeLine := Nat.le_trans (stored_len (xs := []) (k := nk k) (a := b) (v := uv)) (by decide)
      obtain ⟨H', I', x', R', up⟩ := dict_write (t' := s2.toks + (nestedKind X.prog X.w).draws (nk k)) I2 R2 q4 q5 hm' sb sz (kx_put (kvs := []) (xs := []) k1 k2 (r1.mono x2 R1) r2 rv .nil)
      refine wpAny_pure ?_
      dsimp only
      rw [List.forIn_nil]
      refine wpAny_pure ⟨.ref p, H', I', rfl, ?_⟩
      have e : dput [] k v = [(k, v)] := rfl
      rw [e] at R'
      exact q3 ρ2 H' x' R' _ (up _ _ ra)
    · rw [if_neg zk] at q3; exact q3.elim
  · exact q3.elim
end
end DL
/-! DLvg: sorted(xs, key=lambda x: x[0]), the items tuples that begin with tuples of whole numbers; the table of the lambda's code objects is told as an object of the heap. -/
namespace DL
open PySem PySem.Spec PyProof.Rows L2
open PySem.W (EachIs AllAlike Sortable alike dataLe)
/-- an object that stands as it is -/
def LamO (f : Addr) (o : Obj) : HO := .ext fun h => h.get? f = some o
abbrev lamQ (X : Cx) : Str := X.env.qual ++ "<lambda>"
abbrev lamObj (X : Cx) (params : Arguments) (body : Expr) (scope : Scope) (c' : Addr) (pm ctv : Value) : Obj := PySem.W.kla_obj "<lambda>" (lamQ X) params body scope [] pm c' ctv
def tLamb (X : Cx) (P : Addr) (params : Arguments) (body : Expr) (scope : Scope) : TE := fun σ H Q => ∃ ps : Array Value, H P = some (.tbl ps) ∧ TriplesOk ps.toList ∧
  (∀ (p : Pos) (cv : Value), codeAmong p ps.toList = some cv → ∃ c, cv = .ref c ∧ H c = some (LamX.CodeO c (lamQ X))) ∧
  ∀ (f c' : Addr) (pm ctv : Value) (qs : Array Value) (H1 : Hp), (∀ b, b ≠ P → H b ≠ none → H1 b = H b) → H1 P = some (.tbl qs) → TriplesOk qs.toList →
    (∀ (p : Pos) (cv : Value), codeAmong p qs.toList = some cv → codeAmong p ps.toList = some cv ∨ (cv = .ref c' ∧ H c' = none)) → H f = none → H1 f = some (LamO f (lamObj X params body scope c' pm ctv)) → H1 c' = some (LamX.CodeO c' (lamQ X)) → Q (.ref f) H1
section
variable {X : Cx} {c P : Addr} {params : Arguments} {body : Expr} {scope : Scope} {pos : Pos}
theorem lamO_ok {H : Hp} {s : Shared} {f : Addr} {o : Obj} (e : s.heap.get? f = some o) : ObjOk X.prog X.w H s.heap f (LamO f o) := ⟨e, ⟨o, e⟩, fun _ _ z k => k _ z⟩
theorem pe_lam (TB : LamX.TabB X.base X.mg c P) (hcode : X.env.code = .ref c) (hdef : defaultsOf params X.env = ([], [])) (hcl : closureFor scope X.env = pure []) : PE X (.Lambda params body scope pos) (tLamb X P params body scope) := by
  constructor
  rintro pins s σ H Q I ⟨ps, hP, ht, ha, q⟩
  apply PySem.W.kla_eval hdef
  have oP := I.hok P _ hP
  have base {b : Addr} {o : Obj} (e : X.base.get? b = some o) : s.heap.get? b = some o := I.bk b o e
  cases hc : codeAmong pos ps.toList with
  | some cv =>
    obtain ⟨c', rfl, hco⟩ := ha pos cv hc
    refine PySem.W.kla_makeFunctionHit (mg := X.mg) (c := c) hcl I.ok.glob (I.mod.glob.keeps I.bk) hcode (TB.code.keeps I.bk) oP ht hc (TB.bm.keeps I.bk) fun ctv h' tk hx hsz => ?_
    have J := I.laid (a := h'.objs.size) (o := LamO h'.objs.size (lamObj X params body scope c' ((X.mg "__name__").getD .none) ctv)) (t' := tk) (h' := h'.push (lamObj X params body scope c' ((X.mg "__name__").getD .none) ctv))
      (fun b o e => Heap.get?_push_of_some _ (hx b o e)) hsz ⟨Heap.get?_push_size _ rfl, ⟨_, Heap.get?_push_size _ rfl⟩, fun _ _ z k => k _ z⟩
    have nf : H h'.objs.size = none := I.hok.fresh hsz
    have keep : ∀ b, H b ≠ none → upd H h'.objs.size (LamO h'.objs.size (lamObj X params body scope c' ((X.mg "__name__").getD .none) ctv)) b = H b := fun b e => upd_ne fun z => e (by rw [z]; exact nf)
    exact ⟨.ref h'.objs.size, _, J, rfl, q _ c' _ ctv ps _ (fun b _ e => keep b e) ((keep P (by rw [hP]; simp)).trans hP) ht (fun p cv z => .inl z) nf upd_same ((keep c' (by rw [hco]; simp)).trans hco)⟩
  | none =>
    refine PySem.W.kla_makeFunction (mg := X.mg) (c := c) hcl I.ok.glob (I.mod.glob.keeps I.bk) hcode (TB.code.keeps I.bk) oP ht hc TB.gP (TB.bm.keeps I.bk) fun c' ctv h' tk hx hge hlt hrec htb => ?_
    obtain ⟨c2, oc, vs, t, e2, hoc, hd, hv⟩ := hrec
    cases e2
    have nC : H c' = none := I.hok.fresh hge
    have hsz : s.heap.objs.size ≤ h'.objs.size := Nat.le_trans hge (Nat.le_of_lt hlt)
    have nf : H h'.objs.size = none := I.hok.fresh hsz
    have J := LamX.inv_table (t' := tk) I hP hx htb hge ⟨oc, vs, t, hoc, hd, hv⟩
    have J2 := J.laid (a := h'.objs.size) (o := LamO h'.objs.size (lamObj X params body scope c' ((X.mg "__name__").getD .none) ctv)) (t' := tk) (h' := h'.push (lamObj X params body scope c' ((X.mg "__name__").getD .none) ctv))
      (fun b o e => Heap.get?_push_of_some _ e) (Nat.le_refl _) ⟨Heap.get?_push_size _ rfl, ⟨_, Heap.get?_push_size _ rfl⟩, fun _ _ z k => k _ z⟩
    have nP : P ≠ c' := fun z => by rw [z, nC] at hP; cases hP
    have nPf : P ≠ h'.objs.size := fun z => by rw [z, nf] at hP; cases hP
    have ncf : c' ≠ h'.objs.size := Nat.ne_of_lt hlt
    refine ⟨.ref h'.objs.size, _, J2, rfl, q _ c' _ ctv (ps ++ #[rawInt pos.line, rawInt pos.col, .ref c']) _ (fun b nb e => ?_) ?_ ?_ (fun p cv z => ?_) nf upd_same ?_⟩
    · rw [upd_ne (fun z => e (by rw [z]; exact nf)), upd_ne (fun z => e (by rw [z]; exact nC)), upd_ne nb]
    · rw [upd_ne nPf, upd_ne nP, upd_same]
    · rw [Array.toList_append]
      exact PySem.TriplesOk_snoc _ _ _ _ ht
    · rw [Array.toList_append] at z
      rcases LamX.among_app _ ht z with z | z
      · exact .inl z
      · exact .inr ⟨z, nC⟩
    · rw [upd_ne ncf, upd_same]
end
/-! ### the sort -/
theorem vals_eachF {β : Type} {f : β → V} : ∀ {zs : List β} {us : List Value}, EachIs (fun u (z : β) => RelV (f z) u) us zs → Vals (zs.map f) us
  | _, _, .nil => .nil
  | _, _, .cons r t => .cons r (vals_eachF t)
theorem each_ofF {β : Type} {f : β → V} : ∀ {zs : List β} {us : List Value}, Vals (zs.map f) us → EachIs (fun u (z : β) => RelV (f z) u) us zs
  | [], us, r => by cases r; exact .nil
  | z :: zs, us, r => by
    cases r with
    | cons r1 r2 => exact .cons r1 (each_ofF r2)
theorem reads_ints {h : Heap} : ∀ {t : List Int} {us : List Value}, Vals (t.map V.int) us → ReadsAll h us (t.map PyData.int) []
  | [], us, r => by cases r; exact .nil
  | i :: t, us, r => by
    cases r with
    | cons r1 r2 =>
      obtain ⟨k, rfl⟩ := r1
      exact ReadsAll.cons (as := []) (bs := []) (.int i k) (reads_ints r2)
def dKey (t : List Int) : PyData := .tuple (t.map .int)
theorem alike_dKey : ∀ {t u : List Int}, PySem.W.alikeAll (t.map PyData.int) (u.map PyData.int) = true
  | [], _ => by simp [PySem.W.alikeAll]
  | _ :: _, [] => by simp [PySem.W.alikeAll]
  | i :: t, j :: u => by
    have := alike_dKey (t := t) (u := u)
    simp only [List.map_cons, PySem.W.alikeAll, PySem.W.alike, this, Bool.and_self]
theorem depth_dKey : ∀ {t : List Int}, PyData.depthAll (t.map PyData.int) = 0
  | [] => by simp [PyData.depthAll]
  | i :: t => by
    have := depth_dKey (t := t)
    simp only [List.map_cons, PyData.depthAll, PyData.depth, this]
    rfl
/-- what is asked of a lambda of one parameter x with the body x[0] -/
structure Lam0 (q : Str) (params : Arguments) (body : Expr) (scope : Scope) (x : Str) : Prop where
  bd : ∃ (p1 p2 p3 : Pos) (k : Nat), body = .Subscript (.Name x p1) (.Constant (.int 0) k p2) p3
  dbg : (x == ("__debug__" : Str)) = false
  co : scope.isCoroutine = false
  gen : scope.isGenerator = false
  kind : scope.kind = .function
  own : scope.names.lookup x = some .local
  nocell : ∀ y ∈ scope.names, y.2 ≠ .cell
  bind : ∀ (pm cd ctv v : Value), bindArgs (PySem.W.kla_fn "<lambda>" q params body scope [] pm cd ctv) ⟨[v], []⟩ = pure [(x, v)]
section
variable {X : Cx} {params : Arguments} {body : Expr} {scope : Scope} {x : Str}
def rSrtF (X : Cx) (params : Arguments) (body : Expr) (scope : Scope) : List V → List V → Hp → VK → Prop := fun xs zs H Q => ∃ (a f c' : Addr) (pm ctv : Value) (ys : List (V × List Int)), xs = [.ref a] ∧ zs = [.ref f] ∧ H f = some (LamO f (lamObj X params body scope c' pm ctv)) ∧
  H c' = some (LamX.CodeO c' (lamQ X)) ∧ SqL X.K H a (ys.map (·.1)) ∧ (∀ y ∈ ys, y.2 ≠ [] ∧ ∃ t vs k, y.1 = .ref t ∧ SqT X.K H t (.ref k :: vs) ∧ SqT X.K H k (y.2.map V.int)) ∧
  ∀ p, H p = none → Q (.ref p) (upd H p (.lst ((ys.mergeSort (dataLe false fun z => dKey z.2)).map (·.1))))
theorem call_srtF (L : Lam0 (lamQ X) params body scope x) {k : Nat} (hr : Room (k + 4) X.A) : CallRK X (.builtin "sorted") [Str.ofString "key"] (rSrtF X params body scope) := by
  rintro pins s σ H xs zs us ws Q I r r' ⟨a, f, c', pm, ctv, ys, rfl, rfl, hf, hc, hs, hy, q⟩
  obtain ⟨u, rfl, ru⟩ := vals1 r
  obtain rfl : u = Value.ref a := ru
  obtain ⟨g, rfl, rg⟩ := vals1 r'
  obtain rfl : g = Value.ref f := rg
  obtain ⟨its, rv, hl, hz⟩ := I.list hs
  have of1 : s.heap.get? f = some (lamObj X params body scope c' pm ctv) := (I.hok f _ hf).1
  obtain ⟨oc, cvs, tq, oc1, oc2, oc3⟩ : ∃ (oc : Obj) (vs : Array Value) (t : Tok), s.heap.get? c' = some oc ∧ oc.data = .fields vs ∧ vs[1]? = some (.str (lamQ X) t) := (I.hok c' _ hc).1
  have hlen : ys.length ≤ sizeLine := by simpa using hz
  have hun := hr.un
  have fr : s.heap.objs.size ≤ s.heap.objs.size + 1 := Nat.le_succ _
  refine PySem.W.sorted_key_data (b := false) (fun z : V × List Int => dKey z.2) hl.isList (each_ofF rv) (fun d hd d' hd' => ?_) (.inl fun d hd => ?_) hlen (fun z _ => ?_) (PyProof.Rows.ksk_s1 _ _) (fun _ => PyProof.Rows.ksk_l1 _ _) (fun _ => PyProof.Rows.ksk_t1 _ _) (fun v z hR hz h tk kp => ?_) fun out c h' tk kp _ hD ol eo => ?_
  · obtain ⟨z, _, rfl⟩ := List.mem_map.mp hd
    obtain ⟨z', _, rfl⟩ := List.mem_map.mp hd'
    exact alike_dKey
  · obtain ⟨z, hz, rfl⟩ := List.mem_map.mp hd
    obtain ⟨ne, _⟩ := hy z hz
    cases e : z.2 with
    | nil => exact (ne e).elim
    | cons i t => exact ⟨_, _, by simp only [dKey, e, List.map_cons]; rfl⟩
  · show X.A.units + 2 + (dKey z.2).depth < cLine
    simp only [dKey, PyData.depth, depth_dKey]
    omega
  · obtain ⟨_, t, vs, b, e1, st, sb⟩ := hy z hz
    rw [e1] at hR
    obtain rfl : v = Value.ref t := hR
    obtain ⟨ti, tr, tt, _⟩ := I.tuple st
    obtain ⟨bi, br, bt, _⟩ := I.tuple sb
    cases tr with
    | @cons _ w _ ti rw1 tr =>
      obtain rfl : w = Value.ref b := rw1
      have lim : h.NoLimit := I.nolimit.keeps kp
      have rc : codeAny (model X.prog X.w) X.A.in1.in1 (.call (.ref f) ⟨[.ref t], []⟩) (fun y s' => ∃ v', y = .ok (.ret v') ∧ PySem.W.KeyPure (dKey z.2) { s with heap := h, toks := tk } v' s') { s with heap := h, toks := tk } := by
        refine PySem.W.kla_callFunE ?_ (kp _ _ of1) rfl L.co L.gen rfl ⟨c', oc, cvs, tq, rfl, kp _ _ oc1, oc2, oc3⟩ ?_
        · have := hr.depth
          exact this
        rw [L.bind]
        refine wpAny_pure (wpAny_newFunctionEnv L.nocell (fun y hy => ?_) (fun h₁ hns hsb => ⟨lim.fresh _ hsb, ?_⟩) L.kind)
        · rw [List.mem_singleton.mp hy]; exact L.own
        have kp1 : ∀ b o, h.get? b = some o → h₁.get? b = some o := fun b o e => hsb.extBut b o (Nat.ne_of_lt (Heap.lt_size e)) (Heap.get?_push_of_some _ e)
        refine PySem.W.kla_codeExpr ?_
        obtain ⟨p1, p2, p3, k, eb⟩ := L.bd
        rw [eb]
        refine Subscript_Constant (wpAny_Name (wpAny_loadName_local L.kind L.own hns (v := .ref t) (by simp) ?_) L.dbg)
        refine wpAny_Constant_int ?_
        have tt1 := (tt.keeps kp).keeps kp1
        refine ⟨"tuple", _, rfl, tt1.typeIs, ?_⟩
        refine PyProof.Rows.getItem_tuple (j := 0) (x := Value.ref b) tt1 (by decide) (by decide) (by simp [seqIndex?]) (by simp) ?_
        refine ⟨_, rfl, h₁, _, rfl, kp1, ?_⟩
        obtain ⟨o, ho, oc, n, od⟩ := (bt.keeps kp).keeps kp1
        exact Reads.tuple ho oc od (by simpa using reads_ints br)
      refine wpAny_call (codeAny_mono rc fun y s' hq => ?_)
      obtain ⟨v', rfl, hq⟩ := hq
      exact hq
  · obtain ⟨n, hn⟩ : ∃ n, h'.get? (s.heap.objs.size + 1) = some (seqObj "list" (List.toArray out) n) := ⟨c, hD⟩
    exact ⟨.ref (s.heap.objs.size + 1), _, I.laid (t' := tk) (o := .lst ((ys.mergeSort (dataLe false fun z => dKey z.2)).map (·.1))) kp fr ⟨by rw [List.length_map, List.length_mergeSort]; exact hlen, out, n, vals_eachF eo, hn⟩, rfl, q _ (I.hok.fresh fr)⟩
end
/-! ### as a reading -/
def inOf : D → Option Int
  | .int i => some i
  | _ => none
/-- what a tuple begins with: a tuple of whole numbers -/
def fstI : D → Option (List Int)
  | .tup (.tup ks :: _) => mapO inOf ks
  | _ => none
def okF (d : D) : Bool := match fstI d with
  | some (_ :: _) => true
  | _ => false
def keyF (d : D) : PyData := dKey ((fstI d).getD [])
def srtF (ds : List D) : List D := ds.mergeSort (dataLe false keyF)
def qSortedF (at_ : Str × Option Str) (q : Str) (t : DO) : DA := fun env h => (t env h).bind fun m (h1 : DH) => match h1[0]? with
  | some (OD.tbl a b) => if a = at_ ∧ b = q then (match m.aslst h1 with
    | some ds => if ds.all okF then .ok (srtF ds) h1 else .stuck
    | none => .stuck) else .stuck
  | _ => .stuck
theorem inOf_all : ∀ {ks : List D} {t : List Int}, mapO inOf ks = some t → ks = t.map .int
  | [], t, e => by cases e; rfl
  | k :: ks, t, e => by
    simp only [mapO] at e
    obtain ⟨i, ei, e⟩ := Option.bind_eq_some_iff.mp e
    obtain ⟨u, eu, rfl⟩ := Option.map_eq_some_iff.mp e
    rw [inOf_all eu]
    cases k <;> simp [inOf] at ei
    rw [ei]; rfl
theorem fst_rd {g : Gm} {ρ : List Addr} {H : Hp} {d : D} {v : V} {t : List Int} (e : fstI d = some t) (r : RD g ρ H d v) : ∃ a vs k, v = .ref a ∧ SqT g.K H a (.ref k :: vs) ∧ SqT g.K H k (t.map V.int) := by
  unfold fstI at e
  split at e
  · rename_i ks rest
    rw [inOf_all e] at r
    simp only [RD, RDs] at r
    obtain ⟨a, vs, rfl, s, w, us, rfl, ⟨b, zs, rfl, s2, r2⟩, _⟩ := r
    rw [RDs.of_ints r2] at s2
    exact ⟨a, us, b, rfl, s, s2⟩
  · cases e
theorem rds_zipF {g : Gm} {ρ : List Addr} {H : Hp} : ∀ {ds : List D} {vs : List V}, ds.all okF = true → RDs g ρ H ds vs →
    ∃ zs : List (D × V × List Int), zs.map (·.1) = ds ∧ zs.map (·.2.1) = vs ∧ ∀ z ∈ zs, RD g ρ H z.1 z.2.1 ∧ keyF z.1 = dKey z.2.2 ∧ z.2.2 ≠ [] ∧ ∃ a us k, z.2.1 = .ref a ∧ SqT g.K H a (.ref k :: us) ∧ SqT g.K H k (z.2.2.map V.int)
  | [], vs, _, r => by simp only [RDs] at r; subst r; exact ⟨[], rfl, rfl, by simp⟩
  | d :: ds, vs, a, r => by
    simp only [RDs] at r
    obtain ⟨v, t, e, r1, r2⟩ := r
    subst e
    rw [List.all_cons, Bool.and_eq_true] at a
    obtain ⟨zs, z1, z2, z3⟩ := rds_zipF a.2 r2
    have ok := a.1
    unfold okF at ok
    split at ok
    · rename_i i u ef
      refine ⟨(d, v, i :: u) :: zs, by simp [z1], by simp [z2], fun z hz => ?_⟩
      rcases List.mem_cons.mp hz with q | q
      · subst q; exact ⟨r1, by simp [keyF, ef], by simp, fst_rd ef r1⟩
      · exact z3 z q
    · cases ok
section
variable {X : Cx} {W : WB} {a : Expr} {t : DO} {pos p lpos kpos : Pos} {at_ : Str × Option Str} {q : Str} {params : Arguments} {body : Expr} {scope : Scope} {x : Str} {k : Nat}
theorem q_sortedF (TB : LamX.TabB X.base X.mg (He.cT X.K at_).1 (He.cT X.K at_).2) (hcode : X.env.code = .ref (He.cT X.K at_).1) (hr : Room (k + 4) X.A) (hm : X.mg "sorted" = none) (pa : DMx X W a t) (L : Lam0 q params body scope x)
    (hq : lamQ X = q := by rfl) (hdef : defaultsOf params X.env = ([], []) := by rfl) (hcl : closureFor scope X.env = pure [] := by rfl) (hg : Gl X "sorted" := by rfl) (hs : starEach (a :: []) X.env = (false, eval a X.env) :: starEach [] X.env := by rfl) (hpl : (backTo pos (starEach (a :: []) X.env)).any (·.1) = false := by rfl) (he : backTo pos (starEach (a :: []) X.env) = (false, eval a X.env) :: backTo pos (starEach [] X.env) := by rfl) :
    DQx X W (.Call (.Name "sorted" p) [a] [⟨some "key", .Lambda params body scope lpos, kpos⟩] pos) (qSortedF at_ q t) :=
  PE.imp (pe_callBK (call_srtF (x := x) (by rw [hq]; exact L) hr) hg hm (by decide +kernel) (pa_one pa hs) (pk_cons (pe_lam TB hcode hdef hcl) pk_nil) (by decide) (by decide) he hpl rfl rfl rfl) fun σ H Q ⟨ρ, env, h, R, E, q0⟩ => lM.plug R E q0 fun m h1 ρ1 H1 v x1 R1 E1 r1 q1 => by
    split at q1
    · rename_i a' b' hz
      by_cases ez : a' = at_ ∧ b' = q
      · rw [if_pos ez] at q1
        obtain ⟨rfl, rfl⟩ := ez
        have hl : 0 < ρ1.length := by rw [R1.len]; exact (List.getElem?_eq_some_iff.mp hz).1
        obtain ⟨P, eP⟩ : ∃ P, ρ1[0]? = some P := ⟨_, List.getElem?_eq_getElem hl⟩
        obtain ⟨ps, rP, hP, tP, cP⟩ := R1.ok 0 _ P hz eP
        subst rP
        refine ⟨ps, hP, tP, fun p cv e => ?_, fun f c' pm ctv qs H2 k1 k2 k3 k4 k5 k6 k7 => ?_⟩
        · obtain ⟨c, e1, e2, _⟩ := cP p cv e
          exact ⟨c, e1, by rw [hq]; exact e2⟩
        have mP : (He.cT X.K a').2 ∈ ρ1 := List.mem_of_getElem? eP
        have x2 : Ext ρ1 H1 ρ1 H2 := ⟨⟨[], by simp⟩, fun b hb nb => absurd hb nb, fun b o e nb => by
          rw [k1 b (fun z => nb (by rw [z]; exact mP)) (by rw [e]; simp)]; exact e, fun b ob u e => by
          rw [k1 b (fun z => by rw [z, hP] at e; cases e) (by rw [e]; simp)]; exact e⟩
        have R2 : RH (gm X) ρ1 h1 H2 := by
          refine ⟨R1.len, R1.nd, fun n o b e1 e2 => ?_⟩
          by_cases hb : b = (He.cT X.K a').2
          · have hn : n = 0 := by
              obtain ⟨l1, g1⟩ := List.getElem?_eq_some_iff.mp e2
              obtain ⟨l2, g2⟩ := List.getElem?_eq_some_iff.mp eP
              exact (List.getElem_inj R1.nd).mp (g1.trans (hb.trans g2.symm))
            subst hn
            rw [hz] at e1
            cases e1
            subst hb
            refine ⟨qs, rfl, k2, k3, fun p cv e => ?_⟩
            rcases k4 p cv e with z | ⟨z, nc⟩
            · obtain ⟨c, ec, hc, nc⟩ := cP p cv z
              exact ⟨c, ec, x2.frm c _ hc nc, nc⟩
            · exact ⟨c', z, by rw [hq] at k7; exact k7, R1.not nc⟩
          · have o1 := R1.ok n o b e1 e2
            exact o1.mono x2 R1 (k1 b hb o1.no.2.2.2.1)
        cases zl : m.aslst h1 with
        | none => simp only [zl] at q1; exact q1.elim
        | some ds =>
          simp only [zl] at q1
          by_cases ok : ds.all okF = true
          · rw [if_pos ok] at q1
            obtain ⟨c, vs, e1, s, r⟩ := aslst_sq R2 zl (r1.mono x2 R1)
            obtain ⟨zs, z1, z2, z3⟩ := rds_zipF ok r
            refine ⟨c, f, c', pm, ctv, zs.map (·.2), by rw [e1], rfl, k6, k7, ?_, fun y hy => ?_, fun p hp => ?_⟩
            · rw [List.map_map]; rw [← z2] at s; exact s
            · obtain ⟨z, hz, rfl⟩ := List.mem_map.mp hy
              obtain ⟨_, _, y1, y2⟩ := z3 z hz
              obtain ⟨a, us, k, y3, y4, y5⟩ := y2
              exact ⟨y1, a, us, k, y3, y4, y5⟩
            · have srt : (zs.mergeSort fun x y => dataLe false keyF x.1 y.1).map (·.1) = srtF ds := by
                rw [merge_fst (fun z : D × V × List Int => z.1) (dataLe false keyF), z1]; rfl
              have srt2 : ((zs.map (·.2)).mergeSort (dataLe false fun z => dKey z.2)) = (zs.mergeSort fun x y => dataLe false keyF x.1 y.1).map (·.2) := by
                rw [List.map_mergeSort (s := dataLe false fun z : V × List Int => dKey z.2) (r := fun x y : D × V × List Int => dataLe false keyF x.1 y.1)]
                intro x hx y hy
                show dataLe false keyF x.1 y.1 = dataLe false (fun z : V × List Int => dKey z.2) x.2 y.2
                rw [PySem.W.dataLe_eq, PySem.W.dataLe_eq]
                dsimp only
                rw [(z3 x hx).2.1, (z3 y hy).2.1]
              rw [srt2, List.map_map]
              refine q1 ρ1 _ (x2.trans (Ext.tup hp)) (R2.tup hp) p _ upd_same (R2.not hp) ((x1.trans x2).fresh R R2 hp) ?_
              rw [← srt]
              have pz : ∀ z ∈ (zs.mergeSort fun x y => dataLe false keyF x.1 y.1), RD (gm X) ρ1 H2 z.1 z.2.1 := fun z hz => (z3 z (List.mem_mergeSort.mp hz)).1
              refine RDs.mono (Ext.tup hp) R2 ?_
              clear srt srt2
              generalize (zs.mergeSort fun x y => dataLe false keyF x.1 y.1) = ys at pz
              induction ys with
              | nil => simp [RDs]
              | cons y ys ih =>
                simp only [List.map_cons, RDs]
                exact ⟨_, _, rfl, pz y (by simp), ih fun z hz => pz z (by simp [hz])⟩
          · rw [if_neg ok] at q1; exact q1.elim
      · rw [if_neg ez] at q1; exact q1.elim
    · exact q1.elim
end
/-! ### a def whose code object is told -/
theorem okDC {at_ : Str × Option Str} {P : Program} {w : World} {K : PySem.W.Frag} {mg : Str → Option Value} {base : Heap} {x qual : Str} {params : Arguments} {body : List Stmt} {scope : Scope} {dvs : List V} {kws : List (Str × V)} {fd : FuncData} {N ps : List Str} {k m : Nat} {tb : DS}
    (F : FunD K x qual params body scope dvs kws (He.fAd K at_) fd) (S : FnScope N ps scope) (hm : N.length - ps.length = m)
    (hb : ∀ (cdv : Value) (A : Around) (outer : List Env) (s : Shared) (H : Hp) (E : XK), cdv = .ref (He.codeOf K at_) → Room k (A.deeper (envOfC qual scope s.heap.objs.size (He.fAd K at_) cdv)) →
      L2.Takes (cxOf (L2.CX P w) P w K mg base N qual scope (He.fAd K at_) cdv A outer s H E) (fun c d _ H' => E c d H') →
      PassesOwn (model P w) (A.deeper (envOfC qual scope s.heap.objs.size (He.fAd K at_) cdv)) (envOfC qual scope s.heap.objs.size (He.fAd K at_) cdv) (cxOf (L2.CX P w) P w K mg base N qual scope (He.fAd K at_) cdv A outer s H E).xe → DSsx (cxOf (L2.CX P w) P w K mg base N qual scope (He.fAd K at_) cdv A outer s H E) ⟨fun c d _ H' => E c d H', none⟩ body tb) :
    FnOk P w K mg base (L2.CX P w) (k + 1) (He.fAd K at_) fd ps (spD ⟨P, w, K, mg⟩ ps.length (runB m tb)) := by
  obtain ⟨oc, od, dV, kV, doc, pm, an, cdv, ct, osl, rfl, lk, hcd, _, _⟩ := F.ex
  refine ⟨fun vs H Q E h => h.1, fun A outer s H args us vs Q E hr e0 hbd r hsp => ?_⟩
  have hl : vs.length = ps.length := hsp.1
  have hcv : cdv = .ref (He.codeOf K at_) := by
    obtain ⟨c, rfl⟩ := He.codeIn_ref hcd
    rw [He.codeOf_eq lk rfl]
  have KX : K.In s.heap := e0.mod.kin.keeps fun b o e => (e0.bs b o e).1
  have lim : s.heap.NoLimit := e0.mod.nolimit.keeps fun b o e => (e0.bs b o e).1
  have hkind : ∀ y ∈ ps.zip us, scope.names.lookup y.1 = some .local ∨ (scope.names.lookup y.1 = some .cell ∧ ((cellsFrom (s.heap.objs.size + 1) scope.names []).lookup y.1).isSome = true) := by
    rintro ⟨n, v⟩ hy
    rcases S.par n (List.of_mem_zip hy).1 with q | q
    · exact .inl q
    · exact .inr ⟨q, PySem.W.cellsFrom_some _ _ _ (.inl q)⟩
  refine codeAny_call_function hr.depth (KX _ _ lk) rfl S.co S.gen rfl (PySem.W.codeRec_of KX hcd) (hbd _ _ _ _ ?_)
  refine wpAny_newFunctionEnv_cells S.kind hkind fun env he s1 x => ?_
  subst he
  refine ⟨lim.keeps x.toInCall.keep, codeAny_func ?_⟩
  have I : Inv (cxOf (L2.CX P w) P w K mg base N qual scope (He.fAd K at_) cdv A outer s H E) [] (start N vs) H s1 := inv_start S hr.hd e0 hl r x
  obtain ⟨_, ρ, ds, h0, R, rr, q⟩ := hsp
  have body_ok := hb cdv A outer s H E hcv (hr.deeper _) (takes_of rfl rfl rfl rfl) (passes_of (X := cxOf (L2.CX P w) P w K mg base N qual scope (He.fAd K at_) cdv A outer s H E) rfl)
  refine wpAny_mono (body_ok.run [] s1 (start N vs) H ⟨fun _ H' => Q .non H', Q, fun _ _ => False, fun _ _ => False⟩ I ⟨ρ, _, h0, R, REn.start (N := N) (k := m) rr (by rw [hl]; exact hm), ?_⟩) (fun fl s' hs => ?_) fun e s' hs => hs
  · unfold runB at q
    cases z : tb (ds.map some ++ List.replicate m Option.none) h0 with
    | nx env h1 => rw [z] at q; exact fun ρ' H' σ' x1 R1 E1 => q ρ' H' x1 R1 _ (by simp [RD])
    | rt d h1 => rw [z] at q; exact fun ρ' H' v x1 R1 r1 => q ρ' H' x1 R1 v r1
    | bk env h1 => rw [z] at q; exact q.elim
    | ct env h1 => rw [z] at q; exact q.elim
    | exc e env h1 => rw [z] at q; exact fun ρ' H' σ' cls d x1 R1 E1 z1 => q ρ' H' cls d x1 R1 z1
    | stuck => rw [z] at q; exact q.elim
  · have fin : ∀ {σ' : L2.St} {H' : Hp} {v : V} {u : Value}, Inv (cxOf (L2.CX P w) P w K mg base N qual scope (He.fAd K at_) cdv A outer s H E) [] σ' H' s' → RelV v u → Q v H' → CE outer P w H s Q u s' :=
      fun {σ' H' v u} J rv q => ⟨v, H', J.os, J.bare, J.base, J.hok, rv, q⟩
    cases fl with
    | ret u =>
      obtain ⟨v, σ', H', J, rv, q⟩ := hs
      exact fin J rv q
    | next =>
      obtain ⟨σ', H', J, q⟩ := hs
      exact fin (v := V.non) (u := Value.none) J rfl q
    | brk =>
      obtain ⟨_, _, _, q⟩ := hs
      exact q.elim
    | cont =>
      obtain ⟨_, _, _, q⟩ := hs
      exact q.elim
end DL
/-! DLvh: a law's end where one def has a lambda: the table of its code objects is the heap's first object. -/
namespace DL
open PySem PySem.Spec PyProof.Rows L2
/-! ### what the top has left -/
def obsXT (n : Nat) (fs : List FaX) (fn : List He.DefD) (at_ : Str × Option Str) (g : Addr → Option Obj) : He.AlD × Bool := (obsX fs fn (He.frT g (He.asD g n)), He.tabsB g [at_] (He.frT g (He.asD g n)))
structure SaysXT (fs : List FaX) (fn : List He.DefD) (at_ : Str × Option Str) (h : Heap) (K : PySem.W.Frag) : Prop where
  c : SaysX fs fn K
  hd : PySem.W.codeHdIn K (He.cT K at_).1 (He.cT K at_).2 = true
  out : K.lookup (He.cT K at_).2 = none
  emp : h.get? (He.cT K at_).2 = some { cls := .none, data := .fields #[] }
theorem saysXT_of {n : Nat} {fs : List FaX} {fn : List He.DefD} {at_ : Str × Option Str} {h : Heap} (e : obsXT n fs fn at_ h.get? = ((true, fn.map He.DefD.val), true)) : SaysXT fs fn at_ h (He.frT h.get? (He.asD h.get? n)) := by
  have e1 : SaysX fs fn (He.frT h.get? (He.asD h.get? n)) := congrArg Prod.fst e
  have e2 : He.tabsB h.get? [at_] (He.frT h.get? (He.asD h.get? n)) = true := congrArg Prod.snd e
  unfold He.tabsB at e2
  simp only [List.all_cons, List.all_nil, Bool.and_true, Bool.and_eq_true] at e2
  obtain ⟨h1, h2⟩ := e2
  split at h2
  · rename_i o z
    exact ⟨e1, h1, He.frT_none z h2, by rw [z, He.emptyTab_eq h2]⟩
  · cases h2
def hookXT (n : Nat) (fs : List FaX) (fn : List He.DefD) (at_ : Str × Option Str) : PySem.W.Hook where
  α := He.AlD × Bool
  obs := fun s => obsXT n fs fn at_ s.heap.get?
  val := fun _ => ((true, fn.map He.DefD.val), true)
  says := fun _ h => ∃ K : PySem.W.Frag, K.In h ∧ SaysXT fs fn at_ h K
  of := fun _ _ e => ⟨_, He.frT_in, saysXT_of e⟩
  keeps := fun _ _ _ ⟨K, hK, c⟩ k => ⟨K, PySem.W.Frag.In.keeps hK k, c.c, c.hd, c.out, k _ _ c.emp⟩
theorem obsXT_eq {n : Nat} {fs : List FaX} {fn : List He.DefD} {at_ : Str × Option Str} {g : Addr → Option Obj} {s : Shared} (h : ∀ a, g a = s.heap.get? a) : obsXT n fs fn at_ g = (hookXT n fs fn at_).obs s := by
  have e : g = s.heap.get? := funext h
  rw [e] <;> rfl
/-! ### the call -/
theorem law_callGT {P : Program} {w : World} {K : PySem.W.Frag} {mg mb : Str → Option Value} {CX : CXT} {k : Nat} {fa a c T : Addr} {fd : FuncData} {x : Str} {sp : Sp} {s₁ : Shared} {vs : List Value} {ns : List Int}
    (KX : K.In s₁.heap) (hns : s₁.heap.Ns mainGlobals mg) (hb : s₁.heap.Ns builtinsNs mb) (hbb : ∀ x : Str, x ≠ "__name__" → mb x = bootBuiltins x) (hlim : s₁.heap.NoLimit) (hg : s₁.gens = #[])
    (hT : s₁.heap.get? T = some { cls := .none, data := .fields #[] }) (nT : K.lookup T = none) (C : PySem.W.CodeHd s₁.heap c T)
    (hbm : ∃ (bm : Addr) (ob : Obj), mg "__builtins__" = some (.ref bm) ∧ bm ≠ builtinsNs ∧ s₁.heap.get? bm = some ob ∧ ob.cls = .type "module" ∧ ob.dict = some builtinsNs ∧ ob.data = .plain)
    (ha : s₁.heap.get? a = some { cls := .type "list", data := .seq vs.toArray }) (hi : IntsAre vs ns) (hl : ns.length ≤ sizeLine) (hr : Room k callerA)
    (F : ∀ base : Heap, K.In base → base.Ns mainGlobals mg → LamX.TabB base mg c T → FnG P w K mg base CX k fa fd [x] sp) (hbind : ∀ (s : Shared) (u : Value), BindsTo s fd ⟨[u], []⟩ [(x, u)])
    (hsp : ∀ H : Hp, H T = some (.tbl #[]) → RoL K H a (ns.map V.int) → sp [.ref a] H (fun v _ => v = .bl true) fun _ _ _ => False)
    (hCX : ∀ H e s', CX [] H s₁ (fun _ _ _ => False) e s' → False) :
    codeAny (model P w) callerA (.call (.ref fa) ⟨[.ref a], []⟩) (fun r s' => r = .ok (.ret (.bool true)) ∧ OldK s₁.heap s'.heap ∧ s'.os = s₁.os ∧ AllBare s'.gens) s₁ := by
  have rv := vals_ints hi
  have lenV := hi.length
  have aT : a ≠ T := fun z => by rw [z, hT] at ha; cases (show Data.fields #[] = Data.seq vs.toArray _ from congrArg Obj.data (Option.some.inj ha))
  have core : ∀ H : Hp, H T = some (.tbl #[]) → (∀ b, b ≠ T → H b = none ∨ ∃ o xs, H b = some (.frz o (.lst xs))) → RoL K H a (ns.map V.int) → HOk P w H s₁.heap → (∀ b, H b ≠ none → b = a ∨ b = T) → (H a ≠ none → K.lookup a = none) →
      codeAny (model P w) callerA (.call (.ref fa) ⟨[.ref a], []⟩) (fun r s' => r = .ok (.ret (.bool true)) ∧ OldK s₁.heap s'.heap ∧ s'.os = s₁.os ∧ AllBare s'.gens) s₁ := by
    intro H hHT hO hS hok hA hK
    have free : ∀ {b : Addr} {o : Obj}, s₁.heap.get? b = some o → (∀ us n, o.data ≠ .seq us n) → o.data ≠ .fields #[] → H b = none := fun {b o} e n1 n2 => by
      cases z : H b with
      | none => rfl
      | some u =>
        rcases hA b (by rw [z]; simp) with q | q
        · rw [q, ha] at e; cases e; exact (n1 _ _ rfl).elim
        · rw [q, hT] at e; cases e; exact (n2 rfl).elim
    have hid : ∀ {b : Addr} {o : Obj}, s₁.heap.get? b = some o → H b = none → (hidT s₁.heap H).get? b = some o := fun e n => hidT_get e n
    have nsK : ∀ {b : Addr} {m : Str → Option Value}, s₁.heap.Ns b m → (hidT s₁.heap H).Ns b m := by
      rintro b m ⟨o, es, ep, e, d, r⟩
      exact ⟨o, es, ep, hid e (free e (fun us n z => by rw [d] at z; cases z) fun z => by rw [d] at z; cases z), d, r⟩
    have hKb : K.In (hidT s₁.heap H) := by
      intro b o e
      refine hid (KX b o e) ?_
      by_cases z : H b = none
      · exact z
      · rcases hA b z with q | q
        · subst q; rw [hK z] at e; cases e
        · subst q; rw [nT] at e; cases e
    have hM : Mod K mg (hidT s₁.heap H) := ⟨hKb, nsK hns, ⟨mb, nsK hb, hbb⟩, by obtain ⟨mc, h1, h2⟩ := hlim; exact ⟨mc, nsK h1, h2⟩⟩
    have hTB : LamX.TabB (hidT s₁.heap H) mg c T := by
      obtain ⟨o, us, file, tf, flags, tg, inF, text, tt, e1, r1, r2, r3, rest⟩ := C
      obtain ⟨bm, ob, b1, b2, b3, b4, b5, b6⟩ := hbm
      have n3 : us ≠ #[] := fun z => by rw [z] at r3; simp at r3
      refine ⟨⟨o, us, file, tf, flags, tg, inF, text, tt, hid e1 (free e1 (fun vs n z => by rw [r2] at z; cases z) fun z => by rw [r2] at z; cases z; exact n3 rfl), r1, r2, r3, rest⟩, ⟨bm, ob, b1, b2, fun q => ?_, fun q => ?_, hid b3 (free b3 (fun vs n z => by rw [b6] at z; cases z) fun z => by rw [b6] at z; cases z), b4, b5, b6⟩, fun z => ?_⟩
      · obtain ⟨o, es, ep, e, d, _⟩ := hns
        rw [q, e] at b3; cases b3
        rw [d] at b6; cases b6
      · rw [q, hT] at b3; cases b3; cases b6
      · obtain ⟨o, es, ep, e, d, _⟩ := hns
        rw [z, hT] at e; cases e; cases d
    have e0 : Env0 P w K mg (hidT s₁.heap H) callerA [] s₁ H := ⟨rfl, hM, fun b o e => of_hidT e, Nat.le_of_eq (hidT_size _ _), trivial, fun b hb => absurd (show b ∈ ([] : List Addr) from hb) (by simp), hok, .of_eq hg⟩
    refine codeAny_mono ((F _ hKb (nsK hns) hTB).run callerA [] s₁ H ⟨[.ref a], []⟩ [.ref a] [.ref a] _ _ rfl hr e0 (hbind s₁ (.ref a)) (.cons rfl .nil) (hsp H hHT hS)) fun r s' h => ?_
    cases r with
    | error e => exact (hCX H e s' h).elim
    | ok fl =>
      cases fl with
      | next => exact h.elim
      | brk => exact h.elim
      | cont => exact h.elim
      | ret u =>
        obtain ⟨v, H', os, bare, un, hok', r', q⟩ := h
        obtain rfl : v = .bl true := q
        obtain rfl : u = Value.bool true := r'
        have rest : ∀ b o, b ≠ T → s₁.heap.get? b = some o → s'.heap.get? b = some o := fun b o nb e => by
          rcases hO b nb with q | ⟨ob, xs, q⟩
          · exact un.keep b o e q (by intro z; exact absurd (show b ∈ ([] : List Addr) from z) (by simp)) (by simp)
          · have z2 := un.frzs b ob _ q
            obtain ⟨e1, _⟩ := hok b _ q
            obtain ⟨e2, _⟩ := hok' b _ z2
            rw [e] at e1; cases e1
            exact e2
        obtain ⟨more, hm⟩ := un.tbls T #[] hHT
        have tab := hok' T _ hm
        refine ⟨rfl, ⟨fun b o e => ?_, fun b o e => ?_⟩, os, bare⟩
        · by_cases nb : b = T
          · subst nb
            rw [hT] at e
            cases e
            exact .inr (.inl ⟨(C.tab hT).isCodeTable, rfl, #[], more, rfl, by rw [Array.empty_append] at tab ⊢; exact tab⟩)
          · exact .inl (rest b o nb e)
        · by_cases nb : b = T
          · rw [nb]; exact ⟨_, tab⟩
          · exact ⟨o, rest b o nb e⟩
  cases hk : K.lookup a with
  | some o =>
    have e := KX a o hk
    rw [ha] at e
    cases e
    refine core (fun b => if b = T then some (.tbl #[]) else none) (if_pos rfl) (fun b nb => .inl (if_neg nb)) (.inr ⟨_, vs.toArray, _, hk, rfl, rfl, rfl, by rw [List.size_toArray, lenV]; exact hl, by simpa using rv⟩) (fun b u z => ?_) (fun b z => ?_) fun z => absurd (if_neg aT) z
    · by_cases nb : b = T
      · have z' := (if_pos nb).symm.trans z
        cases z'
        rw [nb]; exact hT
      · have z' := (if_neg nb).symm.trans z
        cases z'
    · by_cases nb : b = T
      · exact .inr nb
      · exact absurd (if_neg nb) z
  | none =>
    have hA : (if a = T then some (HO.tbl #[]) else if a = a then some (HO.frz { cls := .type "list", data := .seq vs.toArray } (.lst (ns.map V.int))) else none) = some (HO.frz { cls := .type "list", data := .seq vs.toArray } (.lst (ns.map V.int))) := by rw [if_neg aT, if_pos rfl]
    refine core (fun b => if b = T then some (.tbl #[]) else if b = a then some (.frz { cls := .type "list", data := .seq vs.toArray } (.lst (ns.map V.int))) else none) (if_pos rfl) (fun b nb => ?_) (.inl ⟨_, hA⟩) (fun b u z => ?_) (fun b z => ?_) fun _ => hk
    · by_cases hb : b = a
      · exact .inr ⟨_, _, (if_neg nb).trans (if_pos hb)⟩
      · exact .inl ((if_neg nb).trans (if_neg hb))
    · by_cases nb : b = T
      · have z' := (if_pos nb).symm.trans z
        cases z'
        rw [nb]; exact hT
      · have z1 := (if_neg nb).symm.trans z
        by_cases hb : b = a
        · have z' := (if_pos hb).symm.trans z1
          cases z'
          subst hb
          exact ⟨ha, by rw [List.length_map]; exact hl, vs, _, rv, ha⟩
        · have z' := (if_neg hb).symm.trans z1
          cases z'
    · by_cases nb : b = T
      · exact .inr nb
      · by_cases hb : b = a
        · exact .inl hb
        · exact absurd ((if_neg nb).trans (if_neg hb)) z
/-- a law's end: the heap begins with the table -/
theorem walk_XGT {l : PySem.W.OpenLaw} {n k : Nat} {q : Program} {loose : List Str} {XP : (Str → Option Value) → Heap → Prop} {YP : World → Heap → Prop} {d : DefRec} {x : Str} {F : FD} {at_ : Str × Option Str} {lq : Str}
    (hn : l.most = some n) (hn2 : n ≤ sizeLine) (hdf : d.params.defaults = []) (hr : Room k callerA)
    (FF : ∀ (w : World) (mg : Str → Option Value) (fa : Addr) (h : Heap), YP w h → h.Ns mainGlobals mg → mg d.name = some (.ref fa) →
      ∃ (K : PySem.W.Frag) (fd : FuncData), K.In h ∧ PySem.W.codeHdIn K (He.cT K at_).1 (He.cT K at_).2 = true ∧ K.lookup (He.cT K at_).2 = none ∧ h.get? (He.cT K at_).2 = some { cls := .none, data := .fields #[] } ∧ (∀ (s : Shared) (u : Value), BindsTo s fd ⟨[u], []⟩ [(x, u)]) ∧
        ∀ base : Heap, K.In base → base.Ns mainGlobals mg → LamX.TabB base mg (He.cT K at_).1 (He.cT K at_).2 → FnG l.prog w K mg base (L2.CX l.prog w) k fa fd [x] (spD ⟨l.prog, w, K, mg⟩ 1 F))
    (h : ∀ ns : List Int, ns.length ≤ n → ∃ h', F [.rol (ns.map .int)] [.tbl at_ lq] = .ok (.bl true) h') :
    PySem.W.WalkO q loose XP YP l.row.toRowW d [] (fun f vs => PySem.call f vs) := by
  refine Att.attach_call hn hdf fun w s₀ s₁ mg mb fa o pm cd doc a vs ns G Y ho hd hcd hmg hobj hints hlen hg => ?_
  obtain ⟨K, fd, KX, t1, t2, t3, hb, hF⟩ := FF w mg fa _ Y G.T.g hmg
  refine law_callGT KX G.T.g G.T.b G.T.builtins G.T.nolimit hg t3 t2 (PySem.W.codeHd_of_K KX t1) G.T.bmain hobj hints (Nat.le_trans hlen hn2) hr hF hb (fun H hT rol => ?_) fun H e s' z => ?_
  · obtain ⟨h', e⟩ := h ns hlen
    refine ⟨rfl, [(He.cT K at_).2], [.rol (ns.map .int)], [.tbl at_ lq], ⟨rfl, by simp, fun n o b e1 e2 => ?_⟩, ?_, ?_⟩
    · cases n with
      | succ n => simp at e1
      | zero =>
        simp at e1 e2
        subst e1
        subst e2
        refine ⟨#[], rfl, hT, trivial, fun p cv z => ?_⟩
        have z : codeAmong p [] = some cv := z
        simp [codeAmong] at z
    · simp only [RDs, RD]
      exact ⟨_, [], rfl, ⟨a, _, rfl, rol, RDs.ints' _ _ _ ns⟩, rfl⟩
    · rw [e]
      intro ρ' H' _ _ v r
      simpa [RD] using r
  · obtain ⟨_, _, _, _, _, _, _, _, _, _, _, _, z⟩ := z
    exact z.elim
end DL
/-! DLvi: dict(list of pairs), list.insert, shifts, sum, the least of a tuple, texts compared, repr of dicts. -/
namespace DL
open PySem PySem.Spec PyProof.Rows L2
/-! ### dict(pairs) -/
def unPair : D → Option (D × D)
  | .tup [k, v] => some (k, v)
  | _ => none
def dictL (ps : List (D × D)) : List (D × D) := ps.foldl (fun a p => dput a p.1 p.2) []
def fDictL : DM → DH → Res D := fun m h => match (m.aslst h).bind (mapO unPair) with
  | some ps => if ps.all (fun p => tupK p.1) then .ok (.ref h.length) (h ++ [.dct false (dictL ps)]) else .stuck
  | none => .stuck
def rDictL (X : Cx) : List V → Hp → VK → Prop := fun xs H Q => ∃ ρ h ds ps a vs, xs = [.ref a] ∧ RH (gm X) ρ h H ∧ SqL X.K H a vs ∧ RDs (gm X) ρ H ds vs ∧ mapO unPair ds = some ps ∧ (ps.all fun p => tupK p.1) = true ∧
  ∀ p H', Ext ρ H (ρ ++ [p]) H' → RH (gm X) (ρ ++ [p]) (h ++ [.dct false (dictL ps)]) H' → Q (.ref p) H'
section
variable {X : Cx}
theorem pairs_of {pins : List (Addr × Obj)} {σ : L2.St} {H : Hp} {s : Shared} {ρ : List Addr} (I : Inv X pins σ H s) : ∀ {ds : List D} {ps : List (D × D)} {vs : List V} {us : List Value}, RDs (gm X) ρ H ds vs → mapO unPair ds = some ps → (ps.all fun p => tupK p.1) = true → Vals vs us →
    ∃ (qs : List (NestedKey × Addr × Value)) (ts : List Addr), us = ts.map .ref ∧ qs.length = us.length ∧ Paired (KX (gm X) ρ H) ps qs ∧ (∀ x ∈ qs, (nestedKind X.prog X.w).is s.heap x.1 x.2.1) ∧ ∀ (j : Nat) (x : NestedKey × Addr × Value), qs[j]? = some x → ∃ t, ts[j]? = some t ∧ PairAt s.heap t (.ref x.2.1) x.2.2
  | [], ps, vs, us, r, e, _, q => by
    simp only [RDs] at r; subst r
    cases e; cases q
    exact ⟨[], [], rfl, rfl, .nil, by simp, by simp⟩
  | d :: ds, ps, vs, us, r, e, a, q => by
    simp only [RDs] at r
    obtain ⟨v, t, rfl, r1, r2⟩ := r
    simp only [mapO] at e
    obtain ⟨p, e1, e⟩ := Option.bind_eq_some_iff.mp e
    obtain ⟨pt, e2, rfl⟩ := Option.map_eq_some_iff.mp e
    rw [List.all_cons, Bool.and_eq_true] at a
    obtain ⟨k, w⟩ := p
    obtain rfl : d = .tup [k, w] := by
      unfold unPair at e1
      split at e1
      · cases e1; rfl
      · cases e1
    cases q with
    | @cons _ u _ us q1 q2 =>
      obtain ⟨qs, ts, f1, f2, f3, f4, f5⟩ := pairs_of I r2 e2 a.2 q2
      simp only [RD, RDs] at r1
      obtain ⟨c, ws, rfl, sq, kv, wt, rfl, rk, wv, wu, rfl, rw', rfl⟩ := r1
      obtain rfl : u = Value.ref c := q1
      obtain ⟨its, tr, tt, _⟩ := I.tuple sq
      obtain ⟨ku, wu, rfl, rku, rwu⟩ := vals2 tr
      obtain ⟨k1, k2, dks, ek⟩ := tupK_ok a.1
      have ek : k = .tup dks := ek
      have rk' := rk
      rw [ek] at rk'
      simp only [RD] at rk'
      obtain ⟨b, zs, rfl, _⟩ := rk'
      obtain rfl : ku = Value.ref b := rku
      refine ⟨(nk k, b, wu) :: qs, c :: ts, by rw [f1]; rfl, by simp [f2], .cons ⟨k1, k2, rk, wv, rw', rwu⟩ f3, fun x hx => ?_, fun j x hj => ?_⟩
      · rcases List.mem_cons.mp hx with z | z
        · subst z; exact ⟨nested_of I rk k1 rfl, k2⟩
        · exact f4 x z
      · cases j with
        | zero =>
          simp at hj
          subst hj
          obtain ⟨o, ho, oc, n, od⟩ := tt
          exact ⟨c, rfl, .inl ⟨o, ho, oc, n, od⟩⟩
        | succ j => exact f5 j x (by simpa using hj)
theorem kx_all {ρ : List Addr} {H : Hp} : ∀ {ps : List (D × D)} {qs : List (NestedKey × Addr × Value)} {kvs : List (D × D)} {xs : List (NestedKey × Addr × Value)}, Paired (KX (gm X) ρ H) ps qs → Paired (KX (gm X) ρ H) kvs xs → Paired (KX (gm X) ρ H) (ps.foldl (fun a p => dput a p.1 p.2) kvs) (storedAllH xs qs)
  | _, _, kvs, xs, .nil, h => h
  | p :: ps, q :: qs, kvs, xs, .cons ⟨a1, a2, a3, vv, a4, a5⟩ t, h => by
    have e : nk p.1 = q.1 := by unfold nk; rw [a1]; rfl
    have := kx_put (k := p.1) (v := p.2) (a := q.2.1) (u := q.2.2) (by rw [e]; exact a1) (by rw [e]; exact a2) a3 a4 a5 h
    rw [e] at this
    show Paired _ (ps.foldl _ (dput kvs p.1 p.2)) (storedAllH (storedH xs q.1 q.2.1 q.2.2) qs)
    exact kx_all t this
theorem storedAll_len {K : Type} [DecidableEq K] : ∀ {qs xs : List (K × Addr × Value)}, (storedAllH xs qs).length ≤ xs.length + qs.length
  | [], xs => by simp [storedAllH]
  | q :: qs, xs => by
    show (storedAllH (storedH xs q.1 q.2.1 q.2.2) qs).length ≤ _
    have h1 := storedAll_len (qs := qs) (xs := storedH xs q.1 q.2.1 q.2.2)
    have h2 := stored_len (xs := xs) (k := q.1) (a := q.2.1) (v := q.2.2)
    simp only [List.length_cons]
    omega
theorem call_dictL (hc : X.calm = true) (hu : X.A.units + 100 < cLine) : CallR X (.type "dict") (rDictL X) := by
  rintro pins s σ H xs us Q I r ⟨ρ, h, ds, ps, a, vs, rfl, R, sq, rr, ep, tk, q⟩
  obtain ⟨u, rfl, ru⟩ := vals1 r
  obtain rfl : u = Value.ref a := ru
  obtain ⟨its, rv, hl, hz⟩ := I.list sq
  obtain ⟨qs, ts, rfl, f2, f3, f4, f5⟩ := pairs_of I rr ep tk rv
  have hlen : (qs.map fun x => (Value.ref x.2.1, x.2.2)).length ≤ sizeLine := by
    rw [List.length_map, f2, ← rv.length]; exact hz
  have lq : qs.length = ts.length := by rw [f2, List.length_map]
  refine call_dict_pairsH (knd := nestedKind X.prog X.w) (ps := qs) (PairArg.list a (ts.map Value.ref).toArray (fun j => (ts[j]?).getD 0) (qs.map fun x => (Value.ref x.2.1, x.2.2))) (I.ok.hd hc) (by show X.A.units + 1 + 1 + 8 < cLine; omega)
    ⟨hl, by simp [lq], fun j k v hj => ?_⟩ ⟨by simp, fun i key v hi => ?_⟩ (fun h' hk x hx => nestedKind_stays.stays (fun b o _ _ e _ => hk b o (Nat.ne_of_lt (Heap.lt_size e)) (by simp) e) (f4 x hx)) hlen fun h' tk hd hk => ?_
  · rw [List.getElem?_map] at hj
    obtain ⟨x, ex, e⟩ := Option.map_eq_some_iff.mp hj
    cases e
    obtain ⟨t, et, pt⟩ := f5 j x ex
    have et' : (ts[j]?).getD 0 = t := by rw [et]; rfl
    show _ = some (Value.ref ((ts[j]?).getD 0)) ∧ PairAt s.heap ((ts[j]?).getD 0) _ _
    rw [et']
    exact ⟨by simp [et], pt⟩
  · have hi : (qs.map fun x => (Value.ref x.2.1, x.2.2))[i]? = some (key, v) := hi
    rw [List.getElem?_map] at hi
    obtain ⟨x, ex, e⟩ := Option.map_eq_some_iff.mp hi
    cases e
    exact ⟨x.1, x.2.1, ex, rfl⟩
  · have hb := I.big
    have ne : (s.heap.objs.size == sysModules) = false := beq_eq_false_iff_ne.mpr (Ne.symm (Nat.ne_of_lt hb))
    have hp : H s.heap.objs.size = none := I.hok.fresh (Nat.le_refl _)
    obtain ⟨o, es, epo, g1, g2, g3, g4, _, g6⟩ := hd
    have J := I.laid (a := s.heap.objs.size) (o := rawO s.heap.objs.size es epo) (t' := tk) (h' := h') (fun b o e => hk b o (by simp) e) (Nat.le_refl _) ⟨⟨o, g1, g2, g3⟩, ⟨o, g1⟩, fun h1 h2 ⟨o, e, x, d⟩ k => ⟨o, k o e, x, d⟩⟩
    have px := kx_all f3 (kvs := []) (xs := []) .nil
    have x0 := Ext.new1 (o := rawO s.heap.objs.size es epo) R hp
    refine ⟨.ref s.heap.objs.size, _, J, rfl, q _ _ x0 (R.new1 hp ⟨o, (storedAllH [] qs).map (entryOfKey (nestedKind X.prog X.w)), epo, ?_, ne, ?_, ?_, ?_⟩)⟩
    · rw [← g4]; exact upd_same
    · have := storedAll_len (qs := qs) (xs := [])
      rw [List.length_map] at hlen ⊢
      simp at this
      omega
    · exact Paired.mapP (xs_ent (g := gm X) (prog := X.prog) px) fun _ _ y => y.mono x0 R
    · show (List.map (fun p => nkey p.1) (dictL ps)).Nodup
      rw [show dictL ps = ps.foldl (fun a p => dput a p.1 p.2) [] from rfl, kx_keys px]; exact nodup_some.mpr g6
theorem c_dictL : CallM (gm X) (rDictL X) fDictL := fun W ρ h H m v Q R rm q => by
  unfold fDictL at q
  split at q
  · rename_i ps e
    by_cases z : (ps.all fun p => tupK p.1) = true
    · rw [if_pos z] at q
      obtain ⟨ds, e1, e2⟩ := Option.bind_eq_some_iff.mp e
      obtain ⟨a, vs, rfl, sq, rr⟩ := aslst_sq R e1 rm
      exact ⟨ρ, h, ds, ps, a, vs, rfl, R, sq, rr, e2, z, fun p H' x R' => q _ H' x R' _ (by simp only [RD]; exact ⟨p, rfl, by rw [← R.len, List.getElem?_append_right (Nat.le_refl _)]; simp⟩)⟩
    · rw [if_neg z] at q; exact q.elim
  · exact q.elim
end
/-! ### insert -/
def dIns (to ti te : DE) : DE := fun env h => (to env h).bind fun d h1 => match asList h1 d with
  | none => .stuck
  | some _ => (ti env h1).bind fun i h2 => (te env h2).bind fun y h3 => match d, i with
    | .ref n, .int k => (match h3[n]? with
      | some (.lst ds) => if 0 ≤ k ∧ k < 2 ^ 62 ∧ small (ds.length + 1) = true then .ok .non (h3.set n (.lst (ds.take k.toNat ++ [y] ++ ds.drop k.toNat))) else .stuck
      | _ => .stuck)
    | _, _ => .stuck
section
variable {X : Cx} {W : WB} {o i e : Expr} {to ti te : DE} {pos apos : Pos}
theorem d_ins (po : DEx X W o to) (pi : DEx X W i ti) (pe : DEx X W e te) (hbase : attributeBase o "insert" X.env (eval o X.env) = eval o X.env := by rfl)
    (hfew : ((backTo pos (starEach (i :: [e]) X.env)).all (fun x => !x.1) && (backToKw pos (keywordEach [] X.env)).all (fun x => x.1.isSome)
      && decide ((i :: [e]).length + ([] : List Keyword).length + (if ([] : List Keyword).isEmpty then 0 else 1) < 30)) = true := by rfl)
    (hline : (apos.endLine == pos.line) = true := by rfl) (hs : starEach (i :: [e]) X.env = (false, eval i X.env) :: starEach [e] X.env := by rfl) (hs2 : starEach (e :: []) X.env = (false, eval e X.env) :: starEach [] X.env := by rfl) (hplain : (backTo pos (starEach [e] X.env)).any (·.1) = false := by rfl) :
    DEx X W (.Call (.Attribute o "insert" apos) [i, e] [] pos) (dIns to ti te) :=
  PE.imp (pe_bm PySem.F.plainAttrs_list PySem.F.slot_list_insert PySem.F.type_list_insert mt_insert po (pa_cons pi (pa_one pe hs2) hs) hbase hfew hline hs hplain) fun σ H Q ⟨ρ, env, h, R, E, q⟩ => lE.plug R E q fun d h1 ρ1 H1 v x1 R1 E1 r1 q1 => by
    cases z : asList h1 d with
    | none => simp only [z] at q1; exact q1.elim
    | some es =>
      simp only [z] at q1
      obtain ⟨c, vs, e1, s, r⟩ := asList_sq R1 z r1
      refine ⟨by rw [e1]; exact .inl ⟨rfl, _, s⟩, ?_⟩
      refine lE.plug R1 E1 q1 fun j h2 ρ2 H2 u x2 R2 E2 r2 q2 => ?_
      refine lE.plug R2 E2 q2 fun y h3 ρ3 H3 w x3 R3 E3 r3 q3 => ?_
      split at q3
      · rename_i n k
        have r1' := r1.mono (x2.trans x3) R1
        have r2' := r2.mono x3 R2
        simp only [RD] at r1' r2'
        obtain ⟨a', e1', e2⟩ := r1'
        cases z2 : h3[n]? with
        | none => simp only [z2] at q3; exact q3.elim
        | some od =>
          cases od with
          | lst ds =>
            simp only [z2] at q3
            by_cases sm : 0 ≤ k ∧ k < 2 ^ 62 ∧ small (ds.length + 1) = true
            · rw [if_pos sm] at q3
              obtain ⟨ws, ea, rw'⟩ := R3.ok _ _ a' z2 e2
              refine ⟨a', ws, k, w, e1', by rw [r2'], ea, by have := small_le sm.2.2; rw [rw'.length]; omega, sm.1, by have := sm.2.1; omega, ?_⟩
              have x4 : Ext ρ3 H3 ρ3 (upd H3 a' (.lst (ws.take k.toNat ++ [w] ++ ws.drop k.toNat))) := Ext.set e2 fun _ _ z => by rw [ea] at z; cases z
              exact q3 ρ3 _ x4 (R3.set e2 (fun _ _ z => by rw [ea] at z; cases z) ⟨_, upd_same, (((rw'.take k.toNat).append (RDs.cons r3 RDs.nil)).append (rw'.drop k.toNat)).lst ea⟩) _ (by simp [RD])
            · rw [if_neg sm] at q3; exact q3.elim
          | _ => simp only [z2] at q3; exact q3.elim
      · exact q3.elim
end
/-! ### operators -/
abbrev oShl := oI okPow fun i j => .int (i * 2 ^ j.toNat)
abbrev oShr := oI (fun _ j => decide (0 ≤ j)) fun i j => .int (i / 2 ^ j.toNat)
abbrev oAnd := oI0 fun i j => .int (Builtin.bitAnd i j)
section
variable {X : Cx} {W : WB} {a b : Expr} {ta tb : DE} {pos : Pos}
theorem d_shl (p : DEx X W a ta) (q : DEx X W b tb) : DEx X W (.BinOp a .LShift b pos) (dOp oShl ta tb) := d_bin op_shl (opd_I (fun i j h => by simpa [okPow, CPow] using h) fun _ _ _ _ => by simp [RD]) p q
theorem d_shr (p : DEx X W a ta) (q : DEx X W b tb) : DEx X W (.BinOp a .RShift b pos) (dOp oShr ta tb) := d_bin op_shr (opd_I (fun i j h => by simpa using h) fun _ _ _ _ => by simp [RD]) p q
theorem d_and' (p : DEx X W a ta) (q : DEx X W b tb) : DEx X W (.BinOp a .BitAnd b pos) (dOp oAnd ta tb) := d_bin op_and (opd_I0 fun _ _ _ _ => by simp [RD]) p q
/-- two texts -/
def oEqS (k : Bool → Bool) : D → D → DH → Res D := fun x y h => match x, y with
  | .str a, .str b => .ok (.bl (k (decide (a = b)))) h
  | _, _ => .stuck
theorem o_eqS : OpD (gm X) rEq (oEqS id) := fun W ρ h H x y v u Q R rx ry q => by
  cases x <;> cases y <;> try exact q.elim
  simp only [RD] at rx ry
  subst rx; subst ry
  refine ⟨rfl, q ρ H (Ext.refl _ _) R _ ?_⟩
  simp [RD]
theorem o_neS : OpD (gm X) rNe (oEqS not) := fun W ρ h H x y v u Q R rx ry q => by
  cases x <;> cases y <;> try exact q.elim
  simp only [RD] at rx ry
  subst rx; subst ry
  refine ⟨rfl, q ρ H (Ext.refl _ _) R _ ?_⟩
  simp [RD]
theorem t_eqS (ha : DEx X W a ta) (hb : DEx X W b tb) : DTx X W (.Compare a [.Eq] [b] pos) (dB (dOp (oEqS id) ta tb)) := d_testc op_eq o_eqS ha hb
theorem t_neS (ha : DEx X W a ta) (hb : DEx X W b tb) : DTx X W (.Compare a [.NotEq] [b] pos) (dB (dOp (oEqS not) ta tb)) := d_testc op_ne o_neS ha hb
end
/-! ### sum of a list, the least of a tuple -/
def fSum : DM → DH → Res D := fun m h => match (m.aslst h).bind (mapO intOf) with
  | some is => .ok (.int is.sum) h
  | none => .stuck
def fMinT : DM → DH → Res D := fun m h => match m with
  | .v (.tup ds) => (match mapO intOf ds with
    | some (i :: is) => .ok (.int (minL i is)) h
    | _ => .stuck)
  | _ => .stuck
section
variable {X : Cx}
theorem c_sum : CallM (gm X) (rSum X.K) fSum := fun W ρ h H m v Q R rm q => by
  unfold fSum at q
  cases z : (m.aslst h).bind (mapO intOf) with
  | none => rw [z] at q; exact q.elim
  | some ns =>
    rw [z] at q
    obtain ⟨ds, e1, e2⟩ := Option.bind_eq_some_iff.mp z
    obtain ⟨a, vs, ev, s, rr⟩ := aslst_sq R e1 rm
    rw [mapO_int e2] at rr
    refine ⟨a, ns, by rw [ev], ?_, q ρ H (Ext.refl _ _) R _ (by simp [RD])⟩
    rw [← RDs.of_ints rr]
    exact s
theorem min_tup {prog : Program} {w : World} {A : Around} {E : Value → Shared → Prop} {s : Shared} {l : Addr} {its : List Value} {ns : List Int} {Q : Value → Shared → Prop} (hh : A.handled = none) (hl : IsTup s.heap l its.toArray) (hi : IntsAre its ns) (hne : 0 < ns.length)
    (h : ∀ h' tk M t', (∀ b o, s.heap.get? b = some o → h'.get? b = some o) → M ∈ ns → (∀ a, a ∈ ns → M ≤ a) → Q (.int M t') { s with heap := h', toks := tk }) : wpAny (model prog w) A (call (.builtin "min") [.ref l]) Q E s := by
  obtain ⟨xs, e⟩ := hi.allInts.items
  have hn : numsOf (intItems xs).toList = ns := by rw [← e]; exact hi.numsOf
  have en : ns = xs.toList.map (·.1) := by rw [← hn]; exact nums_intItems _
  rw [e] at hl
  have hsz : 0 < xs.size := by rw [en] at hne; simpa using hne
  obtain ⟨o, ho, oc, n, od⟩ := hl
  have ht : s.heap.IsTuple l (intItems xs) := ⟨o, ho, oc, n, od⟩
  have hlt : l < s.heap.objs.size := Heap.lt_size ho
  refine PySem.call_min_walk (PySem.wpAny_pyIter_tuple ht ?_)
  refine ⟨_, [_, l], [_], _, _, _, _, rfl, PySem.Walks.tuple (A := A.in1) hh _ l (Nat.ne_of_lt hlt) (intItems xs), ⟨⟨_, Heap.get?_push_size _ rfl, rfl, rfl⟩, ht.push _⟩, fun c hc => ?_, by simpa [intItems] using hsz, PySem.CmpOf.ints_lt (numAt xs) (fun _ _ => intItems_at), fun v h' tk hP hk => ?_⟩
  · show c < (s.heap.push _).objs.size
    rw [Heap.size_push]
    rcases List.mem_cons.mp hc with rfl | hc
    · exact Nat.lt_succ_self _
    · rw [List.mem_singleton.mp hc]; exact Nat.lt_succ_of_lt hlt
  · have hP : (intItems xs)[argBest (fun i j => decide (numAt xs i < numAt xs j)) (xs.size - 1)]? = some v := by simpa [intItems] using hP
    obtain ⟨t, rfl⟩ := intItems_at hP
    obtain ⟨h1, h2⟩ := argBest_lt (numAt xs) (xs.size - 1)
    refine h h' tk _ t (fun b o e => hk b o (fun z => ?_) (Heap.get?_push_of_some _ e)) ?_ fun a ha => ?_
    · rw [List.mem_singleton.mp z] at e
      exact Nat.lt_irrefl _ (Heap.lt_size e)
    · rw [en, numAt_eq]; exact PySem.getD_mem (by rw [List.length_map, Array.length_toList]; omega)
    · rw [en] at ha
      obtain ⟨j, hj, rfl⟩ := mem_getD ha
      rw [List.length_map, Array.length_toList] at hj
      rw [← numAt_eq]; exact h2 j (by omega)
def rMinT (K : PySem.W.Frag) : List V → Hp → VK → Prop := fun vs H Q => ∃ (a : Addr) (ns : List Int), vs = [V.ref a] ∧ SqT K H a (ns.map V.int) ∧ 0 < ns.length ∧ ∀ m, m ∈ ns → (∀ y, y ∈ ns → m ≤ y) → Q (.int m) H
theorem cr_minT (hc : X.calm = true) : CallR X (.builtin "min") (rMinT X.K) := by
  rintro pins s σ H vs us Q I r ⟨a, ns, rfl, hs, hne, q⟩
  obtain ⟨its, rv, hl, _⟩ := I.tuple hs
  rw [Vals.ref1 r]
  exact min_tup (I.ok.hd hc) hl rv.ints hne fun h' tk m t' hk h1 h2 => ⟨.int _, H, I.kept hk, ⟨_, rfl⟩, q m h1 h2⟩
theorem c_minT : CallM (gm X) (rMinT X.K) fMinT := fun W ρ h H m v Q R rm q => by
  unfold fMinT at q
  split at q
  · rename_i ds
    split at q
    · rename_i i is e
      have rm' : RD (gm X) ρ H (.tup ds) v := rm
      rw [mapO_int e] at rm'
      simp only [RD] at rm'
      obtain ⟨a, vs, rfl, sq, rr⟩ := rm'
      rw [RDs.of_ints rr] at sq
      refine ⟨a, i :: is, rfl, sq, by simp, fun m hm hle => ?_⟩
      obtain ⟨h1, h2, h3⟩ := minL_ok is i
      have : m = minL i is := by
        have m1 : minL i is ∈ i :: is := by rcases h1 with z | z <;> simp [z]
        have m2 := hle _ m1
        rcases List.mem_cons.mp hm with z | z
        · rw [z] at m2 ⊢; omega
        · have := h3 _ z; omega
      rw [this]
      exact q ρ H (Ext.refl _ _) R _ (by simp [RD])
    · exact q.elim
  · exact q.elim
end
/-! ### repr of dicts -/
def toPyR (h : DH) : Nat → D → Option PyData
  | 0, _ => none
  | n + 1, d => match d with
    | .int i => some (.int i)
    | .tup ds => (mapO (toPyR h n) ds).map .tuple
    | .ref k => (match h[k]? with
      | some (.dct _ kvs) => (mapO (fun p => (toPyR h n p.1).bind fun a => (toPyR h n p.2).map fun b => (a, b)) kvs).map .dict
      | _ => none)
    | _ => none
section
variable {X : Cx} {pins : List (Addr × Obj)} {σ : L2.St} {H : Hp} {s : Shared} {ρ : List Addr} {h : DH}
theorem reads_Rs {f : D → Option PyData} (hf : ∀ d v u p, f d = some p → RD (gm X) ρ H d v → RelV v u → ∃ as, Reads s.heap u p as ∧ sysModules ∉ as) : ∀ {ds : List D} {vs : List V} {us : List Value} {ps : List PyData}, mapO f ds = some ps → RDs (gm X) ρ H ds vs → Vals vs us → ∃ as, ReadsAll s.heap us ps as ∧ sysModules ∉ as
  | [], vs, us, ps, e, r, q => by
    simp only [RDs] at r; subst r
    cases e; cases q
    exact ⟨[], .nil, by simp⟩
  | d :: ds, vs, us, ps, e, r, q => by
    simp only [RDs] at r
    obtain ⟨v, t, rfl, r1, r2⟩ := r
    simp only [mapO] at e
    obtain ⟨p, e1, e⟩ := Option.bind_eq_some_iff.mp e
    obtain ⟨pt, e2, rfl⟩ := Option.map_eq_some_iff.mp e
    cases q with
    | cons q1 q2 =>
      obtain ⟨as, a1, a2⟩ := hf d v _ p e1 r1 q1
      obtain ⟨bs, b1, b2⟩ := reads_Rs hf e2 r2 q2
      exact ⟨as ++ bs, .cons a1 b1, fun z => (List.mem_append.mp z).elim a2 b2⟩
theorem reads_Re {f : D → Option PyData} (hf : ∀ d v u p, f d = some p → RD (gm X) ρ H d v → RelV v u → ∃ as, Reads s.heap u p as ∧ sysModules ∉ as) : ∀ {kvs : List (D × D)} {es : List DictEntry} {ps : List (PyData × PyData)}, mapO (fun p => (f p.1).bind fun a => (f p.2).map fun b => (a, b)) kvs = some ps → Paired (REnt (gm X) ρ H) kvs es →
    (∃ as, ReadsAll s.heap (es.map (·.key)) (ps.map (·.1)) as ∧ sysModules ∉ as) ∧ ∃ bs, ReadsAll s.heap (es.map (·.val)) (ps.map (·.2)) bs ∧ sysModules ∉ bs
  | [], _, ps, e, .nil => by cases e; exact ⟨⟨[], .nil, by simp⟩, ⟨[], .nil, by simp⟩⟩
  | p :: kvs, _, ps, e, .cons (b := en) r t => by
    simp only [mapO] at e
    obtain ⟨q, e1, e⟩ := Option.bind_eq_some_iff.mp e
    obtain ⟨qt, e2, rfl⟩ := Option.map_eq_some_iff.mp e
    obtain ⟨a, ea, e1⟩ := Option.bind_eq_some_iff.mp e1
    obtain ⟨b, eb, rfl⟩ := Option.map_eq_some_iff.mp e1
    obtain ⟨k, kv, vv, _, _, rk, rv, _, rd, re⟩ := r
    obtain ⟨as, a1, a2⟩ := hf _ _ _ _ ea rk rv
    obtain ⟨bs, b1, b2⟩ := hf _ _ _ _ eb rd re
    obtain ⟨⟨cs, c1, c2⟩, ⟨ds, d1, d2⟩⟩ := reads_Re hf e2 t
    exact ⟨⟨as ++ cs, .cons a1 c1, fun z => (List.mem_append.mp z).elim a2 c2⟩, ⟨bs ++ ds, .cons b1 d1, fun z => (List.mem_append.mp z).elim b2 d2⟩⟩
theorem reads_R (I : Inv X pins σ H s) (R : RH (gm X) ρ h H) : ∀ (n : Nat) (d : D) (v : V) (u : Value) (p : PyData), toPyR h n d = some p → RD (gm X) ρ H d v → RelV v u → ∃ as, Reads s.heap u p as ∧ sysModules ∉ as
  | 0, _, _, _, _, e, _, _ => by simp [toPyR] at e
  | n + 1, d, v, u, p, e, r, q => by
    unfold toPyR at e
    cases d with
    | int i =>
      simp only [Option.some.injEq] at e
      simp only [RD] at r
      subst e; subst r
      obtain ⟨t, rfl⟩ := q
      exact ⟨[], .int i t, by simp⟩
    | tup ds =>
      simp only [RD] at r
      obtain ⟨a, vs, rfl, sq, rr⟩ := r
      obtain ⟨ps, e2, rfl⟩ := Option.map_eq_some_iff.mp e
      obtain rfl : u = Value.ref a := q
      obtain ⟨its, tr, ⟨o, ho, oc, m, od⟩, _⟩ := I.tuple sq
      obtain ⟨as, a1, a2⟩ := reads_Rs (fun d v u p => reads_R I R n d v u p) e2 rr tr
      exact ⟨as, .tuple ho oc od (by simpa using a1), a2⟩
    | ref k =>
      dsimp only at e
      split at e
      · rename_i lk kvs hz
        simp only [RD] at r
        obtain ⟨a, rfl, ea⟩ := r
        obtain ⟨ps, e2, rfl⟩ := Option.map_eq_some_iff.mp e
        obtain rfl : u = Value.ref a := q
        obtain ⟨ob, es, ep, e1, hs, hl, pe, nd⟩ := R.ok k _ a hz ea
        obtain ⟨o, g1, g2, g3⟩ := raw_of I e1
        obtain ⟨⟨as, a1, a2⟩, ⟨bs, b1, b2⟩⟩ := reads_Re (fun d v u p => reads_R I R n d v u p) e2 pe
        refine ⟨_, .dict g1 g2.1 g3 (by simpa using a1) (by simpa using b1), fun z => ?_⟩
        rcases List.mem_append.mp z with z | z
        · rcases List.mem_cons.mp z with z | z
          · rw [z] at hs; simp at hs
          · exact a2 z
        · exact b2 z
      · cases e
    | _ => cases e
end
def fReprR : DM → DH → Res D := fun m h => match m with
  | .v (.ref k) => (match toPyR h 9 (.ref k) with
    | some p => if p.showable = true ∧ p.depth ≤ 60 ∧ p.shown.length ≤ sizeLine then .ok (.str p.shown) h else .stuck
    | none => .stuck)
  | _ => .stuck
def rReprR (X : Cx) : List V → Hp → VK → Prop := fun xs H Q => ∃ ρ h k p v, RH (gm X) ρ h H ∧ RD (gm X) ρ H (.ref k) v ∧ xs = [v] ∧ toPyR h 9 (.ref k) = some p ∧ p.showable = true ∧ p.depth ≤ 60 ∧ p.shown.length ≤ sizeLine ∧ Q (.str p.shown) H
section
variable {X : Cx}
theorem call_reprR {k : Nat} (hg : X.A.guards = some []) (hr : Room k X.A) : CallR X (.builtin "repr") (rReprR X) := by
  rintro pins s σ H xs us Q I r ⟨ρ, h, n, p, v, R, rd, rfl, e, c1, c2, c3, q⟩
  obtain ⟨u, rfl, ru⟩ := vals1 r
  obtain ⟨as, q1, q2⟩ := reads_R I R 9 _ _ _ _ e rd ru
  simp only [RD] at rd
  obtain ⟨a, rfl, _⟩ := rd
  obtain rfl : u = Value.ref a := ru
  have hu := hr.un
  exact repr_of_reads' q1 c1 (fun _ => q2) hg (by omega) (fun b o e => e) (fun h' u tk hk => ⟨.str p.shown, H, I.kept hk, ⟨_, rfl⟩, q⟩) c3
theorem c_reprR : CallM (gm X) (rReprR X) fReprR := fun W ρ h H m v Q R rm q => by
  unfold fReprR at q
  split at q
  · rename_i k
    split at q
    · rename_i p e
      by_cases z : p.showable = true ∧ p.depth ≤ 60 ∧ p.shown.length ≤ sizeLine
      · rw [if_pos z] at q
        exact ⟨ρ, h, k, p, v, R, rm, rfl, e, z.1, z.2.1, z.2.2, q ρ H (Ext.refl _ _) R _ (by simp [RD])⟩
      · rw [if_neg z] at q; exact q.elim
    · exact q.elim
  · exact q.elim
end
end DL
namespace DL
open PySem PySem.Spec PyProof.Rows L2
noncomputable def B__law_pool : DS := (sSeq (sAsg (dC (.int 0)) (gdName 2))
 (sSeq (sIf (dB (dOp oLt (dVar 1) (dCallM fLen (mV (dVar 0))))) (sAsg (dIx (mV (dVar 0)) (dVar 1)) (gdName 2)) sNil)
 (sSeq (sAsg (dOp oMod (dOp oPow (dOp oAdd (dOp oAdd (dOp oMod (dVar 2) (dC (.int 2147483629))) (dOp oMul (dOp oMul (dC (.int 104729)) (dVar 1)) (dVar 1))) (dC (.int 11))) (dC (.int 3))) (dC (.int 2147483647))) (gdName 3))
 (sSeq (sIf (dB (dOp oLt (dVar 2) (dOp oPow (dC (.int 10)) (dC (.int 18))))) (sAsg (dC (.int 0)) (gdName 2)) sNil)
 (sRet (dNew (qLst (aCons (dVar 2) (aCons (dVar 3) aNil)))))))))
noncomputable def F__law_pool : FD := runB 2 B__law_pool
noncomputable def B__law_box : DS := (sSeq (sAsg (dNew (qLst (aCons (dTup aNil) aNil))) (gdName 2))
 (sSeq (sFor (dRng1 (dVar 0)) (gdName 3) (sSeq (sAsg (dNew (qLst aNil)) (gdName 4))
 (sSeq (sFor (dIt (mV (dVar 2))) (gdName 5) (sAsg (dNew (qCat (mV (dVar 4)) (mL (qLc (dRng1 (dVar 1)) (gdName 6) cYes (dOp oAdd (dVar 5) (dTup (aCons (dVar 6) aNil))) [6])))) (gdName 4)))
 (sAsg (dVar 4) (gdName 2)))))
 (sRet (dVar 2))))
noncomputable def F__law_box : FD := runB 5 B__law_box
noncomputable def B_is_whole : DS := (sRet (dAndV (dCallM (fIs .int) (mV (dVar 0))) (dNotV (dCallM (fIs .bool) (mV (dVar 0))))))
noncomputable def F_is_whole : FD := runB 0 B_is_whole
noncomputable def B_added : DS := (sSeq (sSetD (dOp oAdd (dGet2 (dVar 0) (dVar 1) (dC (.int 0))) (dVar 2)) (dVar 0) (dVar 1))
 (sIf (dB (dOpM (eqM id) (mV (dOp oIxD (dVar 0) (dVar 1))) (mV (dC (.int 0))))) (sExpr (dPop1 (dVar 0) (dVar 1))) sNil))
noncomputable def F_added : FD := runB 0 B_added
noncomputable def B_Heap_put_in : DS := (sSeq (sAsg (dVar 1) (gdTup 3 (gsCons (gdName 2) (gsCons (gdName 3) (gsCons (gdName 4) gsNil)))))
 (sExpr (dCall 3 (([] : List Str).length) F_added (fun ds zs => pick [(0, 0), (0, 1), (0, 2)] [ds, zs]) (aCons (dFld "Heap" "own_counts" (dVar 0)) (aCons (dTup (aCons (dVar 2) (aCons (dVar 3) aNil))) (aCons (dVar 4) aNil))) aNil)))
noncomputable def F_Heap_put_in : FD := runB 3 B_Heap_put_in
noncomputable def B_is_row : DS := (sSeq (sIf (dOr (dNot (dB (dCallM (fIs .tuple) (mV (dVar 0))))) (dNot (dB (dChain oLe oLe (dC (.int 1)) (dCallM fLen (mV (dVar 0))) (dC (.int 4)))))) (sRet (dC (.bl false))) sNil)
 (sSeq (sIf (dAnd (dB (isN not (dVar 1))) (dB (dOpM (eqM not) (mV (dCallM fLen (mV (dVar 0)))) (mV (dVar 1))))) (sRet (dC (.bl false))) sNil)
 (sRet (dCallM (fBls (·.all id)) (mL (qLc (dIt (mV (dVar 0))) (gdName 2) cYes (dCall 1 (([] : List Str).length) F_is_whole (fun ds zs => pick [(0, 0)] [ds, zs]) (aCons (dVar 2) aNil) aNil) [2]))))))
noncomputable def F_is_row : FD := runB 1 B_is_row
noncomputable def B_is_time : DS := (sSeq (sIf (dOr (dNot (dB (dCallM (fIs .tuple) (mV (dVar 0))))) (dNot (dB (dChain oLe oLe (dC (.int 1)) (dCallM fLen (mV (dVar 0))) (dC (.int 3)))))) (sRet (dC (.bl false))) sNil)
 (sSeq (sIf (dAnd (dB (isN not (dVar 1))) (dB (dOpM (eqM not) (mV (dCallM fLen (mV (dVar 0)))) (mV (dVar 1))))) (sRet (dC (.bl false))) sNil)
 (sRet (dCallM (fBls (·.all id)) (mL (qLc (dIt (mV (dVar 0))) (gdName 2) cYes (dAndV (dCall 1 (([] : List Str).length) F_is_whole (fun ds zs => pick [(0, 0)] [ds, zs]) (aCons (dVar 2) aNil) aNil) (dOp oGe (dVar 2) (dC (.int 0)))) [2]))))))
noncomputable def F_is_time : FD := runB 1 B_is_time
noncomputable def B_is_count : DS := (sRet (dAndV (dCall 1 (([] : List Str).length) F_is_whole (fun ds zs => pick [(0, 0)] [ds, zs]) (aCons (dVar 0) aNil) aNil) (dOpM (eqM not) (mV (dVar 0)) (mV (dC (.int 0))))))
noncomputable def F_is_count : FD := runB 0 B_is_count
noncomputable def B_Heap_is_fit : DS := (sSeq (sAsg (dVar 1) (gdTup 3 (gsCons (gdName 2) (gsCons (gdName 3) (gsCons (gdName 4) gsNil)))))
 (sRet (dAndV (dCall 1 (([] : List Str).length) F_is_row (fun ds zs => pick [(0, 0), (2, 0)] [ds, zs, [.non]]) (aCons (dVar 2) aNil) aNil) (dAndV (dCall 1 ((["clocks"] : List Str).length) F_is_time (fun ds zs => pick [(0, 0), (1, 0)] [ds, zs]) (aCons (dVar 3) aNil) (aCons (dFld "Heap" "own_clocks" (dVar 0)) aNil)) (dCall 1 (([] : List Str).length) F_is_count (fun ds zs => pick [(0, 0)] [ds, zs]) (aCons (dVar 4) aNil) aNil)))))
noncomputable def F_Heap_is_fit : FD := runB 3 B_Heap_is_fit
noncomputable def B_Heap___init__ : DS := (sSeq (sIf (dOr (dNot (dB (dCall 1 (([] : List Str).length) F_is_whole (fun ds zs => pick [(0, 0)] [ds, zs]) (aCons (dVar 2) aNil) aNil))) (dNot (dB (dChain oLe oLe (dC (.int 1)) (dVar 2) (dC (.int 3)))))) (sRaise "NoCount" "much" (dVar 2)) sNil)
 (sSeq (sIf (dNot (dB (dCallM (fIsN [.list, .tuple]) (mV (dVar 1))))) (sRaise "NoHeap" "number" (dC .non)) sNil)
 (sSeq (sFld' "Heap" "own_clocks" (dVar 0) (dVar 2))
 (sSeq (sFld' "Heap" "own_counts" (dVar 0) dDict0)
 (sFor (dEnu (mV (dVar 1))) (gdTup 2 (gsCons (gdName 3) (gsCons (gdName 4) gsNil))) (sSeq (sIf (dOr (dNot (dB (dCallM (fIs .tuple) (mV (dVar 4))))) (dOr (dB (dOpM (eqM not) (mV (dCallM fLen (mV (dVar 4)))) (mV (dC (.int 3))))) (dNot (dB (dMeth "Heap" "is_fit" 1 (([] : List Str).length) F_Heap_is_fit (fun ds zs => pick [(0, 0), (0, 1)] [ds, zs]) (dVar 0) (aCons (dVar 4) aNil) aNil))))) (sRaise "NoHeap" "number" (dVar 3)) sNil)
 (sExpr (dMeth "Heap" "put_in" 1 (([] : List Str).length) F_Heap_put_in (fun ds zs => pick [(0, 0), (0, 1)] [ds, zs]) (dVar 0) (aCons (dVar 4) aNil) aNil))))))))
noncomputable def F_Heap___init__ : FD := runB 2 B_Heap___init__
noncomputable def B_is_before : DS := (sRet (dCallM (fBls (·.all id)) (mL (qLc (dZip (mV (dVar 0)) (mV (dVar 1))) (gdTup 2 (gsCons (gdName 2) (gsCons (gdName 3) gsNil))) cYes (dOp oLe (dVar 2) (dVar 3)) [2, 3]))))
noncomputable def F_is_before : FD := runB 2 B_is_before
noncomputable def B_Heap_sum_at : DS := (sSeq (sAsg dDict0 (gdName 2))
 (sSeq (sLock (loFld 0 "own_counts") (sFor (dItI (dFld "Heap" "own_counts" (dVar 0))) (gdTup 2 (gsCons (gdTup 2 (gsCons (gdName 3) (gsCons (gdName 4) gsNil))) (gsCons (gdName 5) gsNil))) (sIf (dB (dCall 2 (([] : List Str).length) F_is_before (fun ds zs => pick [(0, 0), (0, 1)] [ds, zs]) (aCons (dVar 4) (aCons (dVar 1) aNil)) aNil)) (sExpr (dCall 3 (([] : List Str).length) F_added (fun ds zs => pick [(0, 0), (0, 1), (0, 2)] [ds, zs]) (aCons (dVar 2) (aCons (dVar 3) (aCons (dVar 5) aNil))) aNil)) sNil)))
 (sRet (dVar 2))))
noncomputable def F_Heap_sum_at : FD := runB 4 B_Heap_sum_at
noncomputable def B_heap_of : DS := (sSeq (sAsg (dMake "Heap" 0 ((["clocks"] : List Str).length) F_Heap___init__ (fun ds zs => pick [(0, 0), (2, 0), (1, 0)] [ds, zs, [.tup []]]) aNil (aCons (dVar 1) aNil)) (gdName 2))
 (sSeq (sFor (dIt (mL (qSortedF ("heap_of", none) "heap_of.<locals>.<lambda>" (mV (dVar 0))))) (gdTup 2 (gsCons (gdName 3) (gsCons (gdName 4) gsNil))) (sSeq (sAsg (dMeth "Heap" "sum_at" 1 (([] : List Str).length) F_Heap_sum_at (fun ds zs => pick [(0, 0), (0, 1)] [ds, zs]) (dVar 2) (aCons (dVar 3) aNil) aNil) (gdName 5))
 (sSeq (sLock (loVar 4) (sFor (dItI (dVar 4)) (gdTup 2 (gsCons (gdName 6) (gsCons (gdName 7) gsNil))) (sExpr (dCall 3 (([] : List Str).length) F_added (fun ds zs => pick [(0, 0), (0, 1), (0, 2)] [ds, zs]) (aCons (dVar 5) (aCons (dVar 6) (aCons (dOp oSub (dC (.int 0)) (dVar 7)) aNil))) aNil))))
 (sLock (loVar 5) (sFor (dItI (dVar 5)) (gdTup 2 (gsCons (gdName 6) (gsCons (gdName 7) gsNil))) (sExpr (dMeth "Heap" "put_in" 1 (([] : List Str).length) F_Heap_put_in (fun ds zs => pick [(0, 0), (0, 1)] [ds, zs]) (dVar 2) (aCons (dTup (aCons (dVar 6) (aCons (dVar 3) (aCons (dOp oSub (dC (.int 0)) (dVar 7)) aNil)))) aNil) aNil)))))))
 (sRet (dVar 2))))
noncomputable def F_heap_of : FD := runB 6 B_heap_of
noncomputable def B__law_added : DS := (sSeq (sAsg dDict0 (gdName 1))
 (sSeq (sFor (dIt (mV (dVar 0))) (gdTup 3 (gsCons (gdName 2) (gsCons (gdName 3) (gsCons (gdName 4) gsNil)))) (sSetD (dOp oAdd (dGet2 (dVar 1) (dTup (aCons (dVar 2) (aCons (dVar 3) aNil))) (dC (.int 0))) (dVar 4)) (dVar 1) (dTup (aCons (dVar 2) (aCons (dVar 3) aNil)))))
 (sRet (dNew (qSorted (mL (qLock (loVar 1) (qLc (dItK (dVar 1)) (gdTup 2 (gsCons (gdName 2) (gsCons (gdName 3) gsNil))) (dB (dOpM (eqM not) (mV (dOp oIxD (dVar 1) (dTup (aCons (dVar 2) (aCons (dVar 3) aNil))))) (mV (dC (.int 0))))) (dTup (aCons (dVar 2) (aCons (dVar 3) (aCons (dOp oIxD (dVar 1) (dTup (aCons (dVar 2) (aCons (dVar 3) aNil)))) aNil)))) [2, 3]))))))))
noncomputable def F__law_added : FD := runB 4 B__law_added
noncomputable def B_look_at_times : DS := (sFor (dEnu (mV (dVar 0))) (gdTup 2 (gsCons (gdName 1) (gsCons (gdName 2) gsNil))) (sIf (dOr (dNot (dB (dCall 1 (([] : List Str).length) F_is_time (fun ds zs => pick [(0, 0), (2, 0)] [ds, zs, [.non]]) (aCons (dVar 2) aNil) aNil))) (dB (dOpM (eqM not) (mV (dCallM fLen (mV (dVar 2)))) (mV (dCallM fLen (mV (dIx (mV (dVar 0)) (dC (.int 0))))))))) (sRaise "NoTime" "place" (dVar 1)) sNil))
noncomputable def F_look_at_times : FD := runB 2 B_look_at_times
noncomputable def B_joined : DS := (sRet (dCallM fTup (mL (qLc (dZip (mV (dVar 0)) (mV (dVar 1))) (gdTup 2 (gsCons (gdName 2) (gsCons (gdName 3) gsNil))) cYes (dCall2 fMax2 (dVar 2) (dVar 3)) [2, 3]))))
noncomputable def F_joined : FD := runB 2 B_joined
noncomputable def B_joins : DS := (sSeq (sExpr (dCall 1 (([] : List Str).length) F_look_at_times (fun ds zs => pick [(0, 0)] [ds, zs]) (aCons (dVar 0) aNil) aNil))
 (sSeq (sAsg dDict0 (gdName 2))
 (sSeq (sFor (dIt (mV (dVar 0))) (gdName 3) (sSeq (sFor (dIt (mL (qCat (mL (qLst (aCons (dVar 3) aNil))) (mL (qLock (loVar 2) (qLc (dItK (dVar 2)) (gdName 5) cYes (dCall 2 (([] : List Str).length) F_joined (fun ds zs => pick [(0, 0), (0, 1)] [ds, zs]) (aCons (dVar 3) (aCons (dVar 5) aNil)) aNil) [5])))))) (gdName 4) (sSetD (dC (.bl true)) (dVar 2) (dVar 4)))
 (sIf (dB (dOp oGt (dCallM fLenD (mV (dVar 2))) (dVar 1))) (sRaise "TooMany" "many" (dOp oAdd (dVar 1) (dC (.int 1)))) sNil)))
 (sRet (dNew (qSortedD (dVar 2)))))))
noncomputable def F_joins : FD := runB 4 B_joins
noncomputable def B__law_take : DS := (sSeq (sIf (dB (dOp oGt (dIx (mV (dVar 0)) (dC (.int 0))) (dC (.int 0)))) (sSeq (sAsg (dOp oMod (dIx (mV (dVar 0)) (dC (.int 0))) (dVar 1)) (gdName 2))
 (sSeq (sSetL (dOp oFdiv (dIx (mV (dVar 0)) (dC (.int 0))) (dVar 1)) (dVar 0) (dC (.int 0)))
 (sRet (dVar 2)))) sNil)
 (sSeq (sSetL (dOp oMod (dOp oAdd (dOp oMul (dIx (mV (dVar 0)) (dC (.int 1))) (dC (.int 48271))) (dC (.int 11))) (dC (.int 2147483647))) (dVar 0) (dC (.int 1)))
 (sRet (dOp oMod (dOp oFdiv (dOp oMod (dOp oMul (dIx (mV (dVar 0)) (dC (.int 1))) (dIx (mV (dVar 0)) (dC (.int 1)))) (dC (.int 2147483629))) (dC (.int 64))) (dVar 1)))))
noncomputable def F__law_take : FD := runB 1 B__law_take
noncomputable def B__law_row : DS := (sRet (dCallM fTup (mL (qLc (dRng1 (dVar 1)) (gdName 2) cYes (dOp oSub (dCall 2 (([] : List Str).length) F__law_take (fun ds zs => pick [(0, 0), (0, 1)] [ds, zs]) (aCons (dVar 0) (aCons (dC (.int 5)) aNil)) aNil) (dC (.int 2))) [2]))))
noncomputable def F__law_row : FD := runB 1 B__law_row
noncomputable def B__law_time : DS := (sRet (dCallM fTup (mL (qLc (dRng1 (dVar 1)) (gdName 3) cYes (dCall 2 (([] : List Str).length) F__law_take (fun ds zs => pick [(0, 0), (0, 1)] [ds, zs]) (aCons (dVar 0) (aCons (dVar 2) aNil)) aNil) [3]))))
noncomputable def F__law_time : FD := runB 1 B__law_time
noncomputable def B__law_diffs : DS := (sSeq (sAsg (dNew (qLst aNil)) (gdName 3))
 (sSeq (sFor (dRng1 (dCall 2 (([] : List Str).length) F__law_take (fun ds zs => pick [(0, 0), (0, 1)] [ds, zs]) (aCons (dVar 0) (aCons (dOp oAdd (dVar 1) (dC (.int 1))) aNil)) aNil)) (gdName 4) (sSeq (sAsg (dCall 2 (([] : List Str).length) F__law_row (fun ds zs => pick [(0, 0), (0, 1)] [ds, zs]) (aCons (dVar 0) (aCons (dOp oAdd (dC (.int 1)) (dCall 2 (([] : List Str).length) F__law_take (fun ds zs => pick [(0, 0), (0, 1)] [ds, zs]) (aCons (dVar 0) (aCons (dC (.int 4)) aNil)) aNil)) aNil)) aNil) (gdName 5))
 (sSeq (sAsg (dIx (mL (qLst (aCons (dC (.int 1)) (aCons (dC (.int 1)) (aCons (dNeg (dC (.int 1))) (aCons (dC (.int 2)) (aCons (dNeg (dC (.int 3))) (aCons (dOp oPow (dC (.int 10)) (dC (.int 20))) aNil)))))))) (dCall 2 (([] : List Str).length) F__law_take (fun ds zs => pick [(0, 0), (0, 1)] [ds, zs]) (aCons (dVar 0) (aCons (dC (.int 6)) aNil)) aNil)) (gdName 6))
 (sExpr (dApp (dVar 3) (dTup (aCons (dVar 5) (aCons (dCall 3 (([] : List Str).length) F__law_time (fun ds zs => pick [(0, 0), (0, 1), (0, 2)] [ds, zs]) (aCons (dVar 0) (aCons (dVar 2) (aCons (dIx (mL (qLst (aCons (dC (.int 4)) (aCons (dC (.int 4)) (aCons (dC (.int 13)) aNil))))) (dCall 2 (([] : List Str).length) F__law_take (fun ds zs => pick [(0, 0), (0, 1)] [ds, zs]) (aCons (dVar 0) (aCons (dC (.int 3)) aNil)) aNil)) aNil))) aNil) (aCons (dVar 6) aNil)))))))))
 (sRet (dVar 3))))
noncomputable def F__law_diffs : FD := runB 4 B__law_diffs
noncomputable def B__law_corner : DS := (sSeq (sAsg (dC (.int 0)) (gdName 3))
 (sSeq (sFor (dRng1 (dOp oShl (dC (.int 1)) (dCallM fLen (mV (dVar 1))))) (gdName 4) (sSeq (sAsg (dCallM fTup (mL (qLc (dRng1 (dCallM fLen (mV (dVar 1)))) (gdName 7) cYes (dOp oSub (dIx (mV (dVar 1)) (dVar 7)) (dOp oAnd (dOp oShr (dVar 4) (dVar 7)) (dC (.int 1)))) [7]))) (gdName 5))
 (sSeq (sAsg (dOp oSub (dC (.int 1)) (dOp oMul (dC (.int 2)) (dOp oMod (dCallM fSum (mL (qLc (dRng1 (dCallM fLen (mV (dVar 1)))) (gdName 7) cYes (dOp oAnd (dOp oShr (dVar 4) (dVar 7)) (dC (.int 1))) [7]))) (dC (.int 2))))) (gdName 6))
 (sIf (dB (dOp oGe (dCallM fMinT (mV (dVar 5))) (dC (.int 0)))) (sAsg (dOp oAdd (dVar 3) (dOp oMul (dVar 6) (dGet2 (dOp oIxD (dVar 0) (dVar 5)) (dVar 2) (dC (.int 0))))) (gdName 3)) sNil))))
 (sRet (dVar 3))))
noncomputable def F__law_corner : FD := runB 5 B__law_corner
noncomputable def B_Heap___eq__ : DS := (sSeq (sIf (dOr (dNot (dB (dIsOwn "Heap" (dVar 1)))) (dB (dOpM (eqM not) (mV (dFld "Heap" "own_clocks" (dVar 0))) (mV (dFld "Heap" "own_clocks" (dVar 1)))))) (sRet (dC (.bl false))) sNil)
 (sRet (dOp (oEqD id) (dFld "Heap" "own_counts" (dVar 0)) (dFld "Heap" "own_counts" (dVar 1)))))
noncomputable def F_Heap___eq__ : FD := runB 0 B_Heap___eq__
noncomputable def B_Heap_differences : DS := (sRet (dNew (qSorted (mL (qLock (loFld 0 "own_counts") (qLc (dItI (dFld "Heap" "own_counts" (dVar 0))) (gdTup 2 (gsCons (gdTup 2 (gsCons (gdName 2) (gsCons (gdName 3) gsNil))) (gsCons (gdName 1) gsNil))) cYes (dTup (aCons (dVar 2) (aCons (dVar 3) (aCons (dVar 1) aNil)))) [1, 2, 3]))))))
noncomputable def F_Heap_differences : FD := runB 3 B_Heap_differences
noncomputable def B_Heap_at : DS := (sSeq (sIf (dNot (dB (dCall 1 ((["clocks"] : List Str).length) F_is_time (fun ds zs => pick [(0, 0), (1, 0)] [ds, zs]) (aCons (dVar 1) aNil) (aCons (dFld "Heap" "own_clocks" (dVar 0)) aNil)))) (sRaise "NoTime" "place" (dC (.int 0))) sNil)
 (sRet (dMeth "Heap" "sum_at" 1 (([] : List Str).length) F_Heap_sum_at (fun ds zs => pick [(0, 0), (0, 1)] [ds, zs]) (dVar 0) (aCons (dVar 1) aNil) aNil)))
noncomputable def F_Heap_at : FD := runB 0 B_Heap_at
noncomputable def B_law : DS := (sSeq (sFor (dRng1 (dCall2 fMax2 (dC (.int 1)) (dCall2 fMin2 (dCallM fLen (mV (dVar 0))) (dC (.int 10))))) (gdName 1) (sSeq (sAsg (dCall 2 (([] : List Str).length) F__law_pool (fun ds zs => pick [(0, 0), (0, 1)] [ds, zs]) (aCons (dVar 0) (aCons (dVar 1) aNil)) aNil) (gdName 2))
 (sSeq (sAsg (dOp oAdd (dC (.int 1)) (dCall 2 (([] : List Str).length) F__law_take (fun ds zs => pick [(0, 0), (0, 1)] [ds, zs]) (aCons (dVar 2) (aCons (dC (.int 3)) aNil)) aNil)) (gdName 3))
 (sSeq (sAsg dDict0 (gdName 4))
 (sSeq (sAsg (dNew (qLst (aCons (dTup (aCons (dC (.int 1)) aNil)) (aCons (dTup (aCons (dC (.int 2)) aNil)) (aCons (dTup (aCons (dC (.int 1)) (aCons (dNeg (dC (.int 1))) aNil))) aNil))))) (gdName 5))
 (sSeq (sFor (dIt (mV (dCall 2 (([] : List Str).length) F__law_box (fun ds zs => pick [(0, 0), (0, 1)] [ds, zs]) (aCons (dVar 3) (aCons (dIx (mL (qLst (aCons (dC (.int 6)) (aCons (dC (.int 3)) (aCons (dC (.int 2)) aNil))))) (dOp oSub (dVar 3) (dC (.int 1)))) aNil)) aNil))) (gdName 6) (sSeq (sAsg (dNew (qLc (dIt (mV (dVar 5))) (gdName 16) cYes (dTup (aCons (dVar 16) (aCons (dOp oSub (dCall 2 (([] : List Str).length) F__law_take (fun ds zs => pick [(0, 0), (0, 1)] [ds, zs]) (aCons (dVar 2) (aCons (dC (.int 5)) aNil)) aNil) (dC (.int 2))) aNil))) [16])) (gdName 7))
 (sSetD (dCallM fDictL (mL (qLc (dIt (mV (dVar 7))) (gdTup 2 (gsCons (gdName 16) (gsCons (gdName 17) gsNil))) (dB (dOpM (eqM not) (mV (dVar 17)) (mV (dC (.int 0))))) (dTup (aCons (dVar 16) (aCons (dVar 17) aNil))) [16, 17]))) (dVar 4) (dVar 6))))
 (sSeq (sAsg (dNew (qLst aNil)) (gdName 8))
 (sSeq (sLock (loVar 4) (sFor (dItK (dVar 4)) (gdName 6) (sExpr (dIns (dVar 8) (dCall 2 (([] : List Str).length) F__law_take (fun ds zs => pick [(0, 0), (0, 1)] [ds, zs]) (aCons (dVar 2) (aCons (dOp oAdd (dCallM fLen (mV (dVar 8))) (dC (.int 1))) aNil)) aNil) (dVar 6)))))
 (sSeq (sAsg (dCallM fReprR (mV (dVar 4))) (gdName 9))
 (sSeq (sAsg (dCall 1 ((["clocks"] : List Str).length) F_heap_of (fun ds zs => pick [(0, 0), (1, 0)] [ds, zs]) (aCons (dNew (qLc (dIt (mV (dVar 8))) (gdName 6) cYes (dTup (aCons (dVar 6) (aCons (dOp oIxD (dVar 4) (dVar 6)) aNil))) [6])) aNil) (aCons (dVar 3) aNil)) (gdName 10))
 (sSeq (sAsg (dNew (qLst aNil)) (gdName 11))
 (sSeq (sLock (loVar 4) (sFor (dItK (dVar 4)) (gdName 6) (sAsg (dNew (qCat (mV (dVar 11)) (mL (qLc (dIt (mV (dVar 5))) (gdName 16) cYes (dTup (aCons (dVar 16) (aCons (dVar 6) (aCons (dCall 3 (([] : List Str).length) F__law_corner (fun ds zs => pick [(0, 0), (0, 1), (0, 2)] [ds, zs]) (aCons (dVar 4) (aCons (dVar 6) (aCons (dVar 16) aNil))) aNil) aNil)))) [16])))) (gdName 11))))
 (sSeq (sIf (dOr (dB (dOpM (eqM not) (mV (dMeth "Heap" "differences" 0 (([] : List Str).length) F_Heap_differences (fun ds zs => pick [(0, 0)] [ds, zs]) (dVar 10) aNil aNil)) (mL (qSorted (mL (qLc (dIt (mV (dVar 11))) (gdName 18) (dB (dOpM (eqM not) (mV (dIx (mV (dVar 18)) (dC (.int 2)))) (mV (dC (.int 0))))) (dVar 18) [18])))))) (dB (dOp (oEqS not) (dCallM fReprR (mV (dVar 4))) (dVar 9)))) (sRet (dC (.bl false))) sNil)
 (sSeq (sIf (dB (dOpM (eqM not) (mL (qLock (loVar 4) (qLc (dItK (dVar 4)) (gdName 6) (dB (dOp (oEqD not) (dMeth "Heap" "at" 1 (([] : List Str).length) F_Heap_at (fun ds zs => pick [(0, 0), (0, 1)] [ds, zs]) (dVar 10) (aCons (dVar 6) aNil) aNil) (dOp oIxD (dVar 4) (dVar 6)))) (dVar 6) [6]))) (mL (qLst aNil)))) (sRet (dC (.bl false))) sNil)
 (sSeq (sAsg (dMeth "Heap" "differences" 0 (([] : List Str).length) F_Heap_differences (fun ds zs => pick [(0, 0)] [ds, zs]) (dVar 10) aNil aNil) (gdName 12))
 (sSeq (sLock (loVar 4) (sFor (dItK (dVar 4)) (gdName 6) (sSetD (dC (.int 5)) (dOp oIxD (dVar 4) (dVar 6)) (dTup (aCons (dC (.int 9)) (aCons (dC (.int 9)) aNil))))))
 (sSeq (sIf (dB (dOpM (eqM not) (mV (dMeth "Heap" "differences" 0 (([] : List Str).length) F_Heap_differences (fun ds zs => pick [(0, 0)] [ds, zs]) (dVar 10) aNil aNil)) (mV (dVar 12)))) (sRet (dC (.bl false))) sNil)
 (sSeq (sAsg (dCall 1 (([] : List Str).length) F__law_added (fun ds zs => pick [(0, 0)] [ds, zs]) (aCons (dCall 3 (([] : List Str).length) F__law_diffs (fun ds zs => pick [(0, 0), (0, 1), (0, 2)] [ds, zs]) (aCons (dVar 2) (aCons (dC (.int 5)) (aCons (dVar 3) aNil))) aNil) aNil) aNil) (gdName 13))
 (sSeq (sAsg (dMake "Heap" 1 ((["clocks"] : List Str).length) F_Heap___init__ (fun ds zs => pick [(0, 0), (0, 1), (1, 0)] [ds, zs, [.tup []]]) (aCons (dVar 13) aNil) (aCons (dVar 3) aNil)) (gdName 14))
 (sSeq (sAsg (dCall 1 (([] : List Str).length) F_joins (fun ds zs => pick [(0, 0), (2, 0)] [ds, zs, [.int (64)]]) (aCons (dNew (qLc (dIt (mV (dVar 13))) (gdTup 3 (gsCons (gdName 16) (gsCons (gdName 6) (gsCons (gdName 17) gsNil)))) cYes (dVar 6) [16, 6, 17])) aNil) aNil) (gdName 15))
 (sIf (dB (dOp (oEqOwn "Heap" F_Heap___eq__ (fun ds zs => pick [(0, 0), (0, 1)] [ds, zs]) not) (dCall 1 ((["clocks"] : List Str).length) F_heap_of (fun ds zs => pick [(0, 0), (1, 0)] [ds, zs]) (aCons (dNew (qLc (dIt (mV (dVar 15))) (gdName 6) cYes (dTup (aCons (dVar 6) (aCons (dMeth "Heap" "at" 1 (([] : List Str).length) F_Heap_at (fun ds zs => pick [(0, 0), (0, 1)] [ds, zs]) (dVar 14) (aCons (dVar 6) aNil) aNil) aNil))) [6])) aNil) (aCons (dVar 3) aNil)) (dVar 14))) (sRet (dC (.bl false))) sNil)))))))))))))))))))))
 (sRet (dOpM (eqM id) (mV (dMeth "Heap" "differences" 0 (([] : List Str).length) F_Heap_differences (fun ds zs => pick [(0, 0)] [ds, zs]) (dCall 1 (([] : List Str).length) F_heap_of (fun ds zs => pick [(0, 0), (2, 0)] [ds, zs, [.int (1)]]) (aCons (dNew (qLst aNil)) aNil) aNil) aNil aNil)) (mL (qLst aNil)))))
noncomputable def F_law : FD := runB 18 B_law
/-! ### the law's numbers -/
theorem s_pool {ns : List Int} {k : Int} {h : DH} {Q : D → DH → Prop} {X : Exn → DH → Prop} (k0 : 0 ≤ k) (k1 : k ≤ 1000)
    (q : ∀ a b : Int, 0 ≤ b → b < 2147483647 → Q (.ref h.length) (h ++ [.lst [.int a, .int b]])) : (F__law_pool [.rol (ns.map .int), .int k] h).wp Q X := by
  have m1 : okMul 104729 k = true := mul_ok (by decide) (by omega)
  have m2 : okMul (104729 * k) k = true := mul_ok (by omega) (by omega)
  have kk : 0 ≤ k * k ∧ k * k ≤ 1000000 := ⟨Int.mul_nonneg k0 k0, by have := Int.mul_le_mul k1 k1 k0 (by omega); omega⟩
  have p3 : okPow 10 18 = true := by decide
  have ke : 104729 * k * k = 104729 * (k * k) := Int.mul_assoc ..
  have base : ∀ c : Int, okPow (c % 2147483629 + 104729 * k * k + 11) 3 = true := fun c => by
    have := Int.emod_nonneg c (b := 2147483629) (by decide)
    have := Int.emod_lt_of_pos c (b := 2147483629) (by decide)
    rw [ke]
    simp only [okPow, decide_eq_true_eq]
    refine ⟨by decide, by decide, by omega⟩
  have md : ∀ c d : Int, 0 < d → okMod c d = true := fun c d h => mod_ok h
  have fin : ∀ c : Int, 0 ≤ c % 2147483647 ∧ c % 2147483647 < 2147483647 := fun c => ⟨Int.emod_nonneg c (by decide), Int.emod_lt_of_pos c (by decide)⟩
  have b0 := base 0
  simp only [Int.zero_emod, Int.zero_add] at b0
  unfold F__law_pool B__law_pool
  simp [wp_run, seq_nx, m1, m2, p3, md, b0, small]
  by_cases hk : k < ns.length
  · rw [if_pos hk, atI_pos _ k0, List.getElem?_map]
    have : k.toNat < ns.length := by omega
    rw [List.getElem?_eq_getElem this]
    simp [md, m1, m2, base, p3]
    by_cases h2 : ns[k.toNat] < 1000000000000000000
    · rw [if_pos h2]; exact q _ _ (fin _).1 (fin _).2
    · rw [if_neg h2]; exact q _ _ (fin _).1 (fin _).2
  · rw [if_neg hk]; exact q _ _ (fin _).1 (fin _).2
theorem s_take {n : Nat} {m a b : Int} {h : DH} {Q : D → DH → Prop} {X : Exn → DH → Prop} (hn : h[n]? = some (.lst [.int a, .int b])) (b0 : 0 ≤ b) (b1 : b < 2147483647) (m0 : 0 < m) (m1 : m < 2 ^ 99)
    (q : ∀ v a' b' : Int, 0 ≤ v → v < m → 0 ≤ b' → b' < 2147483647 → Q (.int v) (h.set n (.lst [.int a', .int b']))) : (F__law_take [.ref n, .int m] h).wp Q X := by
  have hl : n < h.length := (List.getElem?_eq_some_iff.mp hn).1
  have md : ∀ c d : Int, 0 < d → okMod c d = true := fun c d h => mod_ok h
  have dv : okDiv a m = true := div_ok m0 (by omega)
  have fin : ∀ c : Int, 0 ≤ c % m ∧ c % m < m := fun c => ⟨Int.emod_nonneg c (by omega), Int.emod_lt_of_pos c m0⟩
  have fin2 : ∀ c : Int, 0 ≤ c % 2147483647 ∧ c % 2147483647 < 2147483647 := fun c => ⟨Int.emod_nonneg c (by decide), Int.emod_lt_of_pos c (by decide)⟩
  have mu : okMul b 48271 = true := mul_ok (by omega) (by decide)
  have mu2 : ∀ c : Int, okMul (c % 2147483647) (c % 2147483647) = true := fun c => mul_ok (by have := fin2 c; omega) (by have := fin2 c; omega)
  have dv2 : ∀ c : Int, okDiv c 64 = true := fun c => div_ok (by decide) (by decide)
  unfold F__law_take B__law_take
  simp [wp_run, seq_nx, lstAt_of hn, md, m0, dv, mu, mu2, dv2, lstAt_set hl]
  split
  · exact q _ _ _ (fin _).1 (fin _).2 b0 b1
  · exact q _ _ _ (fin _).1 (fin _).2 (fin2 _).1 (fin2 _).2
/-- a pool stands at n -/
def Pool (n : Nat) (h : DH) : Prop := ∃ a b : Int, h[n]? = some (.lst [.int a, .int b]) ∧ 0 ≤ b ∧ b < 2147483647
/-- all but the thing at n is as it was -/
def Keep (n : Nat) (h h' : DH) : Prop := h'.length = h.length ∧ ∀ m, m ≠ n → h'[m]? = h[m]?
theorem Keep.refl (n : Nat) (h : DH) : Keep n h h := ⟨rfl, fun _ _ => rfl⟩
theorem Keep.trans {n : Nat} {h h1 h2 : DH} (k : Keep n h h1) (k' : Keep n h1 h2) : Keep n h h2 := ⟨k'.1.trans k.1, fun m e => (k'.2 m e).trans (k.2 m e)⟩
theorem Pool.new {h : DH} {a b : Int} (h0 : 0 ≤ b) (h1 : b < 2147483647) : Pool h.length (h ++ [.lst [.int a, .int b]]) := ⟨a, b, by simp, h0, h1⟩
theorem Pool.more {n : Nat} {h g : DH} (p : Pool n h) : Pool n (h ++ g) := by
  obtain ⟨a, b, e, h0, h1⟩ := p
  exact ⟨a, b, by rw [List.getElem?_append_left (List.getElem?_eq_some_iff.mp e).1]; exact e, h0, h1⟩
theorem p_take {n : Nat} {m : Int} {h : DH} {Q : D → DH → Prop} {X : Exn → DH → Prop} (P : Pool n h) (m0 : 0 < m) (m1 : m < 2 ^ 99)
    (q : ∀ (v : Int) (h' : DH), 0 ≤ v → v < m → Pool n h' → Keep n h h' → Q (.int v) h') : (F__law_take [.ref n, .int m] h).wp Q X := by
  obtain ⟨a, b, hn, b0, b1⟩ := P
  have hl : n < h.length := (List.getElem?_eq_some_iff.mp hn).1
  refine s_take hn b0 b1 m0 m1 fun v a' b' v0 v1 b0' b1' => q v _ v0 v1 ⟨a', b', by simp [hl], b0', b1'⟩ ⟨by simp, fun k hk => ?_⟩
  rw [List.getElem?_set_ne (Ne.symm hk)]
theorem p_time {n : Nat} {s : Nat} {m : Int} {h : DH} {Q : D → DH → Prop} {X : Exn → DH → Prop} (P : Pool n h) (hs : s ≤ 1000) (m0 : 0 < m) (m1 : m < 2 ^ 99)
    (q : ∀ (t : List Int) (h' : DH), t.length = s → (∀ x ∈ t, 0 ≤ x ∧ x < m) → Pool n h' → Keep n h h' → Q (tm t) h') : (F__law_time [.ref n, .int (s : Nat), .int m] h).wp Q X := by
  unfold F__law_time B__law_time
  simp [wp_run]
  refine ⟨big_ok (by omega) (by omega), ?_⟩
  refine lc_inv (fun acc i h' => ∃ t : List Int, acc = t.map .int ∧ t.length = i ∧ (∀ x ∈ t, 0 ≤ x ∧ x < m) ∧ Pool n h' ∧ Keep n h h') ⟨[], rfl, rfl, by simp, P, Keep.refl _ _⟩ (fun _ _ _ _ => rfl) (fun acc i x h' hx I _ => ?_) (by simp; omega) fun acc h' I _ => ?_
  · obtain ⟨t, rfl, hl, hb, P', K'⟩ := I
    obtain ⟨_, rfl⟩ := cnt_at hx
    simp [cYes]
    exact p_take P' m0 m1 fun v h2 v0 v1 P2 K2 => ⟨t ++ [v], by simp, by simp [hl], fun x hx => by
      rcases List.mem_append.mp hx with y | y
      · exact hb x y
      · rw [List.mem_singleton.mp y]; exact ⟨v0, v1⟩, P2, K'.trans K2⟩
  · obtain ⟨t, rfl, hl, hb, P', K'⟩ := I
    exact q t h' (by simpa using hl) hb P' K'
/-! ### times -/
def okC : D → Bool
  | .int i => decide (0 ≤ i)
  | _ => false
def isI : D → Bool
  | .int _ => true
  | _ => false
/-- what is a time -/
def isTm : D → Bool
  | .tup ds => decide (1 ≤ ds.length) && decide (ds.length ≤ 3) && ds.all okC
  | _ => false
def lenD : D → Nat
  | .tup ds => ds.length
  | _ => 0
/-- a thing whose class is one of Python's own -/
def Tyd (h : DH) (d : D) : Prop := ∃ t, tyD h (.v d) = some t
def Tyt (h : DH) (d : D) : Prop := Tyd h d ∧ ∀ ds, d = .tup ds → ∀ x ∈ ds, Tyd h x
theorem ty_ref {h : DH} {n : Nat} {t : Ty} (e : tyD h (.v (.ref n)) = some t) : t = .lst ∨ t = .dct := by
  simp only [tyD] at e
  split at e <;> simp_all
theorem e_whole' {d : D} {h : DH} (t : Tyd h d) : F_is_whole [d] h = .ok (.bl (isI d)) h := by
  apply eq_of_wp
  obtain ⟨t, e⟩ := t
  unfold F_is_whole B_is_whole
  cases d with
  | ref n =>
    simp [wp_run, e, isI]
    rcases ty_ref e with rfl | rfl <;> simp
  | _ => simp [wp_run, isI]
theorem e_whole {i : Int} {h : DH} : F_is_whole [.int i] h = .ok (.bl true) h := e_whole' ⟨_, rfl⟩
theorem mapO_blm {α : Type} {f : α → Bool} {xs : List α} : mapO blOf (xs.map fun x => D.bl (f x)) = some (xs.map f) := by
  rw [show (fun x => D.bl (f x)) = D.bl ∘ f from rfl, ← List.map_map, mapO_blOf]
theorem e_time' {d : D} {h : DH} (t : Tyt h d) : F_is_time [d, .non] h = .ok (.bl (isTm d)) h := by
  apply eq_of_wp
  unfold F_is_time B_is_time
  cases d with
  | tup ds =>
    simp [wp_run, isTm, D.isNon]
    by_cases h1 : (1 : Int) ≤ ds.length
    · by_cases h2 : (ds.length : Int) ≤ 3
      · simp [h1, h2, seq_nx, D.isNon]
        refine lc_map (fun x => .bl (okC x)) rfl (by omega) rfl (fun x hx => ?_) ?_
        · have tx := t.2 ds rfl x hx
          simp [e_whole' tx]
          cases x <;> simp [isI, okC]
        · have a1 : 1 ≤ ds.length := by omega
          have a2 : ds.length ≤ 3 := by omega
          rw [mapO_blm]
          simp [a1, a2]
      · have : ¬ ds.length ≤ 3 := by omega
        simp [h1, h2, this]
    · have : ¬ 1 ≤ ds.length := by omega
      simp [h1]
      omega
  | ref n =>
    obtain ⟨⟨t, e⟩, _⟩ := t
    simp [wp_run, e, isTm]
    rcases ty_ref e with rfl | rfl <;> simp
  | _ => simp [wp_run, isTm]
theorem e_timeK {d : D} {h : DH} {k : Int} (t : Tyt h d) : F_is_time [d, .int k] h = .ok (.bl (isTm d && decide ((lenD d : Int) = k))) h := by
  apply eq_of_wp
  unfold F_is_time B_is_time
  cases d with
  | tup ds =>
    simp [wp_run, isTm, D.isNon, lenD]
    by_cases h1 : (1 : Int) ≤ ds.length
    · by_cases h2 : (ds.length : Int) ≤ 3
      · simp [h1, h2, seq_nx, D.isNon]
        have a1 : 1 ≤ ds.length := by omega
        have a2 : ds.length ≤ 3 := by omega
        by_cases hk : (ds.length : Int) = k
        · simp [hk, seq_nx]
          refine lc_map (fun x => .bl (okC x)) rfl (by omega) rfl (fun x hx => ?_) ?_
          · have tx := t.2 ds rfl x hx
            simp [e_whole' tx]
            cases x <;> simp [isI, okC]
          · rw [mapO_blm]
            simp [a1, a2]
        · simp [hk]
      · have : ¬ ds.length ≤ 3 := by omega
        simp [h1, h2, this]
    · have : ¬ 1 ≤ ds.length := by omega
      simp [h1]
      intro z
      omega
  | ref n =>
    obtain ⟨⟨t, e⟩, _⟩ := t
    simp [wp_run, e, isTm]
    rcases ty_ref e with rfl | rfl <;> simp
  | _ => simp [wp_run, isTm]
def good (t : List Int) : Prop := 1 ≤ t.length ∧ t.length ≤ 3 ∧ ∀ x ∈ t, 0 ≤ x
theorem good_tm {t : List Int} (g : good t) : isTm (tm t) = true := by
  obtain ⟨g1, g2, g3⟩ := g
  simp [isTm, g2, okC]
  exact ⟨g1, g3⟩
theorem tyt_tm {t : List Int} {h : DH} : Tyt h (tm t) := ⟨⟨_, rfl⟩, fun ds e x hx => by
  cases e
  obtain ⟨i, _, rfl⟩ := List.mem_map.mp hx
  exact ⟨_, rfl⟩⟩
theorem e_time {t : List Int} {h : DH} (g : good t) : F_is_time [tm t, .non] h = .ok (.bl true) h := by
  rw [e_time' tyt_tm, good_tm g]
theorem tm_of {d : D} (h : isTm d = true) : ∃ t, d = tm t ∧ good t := by
  cases d with
  | tup ds =>
    simp [isTm] at h
    obtain ⟨⟨h1, h2⟩, h3⟩ := h
    have : ∃ t : List Int, ds = t.map .int ∧ ∀ x ∈ t, 0 ≤ x := by
      clear h1 h2
      induction ds with
      | nil => exact ⟨[], rfl, by simp⟩
      | cons x ds ih =>
        obtain ⟨t, e, ht⟩ := ih fun y hy => h3 y (by simp [hy])
        have hx := h3 x (by simp)
        cases x <;> simp [okC] at hx
        rename_i i
        exact ⟨i :: t, by simp [e], by simpa [hx] using ht⟩
    obtain ⟨t, e, ht⟩ := this
    subst e
    exact ⟨t, rfl, by simpa using h1, by simpa using h2, ht⟩
  | _ => simp [isTm] at h
/-! ### classes that stay -/
theorem wp_of_eq {α : Type} {r : Res α} {a : α} {h : DH} {Q : α → DH → Prop} {X : Exn → DH → Prop} (e : r = .ok a h) (q : Q a h) : r.wp Q X := by rw [e]; exact ⟨q⟩
def Tle (h h' : DH) : Prop := ∀ d, Tyd h d → Tyd h' d
theorem Tle.app {h g : DH} : Tle h (h ++ g) := fun d ⟨t, e⟩ => by
  cases d with
  | ref n =>
    refine ⟨t, ?_⟩
    unfold tyD at e ⊢
    dsimp only at e ⊢
    cases z : h[n]? with
    | none => rw [z] at e; cases e
    | some o => rw [List.getElem?_append_left (List.getElem?_eq_some_iff.mp z).1]; exact e
  | _ => exact ⟨_, rfl⟩
theorem Tle.trans {h h1 h2 : DH} (a : Tle h h1) (b : Tle h1 h2) : Tle h h2 := fun d t => b d (a d t)
theorem Tle.keep {n : Nat} {h h' : DH} (P : Pool n h') (k : Keep n h h') : Tle h h' := fun d ⟨t, e⟩ => by
  cases d with
  | ref m =>
    by_cases hm : m = n
    · subst hm
      obtain ⟨a, b, e', _⟩ := P
      exact ⟨.lst, by simp [tyD, e']⟩
    · refine ⟨t, ?_⟩
      unfold tyD at e ⊢
      dsimp only at e ⊢
      rw [k.2 m hm]; exact e
  | _ => exact ⟨_, rfl⟩
theorem tyd_app {h g : DH} {k : Nat} {t : Ty} (e : tyD g (.v (.ref k)) = some t) : Tyd (h ++ g) (.ref (h.length + k)) := ⟨t, by
  unfold tyD at e ⊢
  dsimp only at e ⊢
  rw [List.getElem?_append_right (by omega), Nat.add_sub_cancel_left]; exact e⟩
theorem tyt_tup {h : DH} {ds : List D} (t : ∀ x ∈ ds, Tyd h x) : Tyt h (.tup ds) := ⟨⟨_, rfl⟩, fun es e x hx => by cases e; exact t x hx⟩
theorem tyd_ints {h : DH} {t : List Int} : ∀ x ∈ t.map D.int, Tyd h x := fun x hx => by
  obtain ⟨i, _, rfl⟩ := List.mem_map.mp hx
  exact ⟨_, rfl⟩
def leT (a b : List Int) : Bool := (a.zip b).all fun p => decide (p.1 ≤ p.2)
theorem zip_map {a b : List Int} : zipd (a.map .int) (b.map .int) = (a.zip b).map fun p => .tup [.int p.1, .int p.2] := by
  induction a generalizing b with
  | nil => cases b <;> rfl
  | cons x a ih => cases b <;> simp [zipd, ih]
theorem e_before0 {a b : List Int} {h : DH} (hl : a.length = b.length) (hs : a.length ≤ 1000) : F_is_before [tm a, tm b] h = .ok (.bl (leT a b)) h := by
  apply eq_of_wp
  unfold F_is_before B_is_before
  simp [wp_run, hl, zip_map]
  refine lc_map (fun x => match x with | .tup [.int i, .int j] => .bl (decide (i ≤ j)) | _ => .non) rfl (by simp; omega) rfl (fun x hx => ?_) ?_
  · obtain ⟨p, hp, rfl⟩ := List.mem_map.mp hx
    simp
  · rw [List.map_map, show ((fun x : D => match x with | .tup [.int i, .int j] => D.bl (decide (i ≤ j)) | _ => .non) ∘ fun p : Int × Int => D.tup [.int p.1, .int p.2]) = D.bl ∘ fun p => decide (p.1 ≤ p.2) from rfl, ← List.map_map, mapO_blOf]
    simp [leT, List.all_map]
def unI : D → Int
  | .int i => i
  | _ => 0
def unT : D → List Int
  | .tup ds => ds.map unI
  | _ => []
theorem unT_tm {t : List Int} : unT (tm t) = t := by
  show (t.map .int).map unI = t
  rw [List.map_map]
  exact (List.map_congr_left (fun x _ => rfl)).trans (List.map_id t)
theorem map_unT {f : List (List Int)} (q : List Int → Bool) : mapO blOf ((f.map tm).map fun x => D.bl (q (unT x))) = some (f.map q) := by
  rw [List.map_map, show ((fun x => D.bl (q (unT x))) ∘ tm) = fun x => D.bl (q x) from funext fun x => by simp [unT_tm], mapO_blm]
/-! ### fronts, plain -/
def lexB (u v : List Int) : Bool := decide (u ≤ v)
theorem enc_tm {h : DH} {t : List Int} : encD h (tm t) = .tuple (t.map .int) := by simp [encD, tm]
theorem le_tm {h : DH} {u v : List Int} : PySem.W.dataLe false (encD h) (tm u) (tm v) = lexB u v := by
  rw [PySem.W.dataLe_eq]
  show (!PySem.W.dataLt (encD h (tm v)) (encD h (tm u))) = _
  rw [enc_tm, enc_tm, PySem.W.dataLt_tuple]
  show (!PySem.W.rowLt (v.map .int) (u.map .int)) = _
  rw [PySem.W.dataLt_ints]
  unfold lexB
  by_cases z : v < u
  · simp [z]
  · simp [z]; exact z
theorem srt_tm {h : DH} {ts : List (List Int)} : srtD h (ts.map tm) = (ts.mergeSort lexB).map tm := by
  unfold srtD
  rw [List.map_mergeSort (r := lexB) (s := PySem.W.dataLe false (encD h))]
  intro x _ y _
  exact le_tm.symm
theorem lex_of_le : ∀ {u v : List Int}, u.length = v.length → leT u v = true → u ≤ v
  | [], [], _, _ => List.le_refl _
  | x :: u, y :: v, hl, h => by
    simp [leT] at h
    rw [List.cons_le_cons_iff]
    by_cases z : x < y
    · exact .inl z
    · refine .inr ⟨by omega, lex_of_le (by simpa using hl) ?_⟩
      simp [leT]
      exact h.2
  | [], _ :: _, hl, _ => by cases hl
  | _ :: _, [], hl, _ => by cases hl
theorem leT_refl : ∀ {u : List Int}, leT u u = true
  | [] => rfl
  | x :: u => by
    have := leT_refl (u := u)
    simp [leT] at this ⊢
    exact this
theorem leT_trans : ∀ {u v w : List Int}, u.length = v.length → leT u v = true → leT v w = true → leT u w = true
  | [], _, _, _, _, _ => rfl
  | x :: u, y :: v, [], _, _, _ => by simp [leT]
  | x :: u, y :: v, z :: w, hl, h, k => by
    have e1 : x ≤ y ∧ leT u v = true := by simpa [leT] using h
    have e2 : y ≤ z ∧ leT v w = true := by simpa [leT] using k
    have e3 := leT_trans (by simpa using hl) e1.2 e2.2
    show leT (x :: u) (z :: w) = true
    have : (decide (x ≤ z) && leT u w) = true := by simp [e3]; omega
    simpa [leT] using this
  | x :: u, [], _, hl, _, _ => by cases hl
theorem leT_anti {u v : List Int} (hl : u.length = v.length) (h : leT u v = true) (k : leT v u = true) : u = v :=
  List.le_antisymm (lex_of_le hl h) (lex_of_le hl.symm k)
def stepL (found : List (List Int)) (t : List Int) : List (List Int) := if found.any (fun o => leT o t) then found else found ++ [t]
def leastL (ts : List (List Int)) : List (List Int) := (ts.mergeSort lexB).foldl stepL []
def lexS (u v : List Int) : Prop := u ≤ v ∧ u ≠ v
theorem same_list : ∀ {a b : List (List Int)}, a.Pairwise lexS → b.Pairwise lexS → (∀ x, x ∈ a ↔ x ∈ b) → a = b
  | [], [], _, _, _ => rfl
  | [], y :: b, _, _, h => by have := (h y).mpr (by simp); cases this
  | x :: a, [], _, _, h => by have := (h x).mp (by simp); cases this
  | x :: a, y :: b, pa, pb, h => by
    rw [List.pairwise_cons] at pa pb
    have e : x = y := by
      by_cases e : x = y
      · exact e
      · have h1 : x ∈ b := by
          rcases List.mem_cons.mp ((h x).mp (by simp)) with z | z
          · exact absurd z e
          · exact z
        have h2 : y ∈ a := by
          rcases List.mem_cons.mp ((h y).mpr (by simp)) with z | z
          · exact absurd z.symm e
          · exact z
        exact List.le_antisymm (pa.1 y h2).1 (pb.1 x h1).1
    subst e
    refine congrArg _ (same_list pa.2 pb.2 fun z => ⟨fun hz => ?_, fun hz => ?_⟩)
    · rcases List.mem_cons.mp ((h z).mp (by simp [hz])) with q | q
      · subst q; exact absurd rfl (pa.1 z hz).2
      · exact q
    · rcases List.mem_cons.mp ((h z).mpr (by simp [hz])) with q | q
      · subst q; exact absurd rfl (pb.1 z hz).2
      · exact q
def minimal (ts : List (List Int)) (x : List Int) : Prop := x ∈ ts ∧ ∀ y ∈ ts, leT y x = true → y = x
theorem fold_least {k : Nat} : ∀ (ss f : List (List Int)), (∀ x ∈ ss, x.length = k) → (∀ x ∈ f, x.length = k) → f.Pairwise lexS → (∀ x ∈ f, ∀ y ∈ ss, x ≤ y) → ss.Pairwise (fun u v => u ≤ v) → f.Pairwise (fun u v => leT u v = false) →
    (ss.foldl stepL f).Pairwise lexS ∧ (ss.foldl stepL f).Pairwise (fun u v => leT u v = false) ∧ (∀ x ∈ ss.foldl stepL f, x ∈ f ∨ x ∈ ss) ∧ (∀ y, y ∈ f ∨ y ∈ ss → ∃ x ∈ ss.foldl stepL f, leT x y = true)
  | [], f, _, _, pf, _, _, af => ⟨pf, af, fun x hx => .inl hx, fun y hy => by
      rcases hy with hy | hy
      · exact ⟨y, hy, leT_refl⟩
      · cases hy⟩
  | t :: ss, f, hk, hf, pf, ff, ps, af => by
    rw [List.pairwise_cons] at ps
    rw [List.foldl_cons]
    by_cases c : (f.any fun o => leT o t) = true
    · have e : stepL f t = f := by unfold stepL; rw [if_pos c]
      rw [e]
      obtain ⟨q1, q2, q3, q4⟩ := fold_least ss f (fun x hx => hk x (by simp [hx])) hf pf (fun x hx y hy => ff x hx y (by simp [hy])) ps.2 af
      refine ⟨q1, q2, fun x hx => ?_, fun y hy => ?_⟩
      · rcases q3 x hx with z | z
        · exact .inl z
        · exact .inr (by simp [z])
      · rcases hy with hy | hy
        · exact q4 y (.inl hy)
        · rcases List.mem_cons.mp hy with rfl | hy
          · obtain ⟨o, ho, hl⟩ := List.any_eq_true.mp c
            obtain ⟨x, hx, hxl⟩ := q4 o (.inl ho)
            refine ⟨x, hx, leT_trans ?_ hxl hl⟩
            have a1 := hf o ho
            rcases q3 x hx with z | z
            · rw [hf x z, a1]
            · rw [hk x (by simp [z]), a1]
          · exact q4 y (.inr hy)
    · have e : stepL f t = f ++ [t] := by unfold stepL; rw [if_neg c]
      have c' : ∀ o ∈ f, leT o t = false := fun o ho => by
        cases z : leT o t with
        | false => rfl
        | true => exact absurd (List.any_eq_true.mpr ⟨o, ho, z⟩) c
      rw [e]
      obtain ⟨q1, q2, q3, q4⟩ := fold_least ss (f ++ [t]) (fun x hx => hk x (by simp [hx])) (fun x hx => by
          rcases List.mem_append.mp hx with z | z
          · exact hf x z
          · rw [List.mem_singleton.mp z]; exact hk t (by simp))
        (by
          rw [List.pairwise_append]
          refine ⟨pf, by simp, fun x hx y hy => ?_⟩
          rw [List.mem_singleton.mp hy]
          refine ⟨ff x hx t (by simp), fun e => ?_⟩
          have := c' x hx
          rw [e, leT_refl] at this; cases this)
        (fun x hx y hy => by
          rcases List.mem_append.mp hx with z | z
          · exact ff x z y (by simp [hy])
          · rw [List.mem_singleton.mp z]; exact ps.1 y hy) ps.2
        (by
          rw [List.pairwise_append]
          refine ⟨af, by simp, fun x hx y hy => ?_⟩
          rw [List.mem_singleton.mp hy]; exact c' x hx)
      refine ⟨q1, q2, fun x hx => ?_, fun y hy => q4 y ?_⟩
      · rcases q3 x hx with z | z
        · rcases List.mem_append.mp z with z | z
          · exact .inl z
          · exact .inr (by simp [List.mem_singleton.mp z])
        · exact .inr (by simp [z])
      · rcases hy with hy | hy
        · exact .inl (by simp [hy])
        · rcases List.mem_cons.mp hy with rfl | hy
          · exact .inl (by simp)
          · exact .inr hy
theorem sort_pw {ts : List (List Int)} : (ts.mergeSort lexB).Pairwise fun u v => u ≤ v := by
  have := List.pairwise_mergeSort (le := lexB) (fun a b c h k => by
    unfold lexB at *
    simp only [decide_eq_true_eq] at *
    exact List.le_trans h k) (fun a b => by
    unfold lexB
    simp only [Bool.or_eq_true, decide_eq_true_eq]
    exact List.le_total a b) ts
  exact this.imp fun h => by simpa [lexB] using h
theorem least_mem {k : Nat} {ts : List (List Int)} (hk : ∀ x ∈ ts, x.length = k) : (leastL ts).Pairwise lexS ∧ ∀ x, x ∈ leastL ts ↔ minimal ts x := by
  have ms : ∀ x, x ∈ ts.mergeSort lexB ↔ x ∈ ts := fun x => List.mem_mergeSort
  obtain ⟨q1, q2, q3, q4⟩ := fold_least (k := k) (ts.mergeSort lexB) [] (fun x hx => hk x ((ms x).mp hx)) (by simp) (by simp) (by simp) sort_pw (by simp)
  change (leastL ts).Pairwise lexS at q1
  change (leastL ts).Pairwise _ at q2
  change ∀ x ∈ leastL ts, _ at q3
  change ∀ y, _ → ∃ x ∈ leastL ts, _ at q4
  have inT : ∀ x ∈ leastL ts, x ∈ ts := fun x hx => by
    rcases q3 x hx with z | z
    · cases z
    · exact (ms x).mp z
  refine ⟨q1, fun x => ⟨fun hx => ⟨inT x hx, fun y hy hl => ?_⟩, fun ⟨hx, hm⟩ => ?_⟩⟩
  · obtain ⟨z, hz, zl⟩ := q4 y (.inr ((ms y).mpr hy))
    have zt := inT z hz
    have zx : leT z x = true := leT_trans (by rw [hk z zt, hk y hy]) zl hl
    have e : z = x := by
      obtain ⟨i, hi, ei⟩ := List.mem_iff_getElem.mp hz
      obtain ⟨j, hj, ej⟩ := List.mem_iff_getElem.mp hx
      rcases Nat.lt_trichotomy i j with l | l | l
      · have := List.pairwise_iff_getElem.mp q2 i j hi hj l
        rw [ei, ej, zx] at this; cases this
      · subst l; rw [← ei, ← ej]
      · have := (List.pairwise_iff_getElem.mp q1 j i hj hi l).1
        rw [ei, ej] at this
        exact List.le_antisymm (lex_of_le (by rw [hk z zt, hk x (inT x hx)]) zx) this
    subst e
    exact leT_anti (by rw [hk y hy, hk z zt]) hl zl
  · obtain ⟨z, hz, zl⟩ := q4 x (.inr ((ms x).mpr hx))
    rw [← hm z (inT z hz) zl]; exact hz
theorem least_eq {k : Nat} {ts b : List (List Int)} (hk : ∀ x ∈ ts, x.length = k) (pb : b.Pairwise lexS) (hb : ∀ x, x ∈ b ↔ minimal ts x) : leastL ts = b :=
  same_list (least_mem hk).1 pb fun x => ((least_mem hk).2 x).trans (hb x).symm
theorem sort_strict {b : List (List Int)} (h : b.Nodup) : (b.mergeSort lexB).Pairwise lexS := by
  have n : (b.mergeSort lexB).Nodup := (List.mergeSort_perm b lexB).nodup_iff.mpr h
  exact List.Pairwise.imp₂ (fun _ _ h1 h2 => ⟨h1, h2⟩) sort_pw n
/-! ### fronts -/
theorem al_ints : ∀ {u v : List Int}, u.length = v.length → PySem.W.alikeAll (u.map .int) (v.map .int) = true
  | [], [], _ => rfl
  | x :: u, y :: v, h => by
    have := al_ints (u := u) (v := v) (by simpa using h)
    simp [PySem.W.alikeAll, PySem.W.alike, this]
  | [], _ :: _, h => by cases h
  | _ :: _, [], h => by cases h
theorem oks_tm {h : DH} {k : Nat} {ts : List (List Int)} (g : ∀ t ∈ ts, good t ∧ t.length = k) : okSort h (ts.map tm) = true := by
  unfold okSort
  rw [Bool.and_eq_true, Bool.and_eq_true, Bool.or_eq_true]
  refine ⟨?_, ?_, .inl ?_⟩
  · rw [List.all_eq_true]
    intro d hd
    obtain ⟨t, _, rfl⟩ := List.mem_map.mp hd
    simp [tm]
  · rw [List.all_eq_true]
    intro d hd
    rw [List.all_eq_true]
    intro d' hd'
    obtain ⟨t, ht, rfl⟩ := List.mem_map.mp hd
    obtain ⟨t', ht', rfl⟩ := List.mem_map.mp hd'
    rw [enc_tm, enc_tm]
    simp only [PySem.W.alike]
    exact al_ints (by rw [(g t ht).2, (g t' ht').2])
  · rw [List.all_eq_true]
    intro d hd
    obtain ⟨t, ht, rfl⟩ := List.mem_map.mp hd
    rw [enc_tm]
    have := (g t ht).1.1
    cases t with
    | nil => simp at this
    | cons x t => rfl
theorem optP_imp {α : Type} {o : Option α} {P Q : α → Prop} (h : optP o P) (i : ∀ a, P a → Q a) : optP o Q := by
  cases o with
  | none => simpa using h
  | some a => simpa using i a (by simpa using h)
theorem lc_filter {α : Type} {k : α → D} {live : DH → Bool} {as : List α} (p : α → Bool) (k' : α → D) (hl : live h = true) (hz : as.length ≤ 16777216)
    (hs : ∀ a ∈ as, optP (g (k a) env) fun env1 => (t env1 h).wp (fun b h' => b = p a ∧ h' = h ∧ (p a = true → (ta env1 h).wp (fun d h'' => d = k' a ∧ h'' = h) (fun _ _ => False))) (fun _ _ => False)) (hd : Ql ((as.filter p).map k') h) : (lcLoop live g t ta env (as.map k) [] h).wp Ql X := by
  refine lc_inv (fun acc i h' => h' = h ∧ acc = ((as.take i).filter p).map k') ⟨rfl, by simp⟩ (fun _ _ _ I => by rw [I.1]; exact hl) (fun acc i x h' hx I ha => ?_) (by simpa using hz) (fun acc h' I _ => ?_)
  · obtain ⟨rfl, rfl⟩ := I
    obtain ⟨a, ea, rfl⟩ : ∃ a, as[i]? = some a ∧ x = k a := by
      rw [List.getElem?_map] at hx
      cases z : as[i]? with
      | none => rw [z] at hx; cases hx
      | some a => rw [z] at hx; cases hx; exact ⟨a, rfl, rfl⟩
    refine optP_imp (hs a (List.mem_of_getElem? ea)) fun env1 w => ?_
    have nx : (as.take (i + 1)).filter p = (as.take i).filter p ++ (if p a then [a] else []) := by
      rw [List.take_succ, ea, List.filter_append]
      simp [List.filter_cons]
    refine Res.wp_mono w (fun b h2 ⟨e1, e2, e3⟩ => ?_) fun _ _ h => h
    subst e1 e2
    cases z : p a with
    | false => simp [nx, z]
    | true =>
      simp
      refine Res.wp_mono (e3 z) (fun d h3 ⟨e1, e2⟩ => ?_) fun _ _ h => h
      subst e1 e2
      simp [nx, z]
  · obtain ⟨rfl, rfl⟩ := I
    simpa using hd
def tp (t : List Int) : PyData := .tuple (t.map .int)
@[simp] theorem mapO_tms {h : DH} {n : Nat} {ts : List (List Int)} : mapO (toPy h (n + 2)) (ts.map tm) = some (ts.map tp) := by
  induction ts with
  | nil => rfl
  | cons t ts ih =>
    rw [List.map_cons, mapO_cons, ih]
    simp [tm, tp]
@[simp] theorem eqvAll_tms : ∀ {us vs : List (List Int)}, PyData.eqvAll (us.map tp) (vs.map tp) = (us == vs)
  | [], [] => rfl
  | [], _ :: _ => by simp
  | _ :: _, [] => by simp
  | u :: us, v :: vs => by
    have := eqvAll_tms (us := us) (vs := vs)
    simp [tp, this]
@[simp] theorem eqvAll_tms0 {us : List (List Int)} : PyData.eqvAll (us.map tp) [] = us.isEmpty := by
  cases us <;> simp
theorem toPy_tm {h : DH} {n : Nat} {t : List Int} : toPy h (n + 2) (tm t) = some (tp t) := by simp [tm, tp]
theorem any_tms {u : List Int} : ∀ {us : List (List Int)}, ((us.map tp).any fun y => PyData.eqv y (tp u)) = decide (u ∈ us)
  | [] => by simp
  | v :: us => by
    have := any_tms (u := u) (us := us)
    rw [List.map_cons, List.any_cons, this]
    by_cases c : v = u
    · simp [tp, c]
    · simp [tp, c, Ne.symm c]
theorem in_tms {h : DH} {u : List Int} {us : List (List Int)} : inM (.v (tm u)) (.l (us.map tm)) h = some (decide (u ∈ us)) := by
  unfold inM
  simp only [toPyM_l, mapO_tms, toPyM_v, toPy_tm, Option.map_some]
  rw [any_tms]
theorem lstAt_more {h g : DH} {n : Nat} {ds : List D} (e : lstAt h n = some ds) : lstAt (h ++ g) n = some ds := by
  have nl : n < h.length := by
    unfold lstAt at e
    cases z : h[n]? with
    | none => rw [z] at e; cases e
    | some o => exact (List.getElem?_eq_some_iff.mp z).1
  unfold lstAt at e ⊢
  rw [List.getElem?_append_left nl]; exact e
theorem lstAt_keep {n m : Nat} {h h' : DH} (K : Keep n h h') (e : m ≠ n) : lstAt h' m = lstAt h m := by
  unfold lstAt
  rw [K.2 m e]
/-! ### counts by keys -/
section
variable {κ : Type} [DecidableEq κ]
abbrev Ms (κ : Type) := List (κ × Int)
def aget (ms : Ms κ) (k : κ) : Option Int := (ms.find? fun p => decide (p.1 = k)).map (·.2)
def aput (ms : Ms κ) (k : κ) (v : Int) : Ms κ := if (aget ms k).isSome then ms.map (fun p => if p.1 = k then (p.1, v) else p) else ms ++ [(k, v)]
def adel (ms : Ms κ) (k : κ) : Ms κ := ms.filter fun p => !decide (p.1 = k)
def av (ms : Ms κ) (k : κ) : Int := (aget ms k).getD 0
/-- added, none of 0 -/
def addS (ms : Ms κ) (k : κ) (c : Int) : Ms κ := if av ms k + c = 0 then adel (aput ms k (av ms k + c)) k else aput ms k (av ms k + c)
/-- added -/
def addL (ms : Ms κ) (k : κ) (c : Int) : Ms κ := aput ms k (av ms k + c)
def nzf (ms : Ms κ) : Ms κ := ms.filter fun p => !decide (p.2 = 0)
def nd (ms : Ms κ) : Prop := (ms.map (·.1)).Nodup
def nz (ms : Ms κ) : Prop := ∀ p ∈ ms, p.2 ≠ 0
/-- the counts at all keys of a kind, added up -/
def sm (f : κ → Bool) : Ms κ → Int
  | [] => 0
  | p :: ms => (if f p.1 then p.2 else 0) + sm f ms
theorem sm_app {f : κ → Bool} : ∀ {a b : Ms κ}, sm f (a ++ b) = sm f a + sm f b
  | [], b => by simp [sm]
  | p :: a, b => by rw [List.cons_append, sm, sm, sm_app]; omega
theorem sm_perm {f : κ → Bool} {a b : Ms κ} (h : a.Perm b) : sm f a = sm f b := by
  induction h with
  | nil => rfl
  | cons x _ ih => simp [sm, ih]
  | swap x y l => simp only [sm]; omega
  | trans _ _ h1 h2 => exact h1.trans h2
theorem sm_none {f : κ → Bool} : ∀ {ms : Ms κ}, (∀ p ∈ ms, f p.1 = true → p.2 = 0) → sm f ms = 0
  | [], _ => rfl
  | p :: ms, h => by
    rw [sm, sm_none fun q hq => h q (by simp [hq])]
    by_cases z : f p.1 = true
    · rw [if_pos z, h p (by simp) z]; rfl
    · rw [if_neg z]; rfl
theorem aget_none {k : κ} {ms : Ms κ} : aget ms k = none ↔ ∀ p ∈ ms, p.1 ≠ k := by
  unfold aget
  simp
theorem aget_mem {k : κ} {v : Int} {ms : Ms κ} (h : aget ms k = some v) : (k, v) ∈ ms := by
  unfold aget at h
  obtain ⟨p, e, rfl⟩ := Option.map_eq_some_iff.mp h
  have := List.find?_some e
  simp at this
  subst this
  exact List.mem_of_find?_eq_some e
theorem aget_cons {k : κ} {p : κ × Int} {ms : Ms κ} : aget (p :: ms) k = if p.1 = k then some p.2 else aget ms k := by
  unfold aget
  rw [List.find?_cons]
  by_cases z : p.1 = k <;> simp [z]
theorem aget_of {k : κ} {v : Int} : ∀ {ms : Ms κ}, nd ms → (k, v) ∈ ms → aget ms k = some v
  | p :: ms, n, h => by
    rw [aget_cons]
    unfold nd at n
    rw [List.map_cons, List.nodup_cons] at n
    rcases List.mem_cons.mp h with e | h
    · rw [← e]; simp
    · by_cases z : p.1 = k
      · exact absurd (List.mem_map.mpr ⟨_, h, z.symm⟩) n.1
      · rw [if_neg z]; exact aget_of n.2 h
theorem map_set {k : κ} {v : Int} {ms : Ms κ} : (ms.map fun p => if p.1 = k then (p.1, v) else p).map (·.1) = ms.map (·.1) := by
  rw [List.map_map]
  apply List.map_congr_left
  intro p _
  by_cases z : p.1 = k <;> simp [z]
theorem nd_aput {k : κ} {v : Int} {ms : Ms κ} (n : nd ms) : nd (aput ms k v) := by
  unfold aput
  by_cases z : (aget ms k).isSome = true
  · rw [if_pos z]; unfold nd; rw [map_set]; exact n
  · rw [if_neg z]
    have : aget ms k = none := by simpa using z
    unfold nd
    rw [List.map_append, List.nodup_append]
    refine ⟨n, by simp, fun a ha b hb => ?_⟩
    obtain ⟨p, hp, rfl⟩ := List.mem_map.mp ha
    simp at hb
    rw [hb]
    exact aget_none.mp this p hp
theorem nd_filter {q : κ × Int → Bool} {ms : Ms κ} (n : nd ms) : nd (ms.filter q) := by
  unfold nd at *
  exact List.Sublist.nodup (List.filter_sublist.map _) n
theorem nd_addS {k : κ} {c : Int} {ms : Ms κ} (n : nd ms) : nd (addS ms k c) := by
  unfold addS
  split
  · exact nd_filter (nd_aput n)
  · exact nd_aput n
theorem nd_addL {k : κ} {c : Int} {ms : Ms κ} (n : nd ms) : nd (addL ms k c) := nd_aput n
theorem sm_set {f : κ → Bool} {k : κ} {v : Int} : ∀ {ms : Ms κ}, nd ms → (aget ms k).isSome = true → sm f (ms.map fun p => if p.1 = k then (p.1, v) else p) = sm f ms + if f k then v - av ms k else 0
  | [], _, h => by simp [aget] at h
  | p :: ms, n, h => by
    unfold nd at n
    rw [List.map_cons, List.nodup_cons] at n
    unfold av
    rw [aget_cons] at h ⊢
    by_cases z : p.1 = k
    · have e : (ms.map fun p => if p.1 = k then (p.1, v) else p) = ms := by
        conv => rhs; rw [← List.map_id ms]
        apply List.map_congr_left
        intro q hq
        have : q.1 ≠ k := fun e => n.1 (List.mem_map.mpr ⟨q, hq, by rw [e, z]⟩)
        simp [this]
      rw [List.map_cons, if_pos z, if_pos z, sm, sm, e]
      simp [z]
      split <;> omega
    · rw [if_neg z] at h ⊢
      have ih := sm_set (f := f) (v := v) (k := k) n.2 h
      unfold av at ih
      rw [List.map_cons, if_neg z, sm, sm, ih]
      omega
theorem sm_aput {f : κ → Bool} {k : κ} {v : Int} {ms : Ms κ} (n : nd ms) : sm f (aput ms k v) = sm f ms + if f k then v - av ms k else 0 := by
  unfold aput
  by_cases z : (aget ms k).isSome = true
  · rw [if_pos z]; exact sm_set n z
  · rw [if_neg z, sm_app]
    have : aget ms k = none := by simpa using z
    simp [sm, av, this]
theorem sm_split {f : κ → Bool} {q : κ × Int → Bool} : ∀ {ms : Ms κ}, sm f ms = sm f (ms.filter q) + sm f (ms.filter fun p => !q p)
  | [] => rfl
  | p :: ms => by
    have := sm_split (f := f) (q := q) (ms := ms)
    by_cases z : q p = true
    · simp [z, sm]; omega
    · simp [z, sm]; omega
theorem sm_nzf {f : κ → Bool} {ms : Ms κ} : sm f (nzf ms) = sm f ms := by
  rw [sm_split (f := f) (q := fun p => !decide (p.2 = 0)) (ms := ms)]
  rw [sm_none (ms := ms.filter fun p => !!decide (p.2 = 0)) (fun p hp _ => by simpa using (List.mem_filter.mp hp).2)]
  unfold nzf
  omega
theorem av_aput {k : κ} {v : Int} {ms : Ms κ} : aget (aput ms k v) k = some v := by
  unfold aput
  by_cases z : (aget ms k).isSome = true
  · rw [if_pos z]
    induction ms with
    | nil => simp [aget] at z
    | cons p ms ih =>
      rw [aget_cons] at z
      rw [List.map_cons, aget_cons]
      by_cases c : p.1 = k
      · simp [c]
      · rw [if_neg c] at z
        rw [if_neg c, if_neg c]
        exact ih z
  · rw [if_neg z]
    have : aget ms k = none := by simpa using z
    unfold aget at *
    rw [List.find?_append]
    have e : ms.find? (fun p => decide (p.1 = k)) = none := by simpa using this
    rw [e]
    simp
theorem av_sm {k : κ} : ∀ {ms : Ms κ}, nd ms → av ms k = sm (fun x => decide (x = k)) ms
  | [], _ => rfl
  | p :: ms, n => by
    unfold nd at n
    rw [List.map_cons, List.nodup_cons] at n
    have ih := av_sm (k := k) n.2
    unfold av at ih ⊢
    rw [aget_cons, sm]
    by_cases z : p.1 = k
    · have : sm (fun x => decide (x = k)) ms = 0 := sm_none fun q hq e => absurd (List.mem_map.mpr ⟨q, hq, by rw [of_decide_eq_true e, z]⟩) n.1
      rw [this]; simp [z]
    · rw [if_neg z]; simp [z, ih]
theorem sm_adel {f : κ → Bool} {k : κ} {ms : Ms κ} (n : nd ms) : sm f (adel ms k) = sm f ms - if f k then av ms k else 0 := by
  have := sm_split (f := f) (q := fun p => !decide (p.1 = k)) (ms := ms)
  have e : sm f (ms.filter fun p => !!decide (p.1 = k)) = if f k then av ms k else 0 := by
    rw [av_sm n]
    clear this n
    induction ms with
    | nil => simp [sm]
    | cons p ms ih =>
      by_cases z : p.1 = k
      · simp [z, sm] at ih ⊢
        rw [ih]
        split <;> simp
      · simp [z, sm] at ih ⊢
        rw [ih]
  rw [e] at this
  unfold adel
  omega
theorem sm_addS {f : κ → Bool} {k : κ} {c : Int} {ms : Ms κ} (n : nd ms) : sm f (addS ms k c) = sm f ms + if f k then c else 0 := by
  unfold addS
  split
  · rename_i z
    rw [sm_adel (nd_aput n), sm_aput n]
    unfold av at *
    rw [av_aput]
    by_cases y : f k = true
    · simp [y]; omega
    · simp [y]
  · rw [sm_aput n]
    by_cases y : f k = true
    · simp [y]; omega
    · simp [y]
theorem sm_addL {f : κ → Bool} {k : κ} {c : Int} {ms : Ms κ} (n : nd ms) : sm f (addL ms k c) = sm f ms + if f k then c else 0 := by
  unfold addL
  rw [sm_aput n]
  by_cases y : f k = true
  · simp [y]; omega
  · simp [y]
theorem nz_aput {k : κ} {v : Int} {ms : Ms κ} (h : nz ms) (hv : v ≠ 0) : nz (aput ms k v) := by
  unfold aput
  intro p hp
  split at hp
  · obtain ⟨q, hq, rfl⟩ := List.mem_map.mp hp
    split
    · exact hv
    · exact h q hq
  · rcases List.mem_append.mp hp with z | z
    · exact h p z
    · rw [List.mem_singleton.mp z]; exact hv
theorem nz_addS {k : κ} {c : Int} {ms : Ms κ} (h : nz ms) : nz (addS ms k c) := by
  unfold addS
  split
  · rename_i z
    intro p hp
    obtain ⟨h1, h2⟩ := List.mem_filter.mp hp
    have h2 : p.1 ≠ k := by simpa using h2
    unfold aput at h1
    split at h1
    · obtain ⟨q, hq, e⟩ := List.mem_map.mp h1
      split at e
      · rename_i e2; rw [← e] at h2; exact absurd e2 h2
      · rw [← e]; exact h q hq
    · rcases List.mem_append.mp h1 with z | z
      · exact h p z
      · rw [List.mem_singleton.mp z] at h2; exact absurd rfl h2
  · rename_i z
    exact nz_aput h z
theorem nz_nzf {ms : Ms κ} : nz (nzf ms) := fun p hp => by simpa using (List.mem_filter.mp hp).2
/-- what stands there is told by the sums -/
theorem mem_sm {ms : Ms κ} (n : nd ms) (z : nz ms) {p : κ × Int} : p ∈ ms ↔ p.2 ≠ 0 ∧ p.2 = sm (fun x => decide (x = p.1)) ms := by
  rw [← av_sm n]
  refine ⟨fun h => ⟨z p h, ?_⟩, fun ⟨h1, h2⟩ => ?_⟩
  · unfold av; rw [aget_of n h]; rfl
  · unfold av at h2
    cases e : aget ms p.1 with
    | none => rw [e] at h2; exact absurd h2 h1
    | some v => rw [e] at h2; have := aget_mem e; rw [show p = (p.1, v) from Prod.ext rfl h2]; exact this
theorem mem_same {a b : Ms κ} (na : nd a) (za : nz a) (n : nd b) (z : nz b) (h : ∀ k, sm (fun x => decide (x = k)) a = sm (fun x => decide (x = k)) b) : ∀ p, p ∈ a ↔ p ∈ b := fun p => by
  rw [mem_sm na za, mem_sm n z, h]
def foldS (ms ds : Ms κ) : Ms κ := ds.foldl (fun ms p => addS ms p.1 p.2) ms
def foldL (ms ds : Ms κ) : Ms κ := ds.foldl (fun ms p => addL ms p.1 p.2) ms
theorem foldS_ok : ∀ {ds ms : Ms κ}, nd ms → nz ms → nd (foldS ms ds) ∧ nz (foldS ms ds) ∧ ∀ f : κ → Bool, sm f (foldS ms ds) = sm f ms + sm f ds
  | [], ms, n, z => ⟨n, z, fun f => by simp [foldS, sm]⟩
  | p :: ds, ms, n, z => by
    obtain ⟨h1, h2, h3⟩ := foldS_ok (ds := ds) (ms := addS ms p.1 p.2) (nd_addS n) (nz_addS z)
    exact ⟨h1, h2, fun f => by rw [show foldS ms (p :: ds) = foldS (addS ms p.1 p.2) ds from rfl, h3, sm_addS n, sm]; omega⟩
theorem foldL_ok : ∀ {ds ms : Ms κ}, nd ms → nd (foldL ms ds) ∧ ∀ f : κ → Bool, sm f (foldL ms ds) = sm f ms + sm f ds
  | [], ms, n => ⟨n, fun f => by simp [foldL, sm]⟩
  | p :: ds, ms, n => by
    obtain ⟨h1, h3⟩ := foldL_ok (ds := ds) (ms := addL ms p.1 p.2) (nd_addL n)
    exact ⟨h1, fun f => by rw [show foldL ms (p :: ds) = foldL (addL ms p.1 p.2) ds from rfl, h3, sm_addL n, sm]; omega⟩
theorem len_aput {k : κ} {v : Int} {ms : Ms κ} : (aput ms k v).length ≤ ms.length + 1 := by
  unfold aput
  split <;> simp
theorem len_addS {k : κ} {c : Int} {ms : Ms κ} : (addS ms k c).length ≤ ms.length + 1 := by
  unfold addS
  split
  · exact Nat.le_trans (List.length_filter_le _ _) len_aput
  · exact len_aput
theorem len_foldS : ∀ {ds ms : Ms κ}, (foldS ms ds).length ≤ ms.length + ds.length
  | [], ms => by simp [foldS]
  | p :: ds, ms => by
    have := len_foldS (ds := ds) (ms := addS ms p.1 p.2)
    have := len_addS (k := p.1) (c := p.2) (ms := ms)
    rw [show foldS ms (p :: ds) = foldS (addS ms p.1 p.2) ds from rfl]
    simp at *; omega
theorem len_foldL : ∀ {ds ms : Ms κ}, (foldL ms ds).length ≤ ms.length + ds.length
  | [], ms => by simp [foldL]
  | p :: ds, ms => by
    have := len_foldL (ds := ds) (ms := addL ms p.1 p.2)
    have : (addL ms p.1 p.2).length ≤ ms.length + 1 := len_aput
    rw [show foldL ms (p :: ds) = foldL (addL ms p.1 p.2) ds from rfl]
    simp at *; omega
theorem foldS_snoc {ms ds : Ms κ} {p : κ × Int} : foldS ms (ds ++ [p]) = addS (foldS ms ds) p.1 p.2 := by simp [foldS]
theorem foldL_snoc {ms ds : Ms κ} {p : κ × Int} : foldL ms (ds ++ [p]) = addL (foldL ms ds) p.1 p.2 := by simp [foldL]
end
/-! ### as dicts -/
structure EK {κ : Type} (e : κ → D) : Prop where
  tup : ∀ k, tupK (e k) = true
  inj : ∀ k l, nk (e k) = nk (e l) → k = l
def encM {κ : Type} (e : κ → D) (ms : Ms κ) : List (D × D) := ms.map fun p => (e p.1, .int p.2)
section
variable {κ : Type} [DecidableEq κ] {e : κ → D} {ms : Ms κ} {k : κ} {v : Int}
theorem ek_iff (E : EK e) {k l : κ} : nk (e k) = nk (e l) ↔ k = l := ⟨E.inj k l, fun h => by rw [h]⟩
theorem tupKs_enc (E : EK e) : tupKs (encM e ms) = true := by
  unfold tupKs encM
  rw [List.all_map, List.all_eq_true]
  intro p _
  exact E.tup p.1
theorem dget_enc (E : EK e) : dget (encM e ms) (e k) = (aget ms k).map .int := by
  unfold dget encM aget
  rw [List.find?_map]
  have : ((fun p : D × D => decide (nk p.1 = nk (e k))) ∘ fun p : κ × Int => (e p.1, D.int p.2)) = fun p : κ × Int => decide (p.1 = k) := by
    funext p
    simp [ek_iff E]
  rw [this]
  cases ms.find? fun p => decide (p.1 = k) <;> rfl
theorem dput_enc (E : EK e) : dput (encM e ms) (e k) (.int v) = encM e (aput ms k v) := by
  unfold dput aput
  rw [dget_enc E, Option.isSome_map]
  by_cases z : (aget ms k).isSome = true
  · rw [if_pos z, if_pos z]
    unfold encM
    rw [List.map_map, List.map_map]
    apply List.map_congr_left
    intro p _
    by_cases c : p.1 = k <;> simp [c, ek_iff E]
  · rw [if_neg z, if_neg z]
    simp [encM]
theorem ddel_enc (E : EK e) : ddel (encM e ms) (e k) = encM e (adel ms k) := by
  unfold ddel adel encM
  rw [List.filter_map]
  congr 1
  apply List.filter_congr
  intro p _
  simp [ek_iff E]
@[simp] theorem encM_len : (encM e ms).length = ms.length := by simp [encM]
theorem set_set {h : DH} {n : Nat} {a b : OD} : List.set (List.set h n a) n b = List.set h n b := by simp
theorem set_same {h : DH} {n : Nat} {a : OD} (hn : h[n]? = some a) : List.set h n a = h := by
  apply List.ext_getElem?
  intro m
  by_cases z : m = n
  · subst z
    rw [List.getElem?_set_self (List.getElem?_eq_some_iff.mp hn).1, hn]
  · rw [List.getElem?_set_ne (Ne.symm z)]
theorem meet_same {h : DH} (E : EK e) {ls : Ms κ} : ∀ {ks : Ms κ}, (∀ p ∈ ks, aget ls p.1 = some p.2) → meetD h (encM e ls) (encM e ks) = some true
  | [], _ => rfl
  | p :: ks, H => by
    have ih := meet_same (h := h) E (ls := ls) (ks := ks) fun q hq => H q (by simp [hq])
    unfold encM at ih ⊢
    rw [List.map_cons, meetD]
    dsimp only
    have := dget_enc (e := e) (ms := ls) (k := p.1) E
    unfold encM at this
    rw [this, H p (by simp)]
    rw [ih]
    simp
theorem nodup_of_nd {ms : Ms κ} (n : nd ms) : ms.Nodup := by
  have n : (ms.map (·.1)).Pairwise (· ≠ ·) := n
  rw [List.pairwise_map] at n
  exact n.imp fun h e => h (by rw [e])
theorem len_same {a b : Ms κ} (na : nd a) (n : nd b) (h : ∀ p, p ∈ a ↔ p ∈ b) : a.length = b.length :=
  Nat.le_antisymm ((nodup_of_nd na).length_le_of_subset fun p hp => (h p).mp hp) ((nodup_of_nd n).length_le_of_subset fun p hp => (h p).mpr hp)
theorem eqDct_same {h : DH} (E : EK e) {a b : Ms κ} (na : nd a) (n : nd b) (H : ∀ p, p ∈ a ↔ p ∈ b) : eqDct h (encM e a) (encM e b) = some true := by
  unfold eqDct
  rw [if_pos (by simp [len_same na n H])]
  exact meet_same E fun p hp => aget_of n ((H p).mp hp)
end
/-! ### rows at times, and how often -/
abbrev Ky := List Int × List Int
abbrev Df := Ky × Int
def kyD (k : Ky) : D := .tup [tm k.1, tm k.2]
def trD (p : Df) : D := .tup [tm p.1.1, tm p.1.2, .int p.2]
theorem nkeys_ints : ∀ {t : List Int}, nkeys (t.map .int) = some (t.map .num)
  | [] => rfl
  | i :: t => by
    rw [List.map_cons, nkeys, nkeys_ints]
    rfl
theorem nkey_tm {t : List Int} : nkey (tm t) = some (.tup (t.map .num)) := by
  unfold tm
  rw [nkey, nkeys_ints]; rfl
theorem depth_nums : ∀ {t : List Int}, NestedKey.depthAll (t.map .num) ≤ 1
  | [] => by simp [NestedKey.depthAll]
  | i :: t => by
    have := depth_nums (t := t)
    simp [NestedKey.depthAll, NestedKey.depth]
    omega
theorem num_inj : ∀ {t u : List Int}, t.map NestedKey.num = u.map NestedKey.num → t = u
  | [], [], _ => rfl
  | i :: t, j :: u, h => by
    simp only [List.map_cons, List.cons.injEq, NestedKey.num.injEq] at h
    rw [h.1, num_inj h.2]
  | [], _ :: _, h => by cases h
  | _ :: _, [], h => by cases h
theorem ek_tm : EK tm := ⟨fun t => by
    unfold tupK
    rw [nkey_tm]
    have := depth_nums (t := t)
    simp [NestedKey.depth]
    omega, fun t u h => by
    unfold nk at h
    rw [nkey_tm, nkey_tm] at h
    simp only [Option.getD_some, NestedKey.tup.injEq] at h
    exact num_inj h⟩
theorem nkey_ky {k : Ky} : nkey (kyD k) = some (.tup [.tup (k.1.map .num), .tup (k.2.map .num)]) := by
  unfold kyD
  rw [nkey, nkeys, nkeys, nkeys, nkey_tm, nkey_tm]; rfl
theorem ek_ky : EK kyD := ⟨fun t => by
    unfold tupK
    rw [nkey_ky]
    have := depth_nums (t := t.1)
    have := depth_nums (t := t.2)
    simp [NestedKey.depth, NestedKey.depthAll]
    omega, fun t u h => by
    unfold nk at h
    rw [nkey_ky, nkey_ky] at h
    simp only [Option.getD_some, NestedKey.tup.injEq, List.cons.injEq, and_true] at h
    exact Prod.ext (num_inj h.1) (num_inj h.2)⟩
/-! sorted -/
def enT (p : Df) : PyData := .tuple [.tuple (p.1.1.map .int), .tuple (p.1.2.map .int), .int p.2]
theorem toPy_trD {h : DH} {n : Nat} {p : Df} : toPy h (n + 3) (trD p) = some (enT p) := by simp [trD, tm, enT]
theorem enc_tr {h : DH} {p : Df} : encD h (trD p) = enT p := by
  unfold encD
  rw [toPy_trD (n := 9)]; rfl
def tokT (p : Df) : List (Int ⊕ List Nat) := PySem.W.keyToks (enT p)
def ltT (p q : Df) : Bool := PySem.W.dataLt (enT p) (enT q)
def leTr (p q : Df) : Bool := PySem.W.dataLe false enT p q
def srtM (ms : List Df) : List Df := ms.mergeSort leTr
theorem le_eq {p q : Df} : leTr p q = !ltT q p := by
  unfold leTr
  rw [PySem.W.dataLe_eq]; rfl
theorem tok_ints : ∀ {u v : List Int} {l m : List (Int ⊕ List Nat)}, PySem.W.keyToksAll (u.map .int) ++ l = PySem.W.keyToksAll (v.map .int) ++ m → u = v ∧ l = m
  | [], [], l, m, h => ⟨rfl, by simpa [PySem.W.keyToksAll] using h⟩
  | [], _ :: _, l, m, h => by simp [PySem.W.keyToksAll] at h
  | _ :: _, [], l, m, h => by simp [PySem.W.keyToksAll] at h
  | i :: u, j :: v, l, m, h => by
    simp [PySem.W.keyToksAll, PySem.W.keyToks] at h
    obtain ⟨h1, h2⟩ := tok_ints (u := u) (v := v) h.2
    exact ⟨by rw [h.1, h1], h2⟩
theorem tok_inj {p q : Df} (h : tokT p = tokT q) : p = q := by
  simp [tokT, enT, PySem.W.keyToks, PySem.W.keyToksAll] at h
  obtain ⟨h1, h2⟩ := tok_ints h
  simp at h2
  obtain ⟨h3, h4⟩ := tok_ints h2
  simp at h4
  exact Prod.ext (Prod.ext h1 h3) h4
theorem same_strict {α : Type} {lt : α → α → Prop} (as : ∀ x y, lt x y → lt y x → False) : ∀ {a b : List α}, a.Pairwise lt → b.Pairwise lt → (∀ x, x ∈ a ↔ x ∈ b) → a = b
  | [], [], _, _, _ => rfl
  | [], y :: b, _, _, h => by have := (h y).mpr (by simp); cases this
  | x :: a, [], _, _, h => by have := (h x).mp (by simp); cases this
  | x :: a, y :: b, pa, pb, h => by
    rw [List.pairwise_cons] at pa pb
    have e : x = y := by
      rcases List.mem_cons.mp ((h x).mp (by simp)) with z | z
      · exact z
      · rcases List.mem_cons.mp ((h y).mpr (by simp)) with q | q
        · exact q.symm
        · exact (as x y (pa.1 y q) (pb.1 x z)).elim
    subst e
    refine congrArg _ (same_strict as pa.2 pb.2 fun z => ⟨fun hz => ?_, fun hz => ?_⟩)
    · rcases List.mem_cons.mp ((h z).mp (by simp [hz])) with q | q
      · subst q; exact (as z z (pa.1 z hz) (pa.1 z hz)).elim
      · exact q
    · rcases List.mem_cons.mp ((h z).mpr (by simp [hz])) with q | q
      · subst q; exact (as z z (pb.1 z hz) (pb.1 z hz)).elim
      · exact q
theorem ltT_tr {p q r : Df} (a : ltT p q = true) (b : ltT q r = true) : ltT p r = true := PyProof.Rows.lex_trans _ _ _ a b
theorem ltT_irr {p : Df} : ltT p p = false := PyProof.Rows.lex_irrefl _
theorem ltT_tot {p q : Df} (a : ltT p q = false) (b : ltT q p = false) : p = q := tok_inj (PyProof.Rows.lex_total _ _ a b)
theorem srt_strict {ms : List Df} (n : ms.Nodup) : (srtM ms).Pairwise fun p q => ltT p q = true := by
  have h1 : (srtM ms).Pairwise fun p q => leTr p q = true := by
    unfold srtM
    refine List.pairwise_mergeSort (fun a b c h k => ?_) (fun a b => ?_) ms
    · rw [le_eq] at h k ⊢
      cases z : ltT c a with
      | false => rfl
      | true =>
        rcases PyProof.Rows.lex_negTrans _ (tokT b) _ z with q | q
        · have q : ltT c b = true := q
          rw [q] at k; cases k
        · have q : ltT b a = true := q
          rw [q] at h; cases h
    · rw [le_eq, le_eq]
      cases z : ltT b a with
      | false => rfl
      | true =>
        cases y : ltT a b with
        | false => rfl
        | true => have := ltT_tr z y; rw [ltT_irr] at this; cases this
  have h2 : (srtM ms).Nodup := (List.mergeSort_perm ms leTr).nodup_iff.mpr n
  refine List.Pairwise.imp₂ (fun p q a b => ?_) h1 h2
  cases z : ltT p q with
  | true => rfl
  | false =>
    rw [le_eq] at a
    exact absurd (ltT_tot z (by simpa using a)) b
theorem srt_mem {ms : List Df} {p : Df} : p ∈ srtM ms ↔ p ∈ ms := List.mem_mergeSort
theorem srt_perm {ms : List Df} : (srtM ms).Perm ms := List.mergeSort_perm _ _
theorem srt_same {a b : List Df} (na : a.Nodup) (n : b.Nodup) (h : ∀ p, p ∈ a ↔ p ∈ b) : srtM a = srtM b :=
  same_strict (lt := fun p q => ltT p q = true) (fun x y p q => by have := ltT_tr p q; rw [ltT_irr] at this; cases this) (srt_strict na) (srt_strict n) fun x => by rw [srt_mem, srt_mem, h]
theorem srt_tr {h : DH} {ms : List Df} : srtD h (ms.map trD) = (srtM ms).map trD := by
  unfold srtD srtM
  rw [List.map_mergeSort (r := leTr) (s := PySem.W.dataLe false (encD h))]
  intro x _ y _
  unfold leTr
  rw [PySem.W.dataLe_eq, PySem.W.dataLe_eq]
  simp only [enc_tr]
theorem al_any : ∀ {u v : List Int}, PySem.W.alikeAll (u.map .int) (v.map .int) = true
  | [], _ => by simp [PySem.W.alikeAll]
  | _ :: _, [] => by simp [PySem.W.alikeAll]
  | x :: u, y :: v => by
    have := al_any (u := u) (v := v)
    simp [PySem.W.alikeAll, PySem.W.alike, this]
theorem oks_tr {h : DH} {ms : List Df} : okSort h (ms.map trD) = true := by
  unfold okSort
  rw [Bool.and_eq_true, Bool.and_eq_true, Bool.or_eq_true]
  refine ⟨?_, ?_, .inl ?_⟩
  · rw [List.all_eq_true]
    intro d hd
    obtain ⟨t, _, rfl⟩ := List.mem_map.mp hd
    rw [toPy_trD (n := 9)]; rfl
  · rw [List.all_eq_true]
    intro d hd
    rw [List.all_eq_true]
    intro d' hd'
    obtain ⟨t, ht, rfl⟩ := List.mem_map.mp hd
    obtain ⟨t', ht', rfl⟩ := List.mem_map.mp hd'
    rw [enc_tr, enc_tr]
    simp [enT, PySem.W.alike, PySem.W.alikeAll, al_any]
  · rw [List.all_eq_true]
    intro d hd
    obtain ⟨t, ht, rfl⟩ := List.mem_map.mp hd
    rw [enc_tr]
    rfl
theorem mapO_trs {h : DH} {n : Nat} : ∀ {ms : List Df}, mapO (toPy h (n + 3)) (ms.map trD) = some (ms.map enT)
  | [] => rfl
  | p :: ms => by rw [List.map_cons, mapO_cons, toPy_trD, mapO_trs]; rfl
theorem en_eqv {p q : Df} : PyData.eqv (enT p) (enT q) = decide (p = q) := by
  simp [enT]
  obtain ⟨⟨a, b⟩, c⟩ := p
  obtain ⟨⟨a', b'⟩, c'⟩ := q
  simp
  by_cases h1 : a = a' <;> by_cases h2 : b = b' <;> by_cases h3 : c = c' <;> simp [h1, h2, h3]
theorem eqvAll_trs : ∀ {a b : List Df}, PyData.eqvAll (a.map enT) (b.map enT) = decide (a = b)
  | [], [] => rfl
  | [], _ :: _ => by simp
  | _ :: _, [] => by simp
  | p :: a, q :: b => by
    have := eqvAll_trs (a := a) (b := b)
    rw [List.map_cons, List.map_cons, eqvAll_cons, en_eqv, this]
    by_cases h1 : p = q <;> by_cases h2 : a = b <;> simp [h1, h2]
/-! ### heaps -/
theorem lc_mapA {live : DH → Bool} {g : DG} {ta : DE} {env : En} {h : DH} {Ql : List D → DH → Prop} {X : Exn → DH → Prop} {α : Type} {k : α → D} {as : List α} (k' : α → D) (hl : live h = true) (hz : as.length ≤ 16777216)
    (hs : ∀ a ∈ as, optP (g (k a) env) fun env1 => (ta env1 h).wp (fun d h'' => d = k' a ∧ h'' = h) (fun _ _ => False)) (hd : Ql (as.map k') h) : (lcLoop live g cYes ta env (as.map k) [] h).wp Ql X := by
  refine lc_filter (fun _ => true) k' hl hz (fun a ha => ?_) ?_
  · refine optP_imp (hs a ha) fun env1 w => ?_
    simp [cYes]
    exact w
  · rw [List.filter_eq_self.mpr fun _ _ => rfl]; exact hd
theorem dct_lt {h : DH} {n : Nat} {lk : Bool} {kvs : List (D × D)} (e : dctAt h n = some (lk, kvs)) : n < h.length := (List.getElem?_eq_some_iff.mp (dctAt_iff.mp e)).1
theorem av_D {κ : Type} [DecidableEq κ] {ms : Ms κ} {k : κ} : ((aget ms k).map D.int).getD (.int 0) = .int (av ms k) := by
  unfold av; cases aget ms k <;> rfl
theorem e_added {κ : Type} [DecidableEq κ] {e : κ → D} (E : EK e) {h : DH} {n : Nat} {ms : Ms κ} {k : κ} {c : Int} (hd : dctAt h n = some (false, encM e ms)) (hz : ms.length ≤ 1000) :
    F_added [.ref n, e k, .int c] h = .ok .non (h.set n (.dct false (encM e (addS ms k c)))) := by
  have hl := dct_lt hd
  apply eq_of_wp
  unfold F_added B_added
  simp [wp_run, hd, tupKs_enc E, E.tup k, dget_enc E, av_D]
  refine ⟨small_ok (by omega), ?_⟩
  rw [seq_nx]
  simp [dput_enc E, hl, tupKs_enc E, E.tup k, dget_enc E, av_aput, ddel_enc E]
  unfold addS av
  by_cases z : (aget ms k).getD 0 + c = 0
  · simp [z]
  · simp [z]
def hpF (s b : Nat) : List (Str × D) := [("own_clocks", .int (s : Nat)), ("own_counts", .ref b)]
def HpAt (h : DH) (a b s : Nat) (ms : List Df) : Prop := h[a]? = some (.ins "Heap" (hpF s b)) ∧ h[b]? = some (.dct false (encM kyD ms))
section
variable {h g : DH} {a b s : Nat} {ms : List Df} {p : Df}
@[simp] theorem hpF_c {s b : Nat} : List.lookup ("own_clocks" : Str) (hpF s b) = some (.int (s : Nat)) := rfl
@[simp] theorem hpF_d {s b : Nat} : List.lookup ("own_counts" : Str) (hpF s b) = some (.ref b) := rfl
@[simp] theorem hpF_is_fit {s b : Nat} : noF "is_fit" (hpF s b) := rfl
@[simp] theorem hpF_put_in {s b : Nat} : noF "put_in" (hpF s b) := rfl
@[simp] theorem hpF_put {s b : Nat} : noF "put" (hpF s b) := rfl
@[simp] theorem hpF_differences {s b : Nat} : noF "differences" (hpF s b) := rfl
@[simp] theorem hpF_front {s b : Nat} : noF "front" (hpF s b) := rfl
@[simp] theorem hpF_clocks {s b : Nat} : noF "clocks" (hpF s b) := rfl
@[simp] theorem hpF_sum_at {s b : Nat} : noF "sum_at" (hpF s b) := rfl
@[simp] theorem hpF_at {s b : Nat} : noF "at" (hpF s b) := rfl
@[simp] theorem hpF_plus {s b : Nat} : noF "plus" (hpF s b) := rfl
@[simp] theorem hpF_pressed {s b : Nat} : noF "pressed" (hpF s b) := rfl
@[simp] theorem hpF_copy {s b : Nat} : noF "copy" (hpF s b) := rfl
theorem HpAt.ne (H : HpAt h a b s ms) : a ≠ b := fun e => by
  have h1 := H.1
  rw [e, H.2] at h1; cases h1
theorem HpAt.more (H : HpAt h a b s ms) : HpAt (h ++ g) a b s ms := by
  refine ⟨?_, ?_⟩
  · rw [List.getElem?_append_left (List.getElem?_eq_some_iff.mp H.1).1]; exact H.1
  · rw [List.getElem?_append_left (List.getElem?_eq_some_iff.mp H.2).1]; exact H.2
theorem HpAt.set {ms' : List Df} (H : HpAt h a b s ms) : HpAt (h.set b (.dct false (encM kyD ms'))) a b s ms' := by
  refine ⟨?_, ?_⟩
  · rw [List.getElem?_set_ne H.ne.symm]; exact H.1
  · rw [List.getElem?_set_self (List.getElem?_eq_some_iff.mp H.2).1]
theorem HpAt.off {m : Nat} {o : OD} (H : HpAt h a b s ms) (m1 : m ≠ a) (m2 : m ≠ b) : HpAt (h.set m o) a b s ms := by
  refine ⟨?_, ?_⟩
  · rw [List.getElem?_set_ne m1]; exact H.1
  · rw [List.getElem?_set_ne m2]; exact H.2
theorem HpAt.obj (H : HpAt h a b s ms) : objAt h a = some (("Heap" : Str), hpF s b) := objAt_of H.1
theorem HpAt.dct (H : HpAt h a b s ms) : dctAt h b = some (false, encM kyD ms) := dctAt_of H.2
theorem HpAt.objL (H : HpAt h a b s ms) {o : OD} : objAt (h.set b o) a = some (("Heap" : Str), hpF s b) := objAt_of (by rw [List.getElem?_set_ne H.ne.symm]; exact H.1)
theorem HpAt.lo {env : En} {i : Nat} (H : HpAt h a b s ms) (e : env[i]? = some (some (.ref a))) : loFld i "own_counts" env h = some b := loFld_E e H.1 rfl
theorem HpAt.bl (H : HpAt h a b s ms) : b < h.length := (List.getElem?_eq_some_iff.mp H.2).1
theorem HpAt.al (H : HpAt h a b s ms) : a < h.length := (List.getElem?_eq_some_iff.mp H.1).1
theorem unlk_app {n : Nat} {kvs : List (D × D)} (e : h[n]? = some (.dct false kvs)) : unlk n (h.set n (.dct true kvs) ++ g) = some (h ++ g) := by
  have hl := (List.getElem?_eq_some_iff.mp e).1
  rw [unlk_of (kvs := kvs) (dctAt_of (by rw [List.getElem?_append_left (by simpa using hl)]; simp [hl]))]
  rw [List.set_append_left _ _ (by simpa using hl), set_set, set_same e]
theorem unlk_set {n : Nat} {kvs : List (D × D)} (e : h[n]? = some (.dct false kvs)) : unlk n (h.set n (.dct true kvs)) = some h := by
  have := unlk_app (g := []) e
  simpa using this
def okP (s : Nat) (p : Df) : Prop := (1 ≤ p.1.1.length ∧ p.1.1.length ≤ 4) ∧ good p.1.2 ∧ p.1.2.length = s ∧ p.2 ≠ 0
theorem e_put_in (H : HpAt h a b s ms) (hz : ms.length ≤ 1000) : F_Heap_put_in [.ref a, trD p] h = .ok .non (h.set b (.dct false (encM kyD (addS ms p.1 p.2)))) := by
  apply eq_of_wp
  unfold F_Heap_put_in B_Heap_put_in
  simp [wp_run, trD]
  rw [seq_nx]
  simp [H.obj]
  refine ⟨by simp [small], wp_of_eq (e_added (k := p.1) ek_ky H.dct hz) ?_⟩
  simp
theorem e_row {r : List Int} (h1 : 1 ≤ r.length) (h2 : r.length ≤ 4) : F_is_row [tm r, .non] h = .ok (.bl true) h := by
  apply eq_of_wp
  unfold F_is_row B_is_row
  have : (1 : Int) ≤ r.length := by omega
  have : (r.length : Int) ≤ 4 := by omega
  simp [wp_run, *]
  rw [seq_nx]; simp [D.isNon]
  rw [seq_nx]; simp
  refine lc_mapA (k := D.int) (as := r) (live := fun _ => true) (fun _ => .bl true) rfl (by omega) (fun x hx => ?_) ?_
  · simp [e_whole]
  · have := mapO_blm (f := fun _ => true) (xs := r)
    simp [this]
theorem e_count {c : Int} : F_is_count [.int c] h = .ok (.bl (decide (c ≠ 0))) h := by
  apply eq_of_wp
  unfold F_is_count B_is_count
  simp [wp_run, e_whole]
  by_cases z : c = 0 <;> simp [z]
theorem e_timeS {t : List Int} (g : good t) (hl : t.length = s) : F_is_time [tm t, .int (s : Nat)] h = .ok (.bl true) h := by
  rw [e_timeK tyt_tm, good_tm g]
  simp [lenD, tm, hl]
theorem e_fit (H : HpAt h a b s ms) (o : okP s p) : F_Heap_is_fit [.ref a, trD p] h = .ok (.bl true) h := by
  obtain ⟨⟨o1, o2⟩, o3, o4, o5⟩ := o
  apply eq_of_wp
  unfold F_Heap_is_fit B_Heap_is_fit
  simp [wp_run, trD]
  rw [seq_nx]
  have e1 := e_row (h := h) o1 o2
  have e2 := e_timeS (h := h) o3 o4
  simp [e1]
  simp [H.obj, e2, e_count, o5]
/-- a list of the heap, or a tuple -/
def SqA (h : DH) (x : D) (l : List D) : Prop := x = .tup l ∨ ∃ n, x = .ref n ∧ lstAt h n = some l
theorem e_init {x : D} {ds : List Df} (ha : h[a]? = some (.ins "Heap" [])) (hx : SqA h x (ds.map trD)) (hs : 1 ≤ s ∧ s ≤ 3) (hd : ∀ p ∈ ds, okP s p) (hz : ds.length ≤ 900) :
    F_Heap___init__ [.ref a, x, .int (s : Nat)] h = .ok .non (h.set a (.ins "Heap" (hpF s h.length)) ++ [.dct false (encM kyD (foldS [] ds))]) := by
  have al := (List.getElem?_eq_some_iff.mp ha).1
  have hs1 : (1 : Int) ≤ s := by omega
  have hs2 : (s : Int) ≤ 3 := by omega
  have ty : ∃ t, tyD h (.v x) = some t ∧ (t = .lst ∨ t = .tup) := by
    rcases hx with rfl | ⟨n, rfl, hn⟩
    · exact ⟨_, rfl, .inr rfl⟩
    · refine ⟨.lst, ?_, .inl rfl⟩
      have := lstAt_iff.mp hn
      simp [tyD, this]
  obtain ⟨t, ty, tl⟩ := ty
  have sq : ∀ o o' : OD, ∀ h' : DH, h' = (h.set a o) ++ [o'] → DM.seq h' (.v x) = some (ds.map trD) := by
    intro o o' h' e
    subst e
    rcases hx with rfl | ⟨n, rfl, hn⟩
    · rfl
    · have := lstAt_iff.mp hn
      have na : a ≠ n := fun e => by rw [← e, ha] at this; cases this
      refine lstAt_of ?_
      rw [List.getElem?_append_left (by simpa using (List.getElem?_eq_some_iff.mp this).1), List.getElem?_set_ne na]
      exact this
  have lv : ∀ o o1 o2 : OD, liveM (h.set a o ++ [o1]) (.v x) (h.set a o ++ [o2]) = true := by
    intro o o1 o2
    rcases hx with rfl | ⟨n, rfl, hn⟩
    · rfl
    · have := (List.getElem?_eq_some_iff.mp (lstAt_iff.mp hn)).1
      rw [live_ref, List.getElem?_append_left (by simpa using this), List.getElem?_append_left (by simpa using this)]
  apply eq_of_wp
  unfold F_Heap___init__ B_Heap___init__
  simp [wp_run, e_whole, hs1, hs2]
  rw [seq_nx]; simp [ty]
  refine ⟨by rcases tl with rfl | rfl <;> simp, ?_⟩
  rw [seq_nx]; simp [objAt_of ha]
  rw [seq_nx]; simp
  have ob : ∀ f : List (Str × D), objAt (h.set a (.ins "Heap" f) ++ [.dct false []]) a = some (("Heap" : Str), f) := fun f => objAt_of (by rw [List.getElem?_append_left (by simpa using al)]; simp [al])
  rw [ob]
  have pd : putD ("own_counts" : Str) (.ref h.length) (putD ("own_clocks" : Str) (.int (s : Nat)) []) = hpF s h.length := by
    simp [putD, hpF, show ("own_clocks" : Str) ≠ ("own_counts" : Str) by decide]
  have pl : (putD ("own_clocks" : Str) (.int (s : Nat)) []).length < 1000 := by simp [putD]
  simp [pd, pl]
  rw [seq_nx]
  have st : ∀ (o o' : OD) (g : DH), List.set (List.set h a o ++ g) a o' = List.set h a o' ++ g := fun o o' g => by
    rw [List.set_append_left _ _ (by simpa using al), set_set]
  rw [st]
  simp [sq _ _ _ rfl]
  have Hp : ∀ ms : List Df, HpAt (h.set a (.ins "Heap" (hpF s h.length)) ++ [.dct false (encM kyD ms)]) a h.length s ms := fun ms => by
    refine ⟨?_, ?_⟩
    · rw [List.getElem?_append_left (by simpa using al)]; simp [al]
    · rw [List.getElem?_append_right (by simp)]; simp
  refine loop_inv (fun i env h' => (∃ e3 e4, env = [some (.ref a), some x, some (.int (s : Nat)), e3, e4]) ∧ h' = h.set a (.ins "Heap" (hpF s h.length)) ++ [.dct false (encM kyD (foldS [] (ds.take i)))]) ⟨⟨_, _, rfl⟩, by simp [foldS, encM]⟩ (fun i env h' I => by rw [I.2]; exact lv _ _ _) (fun i x env h' hx I => ?_) (fun env h' I => ?_)
  · obtain ⟨⟨e3, e4, rfl⟩, rfl⟩ := I
    obtain ⟨y, hy, rfl⟩ := numd_at hx
    obtain ⟨p, hp, rfl⟩ : ∃ p, ds[i]? = some p ∧ y = trD p := by
      rw [List.getElem?_map] at hy
      cases z : ds[i]? with
      | none => rw [z] at hy; cases hy
      | some t => rw [z] at hy; cases hy; exact ⟨t, rfl, rfl⟩
    have nx : foldS [] (ds.take (i + 1)) = addS (foldS [] (ds.take i)) p.1 p.2 := by
      rw [List.take_succ, hp]; exact foldS_snoc
    have ln : (foldS [] (ds.take i)).length ≤ 1000 := by
      have := len_foldS (ms := []) (ds := ds.take i)
      rw [List.length_take] at this
      simp at this; omega
    rw [nx]
    generalize foldS [] (ds.take i) = ms at ln
    have H := Hp ms
    have q1 := e_fit H (hd p (List.mem_of_getElem? hp))
    have q2 := e_put_in (p := p) H ln
    have ty3 : tyD (h.set a (.ins "Heap" (hpF s h.length)) ++ [.dct false (encM kyD ms)]) (.v (trD p)) = some .tup := rfl
    have ln3 : ∀ q : Int → Prop, lnP (.v (trD p)) (h.set a (.ins "Heap" (hpF s h.length)) ++ [.dct false (encM kyD ms)]) q = q 3 := fun q => by simp [trD]
    simp [ty3, ln3, H.obj, q1, q2]
    rw [seq_nx]
    simp [H.obj, q2]
  · obtain ⟨⟨e3, e4, rfl⟩, rfl⟩ := I
    have : (numd (ds.map trD)).length = ds.length := by simp [numd]
    rw [this, List.take_length]
    simp
theorem e_diff (H : HpAt h a b s ms) (hz : ms.length ≤ 1000) : F_Heap_differences [.ref a] h = .ok (.ref h.length) (h ++ [.lst ((srtM ms).map trD)]) := by
  apply eq_of_wp
  unfold F_Heap_differences B_Heap_differences
  simp [wp_run]
  rw [H.lo (i := 0) rfl]
  simp [H.dct, H.objL, H.bl]
  unfold encM
  rw [List.map_map]
  refine lc_mapA (as := ms) trD rfl (by omega) (fun p hp => ?_) ?_
  · simp [kyD, trD, small]
  · have := unlk_set H.2
    unfold encM at this
    simp [this, oks_tr, srt_tr]
end
theorem e_init0 {h : DH} {a s : Nat} {x : D} {ds : List Df} (ha : a = h.length) (hx : SqA h x (ds.map trD)) (hs : 1 ≤ s ∧ s ≤ 3) (hd : ∀ p ∈ ds, okP s p) (hz : ds.length ≤ 900) :
    F_Heap___init__ [.ref a, x, .int (s : Nat)] (h ++ [.ins "Heap" []]) = .ok .non (h ++ [.ins "Heap" (hpF s (h.length + 1)), .dct false (encM kyD (foldS [] ds))]) := by
  subst ha
  have hx' : SqA (h ++ [.ins "Heap" []]) x (ds.map trD) := by
    rcases hx with e | ⟨n, e, hn⟩
    · exact .inl e
    · exact .inr ⟨n, e, lstAt_more hn⟩
  have := e_init (a := h.length) (h := h ++ [.ins "Heap" []]) (by simp) hx' hs hd hz
  rw [this]
  simp
section
variable {h g : DH} {a b s : Nat} {ms : List Df} {p : Df}
def rowsAt (ms : List Df) (t : List Int) : Ms (List Int) := (ms.filter fun p => leT p.1.2 t).map fun p => (p.1.1, p.2)
theorem rows_snoc {t : List Int} : rowsAt (ms ++ [p]) t = rowsAt ms t ++ (if leT p.1.2 t then [(p.1.1, p.2)] else []) := by
  unfold rowsAt
  rw [List.filter_append, List.map_append]
  by_cases z : leT p.1.2 t = true <;> simp [z]
theorem e_sum_at {t : List Int} (H : HpAt h a b s ms) (g : ∀ p ∈ ms, p.1.2.length = t.length) (ht : t.length ≤ 1000) (hz : ms.length ≤ 1000) : F_Heap_sum_at [.ref a, tm t] h = .ok (.ref h.length) (h ++ [.dct false (encM tm (foldS [] (rowsAt ms t)))]) := by
  apply eq_of_wp
  unfold F_Heap_sum_at B_Heap_sum_at
  simp [wp_run]
  rw [seq_nx]
  simp
  have Hm : HpAt (h ++ [.dct false []]) a b s ms := H.more
  rw [Hm.lo (i := 0) rfl]
  simp [Hm.dct, Hm.objL, Hm.bl]
  have hb := H.bl
  rw [List.set_append_left _ _ hb]
  have dn : dctAt (h.set b (.dct true (encM kyD ms)) ++ [.dct false []]) b = some (true, encM kyD ms) := dctAt_of (by rw [List.getElem?_append_left (by simpa using hb)]; simp [hb])
  rw [dn]
  simp
  have em : (encM kyD ms).map (fun p => D.tup [p.1, p.2]) = ms.map fun p => .tup [kyD p.1, .int p.2] := by simp [encM]
  rw [em]
  refine loop_inv (fun i env h' => (∃ e3 e4 e5, env = [some (.ref a), some (tm t), some (.ref h.length), e3, e4, e5]) ∧ h' = h.set b (.dct true (encM kyD ms)) ++ [.dct false (encM tm (foldS [] (rowsAt (ms.take i) t)))]) ⟨⟨_, _, _, rfl⟩, by simp [foldS, encM, rowsAt]⟩ (fun i env h' I => rfl) (fun i x env h' hx I => ?_) (fun env h' I => ?_)
  · obtain ⟨⟨e3, e4, e5, rfl⟩, rfl⟩ := I
    obtain ⟨p, hp, rfl⟩ : ∃ p, ms[i]? = some p ∧ x = .tup [kyD p.1, .int p.2] := by
      rw [List.getElem?_map] at hx
      cases z : ms[i]? with
      | none => rw [z] at hx; cases hx
      | some t => rw [z] at hx; cases hx; exact ⟨t, rfl, rfl⟩
    have nx : foldS [] (rowsAt (ms.take (i + 1)) t) = if leT p.1.2 t then addS (foldS [] (rowsAt (ms.take i) t)) p.1.1 p.2 else foldS [] (rowsAt (ms.take i) t) := by
      rw [List.take_succ, hp]
      show foldS [] (rowsAt (ms.take i ++ [p]) t) = _
      rw [rows_snoc]
      by_cases z : leT p.1.2 t = true
      · simp only [z, if_true]; exact foldS_snoc
      · simp [z]
    have ln : (foldS [] (rowsAt (ms.take i) t)).length ≤ 1000 := by
      have := len_foldS (ms := []) (ds := rowsAt (ms.take i) t)
      have l2 : (rowsAt (ms.take i) t).length ≤ (ms.take i).length := by
        unfold rowsAt
        rw [List.length_map]
        exact List.length_filter_le _ _
      rw [List.length_take] at l2
      simp at this; omega
    rw [nx]
    generalize foldS [] (rowsAt (ms.take i) t) = fs at ln
    have lt := g p (List.mem_of_getElem? hp)
    simp [kyD, e_before0 lt (by omega)]
    by_cases z : leT p.1.2 t = true
    · simp [z]
      have q := e_added (n := h.length) (h := h.set b (.dct true (encM kyD ms)) ++ [.dct false (encM tm fs)]) (k := p.1.1) (c := p.2) ek_tm (dctAt_of (by rw [List.getElem?_append_right (by simp)]; simp)) ln
      rw [q]
      simp
    · simp [z]
  · obtain ⟨⟨e3, e4, e5, rfl⟩, rfl⟩ := I
    simp
    rw [unlk_app H.2]
    simp
    rw [seq_nx]
    simp
theorem e_at {t : List Int} (H : HpAt h a b s ms) (g : ∀ p ∈ ms, p.1.2.length = s) (gt : good t) (ht : t.length = s) (hz : ms.length ≤ 1000) : F_Heap_at [.ref a, tm t] h = .ok (.ref h.length) (h ++ [.dct false (encM tm (foldS [] (rowsAt ms t)))]) := by
  apply eq_of_wp
  unfold F_Heap_at B_Heap_at
  have := gt.2.1
  simp [wp_run, H.obj, e_timeS gt ht]
  rw [seq_nx]
  simp [H.obj, e_sum_at H (fun p hp => (g p hp).trans ht.symm) (by omega) hz]
theorem e_eqH {a' b' : Nat} {ms' : List Df} (H : HpAt h a b s ms) (H' : HpAt h a' b' s ms') (n : nd ms) (n' : nd ms') (hm : ∀ p, p ∈ ms ↔ p ∈ ms') : F_Heap___eq__ [.ref a, .ref a'] h = .ok (.bl true) h := by
  apply eq_of_wp
  unfold F_Heap___eq__ B_Heap___eq__
  simp [wp_run, insAt_of H'.obj, H.obj, H'.obj]
  rw [seq_nx]
  simp [H.obj, H'.obj, H.dct, H'.dct, tupKs_enc ek_ky, eqDct_same ek_ky n n' hm]
end
theorem live_ls {h h' : DH} {n : Nat} {ds : List D} (e : lstAt h n = some ds) (e' : lstAt h' n = some ds) : liveM h (.v (.ref n)) h' = true := by
  rw [live_ref, lstAt_iff.mp e, lstAt_iff.mp e']
/-! ### the law's own adding up -/
theorem at_map {α : Type} {f : α → D} {l : List α} {i : Nat} {x : D} (hx : (l.map f)[i]? = some x) : ∃ p, l[i]? = some p ∧ x = f p := by
  rw [List.getElem?_map] at hx
  cases z : l[i]? with
  | none => rw [z] at hx; cases hx
  | some t => rw [z] at hx; cases hx; exact ⟨t, rfl, rfl⟩
theorem e_ladd {h : DH} {n : Nat} {ds : List Df} (hn : lstAt h n = some (ds.map trD)) (hz : ds.length ≤ 900) : F__law_added [.ref n] h = .ok (.ref (h.length + 1)) (h ++ [.dct false (encM kyD (foldL [] ds)), .lst ((srtM (nzf (foldL [] ds))).map trD)]) := by
  have ln : ∀ i, (foldL [] (ds.take i)).length ≤ 1000 := fun i => by
    have := len_foldL (ms := []) (ds := ds.take i)
    rw [List.length_take] at this
    simp at this; omega
  have lz : (foldL [] ds).length ≤ 1000 := by
    have := ln ds.length
    rwa [List.take_length] at this
  have hm : ∀ o : OD, lstAt (h ++ [o]) n = some (ds.map trD) := fun o => lstAt_more hn
  apply eq_of_wp
  unfold F__law_added B__law_added
  simp [wp_run]
  rw [seq_nx]
  simp [hm]
  refine loop_inv (fun i env h' => (∃ e2 e3 e4, env = [some (.ref n), some (.ref h.length), e2, e3, e4]) ∧ h' = h ++ [.dct false (encM kyD (foldL [] (ds.take i)))]) ⟨⟨_, _, _, rfl⟩, by simp [foldL, encM]⟩ (fun i env h' I => by rw [I.2]; exact live_ls (hm _) (hm _)) (fun i x env h' hx I => ?_) (fun env h' I => ?_)
  · obtain ⟨⟨e2, e3, e4, rfl⟩, rfl⟩ := I
    obtain ⟨p, hp, rfl⟩ := at_map hx
    have nx : foldL [] (ds.take (i + 1)) = addL (foldL [] (ds.take i)) p.1 p.2 := by
      rw [List.take_succ, hp]; exact foldL_snoc
    have l1 := ln i
    rw [nx]
    generalize foldL [] (ds.take i) = ms at l1
    have tk : tupK (D.tup [tm p.1.1, tm p.1.2]) = true := ek_ky.tup p.1
    have dg : dget (encM kyD ms) (D.tup [tm p.1.1, tm p.1.2]) = (aget ms p.1).map .int := dget_enc (k := p.1) ek_ky
    have dp : ∀ v, dput (encM kyD ms) (D.tup [tm p.1.1, tm p.1.2]) (.int v) = encM kyD (aput ms p.1 v) := fun v => dput_enc (k := p.1) ek_ky
    simp [trD, small, tupKs_enc ek_ky, tk, dg, av_D, dp, addL]
    refine ⟨by omega, ?_⟩
    unfold av
    rfl
  · obtain ⟨⟨e2, e3, e4, rfl⟩, rfl⟩ := I
    rw [List.length_map, List.take_length]
    rw [seq_nx]
    simp
    rw [loVar_E (m := h.length) rfl]
    simp
    have nl := (foldL_ok (ds := ds) (ms := []) (by simp [nd])).1
    generalize foldL [] ds = ms at lz nl
    have em : (encM kyD ms).map (·.1) = ms.map fun p => kyD p.1 := by simp [encM]
    rw [em]
    refine lc_filter (fun p : Df => !decide (p.2 = 0)) trD rfl (by omega) (fun p hp => ?_) ?_
    · have tk : tupK (D.tup [tm p.1.1, tm p.1.2]) = true := ek_ky.tup p.1
      have dg : dget (encM kyD ms) (D.tup [tm p.1.1, tm p.1.2]) = some (.int p.2) := by
        have := dget_enc (ms := ms) (k := p.1) ek_ky
        rw [aget_of nl hp] at this
        exact this
      simp [kyD, small, tupKs_enc ek_ky, tk, dg]
      by_cases z : p.2 = 0 <;> simp [z, trD]
    · have := unlk_set (h := h ++ [.dct false (encM kyD ms)]) (n := h.length) (kvs := encM kyD ms) (by simp)
      simp at this
      simp [this, oks_tr, srt_tr]
      rfl
/-! ### what stands for what -/
section
variable {κ : Type} [DecidableEq κ]
/-- ms: the counts of ds, added up, none of 0 -/
def Rep (ms ds : Ms κ) : Prop := nd ms ∧ nz ms ∧ ∀ f : κ → Bool, sm f ms = sm f ds
theorem Rep.mem {a b ds : Ms κ} (x : Rep a ds) (y : Rep b ds) : ∀ p, p ∈ a ↔ p ∈ b := mem_same x.1 x.2.1 y.1 y.2.1 fun k => (x.2.2 _).trans (y.2.2 _).symm
theorem Rep.fold {ds : Ms κ} : Rep (foldS [] ds) ds := by
  obtain ⟨h1, h2, h3⟩ := foldS_ok (ds := ds) (ms := []) (by simp [nd]) (by intro p hp; cases hp)
  exact ⟨h1, h2, fun f => by rw [h3]; simp [sm]⟩
theorem Rep.law {ds : Ms κ} : Rep (nzf (foldL [] ds)) ds := by
  obtain ⟨h1, h3⟩ := foldL_ok (ds := ds) (ms := []) (by simp [nd])
  exact ⟨nd_filter h1, nz_nzf, fun f => by rw [sm_nzf, h3]; simp [sm]⟩
theorem Rep.to {ms ds es : Ms κ} (x : Rep ms ds) (e : ∀ f : κ → Bool, sm f ds = sm f es) : Rep ms es := ⟨x.1, x.2.1, fun f => (x.2.2 f).trans (e f)⟩
theorem Rep.perm {ms ns ds : Ms κ} (x : Rep ms ds) (e : ns.Perm ms) : Rep ns ds := by
  refine ⟨?_, fun p hp => x.2.1 p (e.mem_iff.mp hp), fun f => (sm_perm e).trans (x.2.2 f)⟩
  have := x.1
  unfold nd at *
  exact (e.map _).nodup_iff.mpr this
theorem Rep.add {ms ds : Ms κ} {k : κ} {c : Int} (x : Rep ms ds) : Rep (addS ms k c) (ds ++ [(k, c)]) :=
  ⟨nd_addS x.1, nz_addS x.2.1, fun f => by rw [sm_addS x.1, x.2.2, sm_app]; simp [sm]⟩
theorem Rep.key {ms ds : Ms κ} (x : Rep ms ds) {p : κ × Int} (hp : p ∈ ms) : ∃ q ∈ ds, q.1 = p.1 := by
  by_cases z : ∃ q ∈ ds, q.1 = p.1
  · exact z
  · have h0 : sm (fun y => decide (y = p.1)) ds = 0 := sm_none fun q hq e => absurd ⟨q, hq, of_decide_eq_true e⟩ z
    obtain ⟨h1, h2⟩ := (mem_sm x.1 x.2.1).mp hp
    rw [x.2.2, h0] at h2
    exact absurd h2 h1
theorem Rep.len {a b ds : Ms κ} (x : Rep a ds) (y : Rep b ds) : a.length = b.length := len_same x.1 y.1 (x.mem y)
end
theorem Rep.srt {a b ds : List Df} (x : Rep a ds) (y : Rep b ds) : srtM a = srtM b := srt_same (nodup_of_nd x.1) (nodup_of_nd y.1) (x.mem y)
theorem set_ge {h g : DH} {n : Nat} {o : OD} (hn : h.length ≤ n) : ∃ g', List.set (h ++ g) n o = h ++ g' := ⟨_, List.set_append_right _ _ hn⟩
@[simp] theorem mapO_trs' {h : DH} {n : Nat} {ms : List Df} : mapO (toPy h (n + 3)) (ms.map trD) = some (ms.map enT) := mapO_trs
@[simp] theorem eqvAll_trs' {a : List Df} : PyData.eqvAll (a.map enT) (a.map enT) = true := by rw [eqvAll_trs]; simp
theorem eqvAll_tms' {a : List (List Int)} : PyData.eqvAll (a.map tp) (a.map tp) = true := by simp
theorem sm_rows {f : List Int → Bool} {t : List Int} : ∀ {ms : List Df}, sm f (rowsAt ms t) = sm (fun k => leT k.2 t && f k.1) ms
  | [] => rfl
  | p :: ms => by
    have ih := sm_rows (f := f) (t := t) (ms := ms)
    unfold rowsAt at ih ⊢
    by_cases z : leT p.1.2 t = true
    · rw [List.filter_cons_of_pos (by simpa using z), List.map_cons, sm, sm, ih]
      simp [z]
    · rw [List.filter_cons_of_neg (by simpa using z), ih, sm]
      simp [z]
theorem Rep.rows {ms ds : List Df} {t : List Int} (x : Rep ms ds) (f : List Int → Bool) : sm f (rowsAt ms t) = sm f (rowsAt ds t) := by rw [sm_rows, sm_rows, x.2.2]
theorem least_same {k : Nat} {as bs : List (List Int)} (hk : ∀ x ∈ as, x.length = k) (h : ∀ x, x ∈ as ↔ x ∈ bs) : leastL as = leastL bs := by
  have hb : ∀ x ∈ bs, x.length = k := fun x hx => hk x ((h x).mpr hx)
  refine least_eq hk (least_mem hb).1 fun x => ?_
  rw [(least_mem hb).2]
  unfold minimal
  exact ⟨fun ⟨a, b⟩ => ⟨(h x).mpr a, fun y hy => b y ((h y).mp hy)⟩, fun ⟨a, b⟩ => ⟨(h x).mp a, fun y hy => b y ((h y).mpr hy)⟩⟩
theorem times_same {a b : List Df} (h : ∀ p, p ∈ a ↔ p ∈ b) : ∀ x, x ∈ a.map (fun p => p.1.2) ↔ x ∈ b.map fun p => p.1.2 := fun x => by
  rw [List.mem_map, List.mem_map]
  exact ⟨fun ⟨p, hp, e⟩ => ⟨p, (h p).mp hp, e⟩, fun ⟨p, hp, e⟩ => ⟨p, (h p).mpr hp, e⟩⟩
theorem rows_len {ms : List Df} {t : List Int} : (rowsAt ms t).length ≤ ms.length := by
  unfold rowsAt
  rw [List.length_map]
  exact List.length_filter_le _ _
/-- all but the pool stands, and more -/
def Kmore (n : Nat) (h h' : DH) : Prop := h.length ≤ h'.length ∧ ∀ m, m < h.length → m ≠ n → h'[m]? = h[m]?
theorem Keep.kmore {n : Nat} {h h' : DH} (k : Keep n h h') : Kmore n h h' := ⟨by rw [k.1]; exact Nat.le_refl _, fun m _ e => k.2 m e⟩
theorem Kmore.trans {n : Nat} {h h1 h2 : DH} (k : Kmore n h h1) (k' : Kmore n h1 h2) : Kmore n h h2 := ⟨Nat.le_trans k.1 k'.1, fun m hm e => (k'.2 m (Nat.lt_of_lt_of_le hm k.1) e).trans (k.2 m hm e)⟩
theorem Kmore.app {n : Nat} {h g : DH} : Kmore n h (h ++ g) := ⟨by simp, fun m hm _ => List.getElem?_append_left hm⟩
theorem Kmore.lst {n m : Nat} {h h' : DH} {ds : List D} (k : Kmore n h h') (e : m ≠ n) (hm : lstAt h m = some ds) : lstAt h' m = some ds :=
  lstAt_of ((k.2 m (lst_lt' hm) e).trans (lstAt_iff.mp hm))
where lst_lt' {h : DH} {n : Nat} {ds : List D} (e : lstAt h n = some ds) : n < h.length := (List.getElem?_eq_some_iff.mp (lstAt_iff.mp e)).1
/-! ### differences drawn -/
theorem p_row {n : Nat} {s : Nat} {h : DH} {Q : D → DH → Prop} {X : Exn → DH → Prop} (P : Pool n h) (hs : s ≤ 1000)
    (q : ∀ (t : List Int) (h' : DH), t.length = s → Pool n h' → Keep n h h' → Q (tm t) h') : (F__law_row [.ref n, .int (s : Nat)] h).wp Q X := by
  unfold F__law_row B__law_row
  simp [wp_run]
  refine ⟨big_ok (by omega) (by omega), ?_⟩
  refine lc_inv (fun acc i h' => ∃ t : List Int, acc = t.map .int ∧ t.length = i ∧ Pool n h' ∧ Keep n h h') ⟨[], rfl, rfl, P, Keep.refl _ _⟩ (fun _ _ _ _ => rfl) (fun acc i x h' hx I _ => ?_) (by simp; omega) fun acc h' I _ => ?_
  · obtain ⟨t, rfl, hl, P', K'⟩ := I
    obtain ⟨_, rfl⟩ := cnt_at hx
    simp [cYes]
    refine p_take P' (by decide) (by decide) fun v h2 v0 v1 P2 K2 => ?_
    simp
    exact ⟨t ++ [v - 2], by simp, by simp [hl], P2, K'.trans K2⟩
  · obtain ⟨t, rfl, hl, P', K'⟩ := I
    exact q t h' (by simpa using hl) P' K'
theorem p_diffs {n s : Nat} {m : Nat} {h : DH} {Q : D → DH → Prop} {X : Exn → DH → Prop} (P : Pool n h) (hs : 1 ≤ s ∧ s ≤ 3) (hm : m ≤ 100)
    (q : ∀ (ds : List Df) (h' : DH), ds.length ≤ m → (∀ p ∈ ds, okP s p) → Pool n h' → Kmore n h h' → lstAt h' h.length = some (ds.map trD) → Q (.ref h.length) h') : (F__law_diffs [.ref n, .int (m : Nat), .int (s : Nat)] h).wp Q X := by
  have nl : n < h.length := by obtain ⟨_, _, e, _⟩ := P; exact (List.getElem?_eq_some_iff.mp e).1
  unfold F__law_diffs B__law_diffs
  simp [wp_run]
  refine ⟨by simp [small], ?_⟩
  rw [seq_nx]
  simp
  refine p_take P.more (by omega) (by omega) fun v h1 v0 v1 P1 K1 => ?_
  simp
  refine ⟨big_ok (by omega) (by omega), ?_⟩
  refine loop_inv (fun i env h' => (∃ e4 e5 e6, env = [some (.ref n), some (.int (m : Nat)), some (.int (s : Nat)), some (.ref h.length), e4, e5, e6]) ∧ ∃ ds : List Df, ds.length = i ∧ (∀ p ∈ ds, okP s p) ∧ Pool n h' ∧ Kmore n h h' ∧ lstAt h' h.length = some (ds.map trD) ∧ h'.length = h.length + 1) ⟨⟨_, _, _, rfl⟩, [], rfl, by simp, P1, Kmore.trans Kmore.app K1.kmore, by rw [lstAt_keep K1 (by omega)]; simp, by rw [K1.1]; simp⟩ (fun _ _ _ _ => rfl) (fun i x env h' hx I => ?_) (fun env h' I => ?_)
  · obtain ⟨⟨e4, e5, e6, rfl⟩, ds, hl, ok, P', K', L', Z'⟩ := I
    obtain ⟨hi, rfl⟩ := cnt_at hx
    simp
    refine p_take P' (by decide) (by decide) fun c h2 c0 c1 P2 K2 => ?_
    obtain ⟨z, hz⟩ : ∃ z : Nat, 1 + c = (z : Int) := ⟨(1 + c).toNat, by omega⟩
    simp [hz]
    refine p_row P2 (by omega) fun r h3 rl P3 K3 => ?_
    rw [seq_nx]
    simp
    refine ⟨by decide, by simp [small], p_take P3 (by decide) (by decide) fun y h4 y0 y1 P4 K4 => ?_⟩
    obtain ⟨w, ew, wn⟩ : ∃ w : Int, atI [D.int 1, D.int 1, D.int (-1), D.int 2, D.int (-3), D.int 100000000000000000000] y = some (.int w) ∧ w ≠ 0 := by
      obtain ⟨k, rfl⟩ : ∃ k : Nat, y = (k : Int) := ⟨y.toNat, by omega⟩
      have hk : k = 0 ∨ k = 1 ∨ k = 2 ∨ k = 3 ∨ k = 4 ∨ k = 5 := by omega
      rw [atI_nat]
      rcases hk with rfl | rfl | rfl | rfl | rfl | rfl <;> exact ⟨_, rfl, by decide⟩
    simp [ew]
    rw [seq_nx]
    have K4' : Keep n h' h4 := (K2.trans K3).trans K4
    have L4 : lstAt h4 h.length = some (ds.map trD) := by rw [lstAt_keep K4' (by omega)]; exact L'
    simp [L4]
    refine ⟨by simp [small], p_take P4 (by decide) (by decide) fun y h5 y0 y1 P5 K5 => ?_⟩
    obtain ⟨top, et, t0, t1⟩ : ∃ w : Int, atI [D.int 4, D.int 4, D.int 13] y = some (.int w) ∧ 0 < w ∧ w < 2 ^ 99 := by
      obtain ⟨k, rfl⟩ : ∃ k : Nat, y = (k : Int) := ⟨y.toNat, by omega⟩
      have hk : k = 0 ∨ k = 1 ∨ k = 2 := by omega
      rw [atI_nat]
      rcases hk with rfl | rfl | rfl <;> exact ⟨_, rfl, by decide, by decide⟩
    simp [et]
    refine p_time P5 (by omega) t0 t1 fun t h6 tl tb P6 K6 => ?_
    have K6' : Keep n h' h6 := (K4'.trans K5).trans K6
    have L6 : lstAt h6 h.length = some (ds.map trD) := by rw [lstAt_keep K6' (by omega)]; exact L'
    have hl6 : h.length < h6.length := by rw [K6'.1]; omega
    have okn : okP s ((r, t), w) := ⟨⟨by show 1 ≤ r.length; omega, by show r.length ≤ 4; omega⟩, ⟨by show 1 ≤ t.length; omega, by show t.length ≤ 3; omega, fun x hx => (tb x hx).1⟩, tl, wn⟩
    simp [L6]
    refine ⟨by simp [small], small_ok (by omega), ds ++ [((r, t), w)], by simp [hl], ?_, ?_, ?_, ?_, ?_⟩
    · intro a b c hp
      rcases List.mem_append.mp hp with hp | hp
      · exact ok _ hp
      · rw [List.mem_singleton.mp hp]; exact okn
    · obtain ⟨a, b, e, b0, b1⟩ := P6
      exact ⟨a, b, by rw [List.getElem?_set_ne (by omega)]; exact e, b0, b1⟩
    · refine ⟨by simp; rw [K6'.1]; omega, fun j hj e => ?_⟩
      rw [List.getElem?_set_ne (by omega)]
      exact (K'.trans K6'.kmore).2 j hj e
    · refine lstAt_of ?_
      rw [List.getElem?_set_self hl6]
      simp [trD]
    · rw [K6'.1]; exact Z'
  · obtain ⟨⟨e4, e5, e6, rfl⟩, ds, hl, ok, P', K', L', Z'⟩ := I
    rw [seq_nx]
    simp
    rw [cnt_len] at hl
    exact q ds h' (by omega) ok P' K' L'
def jnT (a b : List Int) : List Int := (a.zip b).map fun p => max p.1 p.2
def mtT (a b : List Int) : List Int := (a.zip b).map fun p => min p.1 p.2
theorem e_joined {a b : List Int} {h : DH} (hl : a.length = b.length) (hs : a.length ≤ 1000) : F_joined [tm a, tm b] h = .ok (tm (jnT a b)) h := by
  apply eq_of_wp
  unfold F_joined B_joined
  simp [wp_run, hl, zip_map]
  refine lc_map (fun x => match x with | .tup [.int i, .int j] => .int (max i j) | _ => .non) rfl (by simp; omega) rfl (fun x hx => ?_) ?_
  · obtain ⟨p, hp, rfl⟩ := List.mem_map.mp hx
    simp
    omega
  · rw [List.map_map, show ((fun x : D => match x with | .tup [.int i, .int j] => D.int (max i j) | _ => .non) ∘ fun p : Int × Int => D.tup [.int p.1, .int p.2]) = D.int ∘ fun p => max p.1 p.2 from rfl, ← List.map_map]
    simp [jnT]
/-! ### looking at the times of a list -/
def badIn (ds : List D) (x : D) : Bool := !isTm x || decide (lenD x ≠ lenD (ds.headD .non))
def lookR (ds : List D) : Option Nat := ds.findIdx? (badIn ds)
theorem look_at {ds : List D} {i : Nat} {x : D} (ha : ∀ y ∈ ds.take i, badIn ds y = false) (hx : ds[i]? = some x) (hb : badIn ds x = true) : lookR ds = some i := by
  unfold lookR
  rw [List.findIdx?_eq_some_iff_getElem]
  obtain ⟨hi, e⟩ := List.getElem?_eq_some_iff.mp hx
  refine ⟨hi, by rw [e]; exact hb, fun j hj => ?_⟩
  have := ha (ds[j]'(by omega)) (by rw [List.mem_take_iff_getElem]; exact ⟨j, by omega, rfl⟩)
  simp [this]
theorem p_lookL {n : Nat} {h : DH} {ds : List D} {Q : D → DH → Prop} {X : Exn → DH → Prop} (hn : lstAt h n = some ds) (hz : ds.length ≤ 1000) (td : ∀ x ∈ ds, Tyt h x) (q0 : lookR ds = none → Q .non h) (q1 : ∀ i : Nat, lookR ds = some i → X ⟨"NoTime", [("place", .int i)]⟩ h) : (F_look_at_times [.ref n] h).wp Q X := by
  unfold F_look_at_times B_look_at_times
  simp [wp_run, hn]
  refine loop_inv (fun i env h' => (∃ e1 e2, env = [some (.ref n), e1, e2]) ∧ h' = h ∧ ∀ y ∈ ds.take i, badIn ds y = false) ⟨⟨_, _, rfl⟩, rfl, by simp⟩ (fun i env h' I => by rw [live_ref, I.2.1]) (fun i x env h' hx I => ?_) (fun env h' I => ?_)
  · obtain ⟨⟨e1, e2, rfl⟩, rfl, ha⟩ := I
    obtain ⟨y, hy, rfl⟩ := numd_at hx
    have hm := List.mem_of_getElem? hy
    have nx : badIn ds y = false → ∀ z ∈ ds.take (i + 1), badIn ds z = false := fun e z hz => by
      rw [List.take_succ, hy] at hz
      rcases List.mem_append.mp hz with q | q
      · exact ha z q
      · simp at q; rw [q]; exact e
    have q2 := fun e => q1 i (look_at ha hy e)
    simp [e_time' (td y hm), hn]
    cases zy : isTm y with
    | false => simp; exact q2 (by simp [badIn, zy])
    | true =>
      obtain ⟨t, rfl, gt⟩ := tm_of zy
      obtain ⟨u, rest, rfl⟩ : ∃ u rest, ds = tm u :: rest := by
        cases ds with
        | nil => cases hm
        | cons d rest =>
          cases i with
          | zero => simp at hy; exact ⟨t, rest, by rw [hy]⟩
          | succ i =>
            have := ha d (by simp)
            simp [badIn] at this
            obtain ⟨u, e, _⟩ := tm_of this
            exact ⟨u, rest, by rw [e]⟩
      have eb : badIn (tm u :: rest) (tm t) = decide (t.length ≠ u.length) := by
        simp [badIn, zy, lenD]
      by_cases hl : t.length = u.length
      · have := nx (by rw [eb]; simp [hl])
        simp [hl]
        simpa using this
      · have hl' : ¬ ((t.length : Int) = u.length) := by omega
        simp [hl']
        exact q2 (by rw [eb]; simp [hl])
  · obtain ⟨⟨e1, e2, rfl⟩, rfl, ha⟩ := I
    simp
    refine q0 ?_
    unfold lookR
    rw [List.findIdx?_eq_none_iff]
    have : (numd ds).length = ds.length := by simp [numd]
    intro x hx
    exact ha x (by rw [this, List.take_length]; exact hx)
theorem look_none {ds : List D} (e : lookR ds = none) : ∃ (ts : List (List Int)) (k : Nat), ds = ts.map tm ∧ ∀ t ∈ ts, good t ∧ t.length = k := by
  unfold lookR at e
  rw [List.findIdx?_eq_none_iff] at e
  have : ∀ es : List D, (∀ x ∈ es, x ∈ ds) → ∃ ts : List (List Int), es = ts.map tm ∧ ∀ t ∈ ts, good t ∧ t.length = lenD (ds.headD .non) := by
    intro es
    induction es with
    | nil => intro _; exact ⟨[], rfl, by simp⟩
    | cons x es ih =>
      intro h
      obtain ⟨ts, e1, e2⟩ := ih fun y hy => h y (by simp [hy])
      have b := e x (h x (by simp))
      unfold badIn at b
      rw [Bool.or_eq_false_iff] at b
      obtain ⟨b1, b2⟩ := b
      obtain ⟨t, rfl, gt⟩ := tm_of (by simpa using b1)
      refine ⟨t :: ts, by simp [e1], fun u hu => ?_⟩
      rcases List.mem_cons.mp hu with rfl | hu
      · exact ⟨gt, by simpa [lenD] using b2⟩
      · exact e2 u hu
  obtain ⟨ts, e1, e2⟩ := this ds fun x hx => hx
  exact ⟨ts, _, e1, e2⟩
theorem look_good {ts : List (List Int)} {k : Nat} (g : ∀ t ∈ ts, good t ∧ t.length = k) : lookR (ts.map tm) = none := by
  unfold lookR
  rw [List.findIdx?_eq_none_iff]
  intro x hx
  obtain ⟨t, ht, rfl⟩ := List.mem_map.mp hx
  unfold badIn
  rw [good_tm (g t ht).1]
  cases ts with
  | nil => cases ht
  | cons u ts =>
    have h1 := (g u (by simp)).2
    have h2 := (g t ht).2
    simp [lenD, h1, h2]
theorem Tyt.app {h g : DH} {d : D} (t : Tyt h d) : Tyt (h ++ g) d := ⟨Tle.app d t.1, fun ds e x hx => Tle.app x (t.2 ds e x hx)⟩
def refN : Option Nat → D
  | none => .non
  | some i => .int (i : Nat)
/-! ### joins, plain -/
def ins (F : List (List Int)) (x : List Int) : List (List Int) := if x ∈ F then F else F ++ [x]
def stepJ (F : List (List Int)) (t : List Int) : List (List Int) := (t :: F.map (jnT t)).foldl ins F
def allJ (ts : List (List Int)) : List (List Int) := ts.foldl stepJ []
theorem ins_len {F : List (List Int)} {x : List Int} : F.length ≤ (ins F x).length ∧ (ins F x).length ≤ F.length + 1 := by
  unfold ins
  split <;> simp
theorem fold_ins_len : ∀ {xs F : List (List Int)}, F.length ≤ (xs.foldl ins F).length ∧ (xs.foldl ins F).length ≤ F.length + xs.length
  | [], F => by simp
  | x :: xs, F => by
    have h1 := ins_len (F := F) (x := x)
    have h2 := fold_ins_len (xs := xs) (F := ins F x)
    simp only [List.foldl_cons, List.length_cons]
    omega
theorem ins_nd {F : List (List Int)} {x : List Int} (n : F.Nodup) : (ins F x).Nodup := by
  unfold ins
  split
  · exact n
  · rename_i z
    rw [List.nodup_append]
    exact ⟨n, by simp, fun a ha b hb e => z (by rw [List.mem_singleton.mp hb] at e; rw [← e]; exact ha)⟩
theorem fold_ins_nd : ∀ {xs F : List (List Int)}, F.Nodup → (xs.foldl ins F).Nodup
  | [], _, n => n
  | x :: xs, F, n => fold_ins_nd (xs := xs) (F := ins F x) (ins_nd n)
theorem fold_ins_mem {P : List Int → Prop} : ∀ {xs F : List (List Int)}, (∀ x ∈ F, P x) → (∀ x ∈ xs, P x) → ∀ y ∈ xs.foldl ins F, P y
  | [], F, h, _, y, hy => h y hy
  | x :: xs, F, h, k, y, hy => by
    refine fold_ins_mem (xs := xs) (F := ins F x) (fun z hz => ?_) (fun z hz => k z (by simp [hz])) y hy
    unfold ins at hz
    split at hz
    · exact h z hz
    · rcases List.mem_append.mp hz with q | q
      · exact h z q
      · rw [List.mem_singleton.mp q]; exact k x (by simp)
theorem allJ_snoc {ts : List (List Int)} {t : List Int} : allJ (ts ++ [t]) = stepJ (allJ ts) t := by simp [allJ]
theorem allJ_mono {ts us : List (List Int)} : (allJ ts).length ≤ (allJ (ts ++ us)).length := by
  induction us generalizing ts with
  | nil => simp
  | cons u us ih =>
    have h1 := ih (ts := ts ++ [u])
    have h2 : (allJ ts).length ≤ (allJ (ts ++ [u])).length := by
      rw [allJ_snoc]
      exact (fold_ins_len (xs := u :: (allJ ts).map (jnT u)) (F := allJ ts)).1
    rw [List.append_assoc] at h1
    exact Nat.le_trans h2 h1
theorem allJ_take {ts : List (List Int)} {i : Nat} : (allJ (ts.take i)).length ≤ (allJ ts).length := by
  have := allJ_mono (ts := ts.take i) (us := ts.drop i)
  rwa [List.take_append_drop] at this
theorem allJ_pow : ∀ {n : Nat} {ts : List (List Int)}, ts.length = n → (allJ ts).length + 1 ≤ 2 ^ n
  | 0, ts, h => by
    have : ts = [] := List.length_eq_zero_iff.mp h
    subst this
    simp [allJ]
  | n + 1, ts, h => by
    obtain ⟨u, t, e, hu⟩ : ∃ u t, ts = u ++ [t] ∧ u.length = n := by
      refine ⟨ts.dropLast, ts.getLast (by intro e; rw [e] at h; cases h), (List.dropLast_concat_getLast _).symm, ?_⟩
      rw [List.length_dropLast]; omega
    subst e
    have ih := allJ_pow hu
    rw [allJ_snoc]
    have := (fold_ins_len (xs := t :: (allJ u).map (jnT t)) (F := allJ u)).2
    simp at this
    unfold stepJ
    rw [Nat.pow_succ]
    simp
    omega
theorem allJ_ok {k : Nat} : ∀ {ts : List (List Int)}, (∀ t ∈ ts, good t ∧ t.length = k) → (allJ ts).Nodup ∧ ∀ t ∈ allJ ts, good t ∧ t.length = k := by
  intro ts g
  suffices H : ∀ (ts F : List (List Int)), (∀ t ∈ ts, good t ∧ t.length = k) → F.Nodup → (∀ t ∈ F, good t ∧ t.length = k) → (ts.foldl stepJ F).Nodup ∧ ∀ t ∈ ts.foldl stepJ F, good t ∧ t.length = k from H ts [] g (by simp) (by simp)
  intro ts
  induction ts with
  | nil => intro F _ n h; exact ⟨n, h⟩
  | cons t ts ih =>
    intro F g n h
    refine ih (stepJ F t) (fun x hx => g x (by simp [hx])) (fold_ins_nd n) (fold_ins_mem h fun x hx => ?_)
    have gt := g t (by simp)
    rcases List.mem_cons.mp hx with rfl | hx
    · exact gt
    · obtain ⟨y, hy, rfl⟩ := List.mem_map.mp hx
      have gy := h y hy
      have ll : (jnT t y).length = k := by simp [jnT, gt.2, gy.2]
      refine ⟨⟨by rw [ll, ← gt.2]; exact gt.1.1, by rw [ll, ← gt.2]; exact gt.1.2.1, fun x hx => ?_⟩, ll⟩
      unfold jnT at hx
      obtain ⟨p, hp, rfl⟩ := List.mem_map.mp hx
      have := gt.1.2.2 p.1 (List.of_mem_zip hp).1
      omega
def kvB (F : List (List Int)) : List (D × D) := F.map fun k => (tm k, .bl true)
theorem kvB_keys {F : List (List Int)} : (kvB F).map (·.1) = F.map tm := by simp [kvB]
theorem kvB_tup {F : List (List Int)} : tupKs (kvB F) = true := by
  unfold tupKs kvB
  rw [List.all_map, List.all_eq_true]
  intro p _
  exact ek_tm.tup p
theorem kvB_get {F : List (List Int)} {x : List Int} : (dget (kvB F) (tm x)).isSome = decide (x ∈ F) := by
  unfold dget kvB
  rw [Option.isSome_map, List.find?_map, Option.isSome_map, Bool.eq_iff_iff, List.find?_isSome]
  simp only [Function.comp, decide_eq_true_eq, ek_iff ek_tm]
  exact ⟨fun ⟨y, hy, e⟩ => e ▸ hy, fun h => ⟨x, h, rfl⟩⟩
theorem kvB_put {F : List (List Int)} {x : List Int} : dput (kvB F) (tm x) (.bl true) = kvB (ins F x) := by
  unfold dput ins
  rw [kvB_get]
  by_cases z : x ∈ F
  · rw [if_pos (by simpa using z), if_pos z]
    unfold kvB
    rw [List.map_map]
    apply List.map_congr_left
    intro p _
    by_cases c : p = x <;> simp [c, ek_iff ek_tm]
  · rw [if_neg (by simpa using z), if_neg z]
    simp [kvB]
theorem kvB_len {F : List (List Int)} : (kvB F).length = F.length := by simp [kvB]
theorem at_tm {l : List (List Int)} {i : Nat} {x : D} (hx : (l.map tm)[i]? = some x) : ∃ p, l[i]? = some p ∧ x = tm p := by
  rw [List.getElem?_map] at hx
  cases z : l[i]? with
  | none => rw [z] at hx; cases hx
  | some t => rw [z] at hx; cases hx; exact ⟨t, rfl, rfl⟩
def sortJ (ts : List (List Int)) : List (List Int) := (allJ ts).mergeSort lexB
theorem p_joins {h : DH} {n : Nat} {ds : List D} {most : Nat} {Q : D → DH → Prop} {X : Exn → DH → Prop} (hn : lstAt h n = some ds) (hz : ds.length ≤ 900) (td : ∀ x ∈ ds, Tyt h x)
    (q0 : ∀ (ts : List (List Int)) (k : Nat), ds = ts.map tm → (∀ t ∈ ts, good t ∧ t.length = k) → (allJ ts).length ≤ 100000 ∧ (if (allJ ts).length ≤ most then ∀ g m, lstAt (h ++ g) m = some ((sortJ ts).map tm) → Q (.ref m) (h ++ g) else ∀ g, X ⟨"TooMany", [("many", .int ((most + 1 : Nat) : Int))]⟩ (h ++ g)))
    (q1 : ∀ i : Nat, lookR ds = some i → X ⟨"NoTime", [("place", .int i)]⟩ h) : (F_joins [.ref n, .int (most : Nat)] h).wp Q X := by
  unfold F_joins B_joins
  simp [wp_run]
  refine p_lookL hn (by omega) td (fun e => ?_) (fun i e => q1 i e)
  obtain ⟨ts, k, rfl, g⟩ := look_none e
  obtain ⟨bz, q0⟩ := q0 ts k rfl g
  have hm : ∀ o : OD, lstAt (h ++ [o]) n = some (ts.map tm) := fun o => lstAt_more hn
  rw [seq_nx]
  simp
  rw [seq_nx]
  simp [hm]
  refine loop_inv (fun i env h' => (∃ e3 e4 e5, env = [some (.ref n), some (.int (most : Nat)), some (.ref h.length), e3, e4, e5]) ∧ h' = h ++ [.dct false (kvB (allJ (ts.take i)))] ∧ (0 < i → (allJ (ts.take i)).length ≤ most)) ⟨⟨_, _, _, rfl⟩, by simp [allJ, kvB], by omega⟩ (fun i env h' I => by rw [I.2.1]; exact live_ls (hm _) (hm _)) (fun i x env h' hx I => ?_) (fun env h' I => ?_)
  · obtain ⟨⟨e3, e4, e5, rfl⟩, rfl, _⟩ := I
    obtain ⟨t, ht, rfl⟩ := at_tm hx
    have gt := g t (List.mem_of_getElem? ht)
    have nx : allJ (ts.take (i + 1)) = stepJ (allJ (ts.take i)) t := by
      rw [List.take_succ, ht]; exact allJ_snoc
    have b1 : (allJ (ts.take i)).length ≤ 100000 := Nat.le_trans allJ_take bz
    have b2 : (stepJ (allJ (ts.take i)) t).length ≤ 100000 := by rw [← nx]; exact Nat.le_trans allJ_take bz
    have ext : most < (stepJ (allJ (ts.take i)) t).length → ∀ g, X ⟨"TooMany", [("many", .int ((most + 1 : Nat) : Int))]⟩ (h ++ g) := fun hl => by
      rw [← nx] at hl
      have := allJ_take (ts := ts) (i := i + 1)
      rw [if_neg (by omega)] at q0
      exact q0
    have gF := (allJ_ok (k := k) fun t ht => g t (List.mem_of_mem_take ht) : (allJ (ts.take i)).Nodup ∧ _).2
    rw [nx]
    generalize allJ (ts.take i) = F at b1 b2 ext gF
    simp [-wo_loop1]
    rw [loVar_E (m := h.length) rfl]
    simp [kvB_keys, -wo_loop1]
    refine ⟨by simp [small], ?_⟩
    refine lc_map (live := fun _ => true) (fun x => tm (jnT t (unT x))) rfl (by simp; omega) rfl (fun x hx => ?_) ?_
    · obtain ⟨o, ho, rfl⟩ := List.mem_map.mp hx
      have go := gF o ho
      simp [e_joined (show t.length = o.length by omega) (by have := gt.1.2.1; omega), unT_tm]
    · have em : (F.map tm).map (fun x => tm (jnT t (unT x))) = (F.map (jnT t)).map tm := by simp [unT_tm]
      have ul : unlk h.length (h ++ [.dct true (kvB F)]) = some (h ++ [.dct false (kvB F)]) := by
        rw [unlk_of (kvs := kvB F) (by simp)]; simp
      rw [em, ul]
      simp only [optP_some]
      rw [← List.map_cons]
      refine ⟨small_ok (by simp; omega), ?_⟩
      have lJ : (t :: F.map (jnT t)).length ≤ 100001 := by simp; omega
      unfold stepJ at b2 ext ⊢
      generalize (t :: F.map (jnT t)) = L at lJ b2 ext ⊢
      refine loop_inv (fun j env h' => (∃ e4 e5, env = [some (.ref n), some (.int (most : Nat)), some (.ref h.length), some (tm t), e4, e5]) ∧ h' = h ++ [.dct false (kvB ((L.take j).foldl ins F))]) ⟨⟨_, _, rfl⟩, by simp⟩ (fun _ _ _ _ => rfl) (fun j x env h' hx I => ?_) (fun env h' I => ?_)
      · obtain ⟨⟨e4, e5, rfl⟩, rfl⟩ := I
        obtain ⟨o, ho, rfl⟩ := at_tm hx
        have hj := (List.getElem?_eq_some_iff.mp ho).1
        have nx : (L.take (j + 1)).foldl ins F = ins ((L.take j).foldl ins F) o := by
          rw [List.take_succ, ho]; simp
        have bb : ((L.take j).foldl ins F).length ≤ 200001 := by
          have := (fold_ins_len (xs := L.take j) (F := F)).2
          rw [List.length_take] at this
          omega
        rw [nx]
        generalize (L.take j).foldl ins F = G at bb
        simp [kvB_tup, ek_tm.tup o, kvB_put, kvB_len]
        exact small_ok (by omega)
      · obtain ⟨⟨e4, e5, rfl⟩, rfl⟩ := I
        rw [List.length_map, List.take_length]
        rw [seq_nx]
        generalize L.foldl ins F = G at b2 ext ⊢
        simp [kvB_tup, kvB_len]
        by_cases c : most < G.length
        · simp [c]
          exact ext c _
        · have c' : ¬ ((most : Int) < G.length) := by omega
          simp [c]
          omega
  · obtain ⟨⟨e3, e4, e5, rfl⟩, rfl, lm⟩ := I
    rw [List.length_map, List.take_length] at *
    rw [seq_nx]
    have gA := allJ_ok g
    have lq : (allJ ts).length ≤ most := by
      by_cases z : 0 < ts.length
      · exact lm z
      · have : ts = [] := List.length_eq_zero_iff.mp (by omega)
        subst this
        simp [allJ]
    rw [if_pos lq] at q0
    simp [kvB_keys, oks_tm gA.2, srt_tm]
    exact q0 [.dct false (kvB (allJ ts)), .lst ((sortJ ts).map tm)] (h.length + 1) (by simp)
/-! ### a heap of sums, plain -/
section
variable {κ : Type} [DecidableEq κ]
def negM (ms : Ms κ) : Ms κ := ms.map fun p => (p.1, -p.2)
theorem sm_cons {f : κ → Bool} {p : κ × Int} {ms : Ms κ} : sm f (p :: ms) = (if f p.1 then p.2 else 0) + sm f ms := rfl
theorem sm_neg {f : κ → Bool} : ∀ {ms : Ms κ}, sm f (negM ms) = - sm f ms
  | [] => rfl
  | p :: ms => by
    have := sm_neg (f := f) (ms := ms)
    show sm f ((p.1, -p.2) :: negM ms) = _
    rw [sm_cons, sm_cons, this]
    dsimp only
    split <;> omega
theorem sm_congr {f g : κ → Bool} : ∀ {ms : Ms κ}, (∀ p ∈ ms, f p.1 = g p.1) → sm f ms = sm g ms
  | [], _ => rfl
  | p :: ms, h => by
    rw [sm_cons, sm_cons, h p (by simp), sm_congr fun q hq => h q (by simp [hq])]
theorem sm_false {f : κ → Bool} {ms : Ms κ} (h : ∀ p ∈ ms, f p.1 = false) : sm f ms = 0 := sm_none fun p hp z => by rw [h p hp] at z; cases z
/-- two that never are together -/
theorem sm_or {f g e : κ → Bool} : ∀ {ms : Ms κ}, (∀ p ∈ ms, (e p.1 = (f p.1 || g p.1)) ∧ (f p.1 && g p.1) = false) → sm e ms = sm f ms + sm g ms
  | [], _ => rfl
  | p :: ms, h => by
    obtain ⟨h1, h2⟩ := h p (by simp)
    have := sm_or (f := f) (g := g) (e := e) fun q hq => h q (List.mem_cons_of_mem p hq)
    rw [sm_cons, sm_cons, sm_cons, this, h1]
    cases z1 : f p.1 <;> cases z2 : g p.1 <;> simp [z1, z2] at h2 ⊢ <;> omega
end
def atT (t : List Int) (ms : Ms (List Int)) : List Df := ms.map fun p => ((p.1, t), -p.2)
theorem sm_atT {f : Ky → Bool} {t : List Int} : ∀ {ms : Ms (List Int)}, sm f (atT t ms) = - sm (fun r => f (r, t)) ms
  | [] => rfl
  | p :: ms => by
    have := sm_atT (f := f) (t := t) (ms := ms)
    show sm f (((p.1, t), -p.2) :: atT t ms) = _
    rw [sm_cons, sm_cons, this]
    dsimp only
    split <;> omega
def hereM (M : List Df) (t : List Int) (st : Ms (List Int)) : Ms (List Int) := foldS (foldS [] (rowsAt M t)) (negM st)
def stepM (M : List Df) (t : List Int) (st : Ms (List Int)) : List Df := foldS M (atT t (hereM M t st))
theorem hereM_ok {M : List Df} {t : List Int} {st : Ms (List Int)} : Rep (hereM M t st) (rowsAt M t ++ negM st) := by
  have R : Rep (foldS [] (rowsAt M t)) (rowsAt M t) := Rep.fold
  obtain ⟨h1, h2, h3⟩ := foldS_ok (ds := negM st) R.1 R.2.1
  exact ⟨h1, h2, fun f => by rw [hereM, h3, sm_app, R.2.2]⟩
theorem stepM_ok {M : List Df} {t : List Int} {st : Ms (List Int)} (n : nd M) (z : nz M) : Rep (stepM M t st) (M ++ atT t (hereM M t st)) := by
  obtain ⟨h1, h2, h3⟩ := foldS_ok (ds := atT t (hereM M t st)) n z
  exact ⟨h1, h2, fun f => by rw [stepM, h3, sm_app]⟩
theorem stepM_sm {M : List Df} {t : List Int} {st : Ms (List Int)} (n : nd M) (z : nz M) (f : Ky → Bool) : sm f (stepM M t st) = sm f M - sm (fun k => leT k.2 t && f (k.1, t)) M + sm (fun r => f (r, t)) st := by
  rw [(stepM_ok n z).2.2, sm_app, sm_atT, hereM_ok.2.2, sm_app, sm_rows, sm_neg]
  omega
def hsum (s : List Int → Ms (List Int)) (qs : List (List Int)) : List Df := qs.foldl (fun M t => stepM M t (s t)) []
theorem hsum_snoc {s : List Int → Ms (List Int)} {qs : List (List Int)} {t : List Int} : hsum s (qs ++ [t]) = stepM (hsum s qs) t (s t) := by simp [hsum]
theorem snocRec {α : Type} {P : List α → Prop} (h0 : P []) (hs : ∀ l a, P l → P (l ++ [a])) (l : List α) : P l := by
  have : ∀ m : List α, P m.reverse := fun m => by
    induction m with
    | nil => exact h0
    | cons a m ih => rw [List.reverse_cons]; exact hs _ _ ih
  have q := this l.reverse
  rwa [List.reverse_reverse] at q
theorem hsum_ok {s : List Int → Ms (List Int)} {qs : List (List Int)} : nd (hsum s qs) ∧ nz (hsum s qs) := by
  refine snocRec (P := fun qs => nd (hsum s qs) ∧ nz (hsum s qs)) ⟨by simp [nd, hsum], by intro p hp; cases hp⟩ (fun l t ih => ?_) qs
  rw [hsum_snoc]
  have := stepM_ok (t := t) (st := s t) ih.1 ih.2
  exact ⟨this.1, this.2.1⟩
/-- the keys -/
theorem hsum_keys {s : List Int → Ms (List Int)} {R : List (List Int)} {qs : List (List Int)} (hs : ∀ t ∈ qs, ∀ p ∈ s t, p.1 ∈ R) : ∀ p ∈ hsum s qs, p.1.1 ∈ R ∧ p.1.2 ∈ qs := by
  revert hs
  refine snocRec (P := fun qs => (∀ t ∈ qs, ∀ p ∈ s t, p.1 ∈ R) → ∀ p ∈ hsum s qs, p.1.1 ∈ R ∧ p.1.2 ∈ qs) (fun _ p hp => by cases hp) (fun l t ih hs p hp => ?_) qs
  have ih := ih fun u hu => hs u (by simp [hu])
  obtain ⟨n, z⟩ := hsum_ok (s := s) (qs := l)
  rw [hsum_snoc] at hp
  obtain ⟨q, hq, e⟩ := (stepM_ok n z).key hp
  rcases List.mem_append.mp hq with hq | hq
  · obtain ⟨i1, i2⟩ := ih q hq
    rw [← e]
    exact ⟨i1, by simp [i2]⟩
  · obtain ⟨y, hy, rfl⟩ := List.mem_map.mp hq
    obtain ⟨w, hw, ew⟩ := hereM_ok.key hy
    rw [← e]
    refine ⟨?_, by simp⟩
    dsimp only
    rw [← ew]
    rcases List.mem_append.mp hw with hw | hw
    · obtain ⟨v, hv, rfl⟩ := List.mem_map.mp hw
      exact (ih v (List.mem_filter.mp hv).1).1
    · obtain ⟨v, hv, rfl⟩ := List.mem_map.mp hw
      exact hs t (by simp) v hv
/-- no more keys than there are rows and times -/
theorem nodup_len {α : Type} [DecidableEq α] : ∀ {a b : List α}, a.Nodup → (∀ x ∈ a, x ∈ b) → a.length ≤ b.length
  | [], _, _, _ => Nat.zero_le _
  | x :: a, b, n, h => by
    rw [List.nodup_cons] at n
    have hx := h x (by simp)
    have := nodup_len (a := a) (b := b.erase x) n.2 fun y hy => (List.mem_erase_of_ne fun z => n.1 (by rw [← z]; exact hy)).mpr (h y (by simp [hy]))
    rw [List.length_erase_of_mem hx] at this
    have := List.length_pos_of_mem hx
    simp only [List.length_cons]
    omega
theorem nd_len {κ : Type} [DecidableEq κ] {ms : Ms κ} {L : List κ} (n : nd ms) (h : ∀ p ∈ ms, p.1 ∈ L) : ms.length ≤ L.length := by
  have := nodup_len n fun x hx => by
    obtain ⟨p, hp, rfl⟩ := List.mem_map.mp hx
    exact h p hp
  rwa [List.length_map] at this
def pairsL (R qs : List (List Int)) : List Ky := R.flatMap fun r => qs.map fun t => (r, t)
theorem pairsL_len {qs : List (List Int)} : ∀ {R : List (List Int)}, (pairsL R qs).length = R.length * qs.length
  | [] => by simp [pairsL]
  | r :: R => by
    have := pairsL_len (qs := qs) (R := R)
    rw [show pairsL (r :: R) qs = qs.map (fun t => (r, t)) ++ pairsL R qs from rfl, List.length_append, this, List.length_map, List.length_cons, Nat.succ_mul]
    omega
theorem hsum_len {s : List Int → Ms (List Int)} {R : List (List Int)} {qs : List (List Int)} (hs : ∀ t ∈ qs, ∀ p ∈ s t, p.1 ∈ R) : (hsum s qs).length ≤ R.length * qs.length := by
  rw [← pairsL_len]
  refine nd_len hsum_ok.1 fun p hp => ?_
  obtain ⟨h1, h2⟩ := hsum_keys hs p hp
  exact List.mem_flatMap.mpr ⟨p.1.1, h1, List.mem_map.mpr ⟨p.1.2, h2, rfl⟩⟩
theorem pw_snoc {α : Type} {r : α → α → Prop} {l : List α} {a : α} (h : (l ++ [a]).Pairwise r) : l.Pairwise r ∧ ∀ x ∈ l, r x a := by
  rw [List.pairwise_append] at h
  exact ⟨h.1, fun x hx => h.2.2 x hx a (by simp)⟩
/-- what comes later is at or before nothing that came -/
theorem not_le {k : Nat} {u t : List Int} (hu : u.length = k) (ht : t.length = k) (h : lexS u t) : leT t u = false := by
  cases z : leT t u with
  | false => rfl
  | true =>
    have := lex_of_le (ht.trans hu.symm) z
    exact (h.2 (List.le_antisymm h.1 this)).elim
/-- it sums as told -/
theorem hsum_val {k : Nat} {s : List Int → Ms (List Int)} {qs : List (List Int)} (pw : qs.Pairwise lexS) (hk : ∀ t ∈ qs, t.length = k) : ∀ t ∈ qs, ∀ row : List Int, sm (fun y : Ky => leT y.2 t && decide (y.1 = row)) (hsum s qs) = sm (fun r => decide (r = row)) (s t) := by
  revert pw hk
  refine snocRec (P := fun qs => qs.Pairwise lexS → (∀ t ∈ qs, t.length = k) → ∀ t ∈ qs, ∀ row : List Int, sm (fun y : Ky => leT y.2 t && decide (y.1 = row)) (hsum s qs) = sm (fun r => decide (r = row)) (s t)) (fun _ _ t ht => by cases ht) (fun l t ih pw hk u hu row => ?_) qs
  obtain ⟨p1, p2⟩ := pw_snoc pw
  obtain ⟨n, z⟩ := hsum_ok (s := s) (qs := l)
  rw [hsum_snoc, stepM_sm n z]
  rcases List.mem_append.mp hu with hu | hu
  · have nl := not_le (hk u (by simp [hu])) (hk t (by simp)) (p2 u hu)
    rw [ih p1 (fun v hv => hk v (by simp [hv])) u hu row]
    rw [sm_false (f := fun k : Ky => leT k.2 t && (leT (k.1, t).2 u && decide ((k.1, t).1 = row))) (by intro p _; simp [nl]), sm_false (f := fun r : List Int => leT (r, t).2 u && decide ((r, t).1 = row)) (by intro p _; simp [nl])]
    omega
  · obtain rfl : u = t := by simpa using hu
    have e1 : sm (fun k : Ky => leT k.2 u && (leT (k.1, u).2 u && decide ((k.1, u).1 = row))) (hsum s l) = sm (fun y : Ky => leT y.2 u && decide (y.1 = row)) (hsum s l) := sm_congr fun p _ => by simp [leT_refl]
    have e2 : sm (fun r : List Int => leT (r, u).2 u && decide ((r, u).1 = row)) (s u) = sm (fun r => decide (r = row)) (s u) := sm_congr fun p _ => by simp [leT_refl]
    rw [e1, e2]
    omega
/-- of a heap's own sums it is the heap, as far as it has come -/
theorem hsum_flt {N : List Df} {s : List Int → Ms (List Int)} {qs : List (List Int)} (hs : ∀ t ∈ qs, ∀ f : List Int → Bool, sm f (s t) = sm (fun y : Ky => leT y.2 t && f y.1) N) (cl : ∀ (i : Nat) (t : List Int), qs[i]? = some t → ∀ p ∈ N, leT p.1.2 t = true → p.1.2 ∈ qs.take (i + 1)) (n : qs.Nodup) :
    ∀ f : Ky → Bool, sm f (hsum s qs) = sm (fun y : Ky => f y && decide (y.2 ∈ qs)) N := by
  revert hs cl n
  refine snocRec (P := fun qs => (∀ t ∈ qs, ∀ f : List Int → Bool, sm f (s t) = sm (fun y : Ky => leT y.2 t && f y.1) N) → (∀ (i : Nat) (t : List Int), qs[i]? = some t → ∀ p ∈ N, leT p.1.2 t = true → p.1.2 ∈ qs.take (i + 1)) → qs.Nodup → ∀ f : Ky → Bool, sm f (hsum s qs) = sm (fun y : Ky => f y && decide (y.2 ∈ qs)) N) (fun _ _ _ f => by rw [sm_false (f := fun y : Ky => f y && decide (y.2 ∈ [])) (by simp)]; rfl) (fun l t ih hs cl nd' f => ?_) qs
  obtain ⟨n, z⟩ := hsum_ok (s := s) (qs := l)
  have ih := ih (fun u hu => hs u (by simp [hu])) (fun i u e p hp hl => by
    have hi := (List.getElem?_eq_some_iff.mp e).1
    have := cl i u (by rw [List.getElem?_append_left hi]; exact e) p hp hl
    rwa [List.take_append_of_le_length (by omega)] at this) (List.nodup_append.mp nd').1
  have tl : t ∉ l := fun z => (List.nodup_append.mp nd').2.2 t z t (by simp) rfl
  have ct : ∀ p ∈ N, leT p.1.2 t = true → p.1.2 ∈ l ++ [t] := fun p hp hl => by
    have := cl l.length t (by simp) p hp hl
    rwa [List.take_of_length_le (by simp)] at this
  rw [hsum_snoc, stepM_sm n z, ih, ih, hs t (by simp)]
  have e1 : sm (fun y : Ky => leT y.2 t && f (y.1, t)) N = sm (fun y : Ky => (leT y.2 t && f (y.1, t)) && decide (y.2 ∈ l)) N + sm (fun y : Ky => f y && decide (y.2 = t)) N := by
    refine sm_or fun p hp => ?_
    cases zl : leT p.1.2 t with
    | false =>
      by_cases zt : p.1.2 = t
      · rw [zt, leT_refl] at zl; cases zl
      · simp [zt]
    | true =>
      by_cases zt : p.1.2 = t
      · have : p.1 = (p.1.1, t) := by rw [← zt]
        simp [zt, tl]
        rw [← this]
      · have := ct p hp zl
        have : p.1.2 ∈ l := by simpa [zt] using this
        simp [zt, this]
  have e2 : sm (fun y : Ky => f y && decide (y.2 ∈ l ++ [t])) N = sm (fun y : Ky => f y && decide (y.2 ∈ l)) N + sm (fun y : Ky => f y && decide (y.2 = t)) N := by
    refine sm_or fun p hp => ?_
    by_cases zt : p.1.2 = t
    · simp [zt, tl]
    · by_cases zl : p.1.2 ∈ l <;> simp [zt, zl]
  rw [e1, e2]
  omega
/-! ### sums less those a clock lower -/
def bitW (w j : Nat) : Int := Builtin.bitAnd ((w : Int) / 2 ^ j) 1
def lowT (t : List Int) (w : Nat) : List Int := (List.range t.length).map fun j => t.getD j 0 - bitW w j
def sgnW (n w : Nat) : Int := 1 - 2 * (((List.range n).map (bitW w)).sum % 2)
def valT (v : List Int → Int) (u : List Int) : Int := if u.all (fun x => decide (0 ≤ x)) then v u else 0
def cornerV (v : List Int → Int) (t : List Int) : Int := ((List.range (2 ^ t.length)).map fun w => sgnW t.length w * valT v (lowT t w)).sum
@[simp] theorem bw00 : bitW 0 0 = 0 := by decide
@[simp] theorem bw01 : bitW 0 1 = 0 := by decide
@[simp] theorem bw02 : bitW 0 2 = 0 := by decide
@[simp] theorem bw10 : bitW 1 0 = 1 := by decide
@[simp] theorem bw11 : bitW 1 1 = 0 := by decide
@[simp] theorem bw12 : bitW 1 2 = 0 := by decide
@[simp] theorem bw20 : bitW 2 0 = 0 := by decide
@[simp] theorem bw21 : bitW 2 1 = 1 := by decide
@[simp] theorem bw22 : bitW 2 2 = 0 := by decide
@[simp] theorem bw30 : bitW 3 0 = 1 := by decide
@[simp] theorem bw31 : bitW 3 1 = 1 := by decide
@[simp] theorem bw32 : bitW 3 2 = 0 := by decide
@[simp] theorem bw40 : bitW 4 0 = 0 := by decide
@[simp] theorem bw41 : bitW 4 1 = 0 := by decide
@[simp] theorem bw42 : bitW 4 2 = 1 := by decide
@[simp] theorem bw50 : bitW 5 0 = 1 := by decide
@[simp] theorem bw51 : bitW 5 1 = 0 := by decide
@[simp] theorem bw52 : bitW 5 2 = 1 := by decide
@[simp] theorem bw60 : bitW 6 0 = 0 := by decide
@[simp] theorem bw61 : bitW 6 1 = 1 := by decide
@[simp] theorem bw62 : bitW 6 2 = 1 := by decide
@[simp] theorem bw70 : bitW 7 0 = 1 := by decide
@[simp] theorem bw71 : bitW 7 1 = 1 := by decide
@[simp] theorem bw72 : bitW 7 2 = 1 := by decide
theorem corner1 {v : List Int → Int} {a : Int} : cornerV v [a] = valT v [a] - valT v [a - 1] := by
  simp [cornerV, List.range, List.range.loop, sgnW, lowT]
  omega
theorem corner2 {v : List Int → Int} {a b : Int} : cornerV v [a, b] = valT v [a, b] - valT v [a - 1, b] - valT v [a, b - 1] + valT v [a - 1, b - 1] := by
  simp [cornerV, List.range, List.range.loop, sgnW, lowT]
  omega
theorem corner3 {v : List Int → Int} {a b c : Int} : cornerV v [a, b, c] = valT v [a, b, c] - valT v [a - 1, b, c] - valT v [a, b - 1, c] + valT v [a - 1, b - 1, c] - valT v [a, b, c - 1] + valT v [a - 1, b, c - 1] + valT v [a, b - 1, c - 1] - valT v [a - 1, b - 1, c - 1] := by
  simp [cornerV, List.range, List.range.loop, sgnW, lowT]
  omega
section
variable {M : List Df} {row : List Int} {v : List Int → Int}
theorem all_nn : ∀ {w u : List Int}, w.length = u.length → (∀ x ∈ w, 0 ≤ x) → leT w u = true → (u.all fun x => decide (0 ≤ x)) = true
  | [], [], _, _, _ => rfl
  | [], _ :: _, h, _, _ => by cases h
  | _ :: _, [], h, _, _ => by cases h
  | y :: w, x :: u, h, h2, zl => by
    have hl : w.length = u.length := by simpa using h
    have z2 : leT w u = true ∧ y ≤ x := by
      simp only [leT, List.zip_cons_cons, List.all_cons, Bool.and_eq_true, decide_eq_true_eq] at zl ⊢
      exact ⟨zl.2, zl.1⟩
    have := all_nn hl (fun q hq => h2 q (by simp [hq])) z2.1
    have h0 := h2 y (by simp)
    rw [List.all_cons, this, decide_eq_true (by omega)]
    rfl
/-- the sums at a time, told whole -/
theorem valT_sm {k : Nat} {u : List Int} (hM : ∀ p ∈ M, p.1.2.length = k ∧ ∀ x ∈ p.1.2, 0 ≤ x) (hu : u.length = k) (hv : (u.all fun x => decide (0 ≤ x)) = true → v u = sm (fun y : Ky => leT y.2 u && decide (y.1 = row)) M) : valT v u = sm (fun y : Ky => leT y.2 u && decide (y.1 = row)) M := by
  unfold valT
  cases z : u.all fun x => decide (0 ≤ x) with
  | true => exact hv z
  | false =>
    rw [sm_false fun p hp => ?_]
    · rfl
    obtain ⟨h1, h2⟩ := hM p hp
    have : leT p.1.2 u = false := by
      cases zl : leT p.1.2 u with
      | false => rfl
      | true =>
        have : (u.all fun x => decide (0 ≤ x)) = true := by
          exact all_nn (h1.trans hu.symm) h2 zl
        rw [this] at z; cases z
    simp [this]
def I01 (x a : Int) : Int := if x ≤ a then 1 else 0
def E01 (x a : Int) : Int := if x = a then 1 else 0
theorem i01 {x a : Int} : I01 x a - I01 x (a - 1) = E01 x a := by
  unfold I01 E01
  split <;> split <;> split <;> omega
def cn (d : Bool) (c : Int) : Int := if d then c else 0
theorem w1 {x a c : Int} {d : Bool} : cn (leT [x] [a] && d) c = cn d c * I01 x a := by
  cases d <;> by_cases h : x ≤ a <;> simp [cn, leT, I01, h]
theorem w2 {x y a b c : Int} {d : Bool} : cn (leT [x, y] [a, b] && d) c = cn d c * I01 x a * I01 y b := by
  cases d <;> by_cases h : x ≤ a <;> by_cases h' : y ≤ b <;> simp [cn, leT, I01, h, h']
theorem w3 {x y z a b e c : Int} {d : Bool} : cn (leT [x, y, z] [a, b, e] && d) c = cn d c * I01 x a * I01 y b * I01 z e := by
  cases d <;> by_cases h : x ≤ a <;> by_cases h' : y ≤ b <;> by_cases h'' : z ≤ e <;> simp [cn, leT, I01, h, h', h'']
theorem u1 {x a c : Int} {r : List Int} : cn (decide ((r, [x]) = (row, [a]))) c = cn (decide (r = row)) c * E01 x a := by
  by_cases h : r = row <;> by_cases h1 : x = a <;> simp [cn, E01, h, h1]
theorem u2 {x y a b c : Int} {r : List Int} : cn (decide ((r, [x, y]) = (row, [a, b]))) c = cn (decide (r = row)) c * E01 x a * E01 y b := by
  by_cases h : r = row <;> by_cases h1 : x = a <;> by_cases h2 : y = b <;> simp [cn, E01, h, h1, h2]
theorem u3 {x y z a b e c : Int} {r : List Int} : cn (decide ((r, [x, y, z]) = (row, [a, b, e]))) c = cn (decide (r = row)) c * E01 x a * E01 y b * E01 z e := by
  by_cases h : r = row <;> by_cases h1 : x = a <;> by_cases h2 : y = b <;> by_cases h3 : z = e <;> simp [cn, E01, h, h1, h2, h3]
theorem sm_cn {κ : Type} [DecidableEq κ] {f : κ → Bool} {p : κ × Int} {ms : Ms κ} : sm f (p :: ms) = cn (f p.1) p.2 + sm f ms := rfl
abbrev fS (row u : List Int) : Ky → Bool := fun y => leT y.2 u && decide (y.1 = row)
theorem lin1 {a : Int} : ∀ {M : List Df}, (∀ p ∈ M, p.1.2.length = 1) → sm (fS row [a]) M - sm (fS row [a - 1]) M = sm (fun y : Ky => decide (y = (row, [a]))) M
  | [], _ => rfl
  | p :: M, h => by
    have ih := lin1 (a := a) (M := M) fun q hq => h q (by simp [hq])
    have hp := h p (by simp)
    obtain ⟨⟨r, t⟩, c⟩ := p
    match t, hp with
    | [x], _ =>
      have e : cn (fS row [a] (r, [x])) c - cn (fS row [a - 1] (r, [x])) c = cn (decide ((r, [x]) = (row, [a]))) c := by
        show cn (leT [x] [a] && _) c - cn (leT [x] [a - 1] && _) c = _
        rw [w1, w1, u1, ← i01]
        grind
      rw [sm_cn, sm_cn, sm_cn, ← ih]
      dsimp only at e ⊢
      omega
theorem lin2 {a b : Int} : ∀ {M : List Df}, (∀ p ∈ M, p.1.2.length = 2) → sm (fS row [a, b]) M - sm (fS row [a - 1, b]) M - sm (fS row [a, b - 1]) M + sm (fS row [a - 1, b - 1]) M = sm (fun y : Ky => decide (y = (row, [a, b]))) M
  | [], _ => rfl
  | p :: M, h => by
    have ih := lin2 (a := a) (b := b) (M := M) fun q hq => h q (by simp [hq])
    have hp := h p (by simp)
    obtain ⟨⟨r, t⟩, c⟩ := p
    match t, hp with
    | [x, y], _ =>
      have e : cn (fS row [a, b] (r, [x, y])) c - cn (fS row [a - 1, b] (r, [x, y])) c - cn (fS row [a, b - 1] (r, [x, y])) c + cn (fS row [a - 1, b - 1] (r, [x, y])) c = cn (decide ((r, [x, y]) = (row, [a, b]))) c := by
        show cn (leT [x, y] [a, b] && _) c - cn (leT [x, y] [a - 1, b] && _) c - cn (leT [x, y] [a, b - 1] && _) c + cn (leT [x, y] [a - 1, b - 1] && _) c = _
        rw [w2, w2, w2, w2, u2, ← i01, ← i01]
        grind
      rw [sm_cn, sm_cn, sm_cn, sm_cn, sm_cn, ← ih]
      dsimp only at e ⊢
      omega
theorem lin3 {a b d : Int} : ∀ {M : List Df}, (∀ p ∈ M, p.1.2.length = 3) → sm (fS row [a, b, d]) M - sm (fS row [a - 1, b, d]) M - sm (fS row [a, b - 1, d]) M + sm (fS row [a - 1, b - 1, d]) M - sm (fS row [a, b, d - 1]) M + sm (fS row [a - 1, b, d - 1]) M + sm (fS row [a, b - 1, d - 1]) M - sm (fS row [a - 1, b - 1, d - 1]) M = sm (fun y : Ky => decide (y = (row, [a, b, d]))) M
  | [], _ => rfl
  | p :: M, h => by
    have ih := lin3 (a := a) (b := b) (d := d) (M := M) fun q hq => h q (by simp [hq])
    have hp := h p (by simp)
    obtain ⟨⟨r, t⟩, c⟩ := p
    match t, hp with
    | [x, y, z], _ =>
      have e : cn (fS row [a, b, d] (r, [x, y, z])) c - cn (fS row [a - 1, b, d] (r, [x, y, z])) c - cn (fS row [a, b - 1, d] (r, [x, y, z])) c + cn (fS row [a - 1, b - 1, d] (r, [x, y, z])) c - cn (fS row [a, b, d - 1] (r, [x, y, z])) c + cn (fS row [a - 1, b, d - 1] (r, [x, y, z])) c + cn (fS row [a, b - 1, d - 1] (r, [x, y, z])) c - cn (fS row [a - 1, b - 1, d - 1] (r, [x, y, z])) c = cn (decide ((r, [x, y, z]) = (row, [a, b, d]))) c := by
        show cn (leT [x, y, z] [a, b, d] && _) c - cn (leT [x, y, z] [a - 1, b, d] && _) c - cn (leT [x, y, z] [a, b - 1, d] && _) c + cn (leT [x, y, z] [a - 1, b - 1, d] && _) c - cn (leT [x, y, z] [a, b, d - 1] && _) c + cn (leT [x, y, z] [a - 1, b, d - 1] && _) c + cn (leT [x, y, z] [a, b - 1, d - 1] && _) c - cn (leT [x, y, z] [a - 1, b - 1, d - 1] && _) c = _
        rw [w3, w3, w3, w3, w3, w3, w3, w3, u3, ← i01, ← i01, ← i01]
        grind
      rw [sm_cn, sm_cn, sm_cn, sm_cn, sm_cn, sm_cn, sm_cn, sm_cn, sm_cn, ← ih]
      dsimp only at e ⊢
      omega
/-- the sums less those a clock lower, each way: what stands there -/
theorem corner_sm {t : List Int} (gt : good t) (hM : ∀ p ∈ M, p.1.2.length = t.length ∧ ∀ x ∈ p.1.2, 0 ≤ x) (hv : ∀ w, w < 2 ^ t.length → ((lowT t w).all fun x => decide (0 ≤ x)) = true → v (lowT t w) = sm (fS row (lowT t w)) M) : cornerV v t = sm (fun y : Ky => decide (y = (row, t))) M := by
  have hw : ∀ w, w < 2 ^ t.length → valT v (lowT t w) = sm (fS row (lowT t w)) M := fun w hw => valT_sm (k := t.length) hM (by simp [lowT]) (hv w hw)
  obtain ⟨g1, g2, _⟩ := gt
  match t, g1, g2 with
  | [a], _, _ =>
    have h0 := hw 0 (by simp); have h1 := hw 1 (by simp)
    simp [lowT, List.range, List.range.loop] at h0 h1
    rw [corner1, ← lin1 fun p hp => (hM p hp).1, h0, h1]
  | [a, b], _, _ =>
    have h0 := hw 0 (by simp); have h1 := hw 1 (by simp); have h2 := hw 2 (by simp); have h3 := hw 3 (by simp)
    simp [lowT, List.range, List.range.loop] at h0 h1 h2 h3
    rw [corner2, ← lin2 fun p hp => (hM p hp).1, h0, h1, h2, h3]
  | [a, b, d], _, _ =>
    have h0 := hw 0 (by simp); have h1 := hw 1 (by simp); have h2 := hw 2 (by simp); have h3 := hw 3 (by simp); have h4 := hw 4 (by simp); have h5 := hw 5 (by simp); have h6 := hw 6 (by simp); have h7 := hw 7 (by simp)
    simp [lowT, List.range, List.range.loop] at h0 h1 h2 h3 h4 h5 h6 h7
    rw [corner3, ← lin3 fun p hp => (hM p hp).1, h0, h1, h2, h3, h4, h5, h6, h7]
end
/-! ### heap_of -/
def TbAt (h : DH) (a : Str × Option Str) (b : Str) : Prop := h[0]? = some (.tbl a b)
@[simp] theorem wp_sortedF {at_ : Str × Option Str} {q : Str} {m : DO} {env : En} {h : DH} {Ql : List D → DH → Prop} {X : Exn → DH → Prop} : (qSortedF at_ q m env h).wp Ql X = (m env h).wp (fun x h => TbAt h at_ q ∧ optP (x.aslst h) fun ds => ds.all okF = true ∧ Ql (srtF ds) h) X := by
  unfold qSortedF
  rw [wp_bind]
  congr 1; funext x h1
  unfold TbAt
  cases z : h1[0]? with
  | none => simp
  | some o =>
    cases o with
    | tbl a b =>
      dsimp only
      by_cases e : a = at_ ∧ b = q
      · rw [if_pos e, e.1, e.2]
        cases x.aslst h1 <;> simp
      · rw [if_neg e]
        simp
        intro e1 e2
        exact (e ⟨e1, e2⟩).elim
    | _ => simp
abbrev TbH (h : DH) : Prop := TbAt h ("heap_of", none) "heap_of.<locals>.<lambda>"
theorem TbAt.more {h g : DH} {a : Str × Option Str} {b : Str} (T : TbAt h a b) : TbAt (h ++ g) a b := by
  unfold TbAt at T ⊢
  rw [List.getElem?_append_left (List.getElem?_eq_some_iff.mp T).1]; exact T
def itD (r : List Int → Nat) (t : List Int) : D := .tup [tm t, .ref (r t)]
theorem inOf_ints : ∀ {t : List Int}, mapO inOf (t.map .int) = some t
  | [] => rfl
  | i :: t => by rw [List.map_cons, mapO_cons, inOf_ints]; rfl
theorem fst_it {r : List Int → Nat} {t : List Int} : fstI (itD r t) = some t := by
  show mapO inOf (t.map .int) = some t
  exact inOf_ints
theorem okF_it {r : List Int → Nat} {t : List Int} (g : good t) : okF (itD r t) = true := by
  unfold okF
  rw [fst_it]
  have := g.1
  cases t with
  | nil => simp at this
  | cons x t => rfl
theorem srtF_it {r : List Int → Nat} {us : List (List Int)} : srtF (us.map (itD r)) = (us.mergeSort lexB).map (itD r) := by
  unfold srtF
  symm
  refine List.map_mergeSort (fun u _ v _ => ?_)
  rw [← le_tm (h := []), PySem.W.dataLe_eq, PySem.W.dataLe_eq]
  simp only [keyF, fst_it, enc_tm, Option.getD_some, dKey]
theorem p_heap_of {h : DH} {m k : Nat} {us : List (List Int)} {r : List Int → Nat} {s : List Int → Ms (List Int)} {R : List (List Int)} {Q : D → DH → Prop} {X : Exn → DH → Prop} (hT : TbH h) (hm : lstAt h m = some (us.map (itD r))) (hk : 1 ≤ k ∧ k ≤ 3) (g : ∀ t ∈ us, good t ∧ t.length = k)
    (hd : ∀ t ∈ us, h[r t]? = some (.dct false (encM tm (s t)))) (hs : ∀ t ∈ us, ∀ p ∈ s t, p.1 ∈ R) (nds : ∀ t ∈ us, nd (s t)) (hR : R.length * us.length ≤ 900) (hR' : R.length ≤ 900) (q : ∀ g, HpAt (h ++ g) h.length (h.length + 1) k (hsum s (us.mergeSort lexB)) → Q (.ref h.length) (h ++ g)) : (F_heap_of [.ref m, .int (k : Nat)] h).wp Q X := by
  unfold F_heap_of B_heap_of
  simp [wp_run]
  have i0 := e_init0 (h := h) (a := h.length) (x := .tup []) (ds := []) (s := k) rfl (.inl rfl) hk (by simp) (by simp)
  simp [i0]
  have hT' : TbH (h ++ [OD.ins "Heap" (hpF k (h.length + 1)), .dct false (encM kyD (foldS [] []))]) := hT.more
  rw [seq_nx]; simp [hT', lstAt_more hm]
  refine ⟨fun t ht => okF_it (g t ht).1, ?_⟩
  rw [srtF_it]
  have gq : ∀ t ∈ us.mergeSort lexB, t ∈ us := fun t ht => List.mem_mergeSort.mp ht
  have lq : (us.mergeSort lexB).length = us.length := List.length_mergeSort us
  generalize us.mergeSort lexB = qs at q gq lq
  have hsR : ∀ i, ∀ t ∈ qs.take i, ∀ p ∈ s t, p.1 ∈ R := fun i t ht => hs t (gq t (List.mem_of_mem_take ht))
  have hlen : ∀ i, (hsum s (qs.take i)).length ≤ 900 := fun i => by
    have h1 := hsum_len (hsR i)
    have h2 : (qs.take i).length ≤ us.length := by rw [List.length_take, lq]; omega
    exact Nat.le_trans h1 (Nat.le_trans (Nat.mul_le_mul_left _ h2) hR)
  refine loop_inv (fun i env h' => (∃ e3 e4 e5 e6 e7, env = [some (.ref m), some (.int (k : Nat)), some (.ref h.length), e3, e4, e5, e6, e7]) ∧ ∃ g', h' = h ++ [OD.ins "Heap" (hpF k (h.length + 1)), .dct false (encM kyD (hsum s (qs.take i)))] ++ g') ⟨⟨_, _, _, _, _, rfl⟩, [], by simp [hsum, foldS]⟩ (fun _ _ _ _ => rfl) (fun i x env h' hx I => ?_) (fun env h' I => ?_)
  · obtain ⟨⟨e3, e4, e5, e6, e7, rfl⟩, g', rfl⟩ := I
    obtain ⟨t, ht, rfl⟩ := at_map hx
    have tu := gq t (List.mem_of_getElem? ht)
    obtain ⟨gt, tk⟩ := g t tu
    have hdt := hd t tu
    have lt := (List.getElem?_eq_some_iff.mp hdt).1
    have nx : hsum s (qs.take (i + 1)) = stepM (hsum s (qs.take i)) t (s t) := by
      rw [List.take_succ, ht]; exact hsum_snoc
    have l0 := hlen i
    have l1 := hlen (i + 1)
    rw [nx] at l1 ⊢
    obtain ⟨n0, z0⟩ := hsum_ok (s := s) (qs := qs.take i)
    have kM := hsum_keys (hsR i)
    have st := hs t tu
    have ns := nds t tu
    generalize hsum s (qs.take i) = M at *
    generalize s t = sv at *
    have H0 : HpAt (h ++ [OD.ins "Heap" (hpF k (h.length + 1)), .dct false (encM kyD M)] ++ g') h.length (h.length + 1) k M := HpAt.more ⟨by simp, by simp⟩
    have D0 : (h ++ [OD.ins "Heap" (hpF k (h.length + 1)), .dct false (encM kyD M)] ++ g')[r t]? = some (.dct false (encM tm sv)) := by
      rw [List.append_assoc, List.getElem?_append_left lt]; exact hdt
    have SB : ∀ o : OD, (h ++ [OD.ins "Heap" (hpF k (h.length + 1)), .dct false (encM kyD M)] ++ g').set (h.length + 1) o = h ++ [OD.ins "Heap" (hpF k (h.length + 1)), o] ++ g' := fun o => by simp
    have SH := SB (.dct false (encM kyD M))
    generalize h ++ [OD.ins "Heap" (hpF k (h.length + 1)), .dct false (encM kyD M)] ++ g' = hh at H0 D0 SB SH ⊢
    have gM : ∀ p ∈ M, p.1.2.length = t.length := fun p hp => (g _ (gq _ (List.mem_of_mem_take (kM p hp).2))).2.trans tk.symm
    have es := e_sum_at H0 gM (by have := gt.2.1; omega) (by omega)
    have lr : r t < hh.length := (List.getElem?_eq_some_iff.mp D0).1
    have nb : r t ≠ h.length + 1 := by omega
    have na : r t ≠ h.length := by omega
    simp [itD]
    simp [H0.obj, es]
    rw [seq_nx]; simp
    rw [loVar_E (m := r t) rfl]
    have D1 : dctAt (hh ++ [OD.dct false (encM tm (foldS [] (rowsAt M t)))]) (r t) = some (false, encM tm sv) := dctAt_of (by rw [List.getElem?_append_left lr]; exact D0)
    simp [D1]
    rw [List.set_append_left _ _ lr]
    have D2 : ∀ g : DH, dctAt (hh.set (r t) (.dct true (encM tm sv)) ++ g) (r t) = some (true, encM tm sv) := fun g => dctAt_of (by rw [List.getElem?_append_left (by simpa using lr)]; simp [lr])
    rw [D2]
    simp
    have em : ∀ ms : Ms (List Int), (encM tm ms).map (fun p => D.tup [p.1, p.2]) = ms.map fun p => .tup [tm p.1, .int p.2] := fun ms => by simp [encM]
    rw [em]
    have hl : ∀ l : Ms (List Int), (∀ p ∈ l, p ∈ sv) → (hereM M t l).length ≤ 900 := fun l hl => by
      refine Nat.le_trans (nd_len hereM_ok.1 (L := R) fun p hp => ?_) hR'
      obtain ⟨w, hw, ew⟩ := hereM_ok.key hp
      rw [← ew]
      rcases List.mem_append.mp hw with hw | hw
      · obtain ⟨v, hv, rfl⟩ := List.mem_map.mp hw
        exact (kM v (List.mem_filter.mp hv).1).1
      · obtain ⟨v, hv, rfl⟩ := List.mem_map.mp hw
        exact st v (hl v hv)
    refine loop_inv (fun j env h' => (∃ e6 e7, env = [some (.ref m), some (.int (k : Nat)), some (.ref h.length), some (tm t), some (.ref (r t)), some (.ref hh.length), e6, e7]) ∧ h' = hh.set (r t) (.dct true (encM tm sv)) ++ [.dct false (encM tm (hereM M t (sv.take j)))]) ⟨⟨_, _, rfl⟩, by simp [hereM, negM, foldS]⟩ (fun _ _ _ _ => rfl) (fun j x env h' hx I => ?_) (fun env h' I => ?_)
    · obtain ⟨⟨e6, e7, rfl⟩, rfl⟩ := I
      obtain ⟨p, hp, rfl⟩ := at_map hx
      have nx2 : hereM M t (sv.take (j + 1)) = addS (hereM M t (sv.take j)) p.1 (-p.2) := by
        rw [List.take_succ, hp]
        unfold hereM negM
        rw [List.map_append]
        exact foldS_snoc (p := (p.1, -p.2))
      rw [nx2]
      have l2 := hl (sv.take j) fun p hp => List.mem_of_mem_take hp
      generalize hereM M t (sv.take j) = fs at l2
      simp
      have q2 := e_added (n := hh.length) (h := hh.set (r t) (.dct true (encM tm sv)) ++ [.dct false (encM tm fs)]) (ms := fs) (k := p.1) (c := -p.2) ek_tm (dctAt_of (by rw [List.getElem?_append_right (by simp)]; simp)) (by omega)
      simp [q2]
    · obtain ⟨⟨e6, e7, rfl⟩, rfl⟩ := I
      simp
      rw [unlk_app D0]
      simp
      rw [seq_nx]
      simp
      rw [loVar_E (m := hh.length) rfl]
      have lS := hl sv fun p hp => hp
      have kH : ∀ p ∈ hereM M t sv, p.1 ∈ R := fun p hp => by
        obtain ⟨w, hw, ew⟩ := hereM_ok.key hp
        rw [← ew]
        rcases List.mem_append.mp hw with hw | hw
        · obtain ⟨v, hv, rfl⟩ := List.mem_map.mp hw
          exact (kM v (List.mem_filter.mp hv).1).1
        · obtain ⟨v, hv, rfl⟩ := List.mem_map.mp hw
          exact st v hv
      have est : stepM M t sv = foldS M (atT t (hereM M t sv)) := rfl
      rw [est]
      generalize hereM M t sv = here at lS kH ⊢
      simp
      rw [em]
      have ml : ∀ l : Ms (List Int), (∀ p ∈ l, p ∈ here) → (foldS M (atT t l)).length ≤ 900 := fun l hl => by
        obtain ⟨f1, f2, f3⟩ := foldS_ok (ds := atT t l) n0 z0
        have RR : Rep (foldS M (atT t l)) (M ++ atT t l) := ⟨f1, f2, fun f => by rw [f3, sm_app]⟩
        refine Nat.le_trans (nd_len f1 (L := pairsL R us) fun p hp => ?_) (by rw [pairsL_len]; exact hR)
        obtain ⟨w, hw, ew⟩ := RR.key hp
        rw [← ew]
        rcases List.mem_append.mp hw with hw | hw
        · obtain ⟨k1, k2⟩ := kM w hw
          exact List.mem_flatMap.mpr ⟨w.1.1, k1, List.mem_map.mpr ⟨w.1.2, gq _ (List.mem_of_mem_take k2), rfl⟩⟩
        · obtain ⟨v, hv, rfl⟩ := List.mem_map.mp hw
          exact List.mem_flatMap.mpr ⟨v.1, kH v (hl v hv), List.mem_map.mpr ⟨t, tu, rfl⟩⟩
      refine loop_inv (fun j env h' => (∃ e6 e7, env = [some (.ref m), some (.int (k : Nat)), some (.ref h.length), some (tm t), some (.ref (r t)), some (.ref hh.length), e6, e7]) ∧ h' = hh.set (h.length + 1) (.dct false (encM kyD (foldS M (atT t (here.take j))))) ++ [.dct true (encM tm here)]) ⟨⟨_, _, rfl⟩, by simp [atT, foldS]; exact SH.symm⟩ (fun _ _ _ _ => rfl) (fun j x env h' hx I => ?_) (fun env h' I => ?_)
      · obtain ⟨⟨e6, e7, rfl⟩, rfl⟩ := I
        obtain ⟨p, hp, rfl⟩ := at_map hx
        have nx2 : foldS M (atT t (here.take (j + 1))) = addS (foldS M (atT t (here.take j))) (p.1, t) (-p.2) := by
          rw [List.take_succ, hp]
          unfold atT
          rw [List.map_append]
          exact foldS_snoc (p := ((p.1, t), -p.2))
        rw [nx2]
        have l2 := ml (here.take j) fun p hp => List.mem_of_mem_take hp
        generalize foldS M (atT t (here.take j)) = N at l2
        have H2 : HpAt (hh.set (h.length + 1) (.dct false (encM kyD N)) ++ [.dct true (encM tm here)]) h.length (h.length + 1) k N := H0.set.more
        have q2 := e_put_in (p := ((p.1, t), -p.2)) H2 (by omega)
        simp [trD] at q2
        simp
        simp [H2.obj, q2]
        refine ⟨by simp [small], ?_⟩
        rw [List.set_append_left _ _ (by simpa using H0.bl)]
        simp
      · obtain ⟨⟨e6, e7, rfl⟩, rfl⟩ := I
        simp
        rw [unlk_of (kvs := encM tm here) (dctAt_of (by rw [List.getElem?_append_right (by simp)]; simp))]
        simp
        rw [SB]
        exact ⟨g' ++ [.dct false (encM tm here)], by simp⟩
  · obtain ⟨⟨e3, e4, e5, e6, e7, rfl⟩, g', rfl⟩ := I
    rw [seq_nx]; simp
    exact q (OD.ins "Heap" (hpF k (h.length + 1)) :: .dct false (encM kyD (hsum s qs)) :: g') ⟨by simp, by simp⟩
/-! ### the law's own box and corner -/
def boxL (top : Nat) : Nat → List (List Int)
  | 0 => [[]]
  | n + 1 => (boxL top n).flatMap fun t => (List.range top).map fun c : Nat => t ++ [(c : Int)]
theorem cnt_mapN {n : Nat} : cnt 0 n = (List.range n).map fun i : Nat => D.int i := by
  unfold cnt
  simp
theorem lst_ltB {h : DH} {n : Nat} {ds : List D} (e : lstAt h n = some ds) : n < h.length := (List.getElem?_eq_some_iff.mp (lstAt_iff.mp e)).1
theorem boxL_len {top : Nat} : ∀ {n : Nat}, (boxL top n).length = top ^ n
  | 0 => rfl
  | n + 1 => by
    show ((boxL top n).flatMap _).length = _
    rw [List.length_flatMap, Nat.pow_succ, ← boxL_len (n := n)]
    simp
    induction boxL top n with
    | nil => simp
    | cons a l ih => simp [List.replicate_succ, ih]; rw [Nat.add_mul]; omega
theorem boxL_el {top : Nat} : ∀ {n : Nat}, ∀ u ∈ boxL top n, u.length = n
  | 0, u, h => by simp [boxL] at h; simp [h]
  | n + 1, u, h => by
    obtain ⟨t, ht, hu⟩ := List.mem_flatMap.mp h
    obtain ⟨c, _, rfl⟩ := List.mem_map.mp hu
    simp [boxL_el t ht]
theorem p_boxT {s top : Nat} {h : DH} {Q : D → DH → Prop} {X : Exn → DH → Prop} (hs : s ≤ 3) (ht : top ≤ 6) (q : ∀ (n : Nat) (g : DH), lstAt (h ++ g) n = some ((boxL top s).map tm) → Q (.ref n) (h ++ g)) : (F__law_box [.int (s : Nat), .int (top : Nat)] h).wp Q X := by
  unfold F__law_box B__law_box
  simp [wp_run]
  refine ⟨by simp [small], by simp [small], ?_⟩
  rw [seq_nx]; simp
  refine ⟨big_ok (by omega) (by omega), ?_⟩
  have bl : ∀ i, i ≤ 3 → (boxL top i).length ≤ 216 := fun i hi => by
    rw [boxL_len]
    exact Nat.le_trans (Nat.pow_le_pow_left ht i) (Nat.pow_le_pow_right (by decide) hi)
  refine loop_inv (fun i env h' => ∃ e2 e3 e4 e5 g n, env = [some (.int (s : Nat)), some (.int (top : Nat)), some (.ref n), e2, e3, e4, e5] ∧ h' = h ++ g ∧ lstAt h' n = some ((boxL top i).map tm)) ⟨_, _, _, _, [.lst [tm []]], h.length, rfl, rfl, by simp [tm, boxL]⟩ (fun _ _ _ _ => rfl) (fun i x env h' hx I => ?_) (fun env h' I => ?_)
  · obtain ⟨e2, e3, e4, e5, g, n, rfl, rfl, hn⟩ := I
    obtain ⟨hi, rfl⟩ := cnt_at hx
    have b1 := bl i (by omega)
    have b2 := bl (i + 1) (by omega)
    have bx : boxL top (i + 1) = (boxL top i).flatMap fun t => (List.range top).map fun c : Nat => t ++ [(c : Int)] := rfl
    have be := boxL_el (top := top) (n := i)
    rw [bx] at b2 ⊢
    generalize boxL top i = us at *
    simp
    refine ⟨by simp [small], ?_⟩
    rw [seq_nx]; simp
    have hn' : ∀ g', lstAt (h ++ (g ++ g')) n = some (us.map tm) := fun g' => by rw [← List.append_assoc]; exact lstAt_more hn
    simp [hn']
    refine loop_inv (fun j env h' => ∃ e2 e4 e5 g2 m, env = [some (.int (s : Nat)), some (.int (top : Nat)), some (.ref n), e2, some (.ref m), e4, e5] ∧ h' = h ++ (g ++ g2) ∧ lstAt h' m = some (((us.take j).flatMap fun t => (List.range top).map fun c : Nat => t ++ [(c : Int)]).map tm)) ⟨some (.int (i : Nat)), e4, e5, [.lst []], (h ++ g).length, by simp, rfl, by rw [← List.append_assoc]; simp⟩ (fun j env h' I => ?_) (fun j x env h' hx I => ?_) (fun env h' I => ?_)
    · obtain ⟨e2, e4, e5, g2, m, rfl, rfl, hm⟩ := I
      rw [live_ref, ← List.append_assoc, List.getElem?_append_left (lst_ltB hn), ← List.append_assoc, List.getElem?_append_left (lst_ltB hn)]
    · obtain ⟨e2, e4, e5, g2, m, rfl, rfl, hm⟩ := I
      obtain ⟨u, hu2, rfl⟩ := at_tm hx
      have hj := (List.getElem?_eq_some_iff.mp hu2).1
      have lu := be u (List.mem_of_getElem? hu2)
      have nx : ((us.take (j + 1)).flatMap fun t => (List.range top).map fun c : Nat => t ++ [(c : Int)]) = ((us.take j).flatMap fun t => (List.range top).map fun c : Nat => t ++ [(c : Int)]) ++ (List.range top).map fun c : Nat => u ++ [(c : Int)] := by
        rw [List.take_succ, hu2]; simp
      have lv : ((us.take j).flatMap fun t => (List.range top).map fun c : Nat => t ++ [(c : Int)]).length ≤ 216 := by
        rw [show us = us.take j ++ us.drop j from (List.take_append_drop j us).symm, List.flatMap_append, List.length_append] at b2
        omega
      rw [nx]
      generalize ((us.take j).flatMap fun t => (List.range top).map fun c : Nat => t ++ [(c : Int)]) = vs at *
      simp
      refine ⟨big_ok (by omega) (by omega), ?_⟩
      rw [cnt_mapN]
      refine lc_map (fun x => tm (u ++ [unI x])) rfl (by simp; omega) rfl (fun x hx => ?_) ?_
      · obtain ⟨c, hc, rfl⟩ := List.mem_map.mp hx
        simp [tm, unI]
        exact ⟨by simp [small], small_ok (by omega)⟩
      · have e5' : List.map (fun x => tm (u ++ [unI x])) (List.map (fun i : Nat => D.int i) (List.range top)) = ((List.range top).map fun c : Nat => u ++ [(c : Int)]).map tm := by simp [unI]
        rw [e5', hm]
        simp
        refine ⟨small_ok (by omega), e2, some (tm u), e5, g2 ++ [.lst ((vs ++ (List.range top).map fun c : Nat => u ++ [(c : Int)]).map tm)], h.length + (g.length + g2.length), by simp, by simp, ?_⟩
        rw [← List.append_assoc, ← List.append_assoc, show h.length + (g.length + g2.length) = (h ++ g ++ g2).length by simp [Nat.add_assoc]]
        refine lstAt_of ?_
        rw [List.getElem?_append_right (Nat.le_refl _)]
        simp
    · obtain ⟨e2, e4, e5, g2, m, rfl, rfl, hm⟩ := I
      rw [seq_nx]; simp
      rw [List.length_map, List.take_length] at hm
      exact ⟨e2, some (.ref m), e4, e5, g ++ g2, m, ⟨rfl, rfl, rfl, rfl, rfl⟩, rfl, hm⟩
  · obtain ⟨e2, e3, e4, e5, g, n, rfl, rfl, hn⟩ := I
    rw [seq_nx]; simp
    rw [cnt_len] at hn
    exact q n g hn
/-! ### the corner -/
def kvR (B : List (List Int)) (r : List Int → Nat) : List (D × D) := B.map fun u => (tm u, .ref (r u))
theorem kvR_tup {B : List (List Int)} {r : List Int → Nat} : tupKs (kvR B r) = true := by
  unfold tupKs kvR
  rw [List.all_map, List.all_eq_true]
  intro u _
  exact ek_tm.tup u
theorem kvR_get {r : List Int → Nat} {u : List Int} : ∀ {B : List (List Int)}, u ∈ B → dget (kvR B r) (tm u) = some (.ref (r u))
  | v :: B, h => by
    show ((((tm v, D.ref (r v)) :: kvR B r).find? _).map _) = _
    rw [List.find?_cons]
    by_cases z : v = u
    · subst z
      simp
    · have : decide (nk (tm v) = nk (tm u)) = false := decide_eq_false fun e => z ((ek_iff ek_tm).mp e)
      rw [this]
      exact kvR_get (by
        rcases List.mem_cons.mp h with q | q
        · exact (z q.symm).elim
        · exact q)
theorem getD_at {t : List Int} {j : Nat} (hj : j < t.length) : atI (t.map D.int) (j : Int) = some (.int (t.getD j 0)) := by
  rw [atI_nat, List.getElem?_map, List.getElem?_eq_getElem hj]
  simp [List.getD, List.getElem?_eq_getElem hj]
theorem min_nn {i : Int} {is : List Int} : (0 ≤ minL i is) ↔ ((i :: is).all fun x => decide (0 ≤ x)) = true := by
  obtain ⟨h1, h2, h3⟩ := minL_ok is i
  rw [List.all_eq_true]
  constructor
  · intro h x hx
    rcases List.mem_cons.mp hx with z | z
    · rw [z]; exact decide_eq_true (by omega)
    · have := h3 x z; exact decide_eq_true (by omega)
  · intro h
    rcases h1 with z | z
    · rw [z]; exact of_decide_eq_true (h i (by simp))
    · exact of_decide_eq_true (h _ (by simp [z]))
theorem sum_ints {h : DH} {bs : List Int} : fSum (.l (bs.map .int)) h = .ok (.int bs.sum) h := by
  have : ∀ {bs : List Int}, mapO intOf (bs.map .int) = some bs := fun {bs} => by
    induction bs with
    | nil => rfl
    | cons b bs ih => rw [List.map_cons, mapO_cons, ih]; rfl
  unfold fSum
  simp [DM.aslst, this]
theorem minT_ints {h : DH} {i : Int} {is : List Int} : fMinT (.v (.tup ((i :: is).map .int))) h = .ok (.int (minL i is)) h := by
  have : ∀ {bs : List Int}, mapO intOf (bs.map .int) = some bs := fun {bs} => by
    induction bs with
    | nil => rfl
    | cons b bs ih => rw [List.map_cons, mapO_cons, ih]; rfl
  unfold fMinT
  simp only [this]
theorem e_corner {h : DH} {n : Nat} {lk : Bool} {B : List (List Int)} {r : List Int → Nat} {s : List Int → Ms (List Int)} {t row : List Int} (hn : dctAt h n = some (lk, kvR B r)) (hd : ∀ u ∈ B, dctAt h (r u) = some (false, encM tm (s u))) (gt : good t) (hb : ∀ u ∈ B, (av (s u) row).natAbs ≤ 1000)
    (cl : ∀ w, w < 2 ^ t.length → ((lowT t w).all fun x => decide (0 ≤ x)) = true → lowT t w ∈ B) : F__law_corner [.ref n, tm t, tm row] h = .ok (.int (cornerV (fun u => av (s u) row) t)) h := by
  obtain ⟨g1, g2, _⟩ := gt
  apply eq_of_wp
  unfold F__law_corner B__law_corner
  simp [wp_run]
  rw [seq_nx]; simp
  have p8 : 2 ^ t.length ≤ 8 := Nat.le_trans (Nat.pow_le_pow_right (by decide) g2) (by decide)
  have e8 : ((2 : Int) ^ t.length).toNat = 2 ^ t.length := by
    rw [show (2 : Int) ^ t.length = ((2 ^ t.length : Nat) : Int) by push_cast; rfl]
    exact Int.toNat_natCast _
  have b8 : (2 : Int) ^ t.length = ((2 ^ t.length : Nat) : Int) := by push_cast; rfl
  refine ⟨by simp [okPow]; omega, by rw [b8]; exact big_ok (by omega) (by omega), ?_⟩
  rw [e8]
  refine loop_inv (fun i env h' => (∃ e4 e5 e6 e7, env = [some (.ref n), some (tm t), some (tm row), some (.int (((List.range i).map fun w => sgnW t.length w * valT (fun u => av (s u) row) (lowT t w)).sum)), e4, e5, e6, e7]) ∧ h' = h) ⟨⟨_, _, _, _, rfl⟩, rfl⟩ (fun _ _ _ _ => rfl) (fun i x env h' hx I => ?_) (fun env h' I => ?_)
  · obtain ⟨⟨e4, e5, e6, e7, rfl⟩, rfl⟩ := I
    obtain ⟨hi, rfl⟩ := cnt_at hx
    have nx : ((List.range (i + 1)).map fun w => sgnW t.length w * valT (fun u => av (s u) row) (lowT t w)).sum = ((List.range i).map fun w => sgnW t.length w * valT (fun u => av (s u) row) (lowT t w)).sum + sgnW t.length i * valT (fun u => av (s u) row) (lowT t i) := by
      rw [List.range_succ]; simp
    rw [nx]
    generalize ((List.range i).map fun w => sgnW t.length w * valT (fun u => av (s u) row) (lowT t w)).sum = tot
    simp
    refine ⟨big_ok (by omega) (by omega), ?_⟩
    rw [cnt_mapN]
    refine lc_mapA (as := List.range t.length) (k := fun i : Nat => D.int i) (fun j => .int (t.getD j 0 - bitW i j)) rfl (by simp; omega) (fun j hj => ?_) ?_
    · simp [tm, getD_at (List.mem_range.mp hj), bitW]
    have el : (List.range t.length).map (fun j => D.int (t.getD j 0 - bitW i j)) = (lowT t i).map .int := by simp [lowT]
    rw [el]
    rw [seq_nx]; simp
    refine ⟨big_ok (by omega) (by omega), ?_⟩
    rw [cnt_mapN]
    refine lc_mapA (as := List.range t.length) (k := fun i : Nat => D.int i) (fun j => .int (bitW i j)) rfl (by simp; omega) (fun j hj => ?_) ?_
    · simp [bitW]
    have eb : (List.range t.length).map (fun j => D.int (bitW i j)) = ((List.range t.length).map (bitW i)).map .int := by simp
    rw [eb]
    have sg : 1 - 2 * (((List.range t.length).map (bitW i)).sum % 2) = sgnW t.length i := rfl
    generalize (List.range t.length).map (bitW i) = bs at sg ⊢
    simp [sum_ints, sg]
    have sgv : sgnW t.length i = 1 ∨ sgnW t.length i = -1 := by
      rw [← sg]
      rcases Int.emod_two_eq bs.sum with z | z <;> rw [z]
      · exact .inl rfl
      · exact .inr rfl
    refine ⟨mod_ok (by decide), by rcases Int.emod_two_eq bs.sum with z | z <;> rw [z] <;> decide, ?_⟩
    rw [seq_nx]; simp
    obtain ⟨x0, xs, ex⟩ : ∃ x0 xs, lowT t i = x0 :: xs := by
      cases e : lowT t i with
      | nil => have := congrArg List.length e; simp [lowT] at this; subst this; simp at g1
      | cons x xs => exact ⟨x, xs, rfl⟩
    have cl := cl i hi
    have vv : valT (fun u => av (s u) row) (lowT t i) = if 0 ≤ minL x0 xs then av (s (lowT t i)) row else 0 := by
      unfold valT
      rw [ex]
      by_cases z : 0 ≤ minL x0 xs
      · rw [if_pos z, if_pos (min_nn.mp z)]
      · rw [if_neg z, if_neg fun q => z (min_nn.mpr q)]
    rw [vv]
    have mt : ∀ h, fMinT (.v (.tup ((lowT t i).map .int))) h = .ok (.int (minL x0 xs)) h := fun h => by rw [ex]; exact minT_ints
    simp [mt]
    by_cases z : 0 ≤ minL x0 xs
    · have iB := cl (by rw [ex]; exact min_nn.mp z)
      have db := hb _ iB
      have dd := hd _ iB
      have tt : (D.tup ((lowT t i).map .int)) = tm (lowT t i) := rfl
      simp only [tt]
      generalize lowT t i = u at *
      simp [z, hn, kvR_tup, ek_tm.tup u, kvR_get iB]
      simp [dd, tupKs_enc ek_tm, ek_tm.tup row, dget_enc ek_tm, av_D]
      refine ⟨mul_ok ?_ ?_, rfl⟩
      · rcases sgv with q | q <;> rw [q] <;> decide
      · exact Nat.lt_of_le_of_lt db (by decide)
    · simp [z]
  · obtain ⟨⟨e4, e5, e6, e7, rfl⟩, rfl⟩ := I
    rw [seq_nx]; simp
    rfl
/-! ### what is shown of dicts -/
theorem tup_len {ts : List Str} {N : Nat} (h : ∀ t ∈ ts, t.length ≤ N) : piled ts ≤ (N + 2) * ts.length := by
  induction ts with
  | nil => simp [piled]
  | cons t ts ih =>
    have h1 := h t (by simp)
    have h2 := ih fun u hu => h u (by simp [hu])
    have e : piled (t :: ts) = t.length + 2 + piled ts := by simp [piled]
    rw [e, List.length_cons, Nat.mul_succ]
    omega
theorem tuple_len {ts : List Str} {N : Nat} (h : ∀ t ∈ ts, t.length ≤ N) : (tupleText ts).length ≤ (N + 2) * ts.length + 3 := by
  have h1 := tup_len h
  have e1 : (("(" : String) : Str).length = 1 := rfl
  unfold tupleText
  rw [strLen_append, strLen_append, e1]
  have e2 : (((if ts.length == 1 then ",)" else ")" : String)) : Str).length ≤ 2 := by split <;> decide
  by_cases z : ts = []
  · subst z
    have e3 : (Str.join ", " []).length = 0 := rfl
    rw [e3]
    omega
  · have h2 := join_length_add ts z
    omega
theorem dict_len {ts : List Str} {N : Nat} (h : ∀ t ∈ ts, t.length ≤ N) : (dictText ts).length ≤ (N + 2) * ts.length + 2 := by
  have h1 := tup_len h
  have e1 : (("{" : String) : Str).length = 1 := rfl
  have e2 : (("}" : String) : Str).length = 1 := rfl
  unfold dictText
  rw [strLen_append, strLen_append, e1, e2]
  by_cases z : ts = []
  · subst z
    have e3 : (Str.join ", " []).length = 0 := rfl
    rw [e3]
    omega
  · have h2 := join_length_add ts z
    omega
def sI (i : Int) : Prop := -9 ≤ i ∧ i ≤ 9
theorem int_len {i : Int} (h : sI i) : (PyData.shown (.int i)).length ≤ 2 := by
  obtain ⟨h1, h2⟩ := h
  have : i = -9 ∨ i = -8 ∨ i = -7 ∨ i = -6 ∨ i = -5 ∨ i = -4 ∨ i = -3 ∨ i = -2 ∨ i = -1 ∨ i = 0 ∨ i = 1 ∨ i = 2 ∨ i = 3 ∨ i = 4 ∨ i = 5 ∨ i = 6 ∨ i = 7 ∨ i = 8 ∨ i = 9 := by omega
  rcases this with rfl | rfl | rfl | rfl | rfl | rfl | rfl | rfl | rfl | rfl | rfl | rfl | rfl | rfl | rfl | rfl | rfl | rfl | rfl <;> decide +kernel
theorem int_ok {i : Int} (h : sI i) : (PyData.int i).showable = true := by
  obtain ⟨h1, h2⟩ := h
  have : i.natAbs < 2 ^ 4 := by omega
  simp only [PyData.showable, decide_eq_true_eq]
  by_cases z : i.natAbs = 0
  · rw [z]; decide
  · have := (Nat.log2_lt z).mpr this
    omega
theorem shownAll_map : ∀ {xs : List PyData}, PyData.shownAll xs = xs.map PyData.shown
  | [] => rfl
  | x :: xs => by simp only [PyData.shownAll, List.map_cons, shownAll_map]
theorem shownKv_map : ∀ {kvs : List (PyData × PyData)}, PyData.shownKv kvs = kvs.map fun p => PyData.shown p.1 ++ ": " ++ PyData.shown p.2
  | [] => rfl
  | (k, v) :: r => by simp only [PyData.shownKv, List.map_cons, shownKv_map]
theorem showAll_map : ∀ {xs : List PyData}, (∀ x ∈ xs, x.showable = true) → PyData.showableAll xs = true
  | [], _ => rfl
  | x :: xs, h => by
    simp only [PyData.showableAll, Bool.and_eq_true]
    exact ⟨h x (by simp), showAll_map fun y hy => h y (by simp [hy])⟩
theorem showKv_map : ∀ {kvs : List (PyData × PyData)}, (∀ p ∈ kvs, p.1.showable = true ∧ p.2.showable = true) → PyData.showableKv kvs = true
  | [], _ => rfl
  | (k, v) :: r, h => by
    simp only [PyData.showableKv, Bool.and_eq_true]
    exact ⟨h (k, v) (by simp), showKv_map fun y hy => h y (by simp [hy])⟩
theorem depthAll_le {n : Nat} : ∀ {xs : List PyData}, (∀ x ∈ xs, x.depth ≤ n) → PyData.depthAll xs ≤ n
  | [], _ => by simp [PyData.depthAll]
  | x :: xs, h => by
    have := depthAll_le (n := n) (xs := xs) fun y hy => h y (by simp [hy])
    have := h x (by simp)
    simp only [PyData.depthAll]
    omega
theorem depthKv_le {n : Nat} : ∀ {xs : List (PyData × PyData)}, (∀ x ∈ xs, x.1.depth ≤ n ∧ x.2.depth ≤ n) → PyData.depthKv xs ≤ n
  | [], _ => by simp [PyData.depthKv]
  | (a, b) :: xs, h => by
    have := depthKv_le (n := n) (xs := xs) fun y hy => h y (by simp [hy])
    obtain ⟨h1, h2⟩ := h (a, b) (by simp)
    dsimp only at h1 h2
    simp only [PyData.depthKv]
    omega
/-- a tuple of a few small numbers -/
def sT (t : List Int) : Prop := t.length ≤ 3 ∧ ∀ x ∈ t, sI x
theorem tp_ok {t : List Int} (h : sT t) : (tp t).showable = true ∧ (tp t).depth ≤ 1 ∧ (tp t).shown.length ≤ 15 := by
  obtain ⟨h1, h2⟩ := h
  refine ⟨?_, ?_, ?_⟩
  · simp only [tp, PyData.showable]
    refine showAll_map fun x hx => ?_
    obtain ⟨i, hi, rfl⟩ := List.mem_map.mp hx
    exact int_ok (h2 i hi)
  · have := depthAll_le (n := 0) (xs := t.map .int) fun x hx => by
      obtain ⟨i, hi, rfl⟩ := List.mem_map.mp hx
      simp [PyData.depth]
    simp only [tp, PyData.depth]
    omega
  · simp only [tp, PyData.shown, shownAll_map]
    have := tuple_len (ts := (t.map PyData.int).map PyData.shown) (N := 2) fun x hx => by
      obtain ⟨y, hy, rfl⟩ := List.mem_map.mp hx
      obtain ⟨i, hi, rfl⟩ := List.mem_map.mp hy
      exact int_len (h2 i hi)
    simp only [List.length_map] at this
    omega
def enS (m : Ms (List Int)) : PyData := .dict (m.map fun q => (tp q.1, .int q.2))
theorem enS_ok {m : Ms (List Int)} (hl : m.length ≤ 10) (h : ∀ q ∈ m, sT q.1 ∧ sI q.2) : (enS m).showable = true ∧ (enS m).depth ≤ 2 ∧ (enS m).shown.length ≤ 212 := by
  refine ⟨?_, ?_, ?_⟩
  · simp only [enS, PyData.showable]
    refine showKv_map fun x hx => ?_
    obtain ⟨q, hq, rfl⟩ := List.mem_map.mp hx
    exact ⟨(tp_ok (h q hq).1).1, int_ok (h q hq).2⟩
  · have := depthKv_le (n := 1) (xs := m.map fun q => (tp q.1, PyData.int q.2)) fun x hx => by
      obtain ⟨q, hq, rfl⟩ := List.mem_map.mp hx
      exact ⟨(tp_ok (h q hq).1).2.1, by simp [PyData.depth]⟩
    simp only [enS, PyData.depth]
    omega
  · simp only [enS, PyData.shown, shownKv_map]
    have := dict_len (ts := (m.map fun q => (tp q.1, PyData.int q.2)).map fun p => PyData.shown p.1 ++ ": " ++ PyData.shown p.2) (N := 19) fun x hx => by
      obtain ⟨y, hy, rfl⟩ := List.mem_map.mp hx
      obtain ⟨q, hq, rfl⟩ := List.mem_map.mp hy
      have h1 := (tp_ok (h q hq).1).2.2
      have h2 := int_len (h q hq).2
      have e : ((": " : String) : Str).length = 2 := rfl
      rw [strLen_append, strLen_append, e]
      dsimp only
      omega
    simp only [List.length_map] at this
    omega
def enB (B : List (List Int)) (s : List Int → Ms (List Int)) : PyData := .dict (B.map fun u => (tp u, enS (s u)))
theorem enB_ok {B : List (List Int)} {s : List Int → Ms (List Int)} (hl : B.length ≤ 100) (h : ∀ u ∈ B, sT u ∧ (s u).length ≤ 10 ∧ ∀ q ∈ s u, sT q.1 ∧ sI q.2) : (enB B s).showable = true ∧ (enB B s).depth ≤ 60 ∧ (enB B s).shown.length ≤ sizeLine := by
  refine ⟨?_, ?_, ?_⟩
  · simp only [enB, PyData.showable]
    refine showKv_map fun x hx => ?_
    obtain ⟨u, hu, rfl⟩ := List.mem_map.mp hx
    exact ⟨(tp_ok (h u hu).1).1, (enS_ok (h u hu).2.1 (h u hu).2.2).1⟩
  · have := depthKv_le (n := 2) (xs := B.map fun u => (tp u, enS (s u))) fun x hx => by
      obtain ⟨u, hu, rfl⟩ := List.mem_map.mp hx
      exact ⟨Nat.le_trans (tp_ok (h u hu).1).2.1 (by decide), (enS_ok (h u hu).2.1 (h u hu).2.2).2.1⟩
    simp only [enB, PyData.depth]
    omega
  · simp only [enB, PyData.shown, shownKv_map]
    have := dict_len (ts := (B.map fun u => (tp u, enS (s u))).map fun p => PyData.shown p.1 ++ ": " ++ PyData.shown p.2) (N := 229) fun x hx => by
      obtain ⟨y, hy, rfl⟩ := List.mem_map.mp hx
      obtain ⟨u, hu, rfl⟩ := List.mem_map.mp hy
      have h1 := (tp_ok (h u hu).1).2.2
      have h2 := (enS_ok (h u hu).2.1 (h u hu).2.2).2.2
      have e : ((": " : String) : Str).length = 2 := rfl
      rw [strLen_append, strLen_append, e]
      dsimp only
      omega
    simp only [List.length_map] at this
    rw [sizeLine_eq]
    omega
theorem toPyR_tm {h : DH} {n : Nat} {t : List Int} : toPyR h (n + 2) (tm t) = some (tp t) := by
  have : ∀ {t : List Int}, mapO (toPyR h (n + 1)) (t.map .int) = some (t.map .int) := fun {t} => by
    induction t with
    | nil => rfl
    | cons x t ih => rw [List.map_cons, mapO_cons, ih]; rfl
  show (mapO (toPyR h (n + 1)) (t.map .int)).map PyData.tuple = _
  rw [this]; rfl
theorem mapO_all {α β : Type} {f : α → Option β} {g : α → β} : ∀ {l : List α}, (∀ x ∈ l, f x = some (g x)) → mapO f l = some (l.map g)
  | [], _ => rfl
  | x :: l, h => by rw [mapO_cons, h x (by simp), mapO_all fun y hy => h y (by simp [hy])]; rfl
theorem mapO_pr {f : D → Option PyData} {α : Type} {a b : α → D} {x y : α → PyData} : ∀ {l : List α}, (∀ z ∈ l, f (a z) = some (x z) ∧ f (b z) = some (y z)) → mapO (fun p : D × D => (f p.1).bind fun a => (f p.2).map fun b => (a, b)) (l.map fun z => (a z, b z)) = some (l.map fun z => (x z, y z))
  | [], _ => rfl
  | z :: l, h => by
    obtain ⟨h1, h2⟩ := h z (by simp)
    rw [List.map_cons, mapO_cons, mapO_pr fun w hw => h w (by simp [hw])]
    simp [h1, h2]
theorem toPyR_S {h : DH} {n k : Nat} {lk : Bool} {m : Ms (List Int)} (e : dctAt h k = some (lk, encM tm m)) : toPyR h (n + 3) (.ref k) = some (enS m) := by
  unfold toPyR
  dsimp only
  rw [dctAt_iff.mp e]
  dsimp only
  unfold encM enS
  rw [mapO_pr (f := toPyR h (n + 2)) (l := m) (a := fun q => tm q.1) (b := fun q => .int q.2) (x := fun q => tp q.1) (y := fun q => PyData.int q.2) fun q _ => ⟨toPyR_tm, by simp [toPyR]⟩]
  rfl
theorem toPyR_B {h : DH} {n k : Nat} {lk : Bool} {B : List (List Int)} {r : List Int → Nat} {s : List Int → Ms (List Int)} (e : dctAt h k = some (lk, kvR B r)) (hd : ∀ u ∈ B, dctAt h (r u) = some (false, encM tm (s u))) : toPyR h (n + 4) (.ref k) = some (enB B s) := by
  unfold toPyR
  dsimp only
  rw [dctAt_iff.mp e]
  dsimp only
  unfold kvR enB
  rw [mapO_pr (f := toPyR h (n + 3)) (l := B) (a := tm) (b := fun u => .ref (r u)) (x := tp) (y := fun u => enS (s u)) fun u hu => ⟨toPyR_tm, toPyR_S (hd u hu)⟩]
  rfl
theorem e_reprB {h : DH} {k : Nat} {B : List (List Int)} {r : List Int → Nat} {s : List Int → Ms (List Int)} {lk : Bool} (e : dctAt h k = some (lk, kvR B r)) (hd : ∀ u ∈ B, dctAt h (r u) = some (false, encM tm (s u))) (hl : B.length ≤ 100) (ho : ∀ u ∈ B, sT u ∧ (s u).length ≤ 10 ∧ ∀ q ∈ s u, sT q.1 ∧ sI q.2) :
    fReprR (.v (.ref k)) h = .ok (.str (enB B s).shown) h := by
  unfold fReprR
  dsimp only
  rw [toPyR_B (n := 5) e hd]
  dsimp only
  rw [if_pos (enB_ok hl ho)]
/-! ### the law's sums -/
def pT (p : List Int × Int) : D := .tup [tm p.1, .int p.2]
theorem aput_fresh {κ : Type} [DecidableEq κ] {ms : Ms κ} {k : κ} {v : Int} (h : ∀ p ∈ ms, p.1 ≠ k) : aput ms k v = ms ++ [(k, v)] := by
  unfold aput
  rw [aget_none.mpr h]
  rfl
theorem dictL_enc {ms : Ms (List Int)} : ∀ {l : Ms (List Int)}, nd (ms ++ l) → (l.map fun p => (tm p.1, D.int p.2)).foldl (fun a p => dput a p.1 p.2) (encM tm ms) = encM tm (ms ++ l) := fun {l} => by
  induction l generalizing ms with
  | nil => intro _; simp
  | cons p l ih =>
    intro n
    rw [List.map_cons, List.foldl_cons]
    dsimp only
    rw [dput_enc ek_tm, aput_fresh (fun q hq e => ?_)]
    · rw [ih (by rw [List.append_assoc]; exact n), List.append_assoc]
      rfl
    · unfold nd at n
      rw [List.map_append, List.nodup_append] at n
      exact n.2.2 q.1 (List.mem_map.mpr ⟨q, hq, rfl⟩) p.1 (by simp) e
theorem fDictL_enc {h : DH} {l : Ms (List Int)} (n : nd l) : fDictL (.l (l.map pT)) h = .ok (.ref h.length) (h ++ [.dct false (encM tm l)]) := by
  have e1 : mapO unPair (l.map pT) = some (l.map fun p => (tm p.1, D.int p.2)) := by
    clear n
    induction l with
    | nil => rfl
    | cons p l ih => rw [List.map_cons, mapO_cons, ih]; rfl
  have e2 : ((l.map fun p => (tm p.1, D.int p.2)).all fun p => tupK p.1) = true := by
    rw [List.all_map, List.all_eq_true]
    intro p _
    exact ek_tm.tup p.1
  have e3 : dictL (l.map fun p => (tm p.1, D.int p.2)) = encM tm l := by
    have := dictL_enc (ms := []) (l := l) n
    exact this
  unfold fDictL
  simp only [DM.aslst, Option.bind_some, e1, e2, if_true, e3]
theorem kvR_none {r : List Int → Nat} {u : List Int} : ∀ {B : List (List Int)}, u ∉ B → dget (kvR B r) (tm u) = none
  | [], _ => rfl
  | v :: B, h => by
    show ((((tm v, D.ref (r v)) :: kvR B r).find? _).map _) = _
    rw [List.find?_cons]
    have : decide (nk (tm v) = nk (tm u)) = false := decide_eq_false fun e => h (by simp [(ek_iff ek_tm).mp e])
    rw [this]
    exact kvR_none fun q => h (by simp [q])
theorem kvR_put {r : List Int → Nat} {u : List Int} {B : List (List Int)} {m : Nat} (h : u ∉ B) : dput (kvR B r) (tm u) (.ref m) = kvR (B ++ [u]) (fun v => if v = u then m else r v) := by
  unfold dput
  rw [kvR_none h]
  simp only [kvR, List.map_append, List.map_cons, List.map_nil, if_true]
  simp
  intro v hv e
  exact (h (by rw [← e]; exact hv)).elim
theorem kvR_keys {B : List (List Int)} {r : List Int → Nat} : (kvR B r).map (·.1) = B.map tm := by simp [kvR]
theorem kvR_len {B : List (List Int)} {r : List Int → Nat} : (kvR B r).length = B.length := by simp [kvR]
def insertP (d i y : D) (h : DH) (p : DH → Prop) : Prop := match d, i with
  | .ref n, .int k => optP (lstAt h n) fun ds => (0 ≤ k ∧ k < 2 ^ 62 ∧ small (ds.length + 1) = true) ∧ p (h.set n (.lst (ds.take k.toNat ++ [y] ++ ds.drop k.toNat)))
  | _, _ => False
@[simp] theorem insertP_ref {n : Nat} {k : Int} {y : D} {h : DH} {p : DH → Prop} : insertP (.ref n) (.int k) y h p = optP (lstAt h n) fun ds => (0 ≤ k ∧ k < 2 ^ 62 ∧ small (ds.length + 1) = true) ∧ p (h.set n (.lst (ds.take k.toNat ++ [y] ++ ds.drop k.toNat))) := rfl
@[simp] theorem wp_ins {to ti te : DE} {env : En} {h : DH} {Q : D → DH → Prop} {X : Exn → DH → Prop} : (dIns to ti te env h).wp Q X = (to env h).wp (fun d h => optP (asList h d) fun _ => (ti env h).wp (fun i h => (te env h).wp (fun y h => insertP d i y h fun h => Q .non h) X) X) X := by
  simp only [dIns, wp_bind]; congr 1; funext d h
  cases asList h d with
  | none => simp
  | some es =>
    simp only [wp_bind, optP_some]
    congr 1; funext i h; congr 1; funext y h
    cases d with
    | ref n =>
      cases i with
      | int k =>
        simp only [insertP, lstAt]
        cases h[n]? with
        | none => simp
        | some o =>
          cases o with
          | lst ds => simp only [optP_some]; rw [wp_if]
          | _ => simp
      | _ => simp [insertP]
    | _ => simp [insertP]
def rowsR : List (List Int) := [[1], [2], [1, -1]]
/-- what the law's box is -/
structure BoxOk (B : List (List Int)) (s : Nat) : Prop where
  nd : B.Nodup
  el : ∀ u ∈ B, good u ∧ u.length = s ∧ ∀ x ∈ u, x ≤ 5
  cl : ∀ t ∈ B, ∀ w, w < 2 ^ t.length → ((lowT t w).all fun x => decide (0 ≤ x)) = true → lowT t w ∈ B
  len : B.length ≤ 9
def isOk (s : Nat) (u : List Int) : Bool := decide (1 ≤ u.length) && decide (u.length ≤ 3) && u.all (fun x => decide (0 ≤ x) && decide (x ≤ 5)) && decide (u.length = s)
theorem boxOk_of {B : List (List Int)} {s : Nat} (h1 : B.Nodup) (h2 : B.all (isOk s) = true) (h3 : (B.all fun t => (List.range (2 ^ s)).all fun w => !((lowT t w).all fun x => decide (0 ≤ x)) || decide (lowT t w ∈ B)) = true) (h4 : B.length ≤ 9) : BoxOk B s := by
  have el : ∀ u ∈ B, good u ∧ u.length = s ∧ ∀ x ∈ u, x ≤ 5 := fun u hu => by
    have := List.all_eq_true.mp h2 u hu
    simp [isOk] at this
    exact ⟨⟨this.1.1.1, this.1.1.2, fun x hx => (this.1.2 x hx).1⟩, this.2, fun x hx => (this.1.2 x hx).2⟩
  refine ⟨h1, el, fun t ht w hw ha => ?_, h4⟩
  have := List.all_eq_true.mp (List.all_eq_true.mp h3 t ht) w (by rw [(el t ht).2.1] at hw; simpa using hw)
  rw [ha] at this
  simpa using this
theorem box1 : BoxOk (boxL 6 1) 1 := boxOk_of (by decide +kernel) (by decide +kernel) (by decide +kernel) (by decide +kernel)
theorem box2 : BoxOk (boxL 3 2) 2 := boxOk_of (by decide +kernel) (by decide +kernel) (by decide +kernel) (by decide +kernel)
theorem box3 : BoxOk (boxL 2 3) 3 := boxOk_of (by decide +kernel) (by decide +kernel) (by decide +kernel) (by decide +kernel)
theorem top_at {s : Nat} (h : 1 ≤ s ∧ s ≤ 3) : ∃ top : Nat, atI [D.int 6, D.int 3, D.int 2] ((s : Int) - 1) = some (.int (top : Nat)) ∧ top ≤ 6 ∧ BoxOk (boxL top s) s := by
  have : s = 1 ∨ s = 2 ∨ s = 3 := by omega
  rcases this with rfl | rfl | rfl
  · exact ⟨6, rfl, by decide, box1⟩
  · exact ⟨3, rfl, by decide, box2⟩
  · exact ⟨2, rfl, by decide, box3⟩
/-- the sums of the law -/
structure Sm (lk : Bool) (n sr rr : Nat) (B : List (List Int)) (r : List Int → Nat) (s : List Int → Ms (List Int)) (h : DH) : Prop where
  P : Pool n h
  T : TbH h
  D : dctAt h sr = some (lk, kvR B r)
  R : lstAt h rr = some (rowsR.map tm)
  E : ∀ u ∈ B, dctAt h (r u) = some (false, encM tm (s u))
theorem dctAt_more {h g : DH} {n : Nat} {q : Bool × List (D × D)} (e : dctAt h n = some q) : dctAt (h ++ g) n = some q := by
  have := dctAt_iff.mp (show dctAt h n = some (q.1, q.2) from e)
  exact dctAt_of (by rw [List.getElem?_append_left (List.getElem?_eq_some_iff.mp this).1]; exact this)
theorem dctAt_keep {n m : Nat} {h h' : DH} {q : Bool × List (D × D)} (K : Kmore n h h') (e : m ≠ n) (hq : dctAt h m = some q) : dctAt h' m = some q := by
  have := dctAt_iff.mp (show dctAt h m = some (q.1, q.2) from hq)
  exact dctAt_of ((K.2 m (List.getElem?_eq_some_iff.mp this).1 e).trans this)
theorem TbAt.keep {n : Nat} {h h' : DH} {a : Str × Option Str} {b : Str} (T : TbAt h a b) (K : Kmore n h h') (e : n ≠ 0) : TbAt h' a b := by
  unfold TbAt at T ⊢
  exact (K.2 0 (List.getElem?_eq_some_iff.mp T).1 (Ne.symm e)).trans T
section
variable {lk : Bool} {n sr rr : Nat} {B : List (List Int)} {r : List Int → Nat} {s : List Int → Ms (List Int)} {h h' g : DH}
theorem Sm.more (S : Sm lk n sr rr B r s h) : Sm lk n sr rr B r s (h ++ g) := ⟨S.P.more, S.T.more, dctAt_more S.D, lstAt_more S.R, fun u hu => dctAt_more (S.E u hu)⟩
theorem dct_ne {h : DH} {n m : Nat} {q : Bool × List (D × D)} {ds : List D} (e : dctAt h n = some q) (e' : lstAt h m = some ds) : n ≠ m := fun z => by
  have h1 := dctAt_iff.mp (show dctAt h n = some (q.1, q.2) from e)
  have h2 := lstAt_iff.mp e'
  rw [z, h2] at h1
  cases h1
theorem pool_ls {n : Nat} {h : DH} (P : Pool n h) : ∃ ds, lstAt h n = some ds := by
  obtain ⟨a, b, e, _⟩ := P
  exact ⟨_, lstAt_of e⟩
theorem pool_0 {n : Nat} {h : DH} {a : Str × Option Str} {b : Str} (P : Pool n h) (T : TbAt h a b) : n ≠ 0 := fun z => by
  obtain ⟨x, y, e, _⟩ := P
  unfold TbAt at T
  rw [z, T] at e
  cases e
theorem Sm.keep (S : Sm lk n sr rr B r s h) (P : Pool n h') (K : Kmore n h h') (hr : rr ≠ n) : Sm lk n sr rr B r s h' := by
  obtain ⟨ds, e⟩ := pool_ls S.P
  exact ⟨P, S.T.keep K (pool_0 S.P S.T), dctAt_keep K (dct_ne S.D e) S.D, K.lst hr S.R, fun u hu => dctAt_keep K (dct_ne (S.E u hu) e) (S.E u hu)⟩
end
theorem kv_ne {u : List Int} {C : List (List Int)} {r : List Int → Nat} {m : Ms (List Int)} (h : u ∈ C) : kvR C r ≠ encM tm m := fun e => by
  cases C with
  | nil => cases h
  | cons c C =>
    cases m with
    | nil => cases e
    | cons q m => simp [kvR, encM] at e
theorem Sm.sr0 {n sr rr : Nat} {lk : Bool} {B : List (List Int)} {r : List Int → Nat} {s : List Int → Ms (List Int)} {h : DH} (S : Sm lk n sr rr B r s h) : sr ≠ 0 := fun z => by
  have h1 := dctAt_iff.mp S.D
  have h2 := S.T
  unfold TbAt at h2
  rw [z, h2] at h1
  cases h1
theorem Sm.lt {n sr rr : Nat} {lk : Bool} {B : List (List Int)} {r : List Int → Nat} {s : List Int → Ms (List Int)} {h : DH} (S : Sm lk n sr rr B r s h) : sr < h.length := (List.getElem?_eq_some_iff.mp (dctAt_iff.mp S.D)).1
/-- a time's sums put in -/
theorem Sm.put {n sr rr : Nat} {B : List (List Int)} {r : List Int → Nat} {s : List Int → Ms (List Int)} {h : DH} {t : List Int} {m : Ms (List Int)} (S : Sm false n sr rr B r s h) (ns : sr ≠ n) (ht : t ∉ B) :
    Sm false n sr rr (B ++ [t]) (fun v => if v = t then h.length else r v) (fun v => if v = t then m else s v) ((h ++ [OD.dct false (encM tm m)]).set sr (OD.dct false (kvR (B ++ [t]) fun v => if v = t then h.length else r v))) := by
  have hl := S.lt
  have S2 := S.more (g := [OD.dct false (encM tm m)])
  refine ⟨?_, ?_, ?_, ?_, fun u hu => ?_⟩
  · obtain ⟨a, b, e, h1, h2⟩ := S2.P
    exact ⟨a, b, by rw [List.getElem?_set_ne ns]; exact e, h1, h2⟩
  · have := S2.T
    unfold TbH TbAt at this ⊢
    rw [List.getElem?_set_ne S.sr0]; exact this
  · exact dctAt_of (by rw [List.getElem?_set_self (by simp; omega)])
  · refine lstAt_of ?_
    rw [List.getElem?_set_ne (dct_ne S.D S.R)]
    exact lstAt_iff.mp S2.R
  · by_cases z : u = t
    · subst z
      simp only [if_true]
      refine dctAt_of ?_
      rw [List.getElem?_set_ne (by omega), List.getElem?_append_right (Nat.le_refl _)]
      simp
    · simp only [if_neg z]
      have hu : u ∈ B := by simpa [z] using hu
      have e := S2.E u hu
      have ne : sr ≠ r u := fun q => by
        have h1 := S2.D
        rw [q] at h1
        rw [e] at h1
        exact kv_ne hu (congrArg Prod.snd (Option.some.inj h1)).symm
      refine dctAt_of ?_
      rw [List.getElem?_set_ne ne]
      exact dctAt_iff.mp e
theorem ins_mem {F : List (List Int)} {x y : List Int} (h : y ∈ F) : y ∈ ins F x := by
  unfold ins
  split
  · exact h
  · simp [h]
theorem fold_ins_sub : ∀ {xs F : List (List Int)} {y : List Int}, (y ∈ F ∨ y ∈ xs) → y ∈ xs.foldl ins F
  | [], F, y, h => by simpa using h
  | x :: xs, F, y, h => by
    rw [List.foldl_cons]
    refine fold_ins_sub ?_
    rcases h with h | h
    · exact .inl (ins_mem h)
    · rcases List.mem_cons.mp h with z | z
      · refine .inl ?_
        subst z
        unfold ins
        split
        · assumption
        · simp
      · exact .inr z
theorem mem_allJ {ts : List (List Int)} : ∀ t ∈ ts, t ∈ allJ ts := by
  refine snocRec (P := fun ts => ∀ t ∈ ts, t ∈ allJ ts) (by simp) (fun l a ih t ht => ?_) ts
  rw [allJ_snoc]
  unfold stepJ
  rcases List.mem_append.mp ht with z | z
  · exact fold_ins_sub (.inl (ih t z))
  · exact fold_ins_sub (.inr (by simp [List.mem_singleton.mp z]))
section
variable {n sr rr : Nat} {B : List (List Int)} {r : List Int → Nat} {s : List Int → Ms (List Int)} {h g : DH} {lk : Bool}
theorem Sm.relk (S : Sm lk n sr rr B r s h) (ns : sr ≠ n) (lk' : Bool) : Sm lk' n sr rr B r s (h.set sr (.dct lk' (kvR B r))) := by
  have hl := S.lt
  refine ⟨?_, ?_, ?_, ?_, fun u hu => ?_⟩
  · obtain ⟨a, b, e, h1, h2⟩ := S.P
    exact ⟨a, b, by rw [List.getElem?_set_ne ns]; exact e, h1, h2⟩
  · have := S.T
    unfold TbH TbAt at this ⊢
    rw [List.getElem?_set_ne S.sr0]; exact this
  · exact dctAt_of (by rw [List.getElem?_set_self hl])
  · refine lstAt_of ?_
    rw [List.getElem?_set_ne (dct_ne S.D S.R)]
    exact lstAt_iff.mp S.R
  · have e := S.E u hu
    have ne : sr ≠ r u := fun q => by
      have h1 := S.D
      rw [q, e] at h1
      exact kv_ne hu (congrArg Prod.snd (Option.some.inj h1)).symm
    refine dctAt_of ?_
    rw [List.getElem?_set_ne ne]
    exact dctAt_iff.mp e
theorem Sm.unl (S : Sm true n sr rr B r s h) : unlk sr h = some (h.set sr (.dct false (kvR B r))) := unlk_of S.D
theorem Sm.lset {m : Nat} {ds ds' : List DL.D} (S : Sm lk n sr rr B r s h) (e : lstAt h m = some ds) (mn : m ≠ n) (mr : m ≠ rr) : Sm lk n sr rr B r s (h.set m (.lst ds')) := by
  refine ⟨?_, ?_, ?_, ?_, fun u hu => ?_⟩
  · obtain ⟨a, b, e, h1, h2⟩ := S.P
    exact ⟨a, b, by rw [List.getElem?_set_ne mn]; exact e, h1, h2⟩
  · have := S.T
    unfold TbH TbAt at this ⊢
    rw [List.getElem?_set_ne fun z => by have h1 := lstAt_iff.mp e; rw [z, this] at h1; cases h1]; exact this
  · refine dctAt_of ?_
    rw [List.getElem?_set_ne (dct_ne S.D e).symm]
    exact dctAt_iff.mp S.D
  · refine lstAt_of ?_
    rw [List.getElem?_set_ne mr]
    exact lstAt_iff.mp S.R
  · refine dctAt_of ?_
    rw [List.getElem?_set_ne (dct_ne (S.E u hu) e).symm]
    exact dctAt_iff.mp (S.E u hu)
end
theorem perm_ins {α : Type} {l : List α} {a : α} {k : Nat} : (l.take k ++ [a] ++ l.drop k).Perm (l ++ [a]) := by
  rw [List.append_assoc]
  refine (List.Perm.append_left _ List.perm_append_comm).trans ?_
  rw [← List.append_assoc, List.take_append_drop]
theorem rows_sT : ∀ t ∈ rowsR, sT t := by
  intro t ht
  simp [rowsR] at ht
  rcases ht with rfl | rfl | rfl <;> simp [sT, sI]
theorem av_small {ms : Ms (List Int)} {k : List Int} (h : ∀ p ∈ ms, -2 ≤ p.2 ∧ p.2 ≤ 2) : (av ms k).natAbs ≤ 1000 := by
  unfold av
  cases e : aget ms k with
  | none => simp
  | some v =>
    have := h _ (aget_mem e)
    simp
    omega
theorem av_of {ms : Ms (List Int)} {k : List Int} (n : nd ms) : av ms k = sm (fun r => decide (r = k)) ms := av_sm n
def dueT (s : List Int → Ms (List Int)) (t : List Int) : List Df := rowsR.map fun row => ((row, t), cornerV (fun u => av (s u) row) t)
def dueL (s : List Int → Ms (List Int)) (B : List (List Int)) : List Df := B.flatMap (dueT s)
/-- what the law is due tells is the heap -/
theorem due_eq {s : List Int → Ms (List Int)} {B qs : List (List Int)} {k : Nat} (BX : BoxOk B k) (V : ∀ u ∈ B, nd (s u) ∧ nz (s u) ∧ ∀ p ∈ s u, p.1 ∈ rowsR ∧ -2 ≤ p.2 ∧ p.2 ≤ 2) (pw : qs.Pairwise lexS) (hq : ∀ t, t ∈ qs ↔ t ∈ B) :
    srtM (hsum s qs) = srtM ((dueL s B).filter fun p => !decide (p.2 = 0)) := by
  have hk : ∀ t ∈ qs, t.length = k := fun t ht => (BX.el t ((hq t).mp ht)).2.1
  have val := hsum_val (s := s) pw hk
  obtain ⟨n, z⟩ := hsum_ok (s := s) (qs := qs)
  have keys := hsum_keys (s := s) (R := rowsR) (qs := qs) fun t ht p hp => ((V t ((hq t).mp ht)).2.2 p hp).1
  have cor : ∀ t ∈ B, ∀ row, cornerV (fun u => av (s u) row) t = sm (fun y : Ky => decide (y = (row, t))) (hsum s qs) := fun t ht row => by
    refine corner_sm (BX.el t ht).1 (fun p hp => ?_) fun w hw ha => ?_
    · have := BX.el _ ((hq _).mp (keys p hp).2)
      exact ⟨this.2.1.trans (BX.el t ht).2.1.symm, this.1.2.2⟩
    · have lb := BX.cl t ht w hw ha
      rw [av_of (V _ lb).1]
      exact (val _ ((hq _).mpr lb) row).symm
  have nd2 : nd (dueL s B) := by
    have : (dueL s B).map (·.1) = B.flatMap fun t => rowsR.map fun row => (row, t) := by
      unfold dueL dueT
      rw [List.map_flatMap]
      simp [List.map_map, Function.comp_def]
    unfold nd
    rw [this]
    have nB := BX.nd
    clear this cor keys val V BX hq hk
    induction B with
    | nil => simp
    | cons t B ih =>
      rw [List.nodup_cons] at nB
      rw [List.flatMap_cons, List.nodup_append]
      refine ⟨by simp [rowsR], ih nB.2, fun x hx y hy e => ?_⟩
      obtain ⟨r1, _, rfl⟩ := List.mem_map.mp hx
      obtain ⟨u, hu, hy⟩ := List.mem_flatMap.mp hy
      obtain ⟨r2, _, rfl⟩ := List.mem_map.mp hy
      cases e
      exact nB.1 hu
  have nf : nd ((dueL s B).filter fun p => !decide (p.2 = 0)) := nd_filter nd2
  refine srt_same (nodup_of_nd n) (nodup_of_nd nf) fun p => ?_
  rw [mem_sm n z]
  constructor
  · rintro ⟨h1, h2⟩
    have hp : p ∈ hsum s qs := (mem_sm n z).mpr ⟨h1, h2⟩
    obtain ⟨k1, k2⟩ := keys p hp
    refine List.mem_filter.mpr ⟨List.mem_flatMap.mpr ⟨p.1.2, (hq _).mp k2, List.mem_map.mpr ⟨p.1.1, k1, ?_⟩⟩, by simpa using h1⟩
    rw [cor _ ((hq _).mp k2)]
    obtain ⟨⟨r, t⟩, c⟩ := p
    simp only at h2 ⊢
    rw [← h2]
  · intro hp
    obtain ⟨h1, h2⟩ := List.mem_filter.mp hp
    obtain ⟨t, ht, h1⟩ := List.mem_flatMap.mp h1
    obtain ⟨row, hr, rfl⟩ := List.mem_map.mp h1
    exact ⟨by simpa using h2, cor t ht row⟩
/-- of a heap's sums at its joins: that heap -/
theorem joins_eq {N : List Df} {qs : List (List Int)} {k : Nat} (nN : nd N) (zN : nz N) (JT : ∀ p ∈ N, p.1.2 ∈ qs) (JG : ∀ t ∈ qs, t.length = k) (pw : qs.Pairwise lexS) : ∀ p, p ∈ hsum (fun u => foldS [] (rowsAt N u)) qs ↔ p ∈ N := by
  obtain ⟨n, z⟩ := hsum_ok (s := fun u => foldS [] (rowsAt N u)) (qs := qs)
  have nq : qs.Nodup := pw.imp fun h => h.2
  have fl := hsum_flt (N := N) (s := fun u => foldS [] (rowsAt N u)) (qs := qs) (fun t _ f => by
    have R : Rep (foldS [] (rowsAt N t)) (rowsAt N t) := Rep.fold
    rw [R.2.2, sm_rows]) (fun i t ht p hp hl => ?_) nq
  · refine mem_same n z nN zN fun y => ?_
    rw [fl]
    exact sm_congr fun p hp => by rw [decide_eq_true (JT p hp), Bool.and_true]
  · obtain ⟨j, hj⟩ := List.getElem?_of_mem (JT p hp)
    by_cases z : j ≤ i
    · exact List.mem_of_getElem? (i := j) (by rw [List.getElem?_take_of_lt (by omega)]; exact hj)
    · obtain ⟨a1, a2⟩ := List.getElem?_eq_some_iff.mp ht
      obtain ⟨b1, b2⟩ := List.getElem?_eq_some_iff.mp hj
      have := List.pairwise_iff_getElem.mp pw i j a1 b1 (by omega)
      rw [a2, b2] at this
      have := not_le (JG t (List.mem_of_getElem? ht)) (JG _ (List.mem_of_getElem? hj)) this
      rw [this] at hl
      cases hl
/-! ### the law -/
/-- the sums changed, the heap as it was -/
structure Mu (n sr : Nat) (B : List (List Int)) (r : List Int → Nat) (s fa : Nat) (M : List Df) (w j : Nat) (h : DH) : Prop where
  P : Pool n h
  T : TbH h
  D : dctAt h sr = some (true, kvR B r)
  E : ∀ u ∈ B, ∃ m : Ms (List Int), dctAt h (r u) = some (false, encM tm m) ∧ m.length ≤ 3 + j
  H : HpAt h fa (fa + 1) s M
  W : lstAt h w = some ((srtM M).map trD)
theorem Mu.of {n sr rr s fa w : Nat} {B : List (List Int)} {r : List Int → Nat} {s2 : List Int → Ms (List Int)} {M : List Df} {h : DH} (S : Sm true n sr rr B r s2 h) (H : HpAt h fa (fa + 1) s M) (W : lstAt h w = some ((srtM M).map trD)) (l : ∀ u ∈ B, (s2 u).length ≤ 3) : Mu n sr B r s fa M w 0 h :=
  ⟨S.P, S.T, S.D, fun u hu => ⟨_, S.E u hu, l u hu⟩, H, W⟩
theorem Mu.put {n sr s fa w j : Nat} {B : List (List Int)} {r : List Int → Nat} {M : List Df} {h : DH} {t : List Int} {m : Ms (List Int)} {k : List Int} {v : Int} (U : Mu n sr B r s fa M w j h) (tB : t ∈ B) (zr : r t < fa) (dm : dctAt h (r t) = some (false, encM tm m)) (lm : m.length ≤ 3 + j) :
    Mu n sr B r s fa M w (j + 1) (h.set (r t) (.dct false (encM tm (aput m k v)))) := by
  have rl : r t < h.length := (List.getElem?_eq_some_iff.mp (dctAt_iff.mp dm)).1
  obtain ⟨pl, pe⟩ := pool_ls U.P
  have n1 := dct_ne dm pe
  have n2 := dct_ne dm U.W
  have n3 : r t ≠ sr := fun z => by
    have h1 := U.D
    rw [← z, dm] at h1
    cases h1
  have n4 : r t ≠ 0 := fun z => by
    have h1 := dctAt_iff.mp dm
    have h2 := U.T
    unfold TbH TbAt at h2
    rw [z, h2] at h1
    cases h1
  refine ⟨?_, ?_, ?_, fun u hu => ?_, U.H.off (by omega) (by omega), ?_⟩
  · obtain ⟨a, b, e, h1, h2⟩ := U.P
    exact ⟨a, b, by rw [List.getElem?_set_ne n1]; exact e, h1, h2⟩
  · have := U.T
    unfold TbH TbAt at this ⊢
    rw [List.getElem?_set_ne n4]; exact this
  · exact dctAt_of (by rw [List.getElem?_set_ne n3]; exact dctAt_iff.mp U.D)
  · by_cases z : r u = r t
    · refine ⟨aput m k v, ?_, by have := len_aput (ms := m) (k := k) (v := v); omega⟩
      rw [z]
      exact dctAt_of (by rw [List.getElem?_set_self rl])
    · obtain ⟨m', e, l⟩ := U.E u hu
      exact ⟨m', dctAt_of (by rw [List.getElem?_set_ne (Ne.symm z)]; exact dctAt_iff.mp e), by omega⟩
  · exact lstAt_of (by rw [List.getElem?_set_ne n2]; exact lstAt_iff.mp U.W)
theorem pool_ne {n m : Nat} {h : DH} {us : List (List Int)} (P : Pool n h) (e : lstAt h m = some (us.map tm)) : m ≠ n := fun z => by
  obtain ⟨a, b, e', _⟩ := P
  have := lstAt_iff.mp e
  rw [z, e'] at this
  cases us with
  | nil => cases this
  | cons u us => simp [tm] at this
def Vok (B : List (List Int)) (s : List Int → Ms (List Int)) : Prop := ∀ u ∈ B, nd (s u) ∧ nz (s u) ∧ ∀ p ∈ s u, p.1 ∈ rowsR ∧ -2 ≤ p.2 ∧ p.2 ≤ 2
theorem law_ok (ns : List Int) (hn : ns.length ≤ 63) : ∃ h', F_law [.rol (ns.map .int)] [.tbl ("heap_of", none) "heap_of.<locals>.<lambda>"] = .ok (.bl true) h' := by
  apply some_of_wp
  unfold F_law B_law
  simp [wp_run]
  refine ⟨by apply big_ok <;> omega, ?_⟩
  refine loop_inv (fun i env h => TbH h ∧ ∃ r : List (Option D), r.length = 18 ∧ env = some (.rol (ns.map .int)) :: r) ⟨rfl, _, rfl, rfl⟩ (fun _ _ _ _ => rfl) (fun i x env h hx I => ?_) (fun env h I => ?_)
  · obtain ⟨T, r, hr, rfl⟩ := I
    obtain ⟨e1, e2, e3, e4, e5, e6, e7, e8, e9, e10, e11, e12, e13, e14, e15, e16, e17, e18, rfl⟩ : ∃ e1 e2 e3 e4 e5 e6 e7 e8 e9 e10 e11 e12 e13 e14 e15 e16 e17 e18, r = [e1, e2, e3, e4, e5, e6, e7, e8, e9, e10, e11, e12, e13, e14, e15, e16, e17, e18] := by
      match r, hr with
      | [e1, e2, e3, e4, e5, e6, e7, e8, e9, e10, e11, e12, e13, e14, e15, e16, e17, e18], _ => exact ⟨_, _, _, _, _, _, _, _, _, _, _, _, _, _, _, _, _, _, rfl⟩
    obtain ⟨hi, rfl⟩ := cnt_at hx
    have hi' : i ≤ 100 := by omega
    clear hi hx hr
    simp
    refine s_pool (by omega) (by omega) fun a b b0 b1 => ?_
    have P0 := Pool.new (h := h) (a := a) b0 b1
    have T0 : TbH (h ++ [OD.lst [D.int a, D.int b]]) := T.more
    generalize (h ++ [OD.lst [D.int a, D.int b]]) = h1 at P0 T0 ⊢
    generalize h.length = n at P0 ⊢
    have n0 := pool_0 P0 T0
    rw [seq_nx]; simp
    refine p_take P0 (by decide) (by decide) fun v h2 v0 v1 P1 K1 => ?_
    have T1 : TbH h2 := T0.keep K1.kmore n0
    obtain ⟨s, hs⟩ : ∃ s : Nat, 1 + v = (s : Int) := ⟨(1 + v).toNat, by omega⟩
    have s1 : 1 ≤ s ∧ s ≤ 3 := by omega
    simp [hs]
    clear T0 P0 K1 T v0 v1 hs
    rw [seq_nx]; simp
    rw [seq_nx]; simp
    repeat (with_reducible refine And.intro (by simp [small]; done) ?_)
    obtain ⟨top, et, ht, BX⟩ := top_at s1
    rw [seq_nx]; simp [et]
    repeat (with_reducible refine And.intro (by simp [small]; done) ?_)
    have nl : n < h2.length := by obtain ⟨_, _, e, _⟩ := P1; exact (List.getElem?_eq_some_iff.mp e).1
    refine p_boxT (by omega) ht fun bx g hbx => ?_
    have S3 : Sm false n h2.length (h2.length + 1) [] (fun _ => 0) (fun _ => []) (h2 ++ [OD.dct false [], OD.lst [D.tup [D.int 1], D.tup [D.int 2], D.tup [D.int 1, D.int (-1)]]] ++ g) :=
      ⟨P1.more.more, T1.more.more, dctAt_more (dctAt_of (by simp [kvR])), lstAt_more (lstAt_of (by simp [rowsR, tm])), fun u hu => by cases hu⟩
    have nn : h2.length ≠ n ∧ h2.length + 1 ≠ n := by omega
    have bn : bx ≠ n := pool_ne S3.P hbx
    generalize h2 ++ [OD.dct false [], OD.lst [D.tup [D.int 1], D.tup [D.int 2], D.tup [D.int 1, D.int (-1)]]] ++ g = h3 at S3 hbx ⊢
    generalize h2.length + 1 = rr at S3 nn ⊢
    generalize h2.length = sr at S3 nn ⊢
    generalize boxL top s = B at BX hbx ⊢
    clear et ht P1 T1 nl
    simp [hbx]
    refine loop_inv (fun j env h' => (∃ e6 e7, env = [some (.rol (ns.map .int)), some (.int (i : Nat)), some (.ref n), some (.int (s : Nat)), some (.ref sr), some (.ref rr), e6, e7, e8, e9, e10, e11, e12, e13, e14, e15, e16, e17, e18]) ∧ ∃ r s2, Sm false n sr rr (B.take j) r s2 h' ∧ lstAt h' bx = some (B.map tm) ∧ Vok (B.take j) s2) ⟨⟨_, _, rfl⟩, _, _, S3, hbx, by intro u hu; cases hu⟩ (fun j env h' I => ?_) (fun j x env h' hx I => ?_) (fun env h' I => ?_)
    · obtain ⟨_, r, s2, _, hb', _⟩ := I
      exact live_ls hbx hb'
    · obtain ⟨⟨e6, e7, rfl⟩, r, s2, S, hb', V⟩ := I
      obtain ⟨t, ht, rfl⟩ := at_tm hx
      have tk1 : B.take (j + 1) = B.take j ++ [t] := by rw [List.take_succ, ht]; rfl
      have tl : t ∉ B.take j := fun z => by
        have nd := BX.nd
        rw [← List.take_append_drop (j + 1) B, tk1, List.append_assoc, List.nodup_append] at nd
        exact nd.2.2 t z t (by simp) rfl
      have kl : (B.take j).length ≤ 9 := by rw [List.length_take]; have := BX.len; omega
      rw [tk1]
      generalize B.take j = C at *
      simp [S.R]
      refine lc_inv (fun acc j' h'' => ∃ ms : Ms (List Int), acc = ms.map pT ∧ ms.map (·.1) = rowsR.take j' ∧ (∀ p ∈ ms, -2 ≤ p.2 ∧ p.2 ≤ 2) ∧ Pool n h'' ∧ Keep n h' h'') ⟨[], rfl, rfl, by simp, S.P, Keep.refl _ _⟩ (fun _ _ h'' I => ?_) (fun acc j' x h'' hx I ha => ?_) (by simp [rowsR]) (fun acc h5 I ha => ?_)
      · obtain ⟨_, _, _, _, _, K⟩ := I
        exact live_ls S.R (by rw [lstAt_keep K nn.2]; exact S.R)
      · obtain ⟨ms, rfl, ek, bd, P', K'⟩ := I
        obtain ⟨row, hrow, rfl⟩ := at_tm hx
        simp [cYes]
        refine p_take P' (by decide) (by decide) fun v h6 v0 v1 P6 K6 => ?_
        simp
        refine ⟨by simp [small], ms ++ [(row, v - 2)], by simp [pT], by simp [ek, List.take_succ, hrow], fun c d hp => ?_, P6, K'.trans K6⟩
        rcases List.mem_append.mp hp with z | z
        · exact bd _ z
        · cases List.mem_singleton.mp z
          omega
      · obtain ⟨ms, rfl, ek, bd, P5, K5⟩ := I
        have nms : nd ms := by unfold nd; rw [ek]; decide
        have lms : ms.length = 3 := by have := congrArg List.length ek; simpa [rowsR] using this
        have S5 := (S.keep P5 K5.kmore nn.2).more (g := [OD.lst (ms.map pT)])
        have b5 : lstAt (h5 ++ [OD.lst (ms.map pT)]) bx = some (B.map tm) := lstAt_more (by rw [lstAt_keep K5 bn]; exact hb')
        have A5 : lstAt (h5 ++ [OD.lst (ms.map pT)]) h5.length = some (ms.map pT) := by simp
        generalize h5 ++ [OD.lst (ms.map pT)] = h6 at S5 b5 A5 ⊢
        rw [seq_nx]; simp [A5]
        refine lc_filter (fun p => !decide (p.2 = 0)) pT ?_ (by omega) (fun p hp => ?_) ?_
        · exact live_ls A5 A5
        · simp [pT]
          exact ⟨by rw [Bool.eq_iff_iff]; simp, fun _ => by simp [small]⟩
        have nf : nd (ms.filter fun p => !decide (p.2 = 0)) := nd_filter nms
        have zf : nz (ms.filter fun p => !decide (p.2 = 0)) := fun p hp => by simpa using (List.mem_filter.mp hp).2
        have vf : ∀ p ∈ ms.filter fun p => !decide (p.2 = 0), p.1 ∈ rowsR ∧ -2 ≤ p.2 ∧ p.2 ≤ 2 := fun p hp => by
          have hm := (List.mem_filter.mp hp).1
          refine ⟨?_, bd p hm⟩
          have : p.1 ∈ ms.map (·.1) := List.mem_map.mpr ⟨p, hm, rfl⟩
          rw [ek] at this
          exact List.mem_of_mem_take this
        generalize ms.filter (fun p => !decide (p.2 = 0)) = m2 at *
        simp [fDictL_enc nf]
        have S7 := S5.put (m := m2) nn.1 tl
        rw [dctAt_more S5.D]
        simp [kvR_tup, ek_tm.tup t, kvR_put tl, kvR_len]
        refine ⟨small_ok (by omega), _, _, S7, ?_, ?_⟩
        · refine lstAt_of ?_
          rw [List.getElem?_set_ne (dct_ne S5.D b5)]
          exact lstAt_iff.mp (lstAt_more b5)
        · intro u hu
          by_cases z : u = t
          · simp only [if_pos z]
            exact ⟨nf, zf, vf⟩
          · simp only [if_neg z]
            exact V u (by simpa [z] using hu)
    obtain ⟨⟨e6, e7, rfl⟩, r, s2, S, -, V⟩ := I
    rw [List.length_map, List.take_length] at S V
    clear S3 hbx bn
    have rl : rr < h'.length := (List.getElem?_eq_some_iff.mp (lstAt_iff.mp S.R)).1
    have nl : n < h'.length := by obtain ⟨_, _, e, _⟩ := S.P; exact (List.getElem?_eq_some_iff.mp e).1
    rw [seq_nx]; simp
    repeat (with_reducible refine And.intro (by simp [small]; done) ?_)
    have S4 := S.more (g := [OD.lst []])
    have A4 : lstAt (h' ++ [OD.lst []]) h'.length = some (([] : List (List Int)).map tm) := by simp
    have on : h'.length ≠ n ∧ h'.length ≠ rr := by omega
    generalize h' ++ [OD.lst []] = h4 at S4 A4 ⊢
    generalize h'.length = od at A4 on ⊢
    clear S rl nl
    rw [seq_nx]; simp
    rw [loVar_E (m := sr) rfl]
    have S5 := S4.relk nn.1 true
    have A5 : lstAt (h4.set sr (.dct true (kvR B r))) od = some (([] : List (List Int)).map tm) := lstAt_of (by rw [List.getElem?_set_ne (dct_ne S4.D A4)]; exact lstAt_iff.mp A4)
    simp [S4.D]
    rw [S5.D]
    simp [kvR_keys]
    generalize h4.set sr (.dct true (kvR B r)) = h5 at S5 A5 ⊢
    clear S4 A4
    refine loop_inv (fun j env h' => (∃ e6, env = [some (.rol (ns.map .int)), some (.int (i : Nat)), some (.ref n), some (.int (s : Nat)), some (.ref sr), some (.ref rr), e6, e7, some (.ref od), e9, e10, e11, e12, e13, e14, e15, e16, e17, e18]) ∧ Sm true n sr rr B r s2 h' ∧ ∃ os : List (List Int), lstAt h' od = some (os.map tm) ∧ os.Perm (B.take j)) ⟨⟨_, rfl⟩, S5, [], A5, by simp⟩ (fun _ _ _ _ => rfl) (fun j x env h' hx I => ?_) (fun env h' I => ?_)
    · obtain ⟨⟨e6, rfl⟩, S, os, A, pm⟩ := I
      obtain ⟨t, ht, rfl⟩ := at_tm hx
      have tk1 : B.take (j + 1) = B.take j ++ [t] := by rw [List.take_succ, ht]; rfl
      have lo : os.length ≤ 9 := by have := pm.length_eq; rw [List.length_take] at this; have := BX.len; omega
      simp [A]
      refine p_take S.P (by omega) (by omega) fun v h6 v0 v1 P6 K6 => ?_
      have A6 : lstAt h6 od = some (os.map tm) := by rw [lstAt_keep K6 on.1]; exact A
      have S6 := S.keep P6 K6.kmore nn.2
      have e2 : List.take v.toNat (os.map tm) ++ tm t :: List.drop v.toNat (os.map tm) = (os.take v.toNat ++ [t] ++ os.drop v.toNat).map tm := by simp [List.map_take, List.map_drop]
      simp [A6]
      rw [e2]
      refine ⟨⟨v0, by omega, small_ok (by omega)⟩, S6.lset A6 on.1 on.2, os.take v.toNat ++ [t] ++ os.drop v.toNat, ?_, ?_⟩
      · have : od < h6.length := (List.getElem?_eq_some_iff.mp (lstAt_iff.mp A6)).1
        exact lstAt_of (by simp [this])
      · rw [tk1]
        exact perm_ins.trans (List.Perm.append_right _ pm)
    obtain ⟨⟨e6, rfl⟩, S, os, A, pm⟩ := I
    rw [List.length_map, List.take_length] at pm
    clear S5 A5
    simp [S.unl]
    have S7 := S.relk nn.1 false
    have A7 : lstAt (h'.set sr (.dct false (kvR B r))) od = some (os.map tm) := lstAt_of (by rw [List.getElem?_set_ne (dct_ne S.D A)]; exact lstAt_iff.mp A)
    generalize h'.set sr (.dct false (kvR B r)) = h7 at S7 A7 ⊢
    clear S A
    have lS : ∀ u ∈ B, (s2 u).length ≤ 3 := fun u hu => nd_len (V u hu).1 (L := rowsR) fun p hp => ((V u hu).2.2 p hp).1
    have hoB : ∀ u ∈ B, sT u ∧ (s2 u).length ≤ 10 ∧ ∀ q ∈ s2 u, sT q.1 ∧ sI q.2 := fun u hu => by
      obtain ⟨b1, b2, b3⟩ := BX.el u hu
      refine ⟨⟨b1.2.1, fun x hx => ⟨by have := b1.2.2 x hx; omega, by have := b3 x hx; omega⟩⟩, by have := lS u hu; omega, fun q hq => ?_⟩
      obtain ⟨c1, c2, c3⟩ := (V u hu).2.2 q hq
      exact ⟨rows_sT _ c1, by omega, by omega⟩
    have eR := fun (h : DH) (lk : Bool) (S : Sm lk n sr rr B r s2 h) => e_reprB S.D S.E (by have := BX.len; omega) hoB
    generalize (enB B s2).shown = kept at eR
    rw [seq_nx]; simp [eR _ _ S7]
    rw [seq_nx]; simp [A7]
    have oB : ∀ t ∈ os, t ∈ B := fun t ht => pm.mem_iff.mp ht
    refine lc_mapA (k := tm) (as := os) (itD r) (live_ls A7 A7) (by have := pm.length_eq; have := BX.len; omega) (fun t ht => ?_) ?_
    · simp [S7.D, kvR_tup, ek_tm.tup t, kvR_get (oB t ht), itD]
      simp [small]
    have ru : ∀ u ∈ B, r u < h7.length := fun u hu => (List.getElem?_eq_some_iff.mp (dctAt_iff.mp (S7.E u hu))).1
    have l7 := S7.lt
    have r7 : rr < h7.length := (List.getElem?_eq_some_iff.mp (lstAt_iff.mp S7.R)).1
    have S8 := S7.more (g := [OD.lst (os.map (itD r))])
    have A8 : lstAt (h7 ++ [OD.lst (os.map (itD r))]) h7.length = some (os.map (itD r)) := by simp
    have z8 : h7.length < (h7 ++ [OD.lst (os.map (itD r))]).length := by simp
    generalize h7 ++ [OD.lst (os.map (itD r))] = h8 at S8 A8 z8 ⊢
    clear S7 A7
    have lB := BX.len
    have lo := pm.length_eq
    refine p_heap_of S8.T A8 s1 (fun t ht => ⟨(BX.el t (oB t ht)).1, (BX.el t (oB t ht)).2.1⟩) (fun t ht => dctAt_iff.mp (S8.E t (oB t ht))) (R := rowsR) (fun t ht p hp => ((V t (oB t ht)).2.2 p hp).1) (fun t ht => (V t (oB t ht)).1) (by simp [rowsR]; omega) (by decide) fun g9 H9 => ?_
    have pw : (os.mergeSort lexB).Pairwise lexS := sort_strict (pm.nodup_iff.mpr BX.nd)
    have mq : ∀ t, t ∈ os.mergeSort lexB ↔ t ∈ B := fun t => List.mem_mergeSort.trans pm.mem_iff
    have dueE := due_eq BX V pw mq
    have val := hsum_val (s := s2) pw fun t ht => (BX.el t ((mq t).mp ht)).2.1
    have keys := hsum_keys (s := s2) (R := rowsR) (qs := os.mergeSort lexB) fun t ht p hp => ((V t ((mq t).mp ht)).2.2 p hp).1
    obtain ⟨ndM, nzM⟩ := hsum_ok (s := s2) (qs := os.mergeSort lexB)
    have lM : (hsum s2 (os.mergeSort lexB)).length ≤ 27 := by
      have h1 := hsum_len (s := s2) (R := rowsR) (qs := os.mergeSort lexB) fun t ht p hp => ((V t ((mq t).mp ht)).2.2 p hp).1
      rw [List.length_mergeSort] at h1
      have : rowsR.length = 3 := rfl
      rw [this] at h1
      omega
    have val : ∀ t ∈ B, ∀ row, sm (fS row t) (hsum s2 (os.mergeSort lexB)) = sm (fun r => decide (r = row)) (s2 t) := fun t ht row => val t ((mq t).mpr ht) row
    have keys : ∀ p ∈ hsum s2 (os.mergeSort lexB), p.1.2 ∈ B := fun p hp => (mq _).mp (keys p hp).2
    generalize hsum s2 (os.mergeSort lexB) = M at *
    have S9 := S8.more (g := g9)
    have za : sr < h8.length ∧ rr < h8.length := by omega
    have zr : ∀ u ∈ B, r u < h8.length := fun u hu => by have := ru u hu; omega
    have zn : n < h8.length := by obtain ⟨_, _, e, _⟩ := S8.P; exact (List.getElem?_eq_some_iff.mp e).1
    generalize h8 ++ g9 = h9 at S9 H9 ⊢
    generalize h8.length = fa at *
    clear S8 A8 z8 ru l7 r7 pw mq pm oB lo
    rw [seq_nx]; simp
    repeat (with_reducible refine And.intro (by simp [small]; done) ?_)
    have S10 := S9.more (g := [OD.lst []])
    have H10 : HpAt (h9 ++ [OD.lst []]) fa (fa + 1) s M := H9.more
    have A10 : lstAt (h9 ++ [OD.lst []]) h9.length = some (([] : List Df).map trD) := by simp
    generalize h9 ++ [OD.lst []] = h10 at S10 H10 A10 ⊢
    generalize h9.length = du0 at A10 ⊢
    clear S9 H9
    rw [seq_nx]; simp
    rw [loVar_E (m := sr) rfl]
    have S11 := S10.relk nn.1 true
    have H11 : HpAt (h10.set sr (.dct true (kvR B r))) fa (fa + 1) s M := H10.off (by omega) (by omega)
    have A11 : lstAt (h10.set sr (.dct true (kvR B r))) du0 = some (([] : List Df).map trD) := lstAt_of (by rw [List.getElem?_set_ne (dct_ne S10.D A10)]; exact lstAt_iff.mp A10)
    simp [S10.D]
    rw [S11.D]
    simp [kvR_keys]
    generalize h10.set sr (.dct true (kvR B r)) = h11 at S11 H11 A11 ⊢
    clear S10 H10 A10
    refine loop_inv (fun j env h' => (∃ e6 du, env = [some (.rol (ns.map .int)), some (.int (i : Nat)), some (.ref n), some (.int (s : Nat)), some (.ref sr), some (.ref rr), e6, e7, some (.ref od), some (.str kept), some (.ref fa), some (.ref du), e12, e13, e14, e15, e16, e17, e18] ∧ lstAt h' du = some ((dueL s2 (B.take j)).map trD)) ∧ ∃ g', h' = h11 ++ g') ⟨⟨_, _, rfl, A11⟩, [], by simp⟩ (fun _ _ _ _ => rfl) (fun j x env h' hx I => ?_) (fun env h' I => ?_)
    · obtain ⟨⟨e6, du, rfl, A⟩, g', rfl⟩ := I
      obtain ⟨t, ht, rfl⟩ := at_tm hx
      have tB := List.mem_of_getElem? ht
      have tk1 : dueL s2 (B.take (j + 1)) = dueL s2 (B.take j) ++ dueT s2 t := by rw [List.take_succ, ht]; simp [dueL]
      have ld : (dueL s2 (B.take j)).length ≤ 27 := by
        have : ∀ C : List (List Int), (dueL s2 C).length = 3 * C.length := fun C => by
          unfold dueL
          induction C with
          | nil => rfl
          | cons c C ih => rw [List.flatMap_cons, List.length_append, ih]; simp [dueT, rowsR]; omega
        rw [this, List.length_take]; omega
      rw [tk1]
      generalize dueL s2 (B.take j) = dl at *
      have Sg := S11.more (g := g')
      generalize hgE : h11 ++ g' = hg at Sg A ⊢
      simp [Sg.R]
      refine lc_mapA (k := tm) (as := rowsR) (fun row => trD ((row, t), cornerV (fun u => av (s2 u) row) t)) (live_ls Sg.R Sg.R) (by decide) (fun row hr => ?_) ?_
      · simp [e_corner Sg.D Sg.E (BX.el t tB).1 (fun u hu => av_small fun p hp => ((V u hu).2.2 p hp).2) (BX.cl t tB), trD]
        simp [small]
      · simp [A]
        refine ⟨small_ok (by simp [rowsR]; omega), ⟨_, _, ⟨rfl, rfl⟩, by simp [dueT]⟩, g' ++ [_], by rw [← hgE, List.append_assoc]⟩
    obtain ⟨⟨e6, du, rfl, A⟩, g', rfl⟩ := I
    rw [List.length_map, List.take_length] at A
    have Sg := S11.more (g := g')
    have Hg : HpAt (h11 ++ g') fa (fa + 1) s M := H11.more
    generalize h11 ++ g' = hg at Sg Hg A ⊢
    clear S11 H11 A11
    simp [Sg.unl]
    have S12 := Sg.relk nn.1 false
    have H12 : HpAt (hg.set sr (.dct false (kvR B r))) fa (fa + 1) s M := Hg.off (by omega) (by omega)
    have A12 : lstAt (hg.set sr (.dct false (kvR B r))) du = some ((dueL s2 B).map trD) := lstAt_of (by rw [List.getElem?_set_ne (dct_ne Sg.D A)]; exact lstAt_iff.mp A)
    generalize hg.set sr (.dct false (kvR B r)) = h12 at S12 H12 A12 ⊢
    clear Sg Hg A
    have ldue : (dueL s2 B).length ≤ 27 := by
      have : ∀ C : List (List Int), (dueL s2 C).length = 3 * C.length := fun C => by
        unfold dueL
        induction C with
        | nil => rfl
        | cons c C ih => rw [List.flatMap_cons, List.length_append, ih]; simp [dueT, rowsR]; omega
      rw [this]; omega
    generalize dueL s2 B = due at A12 dueE ldue
    rw [seq_nx]; simp [H12.obj, e_diff H12 (by omega)]
    have S13 := S12.more (g := [OD.lst ((srtM M).map trD)])
    have H13 : HpAt (h12 ++ [OD.lst ((srtM M).map trD)]) fa (fa + 1) s M := H12.more
    have A13 : lstAt (h12 ++ [OD.lst ((srtM M).map trD)]) du = some (due.map trD) := lstAt_more A12
    have B13 : lstAt (h12 ++ [OD.lst ((srtM M).map trD)]) h12.length = some ((srtM M).map trD) := by simp
    generalize h12 ++ [OD.lst ((srtM M).map trD)] = h13 at S13 H13 A13 B13 ⊢
    generalize h12.length = w13 at B13 ⊢
    clear S12 H12 A12
    simp [A13]
    refine lc_filter (k := trD) (as := due) (fun p => !decide (p.2 = 0)) trD (live_ls A13 A13) (by omega) (fun p hp => ?_) ?_
    · simp [trD]
      rw [Bool.eq_iff_iff]; simp
    simp [oks_tr, srt_tr, B13, mapO_trs, eqvAll_trs, ← dueE]
    simp [eR _ _ S13, oEqS]
    clear A13 B13 dueE ldue
    rw [seq_nx]; simp
    rw [loVar_E (m := sr) rfl]
    have S14 := S13.relk nn.1 true
    have H14 : HpAt (h13.set sr (.dct true (kvR B r))) fa (fa + 1) s M := H13.off (by omega) (by omega)
    simp [S13.D]
    rw [S14.D]
    simp [kvR_keys]
    generalize h13.set sr (.dct true (kvR B r)) = h14 at S14 H14 ⊢
    clear S13 H13
    have gM : ∀ p ∈ M, p.1.2.length = s := fun p hp => (BX.el _ (keys p hp)).2.1
    refine lc_inv (fun acc j h' => acc = [] ∧ ∃ g', h' = h14 ++ g') ⟨rfl, [], by simp⟩ (fun _ _ _ _ => rfl) (fun acc j x h' hx I _ => ?_) (by simp; omega) (fun acc h' I _ => ?_)
    · obtain ⟨rfl, g', rfl⟩ := I
      obtain ⟨t, ht, rfl⟩ := at_tm hx
      have tB := List.mem_of_getElem? ht
      obtain ⟨gt, tk, _⟩ := BX.el t tB
      have Sg := (S14.more (g := g')).more (g := [OD.dct false (encM tm (foldS [] (rowsAt M t)))])
      have Hg : HpAt (h14 ++ g') fa (fa + 1) s M := H14.more
      have Dg : dctAt (h14 ++ g' ++ [OD.dct false (encM tm (foldS [] (rowsAt M t)))]) (h14 ++ g').length = some (false, encM tm (foldS [] (rowsAt M t))) := dctAt_of (by rw [List.getElem?_append_right (Nat.le_refl _)]; simp)
      have ea := e_at Hg gM gt tk (by omega)
      have hgE : h14 ++ g' ++ [OD.dct false (encM tm (foldS [] (rowsAt M t)))] = h14 ++ (g' ++ [OD.dct false (encM tm (foldS [] (rowsAt M t)))]) := List.append_assoc _ _ _
      generalize h14 ++ g' = hg at *
      simp [Hg.obj, ea, Sg.D, kvR_tup, ek_tm.tup t, kvR_get tB]
      generalize hg ++ [OD.dct false (encM tm (foldS [] (rowsAt M t)))] = hk at *
      have R1 : Rep (foldS [] (rowsAt M t)) (rowsAt M t) := Rep.fold
      obtain ⟨v1, v2, _⟩ := V t tB
      have same := mem_same R1.1 R1.2.1 v1 v2 fun row => by
        rw [R1.2.2, sm_rows]
        exact val t tB row
      simp [Dg, Sg.E t tB, tupKs_enc ek_tm, eqDct_same ek_tm R1.1 v1 same]
      exact ⟨_, hgE⟩
    · obtain ⟨rfl, g', rfl⟩ := I
      have Sg := S14.more (g := g')
      have Hg : HpAt (h14 ++ g') fa (fa + 1) s M := H14.more
      generalize h14 ++ g' = hg at Sg Hg ⊢
      clear S14 H14
      rw [Sg.unl]
      have S15 := Sg.relk nn.1 false
      have H15 : HpAt (hg.set sr (.dct false (kvR B r))) fa (fa + 1) s M := Hg.off (by omega) (by omega)
      generalize hg.set sr (.dct false (kvR B r)) = h15 at S15 H15 ⊢
      clear Sg Hg
      simp
      repeat (with_reducible refine And.intro (by simp [small]; done) ?_)
      rw [seq_nx]; simp [H15.obj, e_diff H15 (by omega)]
      have S16 := S15.more (g := [OD.lst ((srtM M).map trD)])
      have H16 : HpAt (h15 ++ [OD.lst ((srtM M).map trD)]) fa (fa + 1) s M := H15.more
      have W16 : lstAt (h15 ++ [OD.lst ((srtM M).map trD)]) h15.length = some ((srtM M).map trD) := by simp
      generalize h15 ++ [OD.lst ((srtM M).map trD)] = h16 at S16 H16 W16 ⊢
      generalize h15.length = w at W16 ⊢
      clear S15 H15
      rw [seq_nx]; simp
      rw [loVar_E (m := sr) rfl]
      have S17 := S16.relk nn.1 true
      have H17 : HpAt (h16.set sr (.dct true (kvR B r))) fa (fa + 1) s M := H16.off (by omega) (by omega)
      have W17 : lstAt (h16.set sr (.dct true (kvR B r))) w = some ((srtM M).map trD) := lstAt_of (by rw [List.getElem?_set_ne (dct_ne S16.D W16)]; exact lstAt_iff.mp W16)
      simp [S16.D]
      rw [S17.D]
      simp [kvR_keys]
      generalize h16.set sr (.dct true (kvR B r)) = h17 at S17 H17 W17 ⊢
      clear S16 H16 W16
      refine loop_inv (fun j env h' => (∃ e6, env = [some (.rol (ns.map .int)), some (.int (i : Nat)), some (.ref n), some (.int (s : Nat)), some (.ref sr), some (.ref rr), e6, e7, some (.ref od), some (.str kept), some (.ref fa), some (.ref du), some (.ref w), e13, e14, e15, e16, e17, e18]) ∧ Mu n sr B r s fa M w j h') ⟨⟨_, rfl⟩, Mu.of S17 H17 W17 lS⟩ (fun _ _ _ _ => rfl) (fun j x env h' hx I => ?_) (fun env h' I => ?_)
      · obtain ⟨⟨e6, rfl⟩, U⟩ := I
        obtain ⟨t, ht, rfl⟩ := at_tm hx
        have hj := (List.getElem?_eq_some_iff.mp ht).1
        have tB := List.mem_of_getElem? ht
        obtain ⟨m, dm, lm⟩ := U.E t tB
        simp [U.D, kvR_tup, ek_tm.tup t, kvR_get tB, dm, tupKs_enc ek_tm]
        refine ⟨by simp [small], ⟨ek_tm.tup [9, 9], small_ok (by omega)⟩, ?_⟩
        have e9 : dput (encM tm m) (.tup [.int 9, .int 9]) (.int 5) = encM tm (aput m [9, 9] 5) := dput_enc (k := [9, 9]) ek_tm
        rw [e9]
        exact U.put tB (zr t tB) dm lm
      · obtain ⟨⟨e6, rfl⟩, U⟩ := I
        simp
        rw [unlk_of U.D]
        have P18 : Pool n (h'.set sr (.dct false (kvR B r))) := by
          obtain ⟨a, b, e, h1, h2⟩ := U.P
          exact ⟨a, b, by rw [List.getElem?_set_ne nn.1]; exact e, h1, h2⟩
        have T18 : TbH (h'.set sr (.dct false (kvR B r))) := by
          have := U.T
          unfold TbH TbAt at this ⊢
          rw [List.getElem?_set_ne S17.sr0]; exact this
        have H18 : HpAt (h'.set sr (.dct false (kvR B r))) fa (fa + 1) s M := U.H.off (by omega) (by omega)
        have W18 : lstAt (h'.set sr (.dct false (kvR B r))) w = some ((srtM M).map trD) := lstAt_of (by rw [List.getElem?_set_ne (dct_ne U.D U.W)]; exact lstAt_iff.mp U.W)
        generalize h'.set sr (.dct false (kvR B r)) = h18 at P18 T18 H18 W18 ⊢
        clear S17 H17 W17 U
        simp
        rw [seq_nx]; simp [H18.obj, e_diff H18 (by omega)]
        simp [lstAt_more W18, mapO_trs, eqvAll_trs]
        have P19 := P18.more (g := [OD.lst ((srtM M).map trD)])
        have T19 : TbH (h18 ++ [OD.lst ((srtM M).map trD)]) := T18.more
        generalize h18 ++ [OD.lst ((srtM M).map trD)] = h19 at P19 T19 ⊢
        clear P18 T18 H18 W18 eR hoB lS V val keys ndM nzM lM zr za zn gM
        rw [seq_nx]; simp
        refine p_diffs (m := 5) P19 s1 (by decide) fun ds h20 dl dk P20 K20 L20 => ?_
        have T20 : TbH h20 := T19.keep K20 n0
        simp [e_ladd L20 (by omega)]
        have RL : Rep (nzf (foldL [] ds)) ds := Rep.law
        have RD : Rep (srtM (nzf (foldL [] ds))) ds := RL.perm srt_perm
        have P21 := P20.more (g := [OD.dct false (encM kyD (foldL [] ds)), OD.lst ((srtM (nzf (foldL [] ds))).map trD)])
        have T21 : TbH (h20 ++ [OD.dct false (encM kyD (foldL [] ds)), OD.lst ((srtM (nzf (foldL [] ds))).map trD)]) := T20.more
        have L21 : lstAt (h20 ++ [OD.dct false (encM kyD (foldL [] ds)), OD.lst ((srtM (nzf (foldL [] ds))).map trD)]) (h20.length + 1) = some ((srtM (nzf (foldL [] ds))).map trD) := by simp
        generalize h20 ++ [OD.dct false (encM kyD (foldL [] ds)), OD.lst ((srtM (nzf (foldL [] ds))).map trD)] = h21 at P21 T21 L21 ⊢
        generalize srtM (nzf (foldL [] ds)) = ms at RD L21 ⊢
        generalize h20.length + 1 = dr at L21 ⊢
        clear RL P20 T20 K20 L20 P19 T19
        have mk : ∀ p ∈ ms, okP s p := fun p hp => by
          obtain ⟨q, hq, e⟩ := RD.key hp
          obtain ⟨o1, o2, o3, o4⟩ := dk q hq
          exact ⟨by rw [← e]; exact o1, by rw [← e]; exact o2, by rw [← e]; exact o3, RD.2.1 p hp⟩
        have ml : ms.length ≤ 5 := by
          have := nd_len RD.1 (L := ds.map (·.1)) fun p hp => by
            obtain ⟨q, hq, e⟩ := RD.key hp
            exact List.mem_map.mpr ⟨q, hq, e⟩
          rw [List.length_map] at this
          omega
        have ndm := RD.1
        have nzm := RD.2.1
        clear RD dk dl
        rw [seq_nx]; simp
        have i1 := e_init0 (h := h21) (x := .ref dr) rfl (.inr ⟨dr, rfl, L21⟩) s1 mk (by omega)
        simp [i1]
        have P22 := P21.more (g := [OD.ins "Heap" (hpF s (h21.length + 1)), .dct false (encM kyD (foldS [] ms))])
        have T22 : TbH (h21 ++ [OD.ins "Heap" (hpF s (h21.length + 1)), .dct false (encM kyD (foldS [] ms))]) := T21.more
        have L22 : lstAt (h21 ++ [OD.ins "Heap" (hpF s (h21.length + 1)), .dct false (encM kyD (foldS [] ms))]) dr = some (ms.map trD) := lstAt_more L21
        have H22 : HpAt (h21 ++ [OD.ins "Heap" (hpF s (h21.length + 1)), .dct false (encM kyD (foldS [] ms))]) h21.length (h21.length + 1) s (foldS [] ms) := ⟨by simp, by simp⟩
        generalize h21 ++ [OD.ins "Heap" (hpF s (h21.length + 1)), .dct false (encM kyD (foldS [] ms))] = h22 at P22 T22 L22 H22 ⊢
        generalize h21.length = fb at H22 ⊢
        clear P21 T21 L21 i1
        have R2 : Rep (foldS [] ms) ms := Rep.fold
        have l2 : (foldS [] ms).length ≤ 5 := by
          have := len_foldS (ms := []) (ds := ms)
          simp at this; omega
        have mk2 : ∀ p ∈ foldS [] ms, ∃ q ∈ ms, q.1 = p.1 := fun p hp => R2.key hp
        have nd2 := R2.1
        have nz2 := R2.2.1
        generalize foldS [] ms = N at H22 l2 mk2 nd2 nz2
        clear R2
        rw [seq_nx]; simp [L22]
        refine lc_mapA (k := trD) (as := ms) (fun p => tm p.1.2) (live_ls L22 L22) (by omega) (fun p hp => by simp [trD]) ?_
        have et : (ms.map fun p => tm p.1.2) = (ms.map fun p => p.1.2).map tm := by simp
        rw [et]
        have gT : ∀ t ∈ ms.map (fun p => p.1.2), good t ∧ t.length = s := fun t ht => by
          obtain ⟨p, hp, rfl⟩ := List.mem_map.mp ht
          exact ⟨(mk p hp).2.1, (mk p hp).2.2.1⟩
        have lT : (ms.map fun p => p.1.2).length ≤ 5 := by rw [List.length_map]; exact ml
        have mT : ∀ p ∈ N, p.1.2 ∈ ms.map (fun p => p.1.2) := fun p hp => by
          obtain ⟨q, hq, e⟩ := mk2 p hp
          exact List.mem_map.mpr ⟨q, hq, by rw [e]⟩
        generalize (ms.map fun p => p.1.2) = ts at gT lT mT ⊢
        refine p_joins (n := h22.length) (most := 64) (ds := ts.map tm) (by simp) (by rw [List.length_map]; omega) (fun x hx => by obtain ⟨t, _, rfl⟩ := List.mem_map.mp hx; exact tyt_tm) (fun us k e g => ?_) (fun i e => ?_)
        · obtain rfl : ts = us := by
            have := congrArg (List.map unT) e
            rw [List.map_map, List.map_map] at this
            have j : unT ∘ tm = id := funext fun x => unT_tm
            rwa [j, List.map_id, List.map_id] at this
          have pj := allJ_pow (ts := ts) rfl
          have p5 : 2 ^ ts.length ≤ 2 ^ 5 := Nat.pow_le_pow_right (by decide) lT
          have p6 : (2 : Nat) ^ 5 = 32 := by decide
          refine ⟨by omega, ?_⟩
          rw [if_pos (by omega)]
          intro g23 jr LJ
          have JO := allJ_ok gT
          have JP := sort_pw (ts := allJ ts)
          have JS := sort_strict JO.1
          have Jm : ∀ t, t ∈ sortJ ts ↔ t ∈ allJ ts := fun t => List.mem_mergeSort
          have Jl : (sortJ ts).length ≤ 31 := by
            unfold sortJ
            rw [List.length_mergeSort]; omega
          have JT : ∀ p ∈ N, p.1.2 ∈ sortJ ts := fun p hp => (Jm _).mpr (mem_allJ _ (mT p hp))
          have JG : ∀ t ∈ sortJ ts, good t ∧ t.length = s := fun t ht => JO.2 t ((Jm t).mp ht)
          have JN : (sortJ ts).Nodup := (List.mergeSort_perm _ _).nodup_iff.mpr JO.1
          have T23 : TbH (h22 ++ [OD.lst (ts.map tm)] ++ g23) := T22.more.more
          have H23 : HpAt (h22 ++ [OD.lst (ts.map tm)] ++ g23) fb (fb + 1) s N := H22.more.more
          generalize h22 ++ [OD.lst (ts.map tm)] ++ g23 = h23 at T23 H23 LJ ⊢
          generalize sortJ ts = J at *
          clear JO JP Jm
          rw [seq_nx]; simp [LJ]
          have gN : ∀ p ∈ N, p.1.2.length = s := fun p hp => (JG _ (JT p hp)).2
          refine lc_inv (fun acc j h' => ∃ (r : List Int → Nat) (g' : DH), h' = h23 ++ g' ∧ acc = (J.take j).map (itD r) ∧ ∀ u ∈ J.take j, dctAt h' (r u) = some (false, encM tm (foldS [] (rowsAt N u)))) ⟨fun _ => 0, [], by simp, rfl, by simp⟩ (fun acc j h' I => ?_) (fun acc j x h' hx I _ => ?_) (by simp; omega) (fun acc h' I _ => ?_)
          · obtain ⟨_, g', rfl, _⟩ := I
            exact live_ls LJ (lstAt_more LJ)
          · obtain ⟨r, g', rfl, rfl, hd⟩ := I
            obtain ⟨t, ht, rfl⟩ := at_tm hx
            have tJ := List.mem_of_getElem? ht
            have tk1 : J.take (j + 1) = J.take j ++ [t] := by rw [List.take_succ, ht]; rfl
            have tl : t ∉ J.take j := fun z => by
              rw [← List.take_append_drop (j + 1) J, tk1, List.append_assoc, List.nodup_append] at JN
              exact JN.2.2 t z t (by simp) rfl
            have Hg : HpAt (h23 ++ g') fb (fb + 1) s N := H23.more
            have ea := e_at Hg gN (JG t tJ).1 (JG t tJ).2 (by omega)
            have hgE : h23 ++ g' ++ [OD.dct false (encM tm (foldS [] (rowsAt N t)))] = h23 ++ (g' ++ [OD.dct false (encM tm (foldS [] (rowsAt N t)))]) := List.append_assoc _ _ _
            have dn : dctAt (h23 ++ g' ++ [OD.dct false (encM tm (foldS [] (rowsAt N t)))]) (h23 ++ g').length = some (false, encM tm (foldS [] (rowsAt N t))) := dctAt_of (by rw [List.getElem?_append_right (Nat.le_refl _)]; simp)
            have dm : ∀ u ∈ J.take j, dctAt (h23 ++ g' ++ [OD.dct false (encM tm (foldS [] (rowsAt N t)))]) (r u) = some (false, encM tm (foldS [] (rowsAt N u))) := fun u hu => dctAt_more (hd u hu)
            rw [tk1]
            generalize J.take j = C at *
            generalize h23 ++ g' = hg at *
            simp [cYes, Hg.obj, ea]
            refine ⟨by simp [small], ⟨_, hgE⟩, fun u => if u = t then hg.length else r u, ⟨fun u hu => ?_, by simp [itD]⟩, fun u hu => ?_⟩
            · have : ¬ u = t := fun z => tl (by rw [← z]; exact hu)
              simp [itD, this]
            · by_cases z : u = t
              · subst z
                simp only [if_true]
                exact dn
              · simp only [if_neg z]
                exact dm u (by simpa [z] using hu)
          · obtain ⟨r, g', rfl, rfl, hd⟩ := I
            rw [List.length_map, List.take_length] at *
            have T24 : TbH (h23 ++ g' ++ [OD.lst (J.map (itD r))]) := T23.more.more
            have H24 : HpAt (h23 ++ g' ++ [OD.lst (J.map (itD r))]) fb (fb + 1) s N := H23.more.more
            have A24 : lstAt (h23 ++ g' ++ [OD.lst (J.map (itD r))]) (h23 ++ g').length = some (J.map (itD r)) := by simp
            have D24 : ∀ u ∈ J, dctAt (h23 ++ g' ++ [OD.lst (J.map (itD r))]) (r u) = some (false, encM tm (foldS [] (rowsAt N u))) := fun u hu => dctAt_more (hd u hu)
            generalize h23 ++ g' ++ [OD.lst (J.map (itD r))] = h24 at T24 H24 A24 D24 ⊢
            refine p_heap_of T24 A24 s1 JG (s := fun u => foldS [] (rowsAt N u)) (fun t ht => dctAt_iff.mp (D24 t ht)) (R := N.map (·.1.1)) (fun t ht p hp => ?_) (fun t ht => (Rep.fold (ds := rowsAt N t)).1) (by rw [List.length_map]; exact Nat.le_trans (Nat.mul_le_mul l2 Jl) (by decide)) (by rw [List.length_map]; omega) fun g25 H25 => ?_
            · obtain ⟨q, hq, e⟩ := (Rep.fold (ds := rowsAt N t)).key hp
              obtain ⟨v, hv, rfl⟩ := List.mem_map.mp hq
              exact List.mem_map.mpr ⟨v, (List.mem_filter.mp hv).1, e⟩
            · have Js : (J.mergeSort lexB).Pairwise lexS := sort_strict JN
              have same := joins_eq (qs := J.mergeSort lexB) (k := s) nd2 nz2 (fun p hp => List.mem_mergeSort.mpr (JT p hp)) (fun t ht => (JG t (List.mem_mergeSort.mp ht)).2) Js
              have eq := e_eqH H25 (H24.more (g := g25)) hsum_ok.1 nd2 same
              simp [insAt_of H25.obj, insAt_of (H24.more (g := g25)).obj, eq]
              exact T24.more
        · rw [look_good gT] at e
          cases e
  · obtain ⟨T, r, hr, rfl⟩ := I
    rw [seq_nx]; simp
    repeat (with_reducible refine And.intro (by simp [small]; done) ?_)
    have T1 : TbH (h ++ [OD.lst []]) := T.more
    refine p_heap_of (us := []) (k := 1) (r := fun _ => 0) (s := fun _ => []) (R := []) T1 (by simp) (by decide) (by simp) (by simp) (by simp) (by simp) (by simp) (by simp) fun g H => ?_
    have e0 : hsum (fun _ => []) (([] : List (List Int)).mergeSort lexB) = [] := by simp [hsum]
    rw [e0] at H
    generalize h ++ [OD.lst []] ++ g = hh at H ⊢
    generalize (h ++ [OD.lst []]).length = fa at H ⊢
    simp [H.obj, e_diff H (by simp), srtM]
    simp [small]
/-! ### the walk -/
/-! ### the text of the law -/
def dlTop (i : Nat) : Stmt := PySem.Challenge.pw_roundmoments_k11_whole_one_heap_of_sums.main.body.getD i (.Pass ⟨0, 0, 0, 0⟩)
def t__law_pool : He.DefD := ⟨("_law_pool", none), "_law_pool", "_law_pool", defArgs (dlTop 25), defBody (dlTop 25), defScope (dlTop 25), [], []⟩
abbrev N__law_pool : List Str := ["_law_script", "_law_k", "_law_cell", "_law_number"]
theorem sc__law_pool : FnScope N__law_pool ["_law_script", "_law_k"] (defScope (dlTop 25)) := ⟨rfl, rfl, rfl, by decide +kernel, rfl, by decide +kernel, by decide +kernel⟩
def t__law_box : He.DefD := ⟨("_law_box", none), "_law_box", "_law_box", defArgs (dlTop 33), defBody (dlTop 33), defScope (dlTop 33), [], []⟩
abbrev N__law_box : List Str := ["_law_size", "_law_top", "_law_found", "_law_j", "_law_longer", "_law_time_here", "_law_clock"]
theorem sc__law_box : FnScope N__law_box ["_law_size", "_law_top"] (defScope (dlTop 33)) := ⟨rfl, rfl, rfl, by decide +kernel, rfl, by decide +kernel, by decide +kernel⟩
def t_is_whole : He.DefD := ⟨("is_whole", none), "is_whole", "is_whole", defArgs (dlTop 9), defBody (dlTop 9), defScope (dlTop 9), [], []⟩
abbrev N_is_whole : List Str := ["thing"]
theorem sc_is_whole : FnScope N_is_whole ["thing"] (defScope (dlTop 9)) := ⟨rfl, rfl, rfl, by decide +kernel, rfl, by decide +kernel, by decide +kernel⟩
def t_added : He.DefD := ⟨("added", none), "added", "added", defArgs (dlTop 21), defBody (dlTop 21), defScope (dlTop 21), [], []⟩
abbrev N_added : List Str := ["sums", "row", "count"]
theorem sc_added : FnScope N_added ["sums", "row", "count"] (defScope (dlTop 21)) := ⟨rfl, rfl, rfl, by decide +kernel, rfl, by decide +kernel, by decide +kernel⟩
def t_Heap_put_in : He.DefD := ⟨("Heap", some "put_in"), "put_in", "Heap.put_in", defArgs (inClass (dlTop 22) 2), defBody (inClass (dlTop 22) 2), defScope (inClass (dlTop 22) 2), [], []⟩
abbrev N_Heap_put_in : List Str := ["self", "difference", "row", "time", "count"]
theorem sc_Heap_put_in : FnScope N_Heap_put_in ["self", "difference"] (defScope (inClass (dlTop 22) 2)) := ⟨rfl, rfl, rfl, by decide +kernel, rfl, by decide +kernel, by decide +kernel⟩
def t_is_row : He.DefD := ⟨("is_row", none), "is_row", "is_row", defArgs (dlTop 19), defBody (dlTop 19), defScope (dlTop 19), [], [("width", He.Dv.non)]⟩
abbrev N_is_row : List Str := ["thing", "width", "number"]
theorem sc_is_row : FnScope N_is_row ["thing", "width"] (defScope (dlTop 19)) := ⟨rfl, rfl, rfl, by decide +kernel, rfl, by decide +kernel, by decide +kernel⟩
def t_is_time : He.DefD := ⟨("is_time", none), "is_time", "is_time", defArgs (dlTop 10), defBody (dlTop 10), defScope (dlTop 10), [], [("clocks", He.Dv.non)]⟩
abbrev N_is_time : List Str := ["thing", "clocks", "clock"]
theorem sc_is_time : FnScope N_is_time ["thing", "clocks"] (defScope (dlTop 10)) := ⟨rfl, rfl, rfl, by decide +kernel, rfl, by decide +kernel, by decide +kernel⟩
def t_is_count : He.DefD := ⟨("is_count", none), "is_count", "is_count", defArgs (dlTop 20), defBody (dlTop 20), defScope (dlTop 20), [], []⟩
abbrev N_is_count : List Str := ["thing"]
theorem sc_is_count : FnScope N_is_count ["thing"] (defScope (dlTop 20)) := ⟨rfl, rfl, rfl, by decide +kernel, rfl, by decide +kernel, by decide +kernel⟩
def t_Heap_is_fit : He.DefD := ⟨("Heap", some "is_fit"), "is_fit", "Heap.is_fit", defArgs (inClass (dlTop 22) 1), defBody (inClass (dlTop 22) 1), defScope (inClass (dlTop 22) 1), [], []⟩
abbrev N_Heap_is_fit : List Str := ["self", "thing", "row", "time", "count"]
theorem sc_Heap_is_fit : FnScope N_Heap_is_fit ["self", "thing"] (defScope (inClass (dlTop 22) 1)) := ⟨rfl, rfl, rfl, by decide +kernel, rfl, by decide +kernel, by decide +kernel⟩
def t_NoCount___init__ : He.DefD := ⟨("NoCount", some "__init__"), "__init__", "NoCount.__init__", defArgs (inClass (dlTop 5) 0), defBody (inClass (dlTop 5) 0), defScope (inClass (dlTop 5) 0), [], []⟩
abbrev N_NoCount___init__ : List Str := ["self", "much"]
theorem sc_NoCount___init__ : FnScope N_NoCount___init__ ["self", "much"] (defScope (inClass (dlTop 5) 0)) := ⟨rfl, rfl, rfl, by decide +kernel, rfl, by decide +kernel, by decide +kernel⟩
def t_NoHeap___init__ : He.DefD := ⟨("NoHeap", some "__init__"), "__init__", "NoHeap.__init__", defArgs (inClass (dlTop 3) 0), defBody (inClass (dlTop 3) 0), defScope (inClass (dlTop 3) 0), [], []⟩
abbrev N_NoHeap___init__ : List Str := ["self", "number"]
theorem sc_NoHeap___init__ : FnScope N_NoHeap___init__ ["self", "number"] (defScope (inClass (dlTop 3) 0)) := ⟨rfl, rfl, rfl, by decide +kernel, rfl, by decide +kernel, by decide +kernel⟩
def t_Heap___init__ : He.DefD := ⟨("Heap", some "__init__"), "__init__", "Heap.__init__", defArgs (inClass (dlTop 22) 0), defBody (inClass (dlTop 22) 0), defScope (inClass (dlTop 22) 0), [He.Dv.adr (He.dflAt ("Heap", some "__init__") 0)], [("clocks", He.Dv.int (1))]⟩
abbrev N_Heap___init__ : List Str := ["self", "differences", "clocks", "number", "thing"]
theorem sc_Heap___init__ : FnScope N_Heap___init__ ["self", "differences", "clocks"] (defScope (inClass (dlTop 22) 0)) := ⟨rfl, rfl, rfl, by decide +kernel, rfl, by decide +kernel, by decide +kernel⟩
def t_is_before : He.DefD := ⟨("is_before", none), "is_before", "is_before", defArgs (dlTop 12), defBody (dlTop 12), defScope (dlTop 12), [], []⟩
abbrev N_is_before : List Str := ["one", "other", "first", "second"]
theorem sc_is_before : FnScope N_is_before ["one", "other"] (defScope (dlTop 12)) := ⟨rfl, rfl, rfl, by decide +kernel, rfl, by decide +kernel, by decide +kernel⟩
def t_Heap_sum_at : He.DefD := ⟨("Heap", some "sum_at"), "sum_at", "Heap.sum_at", defArgs (inClass (dlTop 22) 7), defBody (inClass (dlTop 22) 7), defScope (inClass (dlTop 22) 7), [], []⟩
abbrev N_Heap_sum_at : List Str := ["self", "time", "found", "row", "other", "count"]
theorem sc_Heap_sum_at : FnScope N_Heap_sum_at ["self", "time"] (defScope (inClass (dlTop 22) 7)) := ⟨rfl, rfl, rfl, by decide +kernel, rfl, by decide +kernel, by decide +kernel⟩
def t_heap_of : He.DefD := ⟨("heap_of", none), "heap_of", "heap_of", defArgs (dlTop 23), defBody (dlTop 23), defScope (dlTop 23), [], [("clocks", He.Dv.int (1))]⟩
abbrev N_heap_of : List Str := ["sums", "clocks", "found", "time", "told", "here", "row", "count"]
theorem sc_heap_of : FnScope N_heap_of ["sums", "clocks"] (defScope (dlTop 23)) := ⟨rfl, rfl, rfl, by decide +kernel, rfl, by decide +kernel, by decide +kernel⟩
def t__law_added : He.DefD := ⟨("_law_added", none), "_law_added", "_law_added", defArgs (dlTop 31), defBody (dlTop 31), defScope (dlTop 31), [], []⟩
abbrev N__law_added : List Str := ["_law_diffs_here", "_law_found", "_law_row_here", "_law_time_here", "_law_count"]
theorem sc__law_added : FnScope N__law_added ["_law_diffs_here"] (defScope (dlTop 31)) := ⟨rfl, rfl, rfl, by decide +kernel, rfl, by decide +kernel, by decide +kernel⟩
def t_NoTime___init__ : He.DefD := ⟨("NoTime", some "__init__"), "__init__", "NoTime.__init__", defArgs (inClass (dlTop 2) 0), defBody (inClass (dlTop 2) 0), defScope (inClass (dlTop 2) 0), [], []⟩
abbrev N_NoTime___init__ : List Str := ["self", "place"]
theorem sc_NoTime___init__ : FnScope N_NoTime___init__ ["self", "place"] (defScope (inClass (dlTop 2) 0)) := ⟨rfl, rfl, rfl, by decide +kernel, rfl, by decide +kernel, by decide +kernel⟩
def t_look_at_times : He.DefD := ⟨("look_at_times", none), "look_at_times", "look_at_times", defArgs (dlTop 11), defBody (dlTop 11), defScope (dlTop 11), [], []⟩
abbrev N_look_at_times : List Str := ["times", "place", "time"]
theorem sc_look_at_times : FnScope N_look_at_times ["times"] (defScope (dlTop 11)) := ⟨rfl, rfl, rfl, by decide +kernel, rfl, by decide +kernel, by decide +kernel⟩
def t_joined : He.DefD := ⟨("joined", none), "joined", "joined", defArgs (dlTop 13), defBody (dlTop 13), defScope (dlTop 13), [], []⟩
abbrev N_joined : List Str := ["one", "other", "first", "second"]
theorem sc_joined : FnScope N_joined ["one", "other"] (defScope (dlTop 13)) := ⟨rfl, rfl, rfl, by decide +kernel, rfl, by decide +kernel, by decide +kernel⟩
def t_TooMany___init__ : He.DefD := ⟨("TooMany", some "__init__"), "__init__", "TooMany.__init__", defArgs (inClass (dlTop 6) 0), defBody (inClass (dlTop 6) 0), defScope (inClass (dlTop 6) 0), [], []⟩
abbrev N_TooMany___init__ : List Str := ["self", "many"]
theorem sc_TooMany___init__ : FnScope N_TooMany___init__ ["self", "many"] (defScope (inClass (dlTop 6) 0)) := ⟨rfl, rfl, rfl, by decide +kernel, rfl, by decide +kernel, by decide +kernel⟩
def t_joins : He.DefD := ⟨("joins", none), "joins", "joins", defArgs (dlTop 16), defBody (dlTop 16), defScope (dlTop 16), [], [("most", He.Dv.int (64))]⟩
abbrev N_joins : List Str := ["times", "most", "found", "time", "other", "one"]
theorem sc_joins : FnScope N_joins ["times", "most"] (defScope (dlTop 16)) := ⟨rfl, rfl, rfl, by decide +kernel, rfl, by decide +kernel, by decide +kernel⟩
def t__law_take : He.DefD := ⟨("_law_take", none), "_law_take", "_law_take", defArgs (dlTop 26), defBody (dlTop 26), defScope (dlTop 26), [], []⟩
abbrev N__law_take : List Str := ["_law_pool_here", "_law_many", "_law_found"]
theorem sc__law_take : FnScope N__law_take ["_law_pool_here", "_law_many"] (defScope (dlTop 26)) := ⟨rfl, rfl, rfl, by decide +kernel, rfl, by decide +kernel, by decide +kernel⟩
def t__law_row : He.DefD := ⟨("_law_row", none), "_law_row", "_law_row", defArgs (dlTop 29), defBody (dlTop 29), defScope (dlTop 29), [], []⟩
abbrev N__law_row : List Str := ["_law_pool_here", "_law_size", "_law_j"]
theorem sc__law_row : FnScope N__law_row ["_law_pool_here", "_law_size"] (defScope (dlTop 29)) := ⟨rfl, rfl, rfl, by decide +kernel, rfl, by decide +kernel, by decide +kernel⟩
def t__law_time : He.DefD := ⟨("_law_time", none), "_law_time", "_law_time", defArgs (dlTop 27), defBody (dlTop 27), defScope (dlTop 27), [], []⟩
abbrev N__law_time : List Str := ["_law_pool_here", "_law_size", "_law_top", "_law_j"]
theorem sc__law_time : FnScope N__law_time ["_law_pool_here", "_law_size", "_law_top"] (defScope (dlTop 27)) := ⟨rfl, rfl, rfl, by decide +kernel, rfl, by decide +kernel, by decide +kernel⟩
def t__law_diffs : He.DefD := ⟨("_law_diffs", none), "_law_diffs", "_law_diffs", defArgs (dlTop 30), defBody (dlTop 30), defScope (dlTop 30), [], []⟩
abbrev N__law_diffs : List Str := ["_law_pool_here", "_law_most", "_law_size", "_law_found", "_law_j", "_law_row_here", "_law_count"]
theorem sc__law_diffs : FnScope N__law_diffs ["_law_pool_here", "_law_most", "_law_size"] (defScope (dlTop 30)) := ⟨rfl, rfl, rfl, by decide +kernel, rfl, by decide +kernel, by decide +kernel⟩
def t__law_corner : He.DefD := ⟨("_law_corner", none), "_law_corner", "_law_corner", defArgs (dlTop 34), defBody (dlTop 34), defScope (dlTop 34), [], []⟩
abbrev N__law_corner : List Str := ["_law_sums", "_law_time_here", "_law_row_here", "_law_total", "_law_way", "_law_lower", "_law_sign", "_law_j"]
theorem sc__law_corner : FnScope N__law_corner ["_law_sums", "_law_time_here", "_law_row_here"] (defScope (dlTop 34)) := ⟨rfl, rfl, rfl, by decide +kernel, rfl, by decide +kernel, by decide +kernel⟩
def t_Heap___eq__ : He.DefD := ⟨("Heap", some "__eq__"), "__eq__", "Heap.__eq__", defArgs (inClass (dlTop 22) 13), defBody (inClass (dlTop 22) 13), defScope (inClass (dlTop 22) 13), [], []⟩
abbrev N_Heap___eq__ : List Str := ["self", "other"]
theorem sc_Heap___eq__ : FnScope N_Heap___eq__ ["self", "other"] (defScope (inClass (dlTop 22) 13)) := ⟨rfl, rfl, rfl, by decide +kernel, rfl, by decide +kernel, by decide +kernel⟩
def t_Heap_differences : He.DefD := ⟨("Heap", some "differences"), "differences", "Heap.differences", defArgs (inClass (dlTop 22) 4), defBody (inClass (dlTop 22) 4), defScope (inClass (dlTop 22) 4), [], []⟩
abbrev N_Heap_differences : List Str := ["self", "count", "row", "time"]
theorem sc_Heap_differences : FnScope N_Heap_differences ["self"] (defScope (inClass (dlTop 22) 4)) := ⟨rfl, rfl, rfl, by decide +kernel, rfl, by decide +kernel, by decide +kernel⟩
def t_Heap_at : He.DefD := ⟨("Heap", some "at"), "at", "Heap.at", defArgs (inClass (dlTop 22) 8), defBody (inClass (dlTop 22) 8), defScope (inClass (dlTop 22) 8), [], []⟩
abbrev N_Heap_at : List Str := ["self", "time"]
theorem sc_Heap_at : FnScope N_Heap_at ["self", "time"] (defScope (inClass (dlTop 22) 8)) := ⟨rfl, rfl, rfl, by decide +kernel, rfl, by decide +kernel, by decide +kernel⟩
def t_law : He.DefD := ⟨("law", none), "law", "law", defArgs (dlTop 35), defBody (dlTop 35), defScope (dlTop 35), [], []⟩
abbrev N_law : List Str := ["_law_script", "_law_k", "_law_pool_here", "_law_size", "_law_sums", "_law_rows", "_law_time_here", "_law_some", "_law_order", "_law_kept", "_law_found", "_law_due", "_law_word", "_law_diffs_here", "_law_heap", "_law_times", "_law_row_here", "_law_count", "_law_one"]
theorem sc_law : FnScope N_law ["_law_script"] (defScope (dlTop 35)) := ⟨rfl, rfl, rfl, by decide +kernel, rfl, by decide +kernel, by decide +kernel⟩
abbrev theFn : List He.DefD := [t__law_pool, t__law_box, t_is_whole, t_added, t_Heap_put_in, t_is_row, t_is_time, t_is_count, t_Heap_is_fit, t_NoCount___init__, t_NoHeap___init__, t_Heap___init__, t_is_before, t_Heap_sum_at, t_heap_of, t__law_added, t_NoTime___init__, t_look_at_times, t_joined, t_TooMany___init__, t_joins, t__law_take, t__law_row, t__law_time, t__law_diffs, t__law_corner, t_Heap___eq__, t_Heap_differences, t_Heap_at, t_law]
abbrev theFa : List FaX := [xGlo "_law_pool",
  xFree "len",
  xGlo "_law_box",
  xFree "range",
  xGlo "is_whole",
  xFree "bool",
  xFree "int",
  xFree "isinstance",
  xGlo "added",
  xCls "Heap",
  xGlo "Heap",
  xNoat "Heap" "own_counts",
  xGlo "is_row",
  xFree "all",
  xFree "tuple",
  xInt "MOST_WIDTH" (4),
  xGlo "is_time",
  xInt "MOST_CLOCKS" (3),
  xGlo "is_count",
  xNoat "Heap" "own_clocks",
  xFree "ValueError",
  xTup0 ("Heap", some "__init__") 0,
  xFree "enumerate",
  xFree "list",
  xGlo "NoCount",
  xGlo "NoHeap",
  xMeth "Heap" "is_fit",
  xMeth "Heap" "put_in",
  xOex "NoCount" "much",
  xOex "NoHeap" "number",
  xGlo "is_before",
  xFree "zip",
  xGlo "heap_of",
  xFree "sorted",
  xMeth "Heap" "sum_at",
  xMkr "Heap",
  xGlo "_law_added",
  xGlo "look_at_times",
  xGlo "NoTime",
  xOex "NoTime" "place",
  xGlo "joined",
  xFree "max",
  xFree "OverflowError",
  xGlo "joins",
  xGlo "TooMany",
  xOexO "TooMany" "many",
  xGlo "_law_take",
  xGlo "_law_row",
  xGlo "_law_time",
  xGlo "_law_diffs",
  xGlo "_law_corner",
  xFree "min",
  xFree "sum",
  xIkit "Heap",
  xGlo "law",
  xFree "dict",
  xFree "repr",
  xMeth "Heap" "__eq__",
  xMeth "Heap" "at",
  xMeth "Heap" "differences",
  xNeq "Heap"]
structure Vw (K : PySem.W.Frag) (mg : Str → Option Value) : Prop where
  c : SaysX theFa theFn K
  ns : ∃ h : Heap, K.In h ∧ h.Ns mainGlobals mg
section
variable {P : Program} {w : World} {K : PySem.W.Frag} {mg : Str → Option Value} {base : Heap}
theorem v_glo__law_pool (V : Vw K mg) : mg "_law_pool" = some (.ref (He.ga K "_law_pool")) := let ⟨_, X, G⟩ := V.ns; He.glo_ok X G (V.c.fact 0 rfl)
theorem v_free_len (V : Vw K mg) : mg "len" = none := let ⟨_, X, G⟩ := V.ns; He.free_ok X G (V.c.fact 1 rfl)
theorem v_glo__law_box (V : Vw K mg) : mg "_law_box" = some (.ref (He.ga K "_law_box")) := let ⟨_, X, G⟩ := V.ns; He.glo_ok X G (V.c.fact 2 rfl)
theorem v_free_range (V : Vw K mg) : mg "range" = none := let ⟨_, X, G⟩ := V.ns; He.free_ok X G (V.c.fact 3 rfl)
theorem v_glo_is_whole (V : Vw K mg) : mg "is_whole" = some (.ref (He.ga K "is_whole")) := let ⟨_, X, G⟩ := V.ns; He.glo_ok X G (V.c.fact 4 rfl)
theorem v_free_bool (V : Vw K mg) : mg "bool" = none := let ⟨_, X, G⟩ := V.ns; He.free_ok X G (V.c.fact 5 rfl)
theorem v_free_int (V : Vw K mg) : mg "int" = none := let ⟨_, X, G⟩ := V.ns; He.free_ok X G (V.c.fact 6 rfl)
theorem v_free_isinstance (V : Vw K mg) : mg "isinstance" = none := let ⟨_, X, G⟩ := V.ns; He.free_ok X G (V.c.fact 7 rfl)
theorem v_glo_added (V : Vw K mg) : mg "added" = some (.ref (He.ga K "added")) := let ⟨_, X, G⟩ := V.ns; He.glo_ok X G (V.c.fact 8 rfl)
theorem v_glo_Heap (V : Vw K mg) : mg "Heap" = some (.ref (He.ga K "Heap")) := let ⟨_, X, G⟩ := V.ns; He.glo_ok X G (V.c.fact 10 rfl)
theorem v_glo_is_row (V : Vw K mg) : mg "is_row" = some (.ref (He.ga K "is_row")) := let ⟨_, X, G⟩ := V.ns; He.glo_ok X G (V.c.fact 12 rfl)
theorem v_free_all (V : Vw K mg) : mg "all" = none := let ⟨_, X, G⟩ := V.ns; He.free_ok X G (V.c.fact 13 rfl)
theorem v_free_tuple (V : Vw K mg) : mg "tuple" = none := let ⟨_, X, G⟩ := V.ns; He.free_ok X G (V.c.fact 14 rfl)
theorem v_int_MOST_WIDTH (V : Vw K mg) : ∃ t, mg "MOST_WIDTH" = some (.int (4) t) := let ⟨_, X, G⟩ := V.ns; He.int_ok X G (V.c.fact 15 rfl)
theorem v_glo_is_time (V : Vw K mg) : mg "is_time" = some (.ref (He.ga K "is_time")) := let ⟨_, X, G⟩ := V.ns; He.glo_ok X G (V.c.fact 16 rfl)
theorem v_int_MOST_CLOCKS (V : Vw K mg) : ∃ t, mg "MOST_CLOCKS" = some (.int (3) t) := let ⟨_, X, G⟩ := V.ns; He.int_ok X G (V.c.fact 17 rfl)
theorem v_glo_is_count (V : Vw K mg) : mg "is_count" = some (.ref (He.ga K "is_count")) := let ⟨_, X, G⟩ := V.ns; He.glo_ok X G (V.c.fact 18 rfl)
theorem v_free_ValueError (V : Vw K mg) : mg "ValueError" = none := let ⟨_, X, G⟩ := V.ns; He.free_ok X G (V.c.fact 20 rfl)
theorem v_free_enumerate (V : Vw K mg) : mg "enumerate" = none := let ⟨_, X, G⟩ := V.ns; He.free_ok X G (V.c.fact 22 rfl)
theorem v_free_list (V : Vw K mg) : mg "list" = none := let ⟨_, X, G⟩ := V.ns; He.free_ok X G (V.c.fact 23 rfl)
theorem v_glo_NoCount (V : Vw K mg) : mg "NoCount" = some (.ref (He.ga K "NoCount")) := let ⟨_, X, G⟩ := V.ns; He.glo_ok X G (V.c.fact 24 rfl)
theorem v_glo_NoHeap (V : Vw K mg) : mg "NoHeap" = some (.ref (He.ga K "NoHeap")) := let ⟨_, X, G⟩ := V.ns; He.glo_ok X G (V.c.fact 25 rfl)
theorem v_oex_NoCount (V : Vw K mg) : Oex1 K (He.ga K "NoCount") (He.ma K (He.ga K "NoCount") "__init__") "much" := xOex_ok (V.c.fact 28 rfl)
theorem v_oex_NoHeap (V : Vw K mg) : Oex1 K (He.ga K "NoHeap") (He.ma K (He.ga K "NoHeap") "__init__") "number" := xOex_ok (V.c.fact 29 rfl)
theorem v_glo_is_before (V : Vw K mg) : mg "is_before" = some (.ref (He.ga K "is_before")) := let ⟨_, X, G⟩ := V.ns; He.glo_ok X G (V.c.fact 30 rfl)
theorem v_free_zip (V : Vw K mg) : mg "zip" = none := let ⟨_, X, G⟩ := V.ns; He.free_ok X G (V.c.fact 31 rfl)
theorem v_glo_heap_of (V : Vw K mg) : mg "heap_of" = some (.ref (He.ga K "heap_of")) := let ⟨_, X, G⟩ := V.ns; He.glo_ok X G (V.c.fact 32 rfl)
theorem v_free_sorted (V : Vw K mg) : mg "sorted" = none := let ⟨_, X, G⟩ := V.ns; He.free_ok X G (V.c.fact 33 rfl)
theorem v_glo__law_added (V : Vw K mg) : mg "_law_added" = some (.ref (He.ga K "_law_added")) := let ⟨_, X, G⟩ := V.ns; He.glo_ok X G (V.c.fact 36 rfl)
theorem v_glo_look_at_times (V : Vw K mg) : mg "look_at_times" = some (.ref (He.ga K "look_at_times")) := let ⟨_, X, G⟩ := V.ns; He.glo_ok X G (V.c.fact 37 rfl)
theorem v_glo_NoTime (V : Vw K mg) : mg "NoTime" = some (.ref (He.ga K "NoTime")) := let ⟨_, X, G⟩ := V.ns; He.glo_ok X G (V.c.fact 38 rfl)
theorem v_oex_NoTime (V : Vw K mg) : Oex1 K (He.ga K "NoTime") (He.ma K (He.ga K "NoTime") "__init__") "place" := xOex_ok (V.c.fact 39 rfl)
theorem v_glo_joined (V : Vw K mg) : mg "joined" = some (.ref (He.ga K "joined")) := let ⟨_, X, G⟩ := V.ns; He.glo_ok X G (V.c.fact 40 rfl)
theorem v_free_max (V : Vw K mg) : mg "max" = none := let ⟨_, X, G⟩ := V.ns; He.free_ok X G (V.c.fact 41 rfl)
theorem v_free_OverflowError (V : Vw K mg) : mg "OverflowError" = none := let ⟨_, X, G⟩ := V.ns; He.free_ok X G (V.c.fact 42 rfl)
theorem v_glo_joins (V : Vw K mg) : mg "joins" = some (.ref (He.ga K "joins")) := let ⟨_, X, G⟩ := V.ns; He.glo_ok X G (V.c.fact 43 rfl)
theorem v_glo_TooMany (V : Vw K mg) : mg "TooMany" = some (.ref (He.ga K "TooMany")) := let ⟨_, X, G⟩ := V.ns; He.glo_ok X G (V.c.fact 44 rfl)
theorem v_oexO_TooMany (V : Vw K mg) : OexN1 "OverflowError.__new__" ofTail K (He.ga K "TooMany") (He.ma K (He.ga K "TooMany") "__init__") "many" := xOexO_ok (V.c.fact 45 rfl)
theorem v_glo__law_take (V : Vw K mg) : mg "_law_take" = some (.ref (He.ga K "_law_take")) := let ⟨_, X, G⟩ := V.ns; He.glo_ok X G (V.c.fact 46 rfl)
theorem v_glo__law_row (V : Vw K mg) : mg "_law_row" = some (.ref (He.ga K "_law_row")) := let ⟨_, X, G⟩ := V.ns; He.glo_ok X G (V.c.fact 47 rfl)
theorem v_glo__law_time (V : Vw K mg) : mg "_law_time" = some (.ref (He.ga K "_law_time")) := let ⟨_, X, G⟩ := V.ns; He.glo_ok X G (V.c.fact 48 rfl)
theorem v_glo__law_diffs (V : Vw K mg) : mg "_law_diffs" = some (.ref (He.ga K "_law_diffs")) := let ⟨_, X, G⟩ := V.ns; He.glo_ok X G (V.c.fact 49 rfl)
theorem v_glo__law_corner (V : Vw K mg) : mg "_law_corner" = some (.ref (He.ga K "_law_corner")) := let ⟨_, X, G⟩ := V.ns; He.glo_ok X G (V.c.fact 50 rfl)
theorem v_free_min (V : Vw K mg) : mg "min" = none := let ⟨_, X, G⟩ := V.ns; He.free_ok X G (V.c.fact 51 rfl)
theorem v_free_sum (V : Vw K mg) : mg "sum" = none := let ⟨_, X, G⟩ := V.ns; He.free_ok X G (V.c.fact 52 rfl)
theorem v_glo_law (V : Vw K mg) : mg "law" = some (.ref (He.ga K "law")) := let ⟨_, X, G⟩ := V.ns; He.glo_ok X G (V.c.fact 54 rfl)
theorem v_free_dict (V : Vw K mg) : mg "dict" = none := let ⟨_, X, G⟩ := V.ns; He.free_ok X G (V.c.fact 55 rfl)
theorem v_free_repr (V : Vw K mg) : mg "repr" = none := let ⟨_, X, G⟩ := V.ns; He.free_ok X G (V.c.fact 56 rfl)
theorem v_cls_Heap (V : Vw K mg) : Cls K (He.ga K "Heap") := He.cls_ok (V.c.fact 9 rfl)
theorem v_noat_Heap_own_counts (V : Vw K mg) : NoAttr K (He.ga K "Heap") "own_counts" := He.noat_ok (V.c.fact 11 rfl)
theorem v_noat_Heap_own_clocks (V : Vw K mg) : NoAttr K (He.ga K "Heap") "own_clocks" := He.noat_ok (V.c.fact 19 rfl)
theorem v_tup0_Heap___init___0 (V : Vw K mg) : Tup0 K (He.dflAt ("Heap", some "__init__") 0 K) := xTup0_ok (V.c.fact 21 rfl)
theorem v_meth_Heap_is_fit (V : Vw K mg) : Meth K (He.ga K "Heap") "is_fit" (He.fAd K ("Heap", some "is_fit")) := He.meth_ok (V.c.fact 26 rfl)
theorem v_meth_Heap_put_in (V : Vw K mg) : Meth K (He.ga K "Heap") "put_in" (He.fAd K ("Heap", some "put_in")) := He.meth_ok (V.c.fact 27 rfl)
theorem v_meth_Heap_sum_at (V : Vw K mg) : Meth K (He.ga K "Heap") "sum_at" (He.fAd K ("Heap", some "sum_at")) := He.meth_ok (V.c.fact 34 rfl)
theorem v_mkr_Heap (V : Vw K mg) : Mk K (He.ga K "Heap") (He.fAd K ("Heap", some "__init__")) := He.mkr_ok (V.c.fact 35 rfl)
theorem v_ikit_Heap (V : Vw K mg) : IKit K (He.ga K "Heap") := xIkit_ok (V.c.fact 53 rfl)
theorem v_meth_Heap___eq__ (V : Vw K mg) : Meth K (He.ga K "Heap") "__eq__" (He.fAd K ("Heap", some "__eq__")) := He.meth_ok (V.c.fact 57 rfl)
theorem v_meth_Heap_at (V : Vw K mg) : Meth K (He.ga K "Heap") "at" (He.fAd K ("Heap", some "at")) := He.meth_ok (V.c.fact 58 rfl)
theorem v_meth_Heap_differences (V : Vw K mg) : Meth K (He.ga K "Heap") "differences" (He.fAd K ("Heap", some "differences")) := He.meth_ok (V.c.fact 59 rfl)
theorem v_neq_Heap (V : Vw K mg) : NeqC K (He.ga K "Heap") := xNeq_ok (V.c.fact 60 rfl)
theorem ok__law_pool (V : Vw K mg) : ∃ fd, FunD K "_law_pool" "_law_pool" (defArgs (dlTop 25)) (defBody (dlTop 25)) (defScope (dlTop 25)) (t__law_pool.dvs K) (t__law_pool.kws K) (He.fAd K ("_law_pool", none)) fd ∧ FnOk P w K mg base (L2.CX P w) 2 (He.fAd K ("_law_pool", none)) fd ["_law_script", "_law_k"] (spD ⟨P, w, K, mg⟩ 2 F__law_pool) := by
  obtain ⟨fd, F⟩ := V.c.def_ 0 (d := t__law_pool) rfl
  have V_free_len := v_free_len V
  refine ⟨fd, F, okD (N := N__law_pool) (tb := B__law_pool) F sc__law_pool rfl fun cdv A outer s H E hr tk po => ?_⟩
  have hu := hr.units
  have hu5 := units5 hr
  have hu100 := units100 hr
  unfold B__law_pool
  exact (ss_cons (s_set (i := 2) sc__law_pool.nd rfl (by first | exact Or.inl rfl | exact Or.inr rfl) d_int)
 (ss_cons (s_if (d_testc op_lt o_lt (d_var (pv 1)) (d_callB call_len c_len V_free_len (by decide +kernel) (m_v (d_var (pv 0))))) (ss_one (s_set (i := 2) sc__law_pool.nd rfl (by first | exact Or.inl rfl | exact Or.inr rfl) (d_ix (m_v (d_var (pv 0))) (d_var (pv 1))))) ss_nil)
 (ss_cons (s_set (i := 3) sc__law_pool.nd rfl (by first | exact Or.inl rfl | exact Or.inr rfl) (d_mod (d_pow (d_add (d_add (d_mod (d_var (pv 2)) d_int) (d_mul (d_mul d_int (d_var (pv 1))) (d_var (pv 1)))) d_int) d_int) d_int))
 (ss_cons (s_if (d_testc op_lt o_lt (d_var (pv 2)) (d_pow d_int d_int)) (ss_one (s_set (i := 2) sc__law_pool.nd rfl (by first | exact Or.inl rfl | exact Or.inr rfl) d_int)) ss_nil)
 (ss_one (s_ret (d_new (q_lst (a_cons (d_var (pv 2)) (a_cons (d_var (pv 3)) a_nil))))))))))
theorem ok__law_box (V : Vw K mg) : ∃ fd, FunD K "_law_box" "_law_box" (defArgs (dlTop 33)) (defBody (dlTop 33)) (defScope (dlTop 33)) (t__law_box.dvs K) (t__law_box.kws K) (He.fAd K ("_law_box", none)) fd ∧ FnOk P w K mg base (L2.CX P w) 2 (He.fAd K ("_law_box", none)) fd ["_law_size", "_law_top"] (spD ⟨P, w, K, mg⟩ 2 F__law_box) := by
  obtain ⟨fd, F⟩ := V.c.def_ 1 (d := t__law_box) rfl
  have V_free_range := v_free_range V
  refine ⟨fd, F, okD (N := N__law_box) (tb := B__law_box) F sc__law_box rfl fun cdv A outer s H E hr tk po => ?_⟩
  have hu := hr.units
  have hu5 := units5 hr
  have hu100 := units100 hr
  unfold B__law_box
  exact (ss_cons (s_set (i := 2) sc__law_box.nd rfl (by first | exact Or.inl rfl | exact Or.inr rfl) (d_new (q_lst (a_cons (d_tup a_nil) a_nil))))
 (ss_cons (s_for po rfl (i_rng1 V_free_range (d_var (pv 0))) (g_name (pg_name (i := 3) sc__law_box.nd rfl (by first | exact Or.inl rfl | exact Or.inr rfl))) (ss_cons (s_set (i := 4) sc__law_box.nd rfl (by first | exact Or.inl rfl | exact Or.inr rfl) (d_new (q_lst a_nil)))
 (ss_cons (s_for po rfl (i_seq (m_v (d_var (pv 2)))) (g_name (pg_name (i := 5) sc__law_box.nd rfl (by first | exact Or.inl rfl | exact Or.inr rfl))) (ss_one (s_set (i := 4) sc__law_box.nd rfl (by first | exact Or.inl rfl | exact Or.inr rfl) (d_new (q_cat (m_v (d_var (pv 4))) (m_l (q_lc (own := [("_law_clock", 6)]) rfl sc__law_box.nd (i_rng1 V_free_range (d_var (pv 1))) (blkOk_by (own := [("_law_clock", 6)]) (N := N__law_box) (sc := defScope (dlTop 33)) (by decide +kernel)) (fun _ _ _ _ _ => (gw_name (pg_name (i := 6) sc__law_box.nd rfl (by first | exact Or.inl rfl | exact Or.inr rfl)))) (fun _ _ _ _ _ => ts_yes) (fun _ _ _ _ _ => (d_add (d_var (pv 5)) (d_tup (a_cons (d_var (pv 6)) a_nil)))))))))))
 (ss_one (s_set (i := 2) sc__law_box.nd rfl (by first | exact Or.inl rfl | exact Or.inr rfl) (d_var (pv 4)))))))
 (ss_one (s_ret (d_var (pv 2))))))
theorem ok_is_whole (V : Vw K mg) : ∃ fd, FunD K "is_whole" "is_whole" (defArgs (dlTop 9)) (defBody (dlTop 9)) (defScope (dlTop 9)) (t_is_whole.dvs K) (t_is_whole.kws K) (He.fAd K ("is_whole", none)) fd ∧ FnOk P w K mg base (L2.CX P w) 2 (He.fAd K ("is_whole", none)) fd ["thing"] (spD ⟨P, w, K, mg⟩ 1 F_is_whole) := by
  obtain ⟨fd, F⟩ := V.c.def_ 2 (d := t_is_whole) rfl
  have V_free_bool := v_free_bool V
  have V_free_int := v_free_int V
  have V_free_isinstance := v_free_isinstance V
  refine ⟨fd, F, okD (N := N_is_whole) (tb := B_is_whole) F sc_is_whole rfl fun cdv A outer s H E hr tk po => ?_⟩
  have hu := hr.units
  have hu5 := units5 hr
  have hu100 := units100 hr
  unfold B_is_whole
  exact (ss_one (s_ret (v_and (d_is .int V_free_isinstance (m_v (d_var (pv 0))) V_free_int) (v_one (d_notV (d_is .bool V_free_isinstance (m_v (d_var (pv 0))) V_free_bool))))))
theorem ok_added (V : Vw K mg) : ∃ fd, FunD K "added" "added" (defArgs (dlTop 21)) (defBody (dlTop 21)) (defScope (dlTop 21)) (t_added.dvs K) (t_added.kws K) (He.fAd K ("added", none)) fd ∧ FnOk P w K mg base (L2.CX P w) 2 (He.fAd K ("added", none)) fd ["sums", "row", "count"] (spD ⟨P, w, K, mg⟩ 3 F_added) := by
  obtain ⟨fd, F⟩ := V.c.def_ 3 (d := t_added) rfl
  refine ⟨fd, F, okD (N := N_added) (tb := B_added) F sc_added rfl fun cdv A outer s H E hr tk po => ?_⟩
  have hu := hr.units
  have hu5 := units5 hr
  have hu100 := units100 hr
  unfold B_added
  exact (ss_cons (s_setD hu100 (d_add (d_get2 hu100 (d_var (pv 0)) (d_var (pv 1)) d_int ⟨rfl, rfl, rfl, rfl⟩) (d_var (pv 2))) (d_var (pv 0)) (d_var (pv 1)))
 (ss_one (s_if (t_eq hu (m_v (d_ixD hu100 (d_var (pv 0)) (d_var (pv 1)))) (m_v d_int)) (ss_one (s_expr (d_pop1 hu100 (d_var (pv 0)) (d_var (pv 1)) ⟨rfl, rfl, rfl, rfl⟩))) ss_nil)))
theorem kK_added_3 {fd : FuncData} (F : FunD K "added" "added" (defArgs (dlTop 21)) (defBody (dlTop 21)) (defScope (dlTop 21)) (t_added.dvs K) (t_added.kws K) (He.fAd K ("added", none)) fd)  : KB ⟨P, w, K, mg⟩ fd ["sums", "row", "count"] 3 [] (fun ds zs => pick [(0, 0), (0, 1), (0, 2)] [ds, zs]) :=
  KB.all (g := ⟨P, w, K, mg⟩) F 3 [] [(0, 0), (0, 1), (0, 2)] fun _ _ _ _ _ _ us ws h1 h2 => match us, ws, h1, h2 with | [_, _, _], [], _, _ => rfl
theorem ok_Heap_put_in (V : Vw K mg) : ∃ fd, FunD K "put_in" "Heap.put_in" (defArgs (inClass (dlTop 22) 2)) (defBody (inClass (dlTop 22) 2)) (defScope (inClass (dlTop 22) 2)) (t_Heap_put_in.dvs K) (t_Heap_put_in.kws K) (He.fAd K ("Heap", some "put_in")) fd ∧ FnOk P w K mg base (L2.CX P w) 3 (He.fAd K ("Heap", some "put_in")) fd ["self", "difference"] (spD ⟨P, w, K, mg⟩ 2 F_Heap_put_in) := by
  obtain ⟨fd, F⟩ := V.c.def_ 4 (d := t_Heap_put_in) rfl
  obtain ⟨d_added, D_added, O_added⟩ := ok_added (P := P) (w := w) (base := base) V
  have M_added := v_glo_added V
  have K_added_3 := kK_added_3 (P := P) (w := w) (mg := mg) D_added
  have V_cls_Heap := v_cls_Heap V
  have V_glo_Heap := v_glo_Heap V
  have V_noat_Heap_own_counts := v_noat_Heap_own_counts V
  refine ⟨fd, F, okD (N := N_Heap_put_in) (tb := B_Heap_put_in) F sc_Heap_put_in rfl fun cdv A outer s H E hr tk po => ?_⟩
  have hu := hr.units
  have hu5 := units5 hr
  have hu100 := units100 hr
  unfold B_Heap_put_in
  exact (ss_cons (s_asg (d_var (pv 1)) (g_tup rfl (gs_cons (g_name (pg_name (i := 2) sc_Heap_put_in.nd rfl (by first | exact Or.inl rfl | exact Or.inr rfl))) (gs_cons (g_name (pg_name (i := 3) sc_Heap_put_in.nd rfl (by first | exact Or.inl rfl | exact Or.inr rfl))) (gs_cons (g_name (pg_name (i := 4) sc_Heap_put_in.nd rfl (by first | exact Or.inl rfl | exact Or.inr rfl))) gs_nil)))))
 (ss_one (s_expr (d_call O_added (hr.mono (by decide)) tk M_added D_added.kp K_added_3 (fun (ds zs : List D) (h1 : ds.length = 3) (h2 : zs.length = ([] : List Str).length) => match ds, zs, h1, h2 with | [_, _, _], [], _, _ => rfl) (a_cons (d_fld (c := "Heap") ⟨V_cls_Heap, V_glo_Heap⟩ V_noat_Heap_own_counts (d_var (pv 0))) (a_cons (d_tup (a_cons (d_var (pv 2)) (a_cons (d_var (pv 3)) a_nil))) (a_cons (d_var (pv 4)) a_nil))) k_nil))))
theorem kK_is_whole_1 {fd : FuncData} (F : FunD K "is_whole" "is_whole" (defArgs (dlTop 9)) (defBody (dlTop 9)) (defScope (dlTop 9)) (t_is_whole.dvs K) (t_is_whole.kws K) (He.fAd K ("is_whole", none)) fd)  : KB ⟨P, w, K, mg⟩ fd ["thing"] 1 [] (fun ds zs => pick [(0, 0)] [ds, zs]) :=
  KB.all (g := ⟨P, w, K, mg⟩) F 1 [] [(0, 0)] fun _ _ _ _ _ _ us ws h1 h2 => match us, ws, h1, h2 with | [_], [], _, _ => rfl
theorem ok_is_row (V : Vw K mg) : ∃ fd, FunD K "is_row" "is_row" (defArgs (dlTop 19)) (defBody (dlTop 19)) (defScope (dlTop 19)) (t_is_row.dvs K) (t_is_row.kws K) (He.fAd K ("is_row", none)) fd ∧ FnOk P w K mg base (L2.CX P w) 3 (He.fAd K ("is_row", none)) fd ["thing", "width"] (spD ⟨P, w, K, mg⟩ 2 F_is_row) := by
  obtain ⟨fd, F⟩ := V.c.def_ 5 (d := t_is_row) rfl
  obtain ⟨d_is_whole, D_is_whole, O_is_whole⟩ := ok_is_whole (P := P) (w := w) (base := base) V
  have M_is_whole := v_glo_is_whole V
  have K_is_whole_1 := kK_is_whole_1 (P := P) (w := w) (mg := mg) D_is_whole
  have V_free_all := v_free_all V
  have V_free_isinstance := v_free_isinstance V
  have V_free_len := v_free_len V
  have V_free_tuple := v_free_tuple V
  obtain ⟨_, V_int_MOST_WIDTH⟩ := v_int_MOST_WIDTH V
  refine ⟨fd, F, okD (N := N_is_row) (tb := B_is_row) F sc_is_row rfl fun cdv A outer s H E hr tk po => ?_⟩
  have hu := hr.units
  have hu5 := units5 hr
  have hu100 := units100 hr
  unfold B_is_row
  exact (ss_cons (s_if (d_w (w_or (d_not (d_test (d_is .tuple V_free_isinstance (m_v (d_var (pv 0))) V_free_tuple))) (w_or1 (d_not (d_testch op_le o_le op_le o_le (pt_chain op_le op_le d_int (d_callB call_len c_len V_free_len (by decide +kernel) (m_v (d_var (pv 0)))) (d_globI rfl V_int_MOST_WIDTH))))))) (ss_one (s_ret d_bl)) ss_nil)
 (ss_cons (s_if (d_w (w_and (t_notN (d_var (pv 1))) (w_and1 (t_ne hu (m_v (d_callB call_len c_len V_free_len (by decide +kernel) (m_v (d_var (pv 0))))) (m_v (d_var (pv 1))))))) (ss_one (s_ret d_bl)) ss_nil)
 (ss_one (s_ret (d_callB (cr_all rfl) c_all V_free_all (by decide +kernel) (m_l (q_lc (own := [("number", 2)]) rfl sc_is_row.nd (i_seq (m_v (d_var (pv 0)))) (blkOk_by (own := [("number", 2)]) (N := N_is_row) (sc := defScope (dlTop 19)) (by decide +kernel)) (fun _ _ _ _ _ => (gw_name (pg_name (i := 2) sc_is_row.nd rfl (by first | exact Or.inl rfl | exact Or.inr rfl)))) (fun _ _ _ _ _ => ts_yes) (fun _ _ _ _ _ => (d_call O_is_whole (hr.mono (by decide)) takes0 M_is_whole D_is_whole.kp K_is_whole_1 (fun (ds zs : List D) (h1 : ds.length = 1) (h2 : zs.length = ([] : List Str).length) => match ds, zs, h1, h2 with | [_], [], _, _ => rfl) (a_cons (d_var (pv 2)) a_nil) k_nil)))))))))
theorem ok_is_time (V : Vw K mg) : ∃ fd, FunD K "is_time" "is_time" (defArgs (dlTop 10)) (defBody (dlTop 10)) (defScope (dlTop 10)) (t_is_time.dvs K) (t_is_time.kws K) (He.fAd K ("is_time", none)) fd ∧ FnOk P w K mg base (L2.CX P w) 3 (He.fAd K ("is_time", none)) fd ["thing", "clocks"] (spD ⟨P, w, K, mg⟩ 2 F_is_time) := by
  obtain ⟨fd, F⟩ := V.c.def_ 6 (d := t_is_time) rfl
  obtain ⟨d_is_whole, D_is_whole, O_is_whole⟩ := ok_is_whole (P := P) (w := w) (base := base) V
  have M_is_whole := v_glo_is_whole V
  have K_is_whole_1 := kK_is_whole_1 (P := P) (w := w) (mg := mg) D_is_whole
  have V_free_all := v_free_all V
  have V_free_isinstance := v_free_isinstance V
  have V_free_len := v_free_len V
  have V_free_tuple := v_free_tuple V
  obtain ⟨_, V_int_MOST_CLOCKS⟩ := v_int_MOST_CLOCKS V
  refine ⟨fd, F, okD (N := N_is_time) (tb := B_is_time) F sc_is_time rfl fun cdv A outer s H E hr tk po => ?_⟩
  have hu := hr.units
  have hu5 := units5 hr
  have hu100 := units100 hr
  unfold B_is_time
  exact (ss_cons (s_if (d_w (w_or (d_not (d_test (d_is .tuple V_free_isinstance (m_v (d_var (pv 0))) V_free_tuple))) (w_or1 (d_not (d_testch op_le o_le op_le o_le (pt_chain op_le op_le d_int (d_callB call_len c_len V_free_len (by decide +kernel) (m_v (d_var (pv 0)))) (d_globI rfl V_int_MOST_CLOCKS))))))) (ss_one (s_ret d_bl)) ss_nil)
 (ss_cons (s_if (d_w (w_and (t_notN (d_var (pv 1))) (w_and1 (t_ne hu (m_v (d_callB call_len c_len V_free_len (by decide +kernel) (m_v (d_var (pv 0))))) (m_v (d_var (pv 1))))))) (ss_one (s_ret d_bl)) ss_nil)
 (ss_one (s_ret (d_callB (cr_all rfl) c_all V_free_all (by decide +kernel) (m_l (q_lc (own := [("clock", 2)]) rfl sc_is_time.nd (i_seq (m_v (d_var (pv 0)))) (blkOk_by (own := [("clock", 2)]) (N := N_is_time) (sc := defScope (dlTop 10)) (by decide +kernel)) (fun _ _ _ _ _ => (gw_name (pg_name (i := 2) sc_is_time.nd rfl (by first | exact Or.inl rfl | exact Or.inr rfl)))) (fun _ _ _ _ _ => ts_yes) (fun _ _ _ _ _ => (v_and (d_call O_is_whole (hr.mono (by decide)) takes0 M_is_whole D_is_whole.kp K_is_whole_1 (fun (ds zs : List D) (h1 : ds.length = 1) (h2 : zs.length = ([] : List Str).length) => match ds, zs, h1, h2 with | [_], [], _, _ => rfl) (a_cons (d_var (pv 2)) a_nil) k_nil) (v_one (d_cmp op_ge o_ge (d_var (pv 2)) d_int)))))))))))
theorem ok_is_count (V : Vw K mg) : ∃ fd, FunD K "is_count" "is_count" (defArgs (dlTop 20)) (defBody (dlTop 20)) (defScope (dlTop 20)) (t_is_count.dvs K) (t_is_count.kws K) (He.fAd K ("is_count", none)) fd ∧ FnOk P w K mg base (L2.CX P w) 3 (He.fAd K ("is_count", none)) fd ["thing"] (spD ⟨P, w, K, mg⟩ 1 F_is_count) := by
  obtain ⟨fd, F⟩ := V.c.def_ 7 (d := t_is_count) rfl
  obtain ⟨d_is_whole, D_is_whole, O_is_whole⟩ := ok_is_whole (P := P) (w := w) (base := base) V
  have M_is_whole := v_glo_is_whole V
  have K_is_whole_1 := kK_is_whole_1 (P := P) (w := w) (mg := mg) D_is_whole
  refine ⟨fd, F, okD (N := N_is_count) (tb := B_is_count) F sc_is_count rfl fun cdv A outer s H E hr tk po => ?_⟩
  have hu := hr.units
  have hu5 := units5 hr
  have hu100 := units100 hr
  unfold B_is_count
  exact (ss_one (s_ret (v_and (d_call O_is_whole (hr.mono (by decide)) tk M_is_whole D_is_whole.kp K_is_whole_1 (fun (ds zs : List D) (h1 : ds.length = 1) (h2 : zs.length = ([] : List Str).length) => match ds, zs, h1, h2 with | [_], [], _, _ => rfl) (a_cons (d_var (pv 0)) a_nil) k_nil) (v_one (d_ne hu (m_v (d_var (pv 0))) (m_v d_int))))))
theorem kK_is_row_1 {fd : FuncData} (F : FunD K "is_row" "is_row" (defArgs (dlTop 19)) (defBody (dlTop 19)) (defScope (dlTop 19)) (t_is_row.dvs K) (t_is_row.kws K) (He.fAd K ("is_row", none)) fd)  : KB ⟨P, w, K, mg⟩ fd ["thing", "width"] 1 [] (fun ds zs => pick [(0, 0), (2, 0)] [ds, zs, [.non]]) :=
  KB.kwo (g := ⟨P, w, K, mg⟩) F 1 [] [("width", He.Dv.v K (He.Dv.non))] [.non] [(0, 0), (2, 0)] (by intro z; cases z) (by intro q hq; simp [t_is_row, He.DefD.kws] at hq ⊢; simp [hq]) (fun _ _ => by simp [RDs, RD, He.Dv.v]) fun _ _ _ _ _ _ us mv ws h1 h2 h3 => match us, mv, ws, h1, h2, h3 with | [_], [_], [], _, _, _ => ⟨_, _, _, _, _, _, rfl, rfl, rfl⟩
theorem kK_is_time_1_clocks {fd : FuncData} (F : FunD K "is_time" "is_time" (defArgs (dlTop 10)) (defBody (dlTop 10)) (defScope (dlTop 10)) (t_is_time.dvs K) (t_is_time.kws K) (He.fAd K ("is_time", none)) fd)  : KB ⟨P, w, K, mg⟩ fd ["thing", "clocks"] 1 ["clocks"] (fun ds zs => pick [(0, 0), (1, 0)] [ds, zs]) :=
  KB.all (g := ⟨P, w, K, mg⟩) F 1 ["clocks"] [(0, 0), (1, 0)] fun _ _ _ _ _ _ us ws h1 h2 => match us, ws, h1, h2 with | [_], [_], _, _ => rfl
theorem kK_is_count_1 {fd : FuncData} (F : FunD K "is_count" "is_count" (defArgs (dlTop 20)) (defBody (dlTop 20)) (defScope (dlTop 20)) (t_is_count.dvs K) (t_is_count.kws K) (He.fAd K ("is_count", none)) fd)  : KB ⟨P, w, K, mg⟩ fd ["thing"] 1 [] (fun ds zs => pick [(0, 0)] [ds, zs]) :=
  KB.all (g := ⟨P, w, K, mg⟩) F 1 [] [(0, 0)] fun _ _ _ _ _ _ us ws h1 h2 => match us, ws, h1, h2 with | [_], [], _, _ => rfl
theorem ok_Heap_is_fit (V : Vw K mg) : ∃ fd, FunD K "is_fit" "Heap.is_fit" (defArgs (inClass (dlTop 22) 1)) (defBody (inClass (dlTop 22) 1)) (defScope (inClass (dlTop 22) 1)) (t_Heap_is_fit.dvs K) (t_Heap_is_fit.kws K) (He.fAd K ("Heap", some "is_fit")) fd ∧ FnOk P w K mg base (L2.CX P w) 4 (He.fAd K ("Heap", some "is_fit")) fd ["self", "thing"] (spD ⟨P, w, K, mg⟩ 2 F_Heap_is_fit) := by
  obtain ⟨fd, F⟩ := V.c.def_ 8 (d := t_Heap_is_fit) rfl
  obtain ⟨d_is_row, D_is_row, O_is_row⟩ := ok_is_row (P := P) (w := w) (base := base) V
  have M_is_row := v_glo_is_row V
  obtain ⟨d_is_time, D_is_time, O_is_time⟩ := ok_is_time (P := P) (w := w) (base := base) V
  have M_is_time := v_glo_is_time V
  obtain ⟨d_is_count, D_is_count, O_is_count⟩ := ok_is_count (P := P) (w := w) (base := base) V
  have M_is_count := v_glo_is_count V
  have K_is_row_1 := kK_is_row_1 (P := P) (w := w) (mg := mg) D_is_row
  have K_is_time_1_clocks := kK_is_time_1_clocks (P := P) (w := w) (mg := mg) D_is_time
  have K_is_count_1 := kK_is_count_1 (P := P) (w := w) (mg := mg) D_is_count
  have V_cls_Heap := v_cls_Heap V
  have V_glo_Heap := v_glo_Heap V
  have V_noat_Heap_own_clocks := v_noat_Heap_own_clocks V
  refine ⟨fd, F, okD (N := N_Heap_is_fit) (tb := B_Heap_is_fit) F sc_Heap_is_fit rfl fun cdv A outer s H E hr tk po => ?_⟩
  have hu := hr.units
  have hu5 := units5 hr
  have hu100 := units100 hr
  unfold B_Heap_is_fit
  exact (ss_cons (s_asg (d_var (pv 1)) (g_tup rfl (gs_cons (g_name (pg_name (i := 2) sc_Heap_is_fit.nd rfl (by first | exact Or.inl rfl | exact Or.inr rfl))) (gs_cons (g_name (pg_name (i := 3) sc_Heap_is_fit.nd rfl (by first | exact Or.inl rfl | exact Or.inr rfl))) (gs_cons (g_name (pg_name (i := 4) sc_Heap_is_fit.nd rfl (by first | exact Or.inl rfl | exact Or.inr rfl))) gs_nil)))))
 (ss_one (s_ret (v_and (d_call O_is_row (hr.mono (by decide)) tk M_is_row D_is_row.kp K_is_row_1 (fun (ds zs : List D) (h1 : ds.length = 1) (h2 : zs.length = ([] : List Str).length) => match ds, zs, h1, h2 with | [_], [], _, _ => rfl) (a_cons (d_var (pv 2)) a_nil) k_nil) (v_and (d_call O_is_time (hr.mono (by decide)) tk M_is_time D_is_time.kp K_is_time_1_clocks (fun (ds zs : List D) (h1 : ds.length = 1) (h2 : zs.length = (["clocks"] : List Str).length) => match ds, zs, h1, h2 with | [_], [_], _, _ => rfl) (a_cons (d_var (pv 3)) a_nil) (k_cons (d_fld (c := "Heap") ⟨V_cls_Heap, V_glo_Heap⟩ V_noat_Heap_own_clocks (d_var (pv 0))) k_nil)) (v_one (d_call O_is_count (hr.mono (by decide)) tk M_is_count D_is_count.kp K_is_count_1 (fun (ds zs : List D) (h1 : ds.length = 1) (h2 : zs.length = ([] : List Str).length) => match ds, zs, h1, h2 with | [_], [], _, _ => rfl) (a_cons (d_var (pv 4)) a_nil) k_nil)))))))
theorem ok_NoCount___init__ (V : Vw K mg) : ∃ fd, FunD K "__init__" "NoCount.__init__" (defArgs (inClass (dlTop 5) 0)) (defBody (inClass (dlTop 5) 0)) (defScope (inClass (dlTop 5) 0)) (t_NoCount___init__.dvs K) (t_NoCount___init__.kws K) (He.fAd K ("NoCount", some "__init__")) fd ∧ FnOk P w K mg base (L2.CX P w) 1 (He.fAd K ("NoCount", some "__init__")) fd ["self", "much"] (spInit (He.ga K "NoCount") "much") ∧ Binds K fd ["self", "much"] [] := by
  obtain ⟨fd, F⟩ := V.c.def_ 9 (d := t_NoCount___init__) rfl
  have o := v_oex_NoCount V
  refine ⟨fd, F, okInit (qual := "NoCount.__init__") (txt := "what is no count") F sc_NoCount___init__ rfl rfl rfl rfl (by decide) (by decide) (fun _ _ => rfl) (v_free_ValueError V) (by kernel_rfl) o.T o.nf, ?_⟩
  exact FunD.bindsN F fun _ _ _ _ _ _ us hl => match us, hl with | [_, _], _ => rfl
theorem ok_NoHeap___init__ (V : Vw K mg) : ∃ fd, FunD K "__init__" "NoHeap.__init__" (defArgs (inClass (dlTop 3) 0)) (defBody (inClass (dlTop 3) 0)) (defScope (inClass (dlTop 3) 0)) (t_NoHeap___init__.dvs K) (t_NoHeap___init__.kws K) (He.fAd K ("NoHeap", some "__init__")) fd ∧ FnOk P w K mg base (L2.CX P w) 1 (He.fAd K ("NoHeap", some "__init__")) fd ["self", "number"] (spInit (He.ga K "NoHeap") "number") ∧ Binds K fd ["self", "number"] [] := by
  obtain ⟨fd, F⟩ := V.c.def_ 10 (d := t_NoHeap___init__) rfl
  have o := v_oex_NoHeap V
  refine ⟨fd, F, okInit (qual := "NoHeap.__init__") (txt := "what is no heap, by the number of the first thing that is wrong") F sc_NoHeap___init__ rfl rfl rfl rfl (by decide) (by decide) (fun _ _ => rfl) (v_free_ValueError V) (by kernel_rfl) o.T o.nf, ?_⟩
  exact FunD.bindsN F fun _ _ _ _ _ _ us hl => match us, hl with | [_, _], _ => rfl
theorem kK_Heap_is_fit_2 {fd : FuncData} (F : FunD K "is_fit" "Heap.is_fit" (defArgs (inClass (dlTop 22) 1)) (defBody (inClass (dlTop 22) 1)) (defScope (inClass (dlTop 22) 1)) (t_Heap_is_fit.dvs K) (t_Heap_is_fit.kws K) (He.fAd K ("Heap", some "is_fit")) fd)  : KB ⟨P, w, K, mg⟩ fd ["self", "thing"] 2 [] (fun ds zs => pick [(0, 0), (0, 1)] [ds, zs]) :=
  KB.all (g := ⟨P, w, K, mg⟩) F 2 [] [(0, 0), (0, 1)] fun _ _ _ _ _ _ us ws h1 h2 => match us, ws, h1, h2 with | [_, _], [], _, _ => rfl
theorem kK_Heap_put_in_2 {fd : FuncData} (F : FunD K "put_in" "Heap.put_in" (defArgs (inClass (dlTop 22) 2)) (defBody (inClass (dlTop 22) 2)) (defScope (inClass (dlTop 22) 2)) (t_Heap_put_in.dvs K) (t_Heap_put_in.kws K) (He.fAd K ("Heap", some "put_in")) fd)  : KB ⟨P, w, K, mg⟩ fd ["self", "difference"] 2 [] (fun ds zs => pick [(0, 0), (0, 1)] [ds, zs]) :=
  KB.all (g := ⟨P, w, K, mg⟩) F 2 [] [(0, 0), (0, 1)] fun _ _ _ _ _ _ us ws h1 h2 => match us, ws, h1, h2 with | [_, _], [], _, _ => rfl
theorem ok_Heap___init__ (V : Vw K mg) : ∃ fd, FunD K "__init__" "Heap.__init__" (defArgs (inClass (dlTop 22) 0)) (defBody (inClass (dlTop 22) 0)) (defScope (inClass (dlTop 22) 0)) (t_Heap___init__.dvs K) (t_Heap___init__.kws K) (He.fAd K ("Heap", some "__init__")) fd ∧ FnOk P w K mg base (L2.CX P w) 5 (He.fAd K ("Heap", some "__init__")) fd ["self", "differences", "clocks"] (spD ⟨P, w, K, mg⟩ 3 F_Heap___init__) := by
  obtain ⟨fd, F⟩ := V.c.def_ 11 (d := t_Heap___init__) rfl
  obtain ⟨d_is_whole, D_is_whole, O_is_whole⟩ := ok_is_whole (P := P) (w := w) (base := base) V
  have M_is_whole := v_glo_is_whole V
  obtain ⟨d_NoCount___init__, D_NoCount___init__, O_NoCount___init__, B_NoCount___init__⟩ := ok_NoCount___init__ (P := P) (w := w) (base := base) V
  obtain ⟨d_NoHeap___init__, D_NoHeap___init__, O_NoHeap___init__, B_NoHeap___init__⟩ := ok_NoHeap___init__ (P := P) (w := w) (base := base) V
  obtain ⟨d_Heap_is_fit, D_Heap_is_fit, O_Heap_is_fit⟩ := ok_Heap_is_fit (P := P) (w := w) (base := base) V
  obtain ⟨d_Heap_put_in, D_Heap_put_in, O_Heap_put_in⟩ := ok_Heap_put_in (P := P) (w := w) (base := base) V
  have K_is_whole_1 := kK_is_whole_1 (P := P) (w := w) (mg := mg) D_is_whole
  have K_Heap_is_fit_2 := kK_Heap_is_fit_2 (P := P) (w := w) (mg := mg) D_Heap_is_fit
  have K_Heap_put_in_2 := kK_Heap_put_in_2 (P := P) (w := w) (mg := mg) D_Heap_put_in
  have V_cls_Heap := v_cls_Heap V
  have V_free_enumerate := v_free_enumerate V
  have V_free_isinstance := v_free_isinstance V
  have V_free_len := v_free_len V
  have V_free_list := v_free_list V
  have V_free_tuple := v_free_tuple V
  have V_glo_Heap := v_glo_Heap V
  have V_glo_NoCount := v_glo_NoCount V
  have V_glo_NoHeap := v_glo_NoHeap V
  obtain ⟨_, V_int_MOST_CLOCKS⟩ := v_int_MOST_CLOCKS V
  have V_meth_Heap_is_fit := v_meth_Heap_is_fit V
  have V_meth_Heap_put_in := v_meth_Heap_put_in V
  have V_noat_Heap_own_clocks := v_noat_Heap_own_clocks V
  have V_noat_Heap_own_counts := v_noat_Heap_own_counts V
  have V_oex_NoCount := v_oex_NoCount V
  have V_oex_NoHeap := v_oex_NoHeap V
  refine ⟨fd, F, okD (N := N_Heap___init__) (tb := B_Heap___init__) F sc_Heap___init__ rfl fun cdv A outer s H E hr tk po => ?_⟩
  have hu := hr.units
  have hu5 := units5 hr
  have hu100 := units100 hr
  unfold B_Heap___init__
  exact (ss_cons (s_if (d_w (w_or (d_not (d_test (d_call O_is_whole (hr.mono (by decide)) tk M_is_whole D_is_whole.kp K_is_whole_1 (fun (ds zs : List D) (h1 : ds.length = 1) (h2 : zs.length = ([] : List Str).length) => match ds, zs, h1, h2 with | [_], [], _, _ => rfl) (a_cons (d_var (pv 2)) a_nil) k_nil))) (w_or1 (d_not (d_testch op_le o_le op_le o_le (pt_chain op_le op_le d_int (d_var (pv 2)) (d_globI rfl V_int_MOST_CLOCKS))))))) (ss_one (s_raise rfl tk V_oex_NoCount.T V_oex_NoCount.ini V_oex_NoCount.ty O_NoCount___init__ (hr.mono (by decide)) B_NoCount___init__ V_glo_NoCount (d_var (pv 2)))) ss_nil)
 (ss_cons (s_if (d_not (d_test (d_isM [.list, .tuple] V_free_isinstance (m_v (d_var (pv 1))) (n_cons .list V_free_list (n_cons .tuple V_free_tuple n_nil))))) (ss_one (s_raise rfl tk V_oex_NoHeap.T V_oex_NoHeap.ini V_oex_NoHeap.ty O_NoHeap___init__ (hr.mono (by decide)) B_NoHeap___init__ V_glo_NoHeap d_non)) ss_nil)
 (ss_cons (s_fld (c := "Heap") ⟨V_cls_Heap, V_glo_Heap⟩ V_noat_Heap_own_clocks (d_var (pv 0)) (d_var (pv 2)))
 (ss_cons (s_fld (c := "Heap") ⟨V_cls_Heap, V_glo_Heap⟩ V_noat_Heap_own_counts (d_var (pv 0)) d_dict0)
 (ss_one (s_for po rfl (i_enum V_free_enumerate (m_v (d_var (pv 1)))) (g_tup rfl (gs_cons (g_name (pg_name (i := 3) sc_Heap___init__.nd rfl (by first | exact Or.inl rfl | exact Or.inr rfl))) (gs_cons (g_name (pg_name (i := 4) sc_Heap___init__.nd rfl (by first | exact Or.inl rfl | exact Or.inr rfl))) gs_nil))) (ss_cons (s_if (d_w (w_or (d_not (d_test (d_is .tuple V_free_isinstance (m_v (d_var (pv 4))) V_free_tuple))) (w_or (t_ne hu (m_v (d_callB call_len c_len V_free_len (by decide +kernel) (m_v (d_var (pv 4))))) (m_v d_int)) (w_or1 (d_not (d_test (d_meth (c := "Heap") ⟨V_cls_Heap, V_glo_Heap⟩ V_meth_Heap_is_fit O_Heap_is_fit (hr.mono (by decide)) tk K_Heap_is_fit_2 (fun (ds zs : List D) (h1 : ds.length = 2) (h2 : zs.length = ([] : List Str).length) => match ds, zs, h1, h2 with | [_, _], [], _, _ => rfl) (d_var (pv 0)) (a_cons (d_var (pv 4)) a_nil) k_nil))))))) (ss_one (s_raise rfl tk V_oex_NoHeap.T V_oex_NoHeap.ini V_oex_NoHeap.ty O_NoHeap___init__ (hr.mono (by decide)) B_NoHeap___init__ V_glo_NoHeap (d_var (pv 3)))) ss_nil)
 (ss_one (s_expr (d_meth (c := "Heap") ⟨V_cls_Heap, V_glo_Heap⟩ V_meth_Heap_put_in O_Heap_put_in (hr.mono (by decide)) tk K_Heap_put_in_2 (fun (ds zs : List D) (h1 : ds.length = 2) (h2 : zs.length = ([] : List Str).length) => match ds, zs, h1, h2 with | [_, _], [], _, _ => rfl) (d_var (pv 0)) (a_cons (d_var (pv 4)) a_nil) k_nil))))))))))
theorem ok_is_before (V : Vw K mg) : ∃ fd, FunD K "is_before" "is_before" (defArgs (dlTop 12)) (defBody (dlTop 12)) (defScope (dlTop 12)) (t_is_before.dvs K) (t_is_before.kws K) (He.fAd K ("is_before", none)) fd ∧ FnOk P w K mg base (L2.CX P w) 2 (He.fAd K ("is_before", none)) fd ["one", "other"] (spD ⟨P, w, K, mg⟩ 2 F_is_before) := by
  obtain ⟨fd, F⟩ := V.c.def_ 12 (d := t_is_before) rfl
  have V_free_all := v_free_all V
  have V_free_zip := v_free_zip V
  refine ⟨fd, F, okD (N := N_is_before) (tb := B_is_before) F sc_is_before rfl fun cdv A outer s H E hr tk po => ?_⟩
  have hu := hr.units
  have hu5 := units5 hr
  have hu100 := units100 hr
  unfold B_is_before
  exact (ss_one (s_ret (d_callB (cr_all rfl) c_all V_free_all (by decide +kernel) (m_l (q_lc (own := [("first", 2), ("second", 3)]) rfl sc_is_before.nd (i_zip V_free_zip (m_v (d_var (pv 0))) (m_v (d_var (pv 1)))) (blkOk_by (own := [("first", 2), ("second", 3)]) (N := N_is_before) (sc := defScope (dlTop 12)) (by decide +kernel)) (fun _ _ _ _ _ => (gw_tup rfl (gws_cons (gw_name (pg_name (i := 2) sc_is_before.nd rfl (by first | exact Or.inl rfl | exact Or.inr rfl))) (gws_cons (gw_name (pg_name (i := 3) sc_is_before.nd rfl (by first | exact Or.inl rfl | exact Or.inr rfl))) gws_nil)))) (fun _ _ _ _ _ => ts_yes) (fun _ _ _ _ _ => (d_cmp op_le o_le (d_var (pv 2)) (d_var (pv 3)))))))))
theorem kK_is_before_2 {fd : FuncData} (F : FunD K "is_before" "is_before" (defArgs (dlTop 12)) (defBody (dlTop 12)) (defScope (dlTop 12)) (t_is_before.dvs K) (t_is_before.kws K) (He.fAd K ("is_before", none)) fd)  : KB ⟨P, w, K, mg⟩ fd ["one", "other"] 2 [] (fun ds zs => pick [(0, 0), (0, 1)] [ds, zs]) :=
  KB.all (g := ⟨P, w, K, mg⟩) F 2 [] [(0, 0), (0, 1)] fun _ _ _ _ _ _ us ws h1 h2 => match us, ws, h1, h2 with | [_, _], [], _, _ => rfl
theorem ok_Heap_sum_at (V : Vw K mg) : ∃ fd, FunD K "sum_at" "Heap.sum_at" (defArgs (inClass (dlTop 22) 7)) (defBody (inClass (dlTop 22) 7)) (defScope (inClass (dlTop 22) 7)) (t_Heap_sum_at.dvs K) (t_Heap_sum_at.kws K) (He.fAd K ("Heap", some "sum_at")) fd ∧ FnOk P w K mg base (L2.CX P w) 3 (He.fAd K ("Heap", some "sum_at")) fd ["self", "time"] (spD ⟨P, w, K, mg⟩ 2 F_Heap_sum_at) := by
  obtain ⟨fd, F⟩ := V.c.def_ 13 (d := t_Heap_sum_at) rfl
  obtain ⟨d_is_before, D_is_before, O_is_before⟩ := ok_is_before (P := P) (w := w) (base := base) V
  have M_is_before := v_glo_is_before V
  obtain ⟨d_added, D_added, O_added⟩ := ok_added (P := P) (w := w) (base := base) V
  have M_added := v_glo_added V
  have K_is_before_2 := kK_is_before_2 (P := P) (w := w) (mg := mg) D_is_before
  have K_added_3 := kK_added_3 (P := P) (w := w) (mg := mg) D_added
  have V_cls_Heap := v_cls_Heap V
  have V_glo_Heap := v_glo_Heap V
  have V_noat_Heap_own_counts := v_noat_Heap_own_counts V
  refine ⟨fd, F, okD (N := N_Heap_sum_at) (tb := B_Heap_sum_at) F sc_Heap_sum_at rfl fun cdv A outer s H E hr tk po => ?_⟩
  have hu := hr.units
  have hu5 := units5 hr
  have hu100 := units100 hr
  unfold B_Heap_sum_at
  exact (ss_cons (s_set (i := 2) sc_Heap_sum_at.nd rfl (by first | exact Or.inl rfl | exact Or.inr rfl) d_dict0)
 (ss_cons (s_lock (lo := (loFld 0 "own_counts")) (s_for po rfl (i_di (d_fld (c := "Heap") ⟨V_cls_Heap, V_glo_Heap⟩ V_noat_Heap_own_counts (d_var (pv 0)))) (g_tup rfl (gs_cons (g_tup rfl (gs_cons (g_name (pg_name (i := 3) sc_Heap_sum_at.nd rfl (by first | exact Or.inl rfl | exact Or.inr rfl))) (gs_cons (g_name (pg_name (i := 4) sc_Heap_sum_at.nd rfl (by first | exact Or.inl rfl | exact Or.inr rfl))) gs_nil))) (gs_cons (g_name (pg_name (i := 5) sc_Heap_sum_at.nd rfl (by first | exact Or.inl rfl | exact Or.inr rfl))) gs_nil))) (ss_one (s_if (d_test (d_call O_is_before (hr.mono (by decide)) tk M_is_before D_is_before.kp K_is_before_2 (fun (ds zs : List D) (h1 : ds.length = 2) (h2 : zs.length = ([] : List Str).length) => match ds, zs, h1, h2 with | [_, _], [], _, _ => rfl) (a_cons (d_var (pv 4)) (a_cons (d_var (pv 1)) a_nil)) k_nil)) (ss_one (s_expr (d_call O_added (hr.mono (by decide)) tk M_added D_added.kp K_added_3 (fun (ds zs : List D) (h1 : ds.length = 3) (h2 : zs.length = ([] : List Str).length) => match ds, zs, h1, h2 with | [_, _, _], [], _, _ => rfl) (a_cons (d_var (pv 2)) (a_cons (d_var (pv 3)) (a_cons (d_var (pv 5)) a_nil))) k_nil))) ss_nil))))
 (ss_one (s_ret (d_var (pv 2))))))
theorem kK_Heap___init___1_clocks {fd : FuncData} (F : FunD K "__init__" "Heap.__init__" (defArgs (inClass (dlTop 22) 0)) (defBody (inClass (dlTop 22) 0)) (defScope (inClass (dlTop 22) 0)) (t_Heap___init__.dvs K) (t_Heap___init__.kws K) (He.fAd K ("Heap", some "__init__")) fd) (Z0 : Tup0 K (He.dflAt ("Heap", some "__init__") 0  K)) : KB ⟨P, w, K, mg⟩ fd ["self", "differences", "clocks"] 1 ["clocks"] (fun ds zs => pick [(0, 0), (2, 0), (1, 0)] [ds, zs, [.tup []]]) :=
  KB.dfl (g := ⟨P, w, K, mg⟩) F 1 ["clocks"] [.tup []] [(0, 0), (2, 0), (1, 0)] (by intro z; cases z) (fun _ _ => rds_tup0 Z0) fun _ _ _ _ _ _ _ us its ws h1 h2 h3 => match us, its, ws, h1, h2, h3 with | [_], [_], [_], _, _, _ => ⟨_, rfl, rfl⟩
theorem kK_Heap_sum_at_2 {fd : FuncData} (F : FunD K "sum_at" "Heap.sum_at" (defArgs (inClass (dlTop 22) 7)) (defBody (inClass (dlTop 22) 7)) (defScope (inClass (dlTop 22) 7)) (t_Heap_sum_at.dvs K) (t_Heap_sum_at.kws K) (He.fAd K ("Heap", some "sum_at")) fd)  : KB ⟨P, w, K, mg⟩ fd ["self", "time"] 2 [] (fun ds zs => pick [(0, 0), (0, 1)] [ds, zs]) :=
  KB.all (g := ⟨P, w, K, mg⟩) F 2 [] [(0, 0), (0, 1)] fun _ _ _ _ _ _ us ws h1 h2 => match us, ws, h1, h2 with | [_, _], [], _, _ => rfl
theorem ok_heap_of (V : Vw K mg) (TB : LamX.TabB base mg (He.cT K ("heap_of", none)).1 (He.cT K ("heap_of", none)).2) : ∃ fd, FunD K "heap_of" "heap_of" (defArgs (dlTop 23)) (defBody (dlTop 23)) (defScope (dlTop 23)) (t_heap_of.dvs K) (t_heap_of.kws K) (He.fAd K ("heap_of", none)) fd ∧ FnOk P w K mg base (L2.CX P w) 7 (He.fAd K ("heap_of", none)) fd ["sums", "clocks"] (spD ⟨P, w, K, mg⟩ 2 F_heap_of) := by
  obtain ⟨fd, F⟩ := V.c.def_ 14 (d := t_heap_of) rfl
  obtain ⟨d_Heap___init__, D_Heap___init__, O_Heap___init__⟩ := ok_Heap___init__ (P := P) (w := w) (base := base) V
  obtain ⟨d_Heap_sum_at, D_Heap_sum_at, O_Heap_sum_at⟩ := ok_Heap_sum_at (P := P) (w := w) (base := base) V
  obtain ⟨d_added, D_added, O_added⟩ := ok_added (P := P) (w := w) (base := base) V
  have M_added := v_glo_added V
  obtain ⟨d_Heap_put_in, D_Heap_put_in, O_Heap_put_in⟩ := ok_Heap_put_in (P := P) (w := w) (base := base) V
  have K_Heap___init___1_clocks := kK_Heap___init___1_clocks (P := P) (w := w) (mg := mg) D_Heap___init__ (v_tup0_Heap___init___0 V)
  have K_Heap_sum_at_2 := kK_Heap_sum_at_2 (P := P) (w := w) (mg := mg) D_Heap_sum_at
  have K_added_3 := kK_added_3 (P := P) (w := w) (mg := mg) D_added
  have K_Heap_put_in_2 := kK_Heap_put_in_2 (P := P) (w := w) (mg := mg) D_Heap_put_in
  have V_cls_Heap := v_cls_Heap V
  have V_free_sorted := v_free_sorted V
  have V_glo_Heap := v_glo_Heap V
  have V_meth_Heap_put_in := v_meth_Heap_put_in V
  have V_meth_Heap_sum_at := v_meth_Heap_sum_at V
  have V_mkr_Heap := v_mkr_Heap V
  refine ⟨fd, F, okDC (at_ := ("heap_of", none)) (N := N_heap_of) (tb := B_heap_of) F sc_heap_of rfl fun cdv A outer s H E hcv hr tk po => ?_⟩
  have hu := hr.units
  have hu5 := units5 hr
  have hu100 := units100 hr
  unfold B_heap_of
  exact (ss_cons (s_set (i := 2) sc_heap_of.nd rfl (by first | exact Or.inl rfl | exact Or.inr rfl) (d_make0 (c := "Heap") ⟨V_cls_Heap, V_glo_Heap⟩ V_mkr_Heap O_Heap___init__ (hr.mono (by decide)) tk K_Heap___init___1_clocks (fun (ds zs : List D) (h1 : ds.length = 1) (h2 : zs.length = (["clocks"] : List Str).length) => match ds, zs, h1, h2 with | [_], [_], _, _ => rfl) (k_cons (d_var (pv 1)) k_nil)))
 (ss_cons (s_for po rfl (i_seq (m_l (q_sortedF (at_ := ("heap_of", none)) (q := "heap_of.<locals>.<lambda>") (x := "pair") (k := 0) TB hcv (hr.mono (by decide)) V_free_sorted (m_v (d_var (pv 0))) ⟨⟨_, _, _, _, rfl⟩, by decide, rfl, rfl, rfl, rfl, by decide +kernel, fun _ _ _ _ => rfl⟩))) (g_tup rfl (gs_cons (g_name (pg_name (i := 3) sc_heap_of.nd rfl (by first | exact Or.inl rfl | exact Or.inr rfl))) (gs_cons (g_name (pg_name (i := 4) sc_heap_of.nd rfl (by first | exact Or.inl rfl | exact Or.inr rfl))) gs_nil))) (ss_cons (s_set (i := 5) sc_heap_of.nd rfl (by first | exact Or.inl rfl | exact Or.inr rfl) (d_meth (c := "Heap") ⟨V_cls_Heap, V_glo_Heap⟩ V_meth_Heap_sum_at O_Heap_sum_at (hr.mono (by decide)) tk K_Heap_sum_at_2 (fun (ds zs : List D) (h1 : ds.length = 2) (h2 : zs.length = ([] : List Str).length) => match ds, zs, h1, h2 with | [_, _], [], _, _ => rfl) (d_var (pv 2)) (a_cons (d_var (pv 3)) a_nil) k_nil))
 (ss_cons (s_lock (lo := (loVar 4)) (s_for po rfl (i_di (d_var (pv 4))) (g_tup rfl (gs_cons (g_name (pg_name (i := 6) sc_heap_of.nd rfl (by first | exact Or.inl rfl | exact Or.inr rfl))) (gs_cons (g_name (pg_name (i := 7) sc_heap_of.nd rfl (by first | exact Or.inl rfl | exact Or.inr rfl))) gs_nil))) (ss_one (s_expr (d_call O_added (hr.mono (by decide)) tk M_added D_added.kp K_added_3 (fun (ds zs : List D) (h1 : ds.length = 3) (h2 : zs.length = ([] : List Str).length) => match ds, zs, h1, h2 with | [_, _, _], [], _, _ => rfl) (a_cons (d_var (pv 5)) (a_cons (d_var (pv 6)) (a_cons (d_sub d_int (d_var (pv 7))) a_nil))) k_nil)))))
 (ss_one (s_lock (lo := (loVar 5)) (s_for po rfl (i_di (d_var (pv 5))) (g_tup rfl (gs_cons (g_name (pg_name (i := 6) sc_heap_of.nd rfl (by first | exact Or.inl rfl | exact Or.inr rfl))) (gs_cons (g_name (pg_name (i := 7) sc_heap_of.nd rfl (by first | exact Or.inl rfl | exact Or.inr rfl))) gs_nil))) (ss_one (s_expr (d_meth (c := "Heap") ⟨V_cls_Heap, V_glo_Heap⟩ V_meth_Heap_put_in O_Heap_put_in (hr.mono (by decide)) tk K_Heap_put_in_2 (fun (ds zs : List D) (h1 : ds.length = 2) (h2 : zs.length = ([] : List Str).length) => match ds, zs, h1, h2 with | [_, _], [], _, _ => rfl) (d_var (pv 2)) (a_cons (d_tup (a_cons (d_var (pv 6)) (a_cons (d_var (pv 3)) (a_cons (d_sub d_int (d_var (pv 7))) a_nil)))) a_nil) k_nil)))))))))
 (ss_one (s_ret (d_var (pv 2))))))
theorem ok__law_added (V : Vw K mg) : ∃ fd, FunD K "_law_added" "_law_added" (defArgs (dlTop 31)) (defBody (dlTop 31)) (defScope (dlTop 31)) (t__law_added.dvs K) (t__law_added.kws K) (He.fAd K ("_law_added", none)) fd ∧ FnOk P w K mg base (L2.CX P w) 2 (He.fAd K ("_law_added", none)) fd ["_law_diffs_here"] (spD ⟨P, w, K, mg⟩ 1 F__law_added) := by
  obtain ⟨fd, F⟩ := V.c.def_ 15 (d := t__law_added) rfl
  have V_free_sorted := v_free_sorted V
  refine ⟨fd, F, okD (N := N__law_added) (tb := B__law_added) F sc__law_added rfl fun cdv A outer s H E hr tk po => ?_⟩
  have hu := hr.units
  have hu5 := units5 hr
  have hu100 := units100 hr
  unfold B__law_added
  exact (ss_cons (s_set (i := 1) sc__law_added.nd rfl (by first | exact Or.inl rfl | exact Or.inr rfl) d_dict0)
 (ss_cons (s_for po rfl (i_seq (m_v (d_var (pv 0)))) (g_tup rfl (gs_cons (g_name (pg_name (i := 2) sc__law_added.nd rfl (by first | exact Or.inl rfl | exact Or.inr rfl))) (gs_cons (g_name (pg_name (i := 3) sc__law_added.nd rfl (by first | exact Or.inl rfl | exact Or.inr rfl))) (gs_cons (g_name (pg_name (i := 4) sc__law_added.nd rfl (by first | exact Or.inl rfl | exact Or.inr rfl))) gs_nil)))) (ss_one (s_setD hu100 (d_add (d_get2 hu100 (d_var (pv 1)) (d_tup (a_cons (d_var (pv 2)) (a_cons (d_var (pv 3)) a_nil))) d_int ⟨rfl, rfl, rfl, rfl⟩) (d_var (pv 4))) (d_var (pv 1)) (d_tup (a_cons (d_var (pv 2)) (a_cons (d_var (pv 3)) a_nil))))))
 (ss_one (s_ret (d_new (q_sorted hu100 V_free_sorted (m_l (q_lock (lo := (loVar 1)) (q_lc (own := [("_law_row_here", 2), ("_law_time_here", 3)]) rfl sc__law_added.nd (i_dk (d_var (pv 1))) (blkOk_by (own := [("_law_row_here", 2), ("_law_time_here", 3)]) (N := N__law_added) (sc := defScope (dlTop 31)) (by decide +kernel)) (fun _ _ _ _ _ => (gw_tup rfl (gws_cons (gw_name (pg_name (i := 2) sc__law_added.nd rfl (by first | exact Or.inl rfl | exact Or.inr rfl))) (gws_cons (gw_name (pg_name (i := 3) sc__law_added.nd rfl (by first | exact Or.inl rfl | exact Or.inr rfl))) gws_nil)))) (fun _ _ _ _ _ => (ts_one (t_ne hu (m_v (d_ixD hu100 (d_var (pv 1)) (d_tup (a_cons (d_var (pv 2)) (a_cons (d_var (pv 3)) a_nil))))) (m_v d_int)))) (fun _ _ _ _ _ => (d_tup (a_cons (d_var (pv 2)) (a_cons (d_var (pv 3)) (a_cons (d_ixD hu100 (d_var (pv 1)) (d_tup (a_cons (d_var (pv 2)) (a_cons (d_var (pv 3)) a_nil)))) a_nil))))))))))))))
theorem ok_NoTime___init__ (V : Vw K mg) : ∃ fd, FunD K "__init__" "NoTime.__init__" (defArgs (inClass (dlTop 2) 0)) (defBody (inClass (dlTop 2) 0)) (defScope (inClass (dlTop 2) 0)) (t_NoTime___init__.dvs K) (t_NoTime___init__.kws K) (He.fAd K ("NoTime", some "__init__")) fd ∧ FnOk P w K mg base (L2.CX P w) 1 (He.fAd K ("NoTime", some "__init__")) fd ["self", "place"] (spInit (He.ga K "NoTime") "place") ∧ Binds K fd ["self", "place"] [] := by
  obtain ⟨fd, F⟩ := V.c.def_ 16 (d := t_NoTime___init__) rfl
  have o := v_oex_NoTime V
  refine ⟨fd, F, okInit (qual := "NoTime.__init__") (txt := "what is no time, by its place") F sc_NoTime___init__ rfl rfl rfl rfl (by decide) (by decide) (fun _ _ => rfl) (v_free_ValueError V) (by kernel_rfl) o.T o.nf, ?_⟩
  exact FunD.bindsN F fun _ _ _ _ _ _ us hl => match us, hl with | [_, _], _ => rfl
theorem kK_is_time_1 {fd : FuncData} (F : FunD K "is_time" "is_time" (defArgs (dlTop 10)) (defBody (dlTop 10)) (defScope (dlTop 10)) (t_is_time.dvs K) (t_is_time.kws K) (He.fAd K ("is_time", none)) fd)  : KB ⟨P, w, K, mg⟩ fd ["thing", "clocks"] 1 [] (fun ds zs => pick [(0, 0), (2, 0)] [ds, zs, [.non]]) :=
  KB.kwo (g := ⟨P, w, K, mg⟩) F 1 [] [("clocks", He.Dv.v K (He.Dv.non))] [.non] [(0, 0), (2, 0)] (by intro z; cases z) (by intro q hq; simp [t_is_time, He.DefD.kws] at hq ⊢; simp [hq]) (fun _ _ => by simp [RDs, RD, He.Dv.v]) fun _ _ _ _ _ _ us mv ws h1 h2 h3 => match us, mv, ws, h1, h2, h3 with | [_], [_], [], _, _, _ => ⟨_, _, _, _, _, _, rfl, rfl, rfl⟩
theorem ok_look_at_times (V : Vw K mg) : ∃ fd, FunD K "look_at_times" "look_at_times" (defArgs (dlTop 11)) (defBody (dlTop 11)) (defScope (dlTop 11)) (t_look_at_times.dvs K) (t_look_at_times.kws K) (He.fAd K ("look_at_times", none)) fd ∧ FnOk P w K mg base (L2.CX P w) 4 (He.fAd K ("look_at_times", none)) fd ["times"] (spD ⟨P, w, K, mg⟩ 1 F_look_at_times) := by
  obtain ⟨fd, F⟩ := V.c.def_ 17 (d := t_look_at_times) rfl
  obtain ⟨d_is_time, D_is_time, O_is_time⟩ := ok_is_time (P := P) (w := w) (base := base) V
  have M_is_time := v_glo_is_time V
  obtain ⟨d_NoTime___init__, D_NoTime___init__, O_NoTime___init__, B_NoTime___init__⟩ := ok_NoTime___init__ (P := P) (w := w) (base := base) V
  have K_is_time_1 := kK_is_time_1 (P := P) (w := w) (mg := mg) D_is_time
  have V_free_enumerate := v_free_enumerate V
  have V_free_len := v_free_len V
  have V_glo_NoTime := v_glo_NoTime V
  have V_oex_NoTime := v_oex_NoTime V
  refine ⟨fd, F, okD (N := N_look_at_times) (tb := B_look_at_times) F sc_look_at_times rfl fun cdv A outer s H E hr tk po => ?_⟩
  have hu := hr.units
  have hu5 := units5 hr
  have hu100 := units100 hr
  unfold B_look_at_times
  exact (ss_one (s_for po rfl (i_enum V_free_enumerate (m_v (d_var (pv 0)))) (g_tup rfl (gs_cons (g_name (pg_name (i := 1) sc_look_at_times.nd rfl (by first | exact Or.inl rfl | exact Or.inr rfl))) (gs_cons (g_name (pg_name (i := 2) sc_look_at_times.nd rfl (by first | exact Or.inl rfl | exact Or.inr rfl))) gs_nil))) (ss_one (s_if (d_w (w_or (d_not (d_test (d_call O_is_time (hr.mono (by decide)) tk M_is_time D_is_time.kp K_is_time_1 (fun (ds zs : List D) (h1 : ds.length = 1) (h2 : zs.length = ([] : List Str).length) => match ds, zs, h1, h2 with | [_], [], _, _ => rfl) (a_cons (d_var (pv 2)) a_nil) k_nil))) (w_or1 (t_ne hu (m_v (d_callB call_len c_len V_free_len (by decide +kernel) (m_v (d_var (pv 2))))) (m_v (d_callB call_len c_len V_free_len (by decide +kernel) (m_v (d_ix (m_v (d_var (pv 0))) d_int)))))))) (ss_one (s_raise rfl tk V_oex_NoTime.T V_oex_NoTime.ini V_oex_NoTime.ty O_NoTime___init__ (hr.mono (by decide)) B_NoTime___init__ V_glo_NoTime (d_var (pv 1)))) ss_nil))))
theorem ok_joined (V : Vw K mg) : ∃ fd, FunD K "joined" "joined" (defArgs (dlTop 13)) (defBody (dlTop 13)) (defScope (dlTop 13)) (t_joined.dvs K) (t_joined.kws K) (He.fAd K ("joined", none)) fd ∧ FnOk P w K mg base (L2.CX P w) 2 (He.fAd K ("joined", none)) fd ["one", "other"] (spD ⟨P, w, K, mg⟩ 2 F_joined) := by
  obtain ⟨fd, F⟩ := V.c.def_ 18 (d := t_joined) rfl
  have V_free_max := v_free_max V
  have V_free_tuple := v_free_tuple V
  have V_free_zip := v_free_zip V
  refine ⟨fd, F, okD (N := N_joined) (tb := B_joined) F sc_joined rfl fun cdv A outer s H E hr tk po => ?_⟩
  have hu := hr.units
  have hu5 := units5 hr
  have hu100 := units100 hr
  unfold B_joined
  exact (ss_one (s_ret (d_callT call_tuple_of c_tup V_free_tuple (by decide +kernel) (m_l (q_lc (own := [("first", 2), ("second", 3)]) rfl sc_joined.nd (i_zip V_free_zip (m_v (d_var (pv 0))) (m_v (d_var (pv 1)))) (blkOk_by (own := [("first", 2), ("second", 3)]) (N := N_joined) (sc := defScope (dlTop 13)) (by decide +kernel)) (fun _ _ _ _ _ => (gw_tup rfl (gws_cons (gw_name (pg_name (i := 2) sc_joined.nd rfl (by first | exact Or.inl rfl | exact Or.inr rfl))) (gws_cons (gw_name (pg_name (i := 3) sc_joined.nd rfl (by first | exact Or.inl rfl | exact Or.inr rfl))) gws_nil)))) (fun _ _ _ _ _ => ts_yes) (fun _ _ _ _ _ => (d_max2 rfl V_free_max (d_var (pv 2)) (d_var (pv 3)))))))))
theorem ok_TooMany___init__ (V : Vw K mg) : ∃ fd, FunD K "__init__" "TooMany.__init__" (defArgs (inClass (dlTop 6) 0)) (defBody (inClass (dlTop 6) 0)) (defScope (inClass (dlTop 6) 0)) (t_TooMany___init__.dvs K) (t_TooMany___init__.kws K) (He.fAd K ("TooMany", some "__init__")) fd ∧ FnOk P w K mg base (L2.CX P w) 1 (He.fAd K ("TooMany", some "__init__")) fd ["self", "many"] (spInit (He.ga K "TooMany") "many") ∧ Binds K fd ["self", "many"] [] := by
  obtain ⟨fd, F⟩ := V.c.def_ 19 (d := t_TooMany___init__) rfl
  have o := v_oexO_TooMany V
  refine ⟨fd, F, okInitN baseOverflow (b := "OverflowError") (qual := "TooMany.__init__") (txt := "more than there may be, by how many there would be") F sc_TooMany___init__ rfl rfl rfl rfl (by decide) (by decide) (fun _ _ => rfl) (v_free_OverflowError V) (by kernel_rfl) (by decide) (by decide) (by decide +kernel) (by decide +kernel) (by kernel_rfl) o.T o.nf, ?_⟩
  exact FunD.bindsN F fun _ _ _ _ _ _ us hl => match us, hl with | [_, _], _ => rfl
theorem kK_look_at_times_1 {fd : FuncData} (F : FunD K "look_at_times" "look_at_times" (defArgs (dlTop 11)) (defBody (dlTop 11)) (defScope (dlTop 11)) (t_look_at_times.dvs K) (t_look_at_times.kws K) (He.fAd K ("look_at_times", none)) fd)  : KB ⟨P, w, K, mg⟩ fd ["times"] 1 [] (fun ds zs => pick [(0, 0)] [ds, zs]) :=
  KB.all (g := ⟨P, w, K, mg⟩) F 1 [] [(0, 0)] fun _ _ _ _ _ _ us ws h1 h2 => match us, ws, h1, h2 with | [_], [], _, _ => rfl
theorem kK_joined_2 {fd : FuncData} (F : FunD K "joined" "joined" (defArgs (dlTop 13)) (defBody (dlTop 13)) (defScope (dlTop 13)) (t_joined.dvs K) (t_joined.kws K) (He.fAd K ("joined", none)) fd)  : KB ⟨P, w, K, mg⟩ fd ["one", "other"] 2 [] (fun ds zs => pick [(0, 0), (0, 1)] [ds, zs]) :=
  KB.all (g := ⟨P, w, K, mg⟩) F 2 [] [(0, 0), (0, 1)] fun _ _ _ _ _ _ us ws h1 h2 => match us, ws, h1, h2 with | [_, _], [], _, _ => rfl
theorem ok_joins (V : Vw K mg) : ∃ fd, FunD K "joins" "joins" (defArgs (dlTop 16)) (defBody (dlTop 16)) (defScope (dlTop 16)) (t_joins.dvs K) (t_joins.kws K) (He.fAd K ("joins", none)) fd ∧ FnOk P w K mg base (L2.CX P w) 5 (He.fAd K ("joins", none)) fd ["times", "most"] (spD ⟨P, w, K, mg⟩ 2 F_joins) := by
  obtain ⟨fd, F⟩ := V.c.def_ 20 (d := t_joins) rfl
  obtain ⟨d_look_at_times, D_look_at_times, O_look_at_times⟩ := ok_look_at_times (P := P) (w := w) (base := base) V
  have M_look_at_times := v_glo_look_at_times V
  obtain ⟨d_joined, D_joined, O_joined⟩ := ok_joined (P := P) (w := w) (base := base) V
  have M_joined := v_glo_joined V
  obtain ⟨d_TooMany___init__, D_TooMany___init__, O_TooMany___init__, B_TooMany___init__⟩ := ok_TooMany___init__ (P := P) (w := w) (base := base) V
  have K_look_at_times_1 := kK_look_at_times_1 (P := P) (w := w) (mg := mg) D_look_at_times
  have K_joined_2 := kK_joined_2 (P := P) (w := w) (mg := mg) D_joined
  have V_free_len := v_free_len V
  have V_free_sorted := v_free_sorted V
  have V_glo_TooMany := v_glo_TooMany V
  have V_oexO_TooMany := v_oexO_TooMany V
  refine ⟨fd, F, okD (N := N_joins) (tb := B_joins) F sc_joins rfl fun cdv A outer s H E hr tk po => ?_⟩
  have hu := hr.units
  have hu5 := units5 hr
  have hu100 := units100 hr
  unfold B_joins
  exact (ss_cons (s_expr (d_call O_look_at_times (hr.mono (by decide)) tk M_look_at_times D_look_at_times.kp K_look_at_times_1 (fun (ds zs : List D) (h1 : ds.length = 1) (h2 : zs.length = ([] : List Str).length) => match ds, zs, h1, h2 with | [_], [], _, _ => rfl) (a_cons (d_var (pv 0)) a_nil) k_nil))
 (ss_cons (s_set (i := 2) sc_joins.nd rfl (by first | exact Or.inl rfl | exact Or.inr rfl) d_dict0)
 (ss_cons (s_for po rfl (i_seq (m_v (d_var (pv 0)))) (g_name (pg_name (i := 3) sc_joins.nd rfl (by first | exact Or.inl rfl | exact Or.inr rfl))) (ss_cons (s_for po rfl (i_seq (m_l (q_cat (m_l (q_lst (a_cons (d_var (pv 3)) a_nil))) (m_l (q_lock (lo := (loVar 2)) (q_lc (own := [("one", 5)]) rfl sc_joins.nd (i_dk (d_var (pv 2))) (blkOk_by (own := [("one", 5)]) (N := N_joins) (sc := defScope (dlTop 16)) (by decide +kernel)) (fun _ _ _ _ _ => (gw_name (pg_name (i := 5) sc_joins.nd rfl (by first | exact Or.inl rfl | exact Or.inr rfl)))) (fun _ _ _ _ _ => ts_yes) (fun _ _ _ _ _ => (d_call O_joined (hr.mono (by decide)) takes0 M_joined D_joined.kp K_joined_2 (fun (ds zs : List D) (h1 : ds.length = 2) (h2 : zs.length = ([] : List Str).length) => match ds, zs, h1, h2 with | [_, _], [], _, _ => rfl) (a_cons (d_var (pv 3)) (a_cons (d_var (pv 5)) a_nil)) k_nil)))))))) (g_name (pg_name (i := 4) sc_joins.nd rfl (by first | exact Or.inl rfl | exact Or.inr rfl))) (ss_one (s_setD hu100 d_bl (d_var (pv 2)) (d_var (pv 4)))))
 (ss_one (s_if (d_testc op_gt o_gt (d_callB call_lenD c_lenD V_free_len (by decide +kernel) (m_v (d_var (pv 2)))) (d_var (pv 1))) (ss_one (s_raiseN baseOverflow rfl tk V_oexO_TooMany.T V_oexO_TooMany.ini V_oexO_TooMany.ty O_TooMany___init__ (hr.mono (by decide)) B_TooMany___init__ V_glo_TooMany (d_add (d_var (pv 1)) d_int))) ss_nil))))
 (ss_one (s_ret (d_new (q_sortedD rfl hu100 V_free_sorted (d_var (pv 2)))))))))
theorem ok__law_take (V : Vw K mg) : ∃ fd, FunD K "_law_take" "_law_take" (defArgs (dlTop 26)) (defBody (dlTop 26)) (defScope (dlTop 26)) (t__law_take.dvs K) (t__law_take.kws K) (He.fAd K ("_law_take", none)) fd ∧ FnOk P w K mg base (L2.CX P w) 2 (He.fAd K ("_law_take", none)) fd ["_law_pool_here", "_law_many"] (spD ⟨P, w, K, mg⟩ 2 F__law_take) := by
  obtain ⟨fd, F⟩ := V.c.def_ 21 (d := t__law_take) rfl
  refine ⟨fd, F, okD (N := N__law_take) (tb := B__law_take) F sc__law_take rfl fun cdv A outer s H E hr tk po => ?_⟩
  have hu := hr.units
  have hu5 := units5 hr
  have hu100 := units100 hr
  unfold B__law_take
  exact (ss_cons (s_if (d_testc op_gt o_gt (d_ix (m_v (d_var (pv 0))) d_int) d_int) (ss_cons (s_set (i := 2) sc__law_take.nd rfl (by first | exact Or.inl rfl | exact Or.inr rfl) (d_mod (d_ix (m_v (d_var (pv 0))) d_int) (d_var (pv 1))))
 (ss_cons (s_setL (d_fdiv (d_ix (m_v (d_var (pv 0))) d_int) (d_var (pv 1))) (d_var (pv 0)) d_int)
 (ss_one (s_ret (d_var (pv 2)))))) ss_nil)
 (ss_cons (s_setL (d_mod (d_add (d_mul (d_ix (m_v (d_var (pv 0))) d_int) d_int) d_int) d_int) (d_var (pv 0)) d_int)
 (ss_one (s_ret (d_mod (d_fdiv (d_mod (d_mul (d_ix (m_v (d_var (pv 0))) d_int) (d_ix (m_v (d_var (pv 0))) d_int)) d_int) d_int) (d_var (pv 1)))))))
theorem kK__law_take_2 {fd : FuncData} (F : FunD K "_law_take" "_law_take" (defArgs (dlTop 26)) (defBody (dlTop 26)) (defScope (dlTop 26)) (t__law_take.dvs K) (t__law_take.kws K) (He.fAd K ("_law_take", none)) fd)  : KB ⟨P, w, K, mg⟩ fd ["_law_pool_here", "_law_many"] 2 [] (fun ds zs => pick [(0, 0), (0, 1)] [ds, zs]) :=
  KB.all (g := ⟨P, w, K, mg⟩) F 2 [] [(0, 0), (0, 1)] fun _ _ _ _ _ _ us ws h1 h2 => match us, ws, h1, h2 with | [_, _], [], _, _ => rfl
theorem ok__law_row (V : Vw K mg) : ∃ fd, FunD K "_law_row" "_law_row" (defArgs (dlTop 29)) (defBody (dlTop 29)) (defScope (dlTop 29)) (t__law_row.dvs K) (t__law_row.kws K) (He.fAd K ("_law_row", none)) fd ∧ FnOk P w K mg base (L2.CX P w) 3 (He.fAd K ("_law_row", none)) fd ["_law_pool_here", "_law_size"] (spD ⟨P, w, K, mg⟩ 2 F__law_row) := by
  obtain ⟨fd, F⟩ := V.c.def_ 22 (d := t__law_row) rfl
  obtain ⟨d__law_take, D__law_take, O__law_take⟩ := ok__law_take (P := P) (w := w) (base := base) V
  have M__law_take := v_glo__law_take V
  have K__law_take_2 := kK__law_take_2 (P := P) (w := w) (mg := mg) D__law_take
  have V_free_range := v_free_range V
  have V_free_tuple := v_free_tuple V
  refine ⟨fd, F, okD (N := N__law_row) (tb := B__law_row) F sc__law_row rfl fun cdv A outer s H E hr tk po => ?_⟩
  have hu := hr.units
  have hu5 := units5 hr
  have hu100 := units100 hr
  unfold B__law_row
  exact (ss_one (s_ret (d_callT call_tuple_of c_tup V_free_tuple (by decide +kernel) (m_l (q_lc (own := [("_law_j", 2)]) rfl sc__law_row.nd (i_rng1 V_free_range (d_var (pv 1))) (blkOk_by (own := [("_law_j", 2)]) (N := N__law_row) (sc := defScope (dlTop 29)) (by decide +kernel)) (fun _ _ _ _ _ => (gw_name (pg_name (i := 2) sc__law_row.nd rfl (by first | exact Or.inl rfl | exact Or.inr rfl)))) (fun _ _ _ _ _ => ts_yes) (fun _ _ _ _ _ => (d_sub (d_call O__law_take (hr.mono (by decide)) takes0 M__law_take D__law_take.kp K__law_take_2 (fun (ds zs : List D) (h1 : ds.length = 2) (h2 : zs.length = ([] : List Str).length) => match ds, zs, h1, h2 with | [_, _], [], _, _ => rfl) (a_cons (d_var (pv 0)) (a_cons d_int a_nil)) k_nil) d_int)))))))
theorem ok__law_time (V : Vw K mg) : ∃ fd, FunD K "_law_time" "_law_time" (defArgs (dlTop 27)) (defBody (dlTop 27)) (defScope (dlTop 27)) (t__law_time.dvs K) (t__law_time.kws K) (He.fAd K ("_law_time", none)) fd ∧ FnOk P w K mg base (L2.CX P w) 3 (He.fAd K ("_law_time", none)) fd ["_law_pool_here", "_law_size", "_law_top"] (spD ⟨P, w, K, mg⟩ 3 F__law_time) := by
  obtain ⟨fd, F⟩ := V.c.def_ 23 (d := t__law_time) rfl
  obtain ⟨d__law_take, D__law_take, O__law_take⟩ := ok__law_take (P := P) (w := w) (base := base) V
  have M__law_take := v_glo__law_take V
  have K__law_take_2 := kK__law_take_2 (P := P) (w := w) (mg := mg) D__law_take
  have V_free_range := v_free_range V
  have V_free_tuple := v_free_tuple V
  refine ⟨fd, F, okD (N := N__law_time) (tb := B__law_time) F sc__law_time rfl fun cdv A outer s H E hr tk po => ?_⟩
  have hu := hr.units
  have hu5 := units5 hr
  have hu100 := units100 hr
  unfold B__law_time
  exact (ss_one (s_ret (d_callT call_tuple_of c_tup V_free_tuple (by decide +kernel) (m_l (q_lc (own := [("_law_j", 3)]) rfl sc__law_time.nd (i_rng1 V_free_range (d_var (pv 1))) (blkOk_by (own := [("_law_j", 3)]) (N := N__law_time) (sc := defScope (dlTop 27)) (by decide +kernel)) (fun _ _ _ _ _ => (gw_name (pg_name (i := 3) sc__law_time.nd rfl (by first | exact Or.inl rfl | exact Or.inr rfl)))) (fun _ _ _ _ _ => ts_yes) (fun _ _ _ _ _ => (d_call O__law_take (hr.mono (by decide)) takes0 M__law_take D__law_take.kp K__law_take_2 (fun (ds zs : List D) (h1 : ds.length = 2) (h2 : zs.length = ([] : List Str).length) => match ds, zs, h1, h2 with | [_, _], [], _, _ => rfl) (a_cons (d_var (pv 0)) (a_cons (d_var (pv 2)) a_nil)) k_nil)))))))
theorem kK__law_row_2 {fd : FuncData} (F : FunD K "_law_row" "_law_row" (defArgs (dlTop 29)) (defBody (dlTop 29)) (defScope (dlTop 29)) (t__law_row.dvs K) (t__law_row.kws K) (He.fAd K ("_law_row", none)) fd)  : KB ⟨P, w, K, mg⟩ fd ["_law_pool_here", "_law_size"] 2 [] (fun ds zs => pick [(0, 0), (0, 1)] [ds, zs]) :=
  KB.all (g := ⟨P, w, K, mg⟩) F 2 [] [(0, 0), (0, 1)] fun _ _ _ _ _ _ us ws h1 h2 => match us, ws, h1, h2 with | [_, _], [], _, _ => rfl
theorem kK__law_time_3 {fd : FuncData} (F : FunD K "_law_time" "_law_time" (defArgs (dlTop 27)) (defBody (dlTop 27)) (defScope (dlTop 27)) (t__law_time.dvs K) (t__law_time.kws K) (He.fAd K ("_law_time", none)) fd)  : KB ⟨P, w, K, mg⟩ fd ["_law_pool_here", "_law_size", "_law_top"] 3 [] (fun ds zs => pick [(0, 0), (0, 1), (0, 2)] [ds, zs]) :=
  KB.all (g := ⟨P, w, K, mg⟩) F 3 [] [(0, 0), (0, 1), (0, 2)] fun _ _ _ _ _ _ us ws h1 h2 => match us, ws, h1, h2 with | [_, _, _], [], _, _ => rfl
theorem ok__law_diffs (V : Vw K mg) : ∃ fd, FunD K "_law_diffs" "_law_diffs" (defArgs (dlTop 30)) (defBody (dlTop 30)) (defScope (dlTop 30)) (t__law_diffs.dvs K) (t__law_diffs.kws K) (He.fAd K ("_law_diffs", none)) fd ∧ FnOk P w K mg base (L2.CX P w) 4 (He.fAd K ("_law_diffs", none)) fd ["_law_pool_here", "_law_most", "_law_size"] (spD ⟨P, w, K, mg⟩ 3 F__law_diffs) := by
  obtain ⟨fd, F⟩ := V.c.def_ 24 (d := t__law_diffs) rfl
  obtain ⟨d__law_take, D__law_take, O__law_take⟩ := ok__law_take (P := P) (w := w) (base := base) V
  have M__law_take := v_glo__law_take V
  obtain ⟨d__law_row, D__law_row, O__law_row⟩ := ok__law_row (P := P) (w := w) (base := base) V
  have M__law_row := v_glo__law_row V
  obtain ⟨d__law_time, D__law_time, O__law_time⟩ := ok__law_time (P := P) (w := w) (base := base) V
  have M__law_time := v_glo__law_time V
  have K__law_take_2 := kK__law_take_2 (P := P) (w := w) (mg := mg) D__law_take
  have K__law_row_2 := kK__law_row_2 (P := P) (w := w) (mg := mg) D__law_row
  have K__law_time_3 := kK__law_time_3 (P := P) (w := w) (mg := mg) D__law_time
  have V_free_range := v_free_range V
  refine ⟨fd, F, okD (N := N__law_diffs) (tb := B__law_diffs) F sc__law_diffs rfl fun cdv A outer s H E hr tk po => ?_⟩
  have hu := hr.units
  have hu5 := units5 hr
  have hu100 := units100 hr
  unfold B__law_diffs
  exact (ss_cons (s_set (i := 3) sc__law_diffs.nd rfl (by first | exact Or.inl rfl | exact Or.inr rfl) (d_new (q_lst a_nil)))
 (ss_cons (s_for po rfl (i_rng1 V_free_range (d_call O__law_take (hr.mono (by decide)) tk M__law_take D__law_take.kp K__law_take_2 (fun (ds zs : List D) (h1 : ds.length = 2) (h2 : zs.length = ([] : List Str).length) => match ds, zs, h1, h2 with | [_, _], [], _, _ => rfl) (a_cons (d_var (pv 0)) (a_cons (d_add (d_var (pv 1)) d_int) a_nil)) k_nil)) (g_name (pg_name (i := 4) sc__law_diffs.nd rfl (by first | exact Or.inl rfl | exact Or.inr rfl))) (ss_cons (s_set (i := 5) sc__law_diffs.nd rfl (by first | exact Or.inl rfl | exact Or.inr rfl) (d_call O__law_row (hr.mono (by decide)) tk M__law_row D__law_row.kp K__law_row_2 (fun (ds zs : List D) (h1 : ds.length = 2) (h2 : zs.length = ([] : List Str).length) => match ds, zs, h1, h2 with | [_, _], [], _, _ => rfl) (a_cons (d_var (pv 0)) (a_cons (d_add d_int (d_call O__law_take (hr.mono (by decide)) tk M__law_take D__law_take.kp K__law_take_2 (fun (ds zs : List D) (h1 : ds.length = 2) (h2 : zs.length = ([] : List Str).length) => match ds, zs, h1, h2 with | [_, _], [], _, _ => rfl) (a_cons (d_var (pv 0)) (a_cons d_int a_nil)) k_nil)) a_nil)) k_nil))
 (ss_cons (s_set (i := 6) sc__law_diffs.nd rfl (by first | exact Or.inl rfl | exact Or.inr rfl) (d_ix (m_l (q_lst (a_cons d_int (a_cons d_int (a_cons (d_neg d_int) (a_cons d_int (a_cons (d_neg d_int) (a_cons (d_pow d_int d_int) a_nil)))))))) (d_call O__law_take (hr.mono (by decide)) tk M__law_take D__law_take.kp K__law_take_2 (fun (ds zs : List D) (h1 : ds.length = 2) (h2 : zs.length = ([] : List Str).length) => match ds, zs, h1, h2 with | [_, _], [], _, _ => rfl) (a_cons (d_var (pv 0)) (a_cons d_int a_nil)) k_nil)))
 (ss_one (s_expr (d_app (d_var (pv 3)) (d_tup (a_cons (d_var (pv 5)) (a_cons (d_call O__law_time (hr.mono (by decide)) tk M__law_time D__law_time.kp K__law_time_3 (fun (ds zs : List D) (h1 : ds.length = 3) (h2 : zs.length = ([] : List Str).length) => match ds, zs, h1, h2 with | [_, _, _], [], _, _ => rfl) (a_cons (d_var (pv 0)) (a_cons (d_var (pv 2)) (a_cons (d_ix (m_l (q_lst (a_cons d_int (a_cons d_int (a_cons d_int a_nil))))) (d_call O__law_take (hr.mono (by decide)) tk M__law_take D__law_take.kp K__law_take_2 (fun (ds zs : List D) (h1 : ds.length = 2) (h2 : zs.length = ([] : List Str).length) => match ds, zs, h1, h2 with | [_, _], [], _, _ => rfl) (a_cons (d_var (pv 0)) (a_cons d_int a_nil)) k_nil)) a_nil))) k_nil) (a_cons (d_var (pv 6)) a_nil))))))))))
 (ss_one (s_ret (d_var (pv 3))))))
theorem ok__law_corner (V : Vw K mg) : ∃ fd, FunD K "_law_corner" "_law_corner" (defArgs (dlTop 34)) (defBody (dlTop 34)) (defScope (dlTop 34)) (t__law_corner.dvs K) (t__law_corner.kws K) (He.fAd K ("_law_corner", none)) fd ∧ FnOk P w K mg base (L2.CX P w) 2 (He.fAd K ("_law_corner", none)) fd ["_law_sums", "_law_time_here", "_law_row_here"] (spD ⟨P, w, K, mg⟩ 3 F__law_corner) := by
  obtain ⟨fd, F⟩ := V.c.def_ 25 (d := t__law_corner) rfl
  have V_free_len := v_free_len V
  have V_free_min := v_free_min V
  have V_free_range := v_free_range V
  have V_free_sum := v_free_sum V
  have V_free_tuple := v_free_tuple V
  refine ⟨fd, F, okD (N := N__law_corner) (tb := B__law_corner) F sc__law_corner rfl fun cdv A outer s H E hr tk po => ?_⟩
  have hu := hr.units
  have hu5 := units5 hr
  have hu100 := units100 hr
  unfold B__law_corner
  exact (ss_cons (s_set (i := 3) sc__law_corner.nd rfl (by first | exact Or.inl rfl | exact Or.inr rfl) d_int)
 (ss_cons (s_for po rfl (i_rng1 V_free_range (d_shl d_int (d_callB call_len c_len V_free_len (by decide +kernel) (m_v (d_var (pv 1)))))) (g_name (pg_name (i := 4) sc__law_corner.nd rfl (by first | exact Or.inl rfl | exact Or.inr rfl))) (ss_cons (s_set (i := 5) sc__law_corner.nd rfl (by first | exact Or.inl rfl | exact Or.inr rfl) (d_callT call_tuple_of c_tup V_free_tuple (by decide +kernel) (m_l (q_lc (own := [("_law_j", 7)]) rfl sc__law_corner.nd (i_rng1 V_free_range (d_callB call_len c_len V_free_len (by decide +kernel) (m_v (d_var (pv 1))))) (blkOk_by (own := [("_law_j", 7)]) (N := N__law_corner) (sc := defScope (dlTop 34)) (by decide +kernel)) (fun _ _ _ _ _ => (gw_name (pg_name (i := 7) sc__law_corner.nd rfl (by first | exact Or.inl rfl | exact Or.inr rfl)))) (fun _ _ _ _ _ => ts_yes) (fun _ _ _ _ _ => (d_sub (d_ix (m_v (d_var (pv 1))) (d_var (pv 7))) (d_and' (d_shr (d_var (pv 4)) (d_var (pv 7))) d_int)))))))
 (ss_cons (s_set (i := 6) sc__law_corner.nd rfl (by first | exact Or.inl rfl | exact Or.inr rfl) (d_sub d_int (d_mul d_int (d_mod (d_callB (cr_sum rfl) c_sum V_free_sum (by decide +kernel) (m_l (q_lc (own := [("_law_j", 7)]) rfl sc__law_corner.nd (i_rng1 V_free_range (d_callB call_len c_len V_free_len (by decide +kernel) (m_v (d_var (pv 1))))) (blkOk_by (own := [("_law_j", 7)]) (N := N__law_corner) (sc := defScope (dlTop 34)) (by decide +kernel)) (fun _ _ _ _ _ => (gw_name (pg_name (i := 7) sc__law_corner.nd rfl (by first | exact Or.inl rfl | exact Or.inr rfl)))) (fun _ _ _ _ _ => ts_yes) (fun _ _ _ _ _ => (d_and' (d_shr (d_var (pv 4)) (d_var (pv 7))) d_int))))) d_int))))
 (ss_one (s_if (d_testc op_ge o_ge (d_callB (cr_minT rfl) c_minT V_free_min (by decide +kernel) (m_v (d_var (pv 5)))) d_int) (ss_one (s_set (i := 3) sc__law_corner.nd rfl (by first | exact Or.inl rfl | exact Or.inr rfl) (d_add (d_var (pv 3)) (d_mul (d_var (pv 6)) (d_get2 hu100 (d_ixD hu100 (d_var (pv 0)) (d_var (pv 5))) (d_var (pv 2)) d_int ⟨rfl, rfl, rfl, rfl⟩))))) ss_nil)))))
 (ss_one (s_ret (d_var (pv 3))))))
theorem ok_Heap___eq__ (V : Vw K mg) : ∃ fd, FunD K "__eq__" "Heap.__eq__" (defArgs (inClass (dlTop 22) 13)) (defBody (inClass (dlTop 22) 13)) (defScope (inClass (dlTop 22) 13)) (t_Heap___eq__.dvs K) (t_Heap___eq__.kws K) (He.fAd K ("Heap", some "__eq__")) fd ∧ FnOk P w K mg base (L2.CX P w) 2 (He.fAd K ("Heap", some "__eq__")) fd ["self", "other"] (spD ⟨P, w, K, mg⟩ 2 F_Heap___eq__) := by
  obtain ⟨fd, F⟩ := V.c.def_ 26 (d := t_Heap___eq__) rfl
  have V_cls_Heap := v_cls_Heap V
  have V_free_isinstance := v_free_isinstance V
  have V_glo_Heap := v_glo_Heap V
  have V_ikit_Heap := v_ikit_Heap V
  have V_noat_Heap_own_clocks := v_noat_Heap_own_clocks V
  have V_noat_Heap_own_counts := v_noat_Heap_own_counts V
  refine ⟨fd, F, okD (N := N_Heap___eq__) (tb := B_Heap___eq__) F sc_Heap___eq__ rfl fun cdv A outer s H E hr tk po => ?_⟩
  have hu := hr.units
  have hu5 := units5 hr
  have hu100 := units100 hr
  unfold B_Heap___eq__
  exact (ss_cons (s_if (d_w (w_or (d_not (d_test (d_isOwn (c := "Heap") V_free_isinstance ⟨V_cls_Heap, V_glo_Heap⟩ V_ikit_Heap (d_var (pv 1))))) (w_or1 (t_ne hu (m_v (d_fld (c := "Heap") ⟨V_cls_Heap, V_glo_Heap⟩ V_noat_Heap_own_clocks (d_var (pv 0)))) (m_v (d_fld (c := "Heap") ⟨V_cls_Heap, V_glo_Heap⟩ V_noat_Heap_own_clocks (d_var (pv 1)))))))) (ss_one (s_ret d_bl)) ss_nil)
 (ss_one (s_ret (d_eqD hu100 (d_fld (c := "Heap") ⟨V_cls_Heap, V_glo_Heap⟩ V_noat_Heap_own_counts (d_var (pv 0))) (d_fld (c := "Heap") ⟨V_cls_Heap, V_glo_Heap⟩ V_noat_Heap_own_counts (d_var (pv 1)))))))
theorem ok_Heap_differences (V : Vw K mg) : ∃ fd, FunD K "differences" "Heap.differences" (defArgs (inClass (dlTop 22) 4)) (defBody (inClass (dlTop 22) 4)) (defScope (inClass (dlTop 22) 4)) (t_Heap_differences.dvs K) (t_Heap_differences.kws K) (He.fAd K ("Heap", some "differences")) fd ∧ FnOk P w K mg base (L2.CX P w) 2 (He.fAd K ("Heap", some "differences")) fd ["self"] (spD ⟨P, w, K, mg⟩ 1 F_Heap_differences) := by
  obtain ⟨fd, F⟩ := V.c.def_ 27 (d := t_Heap_differences) rfl
  have V_cls_Heap := v_cls_Heap V
  have V_free_sorted := v_free_sorted V
  have V_glo_Heap := v_glo_Heap V
  have V_noat_Heap_own_counts := v_noat_Heap_own_counts V
  refine ⟨fd, F, okD (N := N_Heap_differences) (tb := B_Heap_differences) F sc_Heap_differences rfl fun cdv A outer s H E hr tk po => ?_⟩
  have hu := hr.units
  have hu5 := units5 hr
  have hu100 := units100 hr
  unfold B_Heap_differences
  exact (ss_one (s_ret (d_new (q_sorted hu100 V_free_sorted (m_l (q_lock (lo := (loFld 0 "own_counts")) (q_lc (own := [("count", 1), ("row", 2), ("time", 3)]) rfl sc_Heap_differences.nd (i_di (d_fld (c := "Heap") ⟨V_cls_Heap, V_glo_Heap⟩ V_noat_Heap_own_counts (d_var (pv 0)))) (blkOk_by (own := [("count", 1), ("row", 2), ("time", 3)]) (N := N_Heap_differences) (sc := defScope (inClass (dlTop 22) 4)) (by decide +kernel)) (fun _ _ _ _ _ => (gw_tup rfl (gws_cons (gw_tup rfl (gws_cons (gw_name (pg_name (i := 2) sc_Heap_differences.nd rfl (by first | exact Or.inl rfl | exact Or.inr rfl))) (gws_cons (gw_name (pg_name (i := 3) sc_Heap_differences.nd rfl (by first | exact Or.inl rfl | exact Or.inr rfl))) gws_nil))) (gws_cons (gw_name (pg_name (i := 1) sc_Heap_differences.nd rfl (by first | exact Or.inl rfl | exact Or.inr rfl))) gws_nil)))) (fun _ _ _ _ _ => ts_yes) (fun _ _ _ _ _ => (d_tup (a_cons (d_var (pv 2)) (a_cons (d_var (pv 3)) (a_cons (d_var (pv 1)) a_nil))))))))))))
theorem ok_Heap_at (V : Vw K mg) : ∃ fd, FunD K "at" "Heap.at" (defArgs (inClass (dlTop 22) 8)) (defBody (inClass (dlTop 22) 8)) (defScope (inClass (dlTop 22) 8)) (t_Heap_at.dvs K) (t_Heap_at.kws K) (He.fAd K ("Heap", some "at")) fd ∧ FnOk P w K mg base (L2.CX P w) 4 (He.fAd K ("Heap", some "at")) fd ["self", "time"] (spD ⟨P, w, K, mg⟩ 2 F_Heap_at) := by
  obtain ⟨fd, F⟩ := V.c.def_ 28 (d := t_Heap_at) rfl
  obtain ⟨d_is_time, D_is_time, O_is_time⟩ := ok_is_time (P := P) (w := w) (base := base) V
  have M_is_time := v_glo_is_time V
  obtain ⟨d_NoTime___init__, D_NoTime___init__, O_NoTime___init__, B_NoTime___init__⟩ := ok_NoTime___init__ (P := P) (w := w) (base := base) V
  obtain ⟨d_Heap_sum_at, D_Heap_sum_at, O_Heap_sum_at⟩ := ok_Heap_sum_at (P := P) (w := w) (base := base) V
  have K_is_time_1_clocks := kK_is_time_1_clocks (P := P) (w := w) (mg := mg) D_is_time
  have K_Heap_sum_at_2 := kK_Heap_sum_at_2 (P := P) (w := w) (mg := mg) D_Heap_sum_at
  have V_cls_Heap := v_cls_Heap V
  have V_glo_Heap := v_glo_Heap V
  have V_glo_NoTime := v_glo_NoTime V
  have V_meth_Heap_sum_at := v_meth_Heap_sum_at V
  have V_noat_Heap_own_clocks := v_noat_Heap_own_clocks V
  have V_oex_NoTime := v_oex_NoTime V
  refine ⟨fd, F, okD (N := N_Heap_at) (tb := B_Heap_at) F sc_Heap_at rfl fun cdv A outer s H E hr tk po => ?_⟩
  have hu := hr.units
  have hu5 := units5 hr
  have hu100 := units100 hr
  unfold B_Heap_at
  exact (ss_cons (s_if (d_not (d_test (d_call O_is_time (hr.mono (by decide)) tk M_is_time D_is_time.kp K_is_time_1_clocks (fun (ds zs : List D) (h1 : ds.length = 1) (h2 : zs.length = (["clocks"] : List Str).length) => match ds, zs, h1, h2 with | [_], [_], _, _ => rfl) (a_cons (d_var (pv 1)) a_nil) (k_cons (d_fld (c := "Heap") ⟨V_cls_Heap, V_glo_Heap⟩ V_noat_Heap_own_clocks (d_var (pv 0))) k_nil)))) (ss_one (s_raise rfl tk V_oex_NoTime.T V_oex_NoTime.ini V_oex_NoTime.ty O_NoTime___init__ (hr.mono (by decide)) B_NoTime___init__ V_glo_NoTime d_int)) ss_nil)
 (ss_one (s_ret (d_meth (c := "Heap") ⟨V_cls_Heap, V_glo_Heap⟩ V_meth_Heap_sum_at O_Heap_sum_at (hr.mono (by decide)) tk K_Heap_sum_at_2 (fun (ds zs : List D) (h1 : ds.length = 2) (h2 : zs.length = ([] : List Str).length) => match ds, zs, h1, h2 with | [_, _], [], _, _ => rfl) (d_var (pv 0)) (a_cons (d_var (pv 1)) a_nil) k_nil))))
theorem kK__law_pool_2 {fd : FuncData} (F : FunD K "_law_pool" "_law_pool" (defArgs (dlTop 25)) (defBody (dlTop 25)) (defScope (dlTop 25)) (t__law_pool.dvs K) (t__law_pool.kws K) (He.fAd K ("_law_pool", none)) fd)  : KB ⟨P, w, K, mg⟩ fd ["_law_script", "_law_k"] 2 [] (fun ds zs => pick [(0, 0), (0, 1)] [ds, zs]) :=
  KB.all (g := ⟨P, w, K, mg⟩) F 2 [] [(0, 0), (0, 1)] fun _ _ _ _ _ _ us ws h1 h2 => match us, ws, h1, h2 with | [_, _], [], _, _ => rfl
theorem kK__law_box_2 {fd : FuncData} (F : FunD K "_law_box" "_law_box" (defArgs (dlTop 33)) (defBody (dlTop 33)) (defScope (dlTop 33)) (t__law_box.dvs K) (t__law_box.kws K) (He.fAd K ("_law_box", none)) fd)  : KB ⟨P, w, K, mg⟩ fd ["_law_size", "_law_top"] 2 [] (fun ds zs => pick [(0, 0), (0, 1)] [ds, zs]) :=
  KB.all (g := ⟨P, w, K, mg⟩) F 2 [] [(0, 0), (0, 1)] fun _ _ _ _ _ _ us ws h1 h2 => match us, ws, h1, h2 with | [_, _], [], _, _ => rfl
theorem kK_heap_of_1_clocks {fd : FuncData} (F : FunD K "heap_of" "heap_of" (defArgs (dlTop 23)) (defBody (dlTop 23)) (defScope (dlTop 23)) (t_heap_of.dvs K) (t_heap_of.kws K) (He.fAd K ("heap_of", none)) fd)  : KB ⟨P, w, K, mg⟩ fd ["sums", "clocks"] 1 ["clocks"] (fun ds zs => pick [(0, 0), (1, 0)] [ds, zs]) :=
  KB.all (g := ⟨P, w, K, mg⟩) F 1 ["clocks"] [(0, 0), (1, 0)] fun _ _ _ _ _ _ us ws h1 h2 => match us, ws, h1, h2 with | [_], [_], _, _ => rfl
theorem kK__law_corner_3 {fd : FuncData} (F : FunD K "_law_corner" "_law_corner" (defArgs (dlTop 34)) (defBody (dlTop 34)) (defScope (dlTop 34)) (t__law_corner.dvs K) (t__law_corner.kws K) (He.fAd K ("_law_corner", none)) fd)  : KB ⟨P, w, K, mg⟩ fd ["_law_sums", "_law_time_here", "_law_row_here"] 3 [] (fun ds zs => pick [(0, 0), (0, 1), (0, 2)] [ds, zs]) :=
  KB.all (g := ⟨P, w, K, mg⟩) F 3 [] [(0, 0), (0, 1), (0, 2)] fun _ _ _ _ _ _ us ws h1 h2 => match us, ws, h1, h2 with | [_, _, _], [], _, _ => rfl
theorem kK_Heap_differences_1 {fd : FuncData} (F : FunD K "differences" "Heap.differences" (defArgs (inClass (dlTop 22) 4)) (defBody (inClass (dlTop 22) 4)) (defScope (inClass (dlTop 22) 4)) (t_Heap_differences.dvs K) (t_Heap_differences.kws K) (He.fAd K ("Heap", some "differences")) fd)  : KB ⟨P, w, K, mg⟩ fd ["self"] 1 [] (fun ds zs => pick [(0, 0)] [ds, zs]) :=
  KB.all (g := ⟨P, w, K, mg⟩) F 1 [] [(0, 0)] fun _ _ _ _ _ _ us ws h1 h2 => match us, ws, h1, h2 with | [_], [], _, _ => rfl
theorem kK_Heap_at_2 {fd : FuncData} (F : FunD K "at" "Heap.at" (defArgs (inClass (dlTop 22) 8)) (defBody (inClass (dlTop 22) 8)) (defScope (inClass (dlTop 22) 8)) (t_Heap_at.dvs K) (t_Heap_at.kws K) (He.fAd K ("Heap", some "at")) fd)  : KB ⟨P, w, K, mg⟩ fd ["self", "time"] 2 [] (fun ds zs => pick [(0, 0), (0, 1)] [ds, zs]) :=
  KB.all (g := ⟨P, w, K, mg⟩) F 2 [] [(0, 0), (0, 1)] fun _ _ _ _ _ _ us ws h1 h2 => match us, ws, h1, h2 with | [_, _], [], _, _ => rfl
theorem kK__law_added_1 {fd : FuncData} (F : FunD K "_law_added" "_law_added" (defArgs (dlTop 31)) (defBody (dlTop 31)) (defScope (dlTop 31)) (t__law_added.dvs K) (t__law_added.kws K) (He.fAd K ("_law_added", none)) fd)  : KB ⟨P, w, K, mg⟩ fd ["_law_diffs_here"] 1 [] (fun ds zs => pick [(0, 0)] [ds, zs]) :=
  KB.all (g := ⟨P, w, K, mg⟩) F 1 [] [(0, 0)] fun _ _ _ _ _ _ us ws h1 h2 => match us, ws, h1, h2 with | [_], [], _, _ => rfl
theorem kK__law_diffs_3 {fd : FuncData} (F : FunD K "_law_diffs" "_law_diffs" (defArgs (dlTop 30)) (defBody (dlTop 30)) (defScope (dlTop 30)) (t__law_diffs.dvs K) (t__law_diffs.kws K) (He.fAd K ("_law_diffs", none)) fd)  : KB ⟨P, w, K, mg⟩ fd ["_law_pool_here", "_law_most", "_law_size"] 3 [] (fun ds zs => pick [(0, 0), (0, 1), (0, 2)] [ds, zs]) :=
  KB.all (g := ⟨P, w, K, mg⟩) F 3 [] [(0, 0), (0, 1), (0, 2)] fun _ _ _ _ _ _ us ws h1 h2 => match us, ws, h1, h2 with | [_, _, _], [], _, _ => rfl
theorem kK_Heap___init___2_clocks {fd : FuncData} (F : FunD K "__init__" "Heap.__init__" (defArgs (inClass (dlTop 22) 0)) (defBody (inClass (dlTop 22) 0)) (defScope (inClass (dlTop 22) 0)) (t_Heap___init__.dvs K) (t_Heap___init__.kws K) (He.fAd K ("Heap", some "__init__")) fd) (Z0 : Tup0 K (He.dflAt ("Heap", some "__init__") 0  K)) : KB ⟨P, w, K, mg⟩ fd ["self", "differences", "clocks"] 2 ["clocks"] (fun ds zs => pick [(0, 0), (0, 1), (1, 0)] [ds, zs, [.tup []]]) :=
  KB.dfl (g := ⟨P, w, K, mg⟩) F 2 ["clocks"] [.tup []] [(0, 0), (0, 1), (1, 0)] (by intro z; cases z) (fun _ _ => rds_tup0 Z0) fun _ _ _ _ _ _ _ us its ws h1 h2 h3 => match us, its, ws, h1, h2, h3 with | [_, _], [_], [_], _, _, _ => ⟨_, rfl, rfl⟩
theorem kK_joins_1 {fd : FuncData} (F : FunD K "joins" "joins" (defArgs (dlTop 16)) (defBody (dlTop 16)) (defScope (dlTop 16)) (t_joins.dvs K) (t_joins.kws K) (He.fAd K ("joins", none)) fd)  : KB ⟨P, w, K, mg⟩ fd ["times", "most"] 1 [] (fun ds zs => pick [(0, 0), (2, 0)] [ds, zs, [.int (64)]]) :=
  KB.kwo (g := ⟨P, w, K, mg⟩) F 1 [] [("most", He.Dv.v K (He.Dv.int (64)))] [.int (64)] [(0, 0), (2, 0)] (by intro z; cases z) (by intro q hq; simp [t_joins, He.DefD.kws] at hq ⊢; simp [hq]) (fun _ _ => by simp [RDs, RD, He.Dv.v]) fun _ _ _ _ _ _ us mv ws h1 h2 h3 => match us, mv, ws, h1, h2, h3 with | [_], [_], [], _, _, _ => ⟨_, _, _, _, _, _, rfl, rfl, rfl⟩
theorem kK_Heap___eq___2 {fd : FuncData} (F : FunD K "__eq__" "Heap.__eq__" (defArgs (inClass (dlTop 22) 13)) (defBody (inClass (dlTop 22) 13)) (defScope (inClass (dlTop 22) 13)) (t_Heap___eq__.dvs K) (t_Heap___eq__.kws K) (He.fAd K ("Heap", some "__eq__")) fd)  : KB ⟨P, w, K, mg⟩ fd ["self", "other"] 2 [] (fun ds zs => pick [(0, 0), (0, 1)] [ds, zs]) :=
  KB.all (g := ⟨P, w, K, mg⟩) F 2 [] [(0, 0), (0, 1)] fun _ _ _ _ _ _ us ws h1 h2 => match us, ws, h1, h2 with | [_, _], [], _, _ => rfl
theorem kK_heap_of_1 {fd : FuncData} (F : FunD K "heap_of" "heap_of" (defArgs (dlTop 23)) (defBody (dlTop 23)) (defScope (dlTop 23)) (t_heap_of.dvs K) (t_heap_of.kws K) (He.fAd K ("heap_of", none)) fd)  : KB ⟨P, w, K, mg⟩ fd ["sums", "clocks"] 1 [] (fun ds zs => pick [(0, 0), (2, 0)] [ds, zs, [.int (1)]]) :=
  KB.kwo (g := ⟨P, w, K, mg⟩) F 1 [] [("clocks", He.Dv.v K (He.Dv.int (1)))] [.int (1)] [(0, 0), (2, 0)] (by intro z; cases z) (by intro q hq; simp [t_heap_of, He.DefD.kws] at hq ⊢; simp [hq]) (fun _ _ => by simp [RDs, RD, He.Dv.v]) fun _ _ _ _ _ _ us mv ws h1 h2 h3 => match us, mv, ws, h1, h2, h3 with | [_], [_], [], _, _, _ => ⟨_, _, _, _, _, _, rfl, rfl, rfl⟩
theorem ok_law (V : Vw K mg) (TB : LamX.TabB base mg (He.cT K ("heap_of", none)).1 (He.cT K ("heap_of", none)).2) : ∃ fd, FunD K "law" "law" (defArgs (dlTop 35)) (defBody (dlTop 35)) (defScope (dlTop 35)) (t_law.dvs K) (t_law.kws K) (He.fAd K ("law", none)) fd ∧ FnG P w K mg base (L2.CX P w) 8 (He.fAd K ("law", none)) fd ["_law_script"] (spD ⟨P, w, K, mg⟩ 1 F_law) := by
  obtain ⟨fd, F⟩ := V.c.def_ 29 (d := t_law) rfl
  obtain ⟨d__law_pool, D__law_pool, O__law_pool⟩ := ok__law_pool (P := P) (w := w) (base := base) V
  have M__law_pool := v_glo__law_pool V
  obtain ⟨d__law_take, D__law_take, O__law_take⟩ := ok__law_take (P := P) (w := w) (base := base) V
  have M__law_take := v_glo__law_take V
  obtain ⟨d__law_box, D__law_box, O__law_box⟩ := ok__law_box (P := P) (w := w) (base := base) V
  have M__law_box := v_glo__law_box V
  obtain ⟨d_heap_of, D_heap_of, O_heap_of⟩ := ok_heap_of (P := P) (w := w) (base := base) V TB
  have M_heap_of := v_glo_heap_of V
  obtain ⟨d__law_corner, D__law_corner, O__law_corner⟩ := ok__law_corner (P := P) (w := w) (base := base) V
  have M__law_corner := v_glo__law_corner V
  obtain ⟨d_Heap_differences, D_Heap_differences, O_Heap_differences⟩ := ok_Heap_differences (P := P) (w := w) (base := base) V
  obtain ⟨d_Heap_at, D_Heap_at, O_Heap_at⟩ := ok_Heap_at (P := P) (w := w) (base := base) V
  obtain ⟨d__law_added, D__law_added, O__law_added⟩ := ok__law_added (P := P) (w := w) (base := base) V
  have M__law_added := v_glo__law_added V
  obtain ⟨d__law_diffs, D__law_diffs, O__law_diffs⟩ := ok__law_diffs (P := P) (w := w) (base := base) V
  have M__law_diffs := v_glo__law_diffs V
  obtain ⟨d_Heap___init__, D_Heap___init__, O_Heap___init__⟩ := ok_Heap___init__ (P := P) (w := w) (base := base) V
  obtain ⟨d_joins, D_joins, O_joins⟩ := ok_joins (P := P) (w := w) (base := base) V
  have M_joins := v_glo_joins V
  obtain ⟨d_Heap___eq__, D_Heap___eq__, O_Heap___eq__⟩ := ok_Heap___eq__ (P := P) (w := w) (base := base) V
  have K__law_pool_2 := kK__law_pool_2 (P := P) (w := w) (mg := mg) D__law_pool
  have K__law_take_2 := kK__law_take_2 (P := P) (w := w) (mg := mg) D__law_take
  have K__law_box_2 := kK__law_box_2 (P := P) (w := w) (mg := mg) D__law_box
  have K_heap_of_1_clocks := kK_heap_of_1_clocks (P := P) (w := w) (mg := mg) D_heap_of
  have K__law_corner_3 := kK__law_corner_3 (P := P) (w := w) (mg := mg) D__law_corner
  have K_Heap_differences_1 := kK_Heap_differences_1 (P := P) (w := w) (mg := mg) D_Heap_differences
  have K_Heap_at_2 := kK_Heap_at_2 (P := P) (w := w) (mg := mg) D_Heap_at
  have K__law_added_1 := kK__law_added_1 (P := P) (w := w) (mg := mg) D__law_added
  have K__law_diffs_3 := kK__law_diffs_3 (P := P) (w := w) (mg := mg) D__law_diffs
  have K_Heap___init___2_clocks := kK_Heap___init___2_clocks (P := P) (w := w) (mg := mg) D_Heap___init__ (v_tup0_Heap___init___0 V)
  have K_joins_1 := kK_joins_1 (P := P) (w := w) (mg := mg) D_joins
  have K_Heap___eq___2 := kK_Heap___eq___2 (P := P) (w := w) (mg := mg) D_Heap___eq__
  have K_heap_of_1 := kK_heap_of_1 (P := P) (w := w) (mg := mg) D_heap_of
  have V_cls_Heap := v_cls_Heap V
  have V_free_dict := v_free_dict V
  have V_free_len := v_free_len V
  have V_free_max := v_free_max V
  have V_free_min := v_free_min V
  have V_free_range := v_free_range V
  have V_free_repr := v_free_repr V
  have V_free_sorted := v_free_sorted V
  have V_glo_Heap := v_glo_Heap V
  have V_meth_Heap___eq__ := v_meth_Heap___eq__ V
  have V_meth_Heap_at := v_meth_Heap_at V
  have V_meth_Heap_differences := v_meth_Heap_differences V
  have V_mkr_Heap := v_mkr_Heap V
  have V_neq_Heap := v_neq_Heap V
  refine ⟨fd, F, okDG (N := N_law) (tb := B_law) F sc_law rfl fun cdv A outer s H E hgu hr tk po => ?_⟩
  have hu := hr.units
  have hu5 := units5 hr
  have hu100 := units100 hr
  unfold B_law
  exact (ss_cons (s_for po rfl (i_rng1 V_free_range (d_max2 rfl V_free_max d_int (d_min2 rfl V_free_min (d_callB call_len c_len V_free_len (by decide +kernel) (m_v (d_var (pv 0)))) d_int))) (g_name (pg_name (i := 1) sc_law.nd rfl (by first | exact Or.inl rfl | exact Or.inr rfl))) (ss_cons (s_set (i := 2) sc_law.nd rfl (by first | exact Or.inl rfl | exact Or.inr rfl) (d_call O__law_pool (hr.mono (by decide)) tk M__law_pool D__law_pool.kp K__law_pool_2 (fun (ds zs : List D) (h1 : ds.length = 2) (h2 : zs.length = ([] : List Str).length) => match ds, zs, h1, h2 with | [_, _], [], _, _ => rfl) (a_cons (d_var (pv 0)) (a_cons (d_var (pv 1)) a_nil)) k_nil))
 (ss_cons (s_set (i := 3) sc_law.nd rfl (by first | exact Or.inl rfl | exact Or.inr rfl) (d_add d_int (d_call O__law_take (hr.mono (by decide)) tk M__law_take D__law_take.kp K__law_take_2 (fun (ds zs : List D) (h1 : ds.length = 2) (h2 : zs.length = ([] : List Str).length) => match ds, zs, h1, h2 with | [_, _], [], _, _ => rfl) (a_cons (d_var (pv 2)) (a_cons d_int a_nil)) k_nil)))
 (ss_cons (s_set (i := 4) sc_law.nd rfl (by first | exact Or.inl rfl | exact Or.inr rfl) d_dict0)
 (ss_cons (s_set (i := 5) sc_law.nd rfl (by first | exact Or.inl rfl | exact Or.inr rfl) (d_new (q_lst (a_cons (d_tup (a_cons d_int a_nil)) (a_cons (d_tup (a_cons d_int a_nil)) (a_cons (d_tup (a_cons d_int (a_cons (d_neg d_int) a_nil))) a_nil))))))
 (ss_cons (s_for po rfl (i_seq (m_v (d_call O__law_box (hr.mono (by decide)) tk M__law_box D__law_box.kp K__law_box_2 (fun (ds zs : List D) (h1 : ds.length = 2) (h2 : zs.length = ([] : List Str).length) => match ds, zs, h1, h2 with | [_, _], [], _, _ => rfl) (a_cons (d_var (pv 3)) (a_cons (d_ix (m_l (q_lst (a_cons d_int (a_cons d_int (a_cons d_int a_nil))))) (d_sub (d_var (pv 3)) d_int)) a_nil)) k_nil))) (g_name (pg_name (i := 6) sc_law.nd rfl (by first | exact Or.inl rfl | exact Or.inr rfl))) (ss_cons (s_setLc (i := 7) (own := [("_law_row_here", 16)]) rfl sc_law.nd rfl rfl rfl rfl (by decide +kernel) (i_seq (m_v (d_var (pv 5)))) (blkOk_by (own := [("_law_row_here", 16)]) (N := N_law) (sc := defScope (dlTop 35)) (by decide +kernel)) (fun _ _ _ _ _ => (gw_name (pg_name (i := 16) sc_law.nd rfl (by first | exact Or.inl rfl | exact Or.inr rfl)))) (fun _ _ _ _ _ => ts_yes) (fun _ _ _ _ _ => (d_tup (a_cons (d_var (pv 16)) (a_cons (d_sub (d_call O__law_take (hr.mono (by decide)) takes0 M__law_take D__law_take.kp K__law_take_2 (fun (ds zs : List D) (h1 : ds.length = 2) (h2 : zs.length = ([] : List Str).length) => match ds, zs, h1, h2 with | [_, _], [], _, _ => rfl) (a_cons (d_var (pv 2)) (a_cons d_int a_nil)) k_nil) d_int) a_nil)))))
 (ss_one (s_setD hu100 (d_callT (call_dictL rfl hu100) c_dictL V_free_dict (by decide +kernel) (m_l (q_lc (own := [("_law_row_here", 16), ("_law_count", 17)]) rfl sc_law.nd (i_seq (m_v (d_var (pv 7)))) (blkOk_by (own := [("_law_row_here", 16), ("_law_count", 17)]) (N := N_law) (sc := defScope (dlTop 35)) (by decide +kernel)) (fun _ _ _ _ _ => (gw_tup rfl (gws_cons (gw_name (pg_name (i := 16) sc_law.nd rfl (by first | exact Or.inl rfl | exact Or.inr rfl))) (gws_cons (gw_name (pg_name (i := 17) sc_law.nd rfl (by first | exact Or.inl rfl | exact Or.inr rfl))) gws_nil)))) (fun _ _ _ _ _ => (ts_one (t_ne hu (m_v (d_var (pv 17))) (m_v d_int)))) (fun _ _ _ _ _ => (d_tup (a_cons (d_var (pv 16)) (a_cons (d_var (pv 17)) a_nil))))))) (d_var (pv 4)) (d_var (pv 6))))))
 (ss_cons (s_set (i := 8) sc_law.nd rfl (by first | exact Or.inl rfl | exact Or.inr rfl) (d_new (q_lst a_nil)))
 (ss_cons (s_lock (lo := (loVar 4)) (s_for po rfl (i_dk (d_var (pv 4))) (g_name (pg_name (i := 6) sc_law.nd rfl (by first | exact Or.inl rfl | exact Or.inr rfl))) (ss_one (s_expr (d_ins (d_var (pv 8)) (d_call O__law_take (hr.mono (by decide)) tk M__law_take D__law_take.kp K__law_take_2 (fun (ds zs : List D) (h1 : ds.length = 2) (h2 : zs.length = ([] : List Str).length) => match ds, zs, h1, h2 with | [_, _], [], _, _ => rfl) (a_cons (d_var (pv 2)) (a_cons (d_add (d_callB call_len c_len V_free_len (by decide +kernel) (m_v (d_var (pv 8)))) d_int) a_nil)) k_nil) (d_var (pv 6)))))))
 (ss_cons (s_set (i := 9) sc_law.nd rfl (by first | exact Or.inl rfl | exact Or.inr rfl) (d_callB (call_reprR hgu hr) c_reprR V_free_repr (by decide +kernel) (m_v (d_var (pv 4)))))
 (ss_cons (s_set (i := 10) sc_law.nd rfl (by first | exact Or.inl rfl | exact Or.inr rfl) (d_call O_heap_of (hr.mono (by decide)) tk M_heap_of D_heap_of.kp K_heap_of_1_clocks (fun (ds zs : List D) (h1 : ds.length = 1) (h2 : zs.length = (["clocks"] : List Str).length) => match ds, zs, h1, h2 with | [_], [_], _, _ => rfl) (a_cons (d_new (q_lc (own := [("_law_time_here", 6)]) rfl sc_law.nd (i_seq (m_v (d_var (pv 8)))) (blkOk_by (own := [("_law_time_here", 6)]) (N := N_law) (sc := defScope (dlTop 35)) (by decide +kernel)) (fun _ _ _ _ _ => (gw_name (pg_name (i := 6) sc_law.nd rfl (by first | exact Or.inl rfl | exact Or.inr rfl)))) (fun _ _ _ _ _ => ts_yes) (fun _ _ _ _ _ => (d_tup (a_cons (d_var (pv 6)) (a_cons (d_ixD hu100 (d_var (pv 4)) (d_var (pv 6))) a_nil)))))) a_nil) (k_cons (d_var (pv 3)) k_nil)))
 (ss_cons (s_set (i := 11) sc_law.nd rfl (by first | exact Or.inl rfl | exact Or.inr rfl) (d_new (q_lst a_nil)))
 (ss_cons (s_lock (lo := (loVar 4)) (s_for po rfl (i_dk (d_var (pv 4))) (g_name (pg_name (i := 6) sc_law.nd rfl (by first | exact Or.inl rfl | exact Or.inr rfl))) (ss_one (s_set (i := 11) sc_law.nd rfl (by first | exact Or.inl rfl | exact Or.inr rfl) (d_new (q_cat (m_v (d_var (pv 11))) (m_l (q_lc (own := [("_law_row_here", 16)]) rfl sc_law.nd (i_seq (m_v (d_var (pv 5)))) (blkOk_by (own := [("_law_row_here", 16)]) (N := N_law) (sc := defScope (dlTop 35)) (by decide +kernel)) (fun _ _ _ _ _ => (gw_name (pg_name (i := 16) sc_law.nd rfl (by first | exact Or.inl rfl | exact Or.inr rfl)))) (fun _ _ _ _ _ => ts_yes) (fun _ _ _ _ _ => (d_tup (a_cons (d_var (pv 16)) (a_cons (d_var (pv 6)) (a_cons (d_call O__law_corner (hr.mono (by decide)) takes0 M__law_corner D__law_corner.kp K__law_corner_3 (fun (ds zs : List D) (h1 : ds.length = 3) (h2 : zs.length = ([] : List Str).length) => match ds, zs, h1, h2 with | [_, _, _], [], _, _ => rfl) (a_cons (d_var (pv 4)) (a_cons (d_var (pv 6)) (a_cons (d_var (pv 16)) a_nil))) k_nil) a_nil)))))))))))))
 (ss_cons (s_if (d_w (w_or (t_ne hu (m_v (d_meth0 (c := "Heap") ⟨V_cls_Heap, V_glo_Heap⟩ V_meth_Heap_differences O_Heap_differences (hr.mono (by decide)) tk K_Heap_differences_1 (fun (ds zs : List D) (h1 : ds.length = 1) (h2 : zs.length = ([] : List Str).length) => match ds, zs, h1, h2 with | [_], [], _, _ => rfl) (d_var (pv 10)) k_nil)) (m_l (q_sorted hu100 V_free_sorted (m_l (q_lc (own := [("_law_one", 18)]) rfl sc_law.nd (i_seq (m_v (d_var (pv 11)))) (blkOk_by (own := [("_law_one", 18)]) (N := N_law) (sc := defScope (dlTop 35)) (by decide +kernel)) (fun _ _ _ _ _ => (gw_name (pg_name (i := 18) sc_law.nd rfl (by first | exact Or.inl rfl | exact Or.inr rfl)))) (fun _ _ _ _ _ => (ts_one (t_ne hu (m_v (d_ix (m_v (d_var (pv 18))) d_int)) (m_v d_int)))) (fun _ _ _ _ _ => (d_var (pv 18)))))))) (w_or1 (t_neS (d_callB (call_reprR hgu hr) c_reprR V_free_repr (by decide +kernel) (m_v (d_var (pv 4)))) (d_var (pv 9)))))) (ss_one (s_ret d_bl)) ss_nil)
 (ss_cons (s_if (t_ne hu (m_l (q_lock (lo := (loVar 4)) (q_lc (own := [("_law_time_here", 6)]) rfl sc_law.nd (i_dk (d_var (pv 4))) (blkOk_by (own := [("_law_time_here", 6)]) (N := N_law) (sc := defScope (dlTop 35)) (by decide +kernel)) (fun _ _ _ _ _ => (gw_name (pg_name (i := 6) sc_law.nd rfl (by first | exact Or.inl rfl | exact Or.inr rfl)))) (fun _ _ _ _ _ => (ts_one (t_neD hu100 (d_meth (c := "Heap") ⟨V_cls_Heap, V_glo_Heap⟩ V_meth_Heap_at O_Heap_at (hr.mono (by decide)) takes0 K_Heap_at_2 (fun (ds zs : List D) (h1 : ds.length = 2) (h2 : zs.length = ([] : List Str).length) => match ds, zs, h1, h2 with | [_, _], [], _, _ => rfl) (d_var (pv 10)) (a_cons (d_var (pv 6)) a_nil) k_nil) (d_ixD hu100 (d_var (pv 4)) (d_var (pv 6)))))) (fun _ _ _ _ _ => (d_var (pv 6)))))) (m_l (q_lst a_nil))) (ss_one (s_ret d_bl)) ss_nil)
 (ss_cons (s_set (i := 12) sc_law.nd rfl (by first | exact Or.inl rfl | exact Or.inr rfl) (d_meth0 (c := "Heap") ⟨V_cls_Heap, V_glo_Heap⟩ V_meth_Heap_differences O_Heap_differences (hr.mono (by decide)) tk K_Heap_differences_1 (fun (ds zs : List D) (h1 : ds.length = 1) (h2 : zs.length = ([] : List Str).length) => match ds, zs, h1, h2 with | [_], [], _, _ => rfl) (d_var (pv 10)) k_nil))
 (ss_cons (s_lock (lo := (loVar 4)) (s_for po rfl (i_dk (d_var (pv 4))) (g_name (pg_name (i := 6) sc_law.nd rfl (by first | exact Or.inl rfl | exact Or.inr rfl))) (ss_one (s_setD hu100 d_int (d_ixD hu100 (d_var (pv 4)) (d_var (pv 6))) (d_tup (a_cons d_int (a_cons d_int a_nil)))))))
 (ss_cons (s_if (t_ne hu (m_v (d_meth0 (c := "Heap") ⟨V_cls_Heap, V_glo_Heap⟩ V_meth_Heap_differences O_Heap_differences (hr.mono (by decide)) tk K_Heap_differences_1 (fun (ds zs : List D) (h1 : ds.length = 1) (h2 : zs.length = ([] : List Str).length) => match ds, zs, h1, h2 with | [_], [], _, _ => rfl) (d_var (pv 10)) k_nil)) (m_v (d_var (pv 12)))) (ss_one (s_ret d_bl)) ss_nil)
 (ss_cons (s_set (i := 13) sc_law.nd rfl (by first | exact Or.inl rfl | exact Or.inr rfl) (d_call O__law_added (hr.mono (by decide)) tk M__law_added D__law_added.kp K__law_added_1 (fun (ds zs : List D) (h1 : ds.length = 1) (h2 : zs.length = ([] : List Str).length) => match ds, zs, h1, h2 with | [_], [], _, _ => rfl) (a_cons (d_call O__law_diffs (hr.mono (by decide)) tk M__law_diffs D__law_diffs.kp K__law_diffs_3 (fun (ds zs : List D) (h1 : ds.length = 3) (h2 : zs.length = ([] : List Str).length) => match ds, zs, h1, h2 with | [_, _, _], [], _, _ => rfl) (a_cons (d_var (pv 2)) (a_cons d_int (a_cons (d_var (pv 3)) a_nil))) k_nil) a_nil) k_nil))
 (ss_cons (s_set (i := 14) sc_law.nd rfl (by first | exact Or.inl rfl | exact Or.inr rfl) (d_make (c := "Heap") ⟨V_cls_Heap, V_glo_Heap⟩ V_mkr_Heap O_Heap___init__ (hr.mono (by decide)) tk K_Heap___init___2_clocks (fun (ds zs : List D) (h1 : ds.length = 2) (h2 : zs.length = (["clocks"] : List Str).length) => match ds, zs, h1, h2 with | [_, _], [_], _, _ => rfl) (a_cons (d_var (pv 13)) a_nil) (k_cons (d_var (pv 3)) k_nil)))
 (ss_cons (s_set (i := 15) sc_law.nd rfl (by first | exact Or.inl rfl | exact Or.inr rfl) (d_call O_joins (hr.mono (by decide)) tk M_joins D_joins.kp K_joins_1 (fun (ds zs : List D) (h1 : ds.length = 1) (h2 : zs.length = ([] : List Str).length) => match ds, zs, h1, h2 with | [_], [], _, _ => rfl) (a_cons (d_new (q_lc (own := [("_law_row_here", 16), ("_law_time_here", 6), ("_law_count", 17)]) rfl sc_law.nd (i_seq (m_v (d_var (pv 13)))) (blkOk_by (own := [("_law_row_here", 16), ("_law_time_here", 6), ("_law_count", 17)]) (N := N_law) (sc := defScope (dlTop 35)) (by decide +kernel)) (fun _ _ _ _ _ => (gw_tup rfl (gws_cons (gw_name (pg_name (i := 16) sc_law.nd rfl (by first | exact Or.inl rfl | exact Or.inr rfl))) (gws_cons (gw_name (pg_name (i := 6) sc_law.nd rfl (by first | exact Or.inl rfl | exact Or.inr rfl))) (gws_cons (gw_name (pg_name (i := 17) sc_law.nd rfl (by first | exact Or.inl rfl | exact Or.inr rfl))) gws_nil))))) (fun _ _ _ _ _ => ts_yes) (fun _ _ _ _ _ => (d_var (pv 6))))) a_nil) k_nil))
 (ss_one (s_if (t_neOwn (c := "Heap") ⟨V_cls_Heap, V_glo_Heap⟩ V_meth_Heap___eq__ V_neq_Heap O_Heap___eq__ (hr.mono (by decide)) K_Heap___eq___2 (fun (ds zs : List D) (h1 : ds.length = 2) (h2 : zs.length = ([] : List Str).length) => match ds, zs, h1, h2 with | [_, _], [], _, _ => rfl) (d_call O_heap_of (hr.mono (by decide)) tk M_heap_of D_heap_of.kp K_heap_of_1_clocks (fun (ds zs : List D) (h1 : ds.length = 1) (h2 : zs.length = (["clocks"] : List Str).length) => match ds, zs, h1, h2 with | [_], [_], _, _ => rfl) (a_cons (d_new (q_lc (own := [("_law_time_here", 6)]) rfl sc_law.nd (i_seq (m_v (d_var (pv 15)))) (blkOk_by (own := [("_law_time_here", 6)]) (N := N_law) (sc := defScope (dlTop 35)) (by decide +kernel)) (fun _ _ _ _ _ => (gw_name (pg_name (i := 6) sc_law.nd rfl (by first | exact Or.inl rfl | exact Or.inr rfl)))) (fun _ _ _ _ _ => ts_yes) (fun _ _ _ _ _ => (d_tup (a_cons (d_var (pv 6)) (a_cons (d_meth (c := "Heap") ⟨V_cls_Heap, V_glo_Heap⟩ V_meth_Heap_at O_Heap_at (hr.mono (by decide)) takes0 K_Heap_at_2 (fun (ds zs : List D) (h1 : ds.length = 2) (h2 : zs.length = ([] : List Str).length) => match ds, zs, h1, h2 with | [_, _], [], _, _ => rfl) (d_var (pv 14)) (a_cons (d_var (pv 6)) a_nil) k_nil) a_nil)))))) a_nil) (k_cons (d_var (pv 3)) k_nil)) (d_var (pv 14))) (ss_one (s_ret d_bl)) ss_nil))))))))))))))))))))))
 (ss_one (s_ret (d_eq hu (m_v (d_meth0 (c := "Heap") ⟨V_cls_Heap, V_glo_Heap⟩ V_meth_Heap_differences O_Heap_differences (hr.mono (by decide)) tk K_Heap_differences_1 (fun (ds zs : List D) (h1 : ds.length = 1) (h2 : zs.length = ([] : List Str).length) => match ds, zs, h1, h2 with | [_], [], _, _ => rfl) (d_call O_heap_of (hr.mono (by decide)) tk M_heap_of D_heap_of.kp K_heap_of_1 (fun (ds zs : List D) (h1 : ds.length = 1) (h2 : zs.length = ([] : List Str).length) => match ds, zs, h1, h2 with | [_], [], _, _ => rfl) (a_cons (d_new (q_lst a_nil)) a_nil) k_nil) k_nil)) (m_l (q_lst a_nil))))))
end
abbrev theR : PySem.W.OpenRow := PySem.W.OpenLaw.row PySem.Challenge.rw_roundmoments_k11_whole_one_heap_of_sums
def theNames0 : List PySem.Str := ["_wall", "NoTime", "NoHeap", "NoRow", "NoCount", "TooMany", "MOST_CLOCKS", "is_whole", "is_time", "look_at_times", "is_before", "joined", "MOST_JOINS", "joins", "MOST_WIDTH", "is_row", "is_count", "added", "Heap", "heap_of", "_law_pool", "_law_take", "_law_time", "_law_at_or_before", "_law_row", "_law_diffs", "_law_added", "_law_sum", "_law_box", "_law_corner"]
def theNames : List PySem.Str := theNames0
abbrev theHk : PySem.W.Hook := hookXT 6 theFa theFn ("heap_of", none)
def theOb (s : PySem.W.SharedT) : He.AlD × Bool := obsXT 6 theFa theFn ("heap_of", none) (HandSHeadRun.getT s)
theorem theOb_eq (s : PySem.W.SharedT) : theOb s = theHk.obs s.abs := obsXT_eq (HandSHeadRun.getT_eq s)
theorem theRun (w : World) : HandSHeadRun.RunEq theR (PySem.W.view theR.prog [35]) theHk theOb 3800 theNames w := by
  intro os
  kernel_rfl
theorem holds_of (h : ∀ ns : List Int, ns.length ≤ 63 → ∃ h', F_law [.rol (ns.map .int)] [.tbl ("heap_of", none) "heap_of.<locals>.<lambda>"] = .ok (.bl true) h') : PySem.Challenge.rw_roundmoments_k11_whole_one_heap_of_sums.Holds := by
  w_on; o_law
  refine HandSHeadRun.head_any (r := PySem.W.OpenLaw.row PySem.Challenge.rw_roundmoments_k11_whole_one_heap_of_sums) (q := PySem.W.view (PySem.W.OpenLaw.row PySem.Challenge.rw_roundmoments_k11_whole_one_heap_of_sums).prog [35]) (H := theHk) (ob := theOb) (M := 3800) (loose := theNames) (d := HandSHeadRun.topDef (PySem.W.OpenLaw.row PySem.Challenge.rw_roundmoments_k11_whole_one_heap_of_sums).prog 35) (kwd := []) theOb_eq
    (by kernel_rfl) (fun s => by kernel_rfl) theRun (by kernel_rfl) (by kernel_rfl) (by kernel_rfl) (by rfl) (by first | assumption | decide +kernel) (by decide +kernel) ⟨rfl, rfl, rfl, rfl, rfl, by decide +kernel⟩ ?hw ?hc
  case hw => w_witness2
  case hc =>
    refine walk_XGT (l := PySem.Challenge.rw_roundmoments_k11_whole_one_heap_of_sums) (n := 63) (k := 8) (x := "_law_script") (F := F_law) (at_ := ("heap_of", none)) (lq := "heap_of.<locals>.<lambda>") rfl (by decide) (by kernel_rfl) ⟨rfl, by decide, by decide⟩ ?F h
    intro w mg fa hp Y G hmg0
    obtain ⟨K, KX, cT⟩ := Y
    have c := cT.c
    have hmg : mg ("law" : PySem.Str) = some (.ref fa) := by
      have e : (HandSHeadRun.topDef (PySem.W.OpenLaw.row PySem.Challenge.rw_roundmoments_k11_whole_one_heap_of_sums).prog 35).name = ("law" : PySem.Str) := by kernel_rfl
      rw [← e]
      exact hmg0
    have V : Vw K mg := ⟨c, hp, KX, G⟩
    obtain ⟨fd, FD'⟩ : ∃ fd, FunD K "law" "law" (defArgs (dlTop 35)) (defBody (dlTop 35)) (defScope (dlTop 35)) (t_law.dvs K) (t_law.kws K) (He.fAd K ("law", none)) fd := V.c.def_ 29 (d := t_law) rfl
    have e := hmg.symm.trans (v_glo_law V)
    cases e
    refine ⟨K, fd, KX, cT.hd, cT.out, cT.emp, fun s u => FunD.bindsA (ps := ["_law_script"]) FD' (fun _ _ _ _ _ _ us hl => match us, hl with | [_], _ => rfl) s [u] rfl, fun base _ _ TB => ?_⟩
    obtain ⟨fd2, FD2, O2⟩ := ok_law (P := (PySem.Challenge.rw_roundmoments_k11_whole_one_heap_of_sums).prog) (w := w) (base := base) V TB
    rw [fd_one FD' FD2]
    exact O2
end DL
theorem PySem.Challenge.cw_roundmoments_k11_whole_one_heap_of_sums_holds : PySem.Challenge.rw_roundmoments_k11_whole_one_heap_of_sums.Holds := by
  exact DL.holds_of DL.law_ok
