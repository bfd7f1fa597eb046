import PyProof.Rows.All
import Wide.All
import OpenK.AllK
import Wide.FinOn
import PyProof.EqAt
import PyProof.EqKinds
import PyProof.TupleCall
import HandS.Base
import HandS.Call
import KE.KeyNested
import HandS.List
import HandS.Comp
import HandS.Words
import HandS.Iter
import HandS.Exc
import HandS.Defaults
import HandS.MakeKwOnly
import HandS.Property
import HandS.TupSets
import HandS.TupMul
import HandS.Style
import HandS.Text
import PyProof.ReprRoads
import HandS.Dict
import HandS.IsInst
import PyProof.DictFindH
import KE.KDictKeyed
import KE.KDictWalk
import HandS.WordsDict
import HandS.Star
import KE.KUnpackStar
import HandS.ExcValue
import HandS.ExcOwn
import KE.GoesMore
import KE.GoesEnum
import HandS.HeadHook1
import PyProof.AutoSeq1
import PyProof.SetRoads
import KE.SortData
import KE.DataMinMax
import PyProof.Claim2Refuses
import HandS.Deep
import HandS.SortKw
import HandS.SetBool
import KE.KDictCopyH
import KE.KDictSum
import HandS.RaiseMore
import HandS.Ends
import HandS.HeadEnd
import HandS.HeadHook2
import HandS.Head0
import HandS.Head1
import HandS.Head2
import KE.KStateDown
import PySem.Challenge.RW_struckring_k28_what_copies_hold
/-! text Z0 -/
set_option Elab.async false
set_option linter.all false
set_option maxRecDepth 100000
/-! Z0: data, abstract objects, how they stand in the abstract heap. -/
namespace Z
open PySem PySem.Spec PyProof.Rows L2

/-- data: tuples are trees, what may change stands behind a number; fl: a list that never changes -/
inductive D where
  | non | bl (b : Bool) | int (i : Int) | str (s : Str) | tup (ds : List D) | ref (n : Nat) | fl (ds : List D)
  deriving Inhabited
mutual
def D.dec : (a b : D) → Decidable (a = b)
  | .non, .non => .isTrue rfl
  | .bl a, .bl b => if h : a = b then .isTrue (by rw [h]) else .isFalse (fun e => h (D.bl.inj e))
  | .int a, .int b => if h : a = b then .isTrue (by rw [h]) else .isFalse (fun e => h (D.int.inj e))
  | .str a, .str b => if h : a = b then .isTrue (by rw [h]) else .isFalse (fun e => h (D.str.inj e))
  | .ref a, .ref b => if h : a = b then .isTrue (by rw [h]) else .isFalse (fun e => h (D.ref.inj e))
  | .tup a, .tup b => match D.decs a b with
    | .isTrue h => .isTrue (by rw [h])
    | .isFalse h => .isFalse (fun e => h (D.tup.inj e))
  | .fl a, .fl b => match D.decs a b with
    | .isTrue h => .isTrue (by rw [h])
    | .isFalse h => .isFalse (fun e => h (D.fl.inj e))
  | .non, .bl _ | .non, .int _ | .non, .str _ | .non, .tup _ | .non, .ref _ | .non, .fl _ => .isFalse (fun e => nomatch e)
  | .bl _, .non | .bl _, .int _ | .bl _, .str _ | .bl _, .tup _ | .bl _, .ref _ | .bl _, .fl _ => .isFalse (fun e => nomatch e)
  | .int _, .non | .int _, .bl _ | .int _, .str _ | .int _, .tup _ | .int _, .ref _ | .int _, .fl _ => .isFalse (fun e => nomatch e)
  | .str _, .non | .str _, .bl _ | .str _, .int _ | .str _, .tup _ | .str _, .ref _ | .str _, .fl _ => .isFalse (fun e => nomatch e)
  | .tup _, .non | .tup _, .bl _ | .tup _, .int _ | .tup _, .str _ | .tup _, .ref _ | .tup _, .fl _ => .isFalse (fun e => nomatch e)
  | .ref _, .non | .ref _, .bl _ | .ref _, .int _ | .ref _, .str _ | .ref _, .tup _ | .ref _, .fl _ => .isFalse (fun e => nomatch e)
  | .fl _, .non | .fl _, .bl _ | .fl _, .int _ | .fl _, .str _ | .fl _, .tup _ | .fl _, .ref _ => .isFalse (fun e => nomatch e)
def D.decs : (a b : List D) → Decidable (a = b)
  | [], [] => .isTrue rfl
  | [], _ :: _ => .isFalse (fun e => nomatch e)
  | _ :: _, [] => .isFalse (fun e => nomatch e)
  | x :: xs, y :: ys => match D.dec x y with
    | .isFalse h => .isFalse (fun e => h (List.cons.inj e).1)
    | .isTrue h => match D.decs xs ys with
      | .isTrue h2 => .isTrue (by rw [h, h2])
      | .isFalse h2 => .isFalse (fun e => h2 (List.cons.inj e).2)
end
instance : DecidableEq D := D.dec

/-- what may change: a list, a dict, an instance -/
inductive MO where
  | lst (ds : List D)
  | dic (kvs : List (D × D)) | dit (kvs : List (D × D))
  | ins (c : Str) (fs : List (Str × D))
  deriving DecidableEq, Inhabited
abbrev Hd := List MO

/-- how a piece of code ends: it does what is not told here; a value; an exception of a class with its fields -/
inductive Out (α : Type) where
  | fail
  | ok (a : α) (h : Hd)
  | exc (c : Str) (fs : List (Str × D)) (h : Hd)
def Out.bind {α β : Type} (x : Out α) (f : α → Hd → Out β) : Out β := match x with
  | .fail => .fail
  | .ok a h => f a h
  | .exc c fs h => .exc c fs h

/-! ### how data stand in the abstract heap -/
section
variable (K : PySem.W.Frag) (cl : Str → Addr)
/-- a list that never changes -/
def Fz (H : Hp) (a : Addr) (vs : List V) : Prop := (∃ o, H a = some (.frz o (.lst vs))) ∨
    ∃ (o : Obj) (its : Array Value) (n : Nat), K.lookup a = some o ∧ o.cls = .type "list" ∧ o.dict = none ∧ o.data = .seq its n ∧ its.size ≤ sizeLine ∧ Vals vs its.toList
mutual
inductive RelD (r : List Addr) (H : Hp) : D → V → Prop
  | non : RelD r H .non .non
  | bl {b : Bool} : RelD r H (.bl b) (.bl b)
  | int {i : Int} : RelD r H (.int i) (.int i)
  | str {s : Str} : RelD r H (.str s) (.str s)
  | tup {a : Addr} {vs : List V} {ds : List D} : SqT K H a vs → RelDs r H ds vs → RelD r H (.tup ds) (.ref a)
  | ref {n : Nat} {a : Addr} : r[n]? = some a → RelD r H (.ref n) (.ref a)
  | fl {a : Addr} {vs : List V} {ds : List D} : Fz K H a vs → RelDs r H ds vs → RelD r H (.fl ds) (.ref a)
inductive RelDs (r : List Addr) (H : Hp) : List D → List V → Prop
  | nil : RelDs r H [] []
  | cons {d : D} {v : V} {ds : List D} {vs : List V} : RelD r H d v → RelDs r H ds vs → RelDs r H (d :: ds) (v :: vs)
end
/-- a key of a dict of ints and texts -/
def keyD : D → Option Key
  | .int i => some (.inl i)
  | .str s => some (.inr s)
  | _ => none
/-- nested keys: ints, and tuples of such keys -/
def keyN : D → Option NestedKey
  | .int i => some (.num i)
  | .tup ds => (keyNs ds).map .tup
  | _ => none
where keyNs : List D → Option (List NestedKey)
  | [] => some []
  | d :: ds => match keyN d, keyNs ds with
    | some k, some ks => some (k :: ks)
    | _, _ => none
/-- the rows of a dict with nested keys -/
inductive RelNs (r : List Addr) (H : Hp) : List (D × D) → List (NestedKey × Addr × Value) → Prop
  | nil : RelNs r H [] []
  | cons {k d : D} {q : NestedKey} {b : Addr} {v : V} {u : Value} {ds : List (D × D)} {xs : List (NestedKey × Addr × Value)} : keyN k = some q → q.depth ≤ 8 → RelD K r H k (.ref b) → RelD K r H d v → RelV v u → RelNs r H ds xs → RelNs r H ((k, d) :: ds) ((q, b, u) :: xs)
def entN (w : World) (x : NestedKey × Addr × Value) : DictEntry := ⟨x.1.hash w, .ref x.2.1, x.2.2⟩
/-- the dict at a, its rows xs -/
def DicN (w : World) (a : Addr) (xs : List (NestedKey × Addr × Value)) : HO := .ext fun h => (a == sysModules) = false ∧ ∃ o es, h.get? a = some o ∧ o.ExactDict ∧ o.data = .dict es xs.length ∧ es.toList = xs.map (entN w) ∧ (xs.map (·.1)).Nodup
inductive RelKV {κ : Type} (kf : D → Option κ) (r : List Addr) (H : Hp) : List (D × D) → List (κ × V) → Prop
  | nil : RelKV kf r H [] []
  | cons {k : D} {d : D} {q : κ} {v : V} {ds : List (D × D)} {vs : List (κ × V)} : kf k = some q → RelD K r H d v → RelKV kf r H ds vs → RelKV kf r H ((k, d) :: ds) ((q, v) :: vs)
inductive RelFs (r : List Addr) (H : Hp) : List (Str × D) → List (Str × V) → Prop
  | nil : RelFs r H [] []
  | cons {f : Str} {d : D} {v : V} {ds : List (Str × D)} {vs : List (Str × V)} : RelD K r H d v → RelFs r H ds vs → RelFs r H ((f, d) :: ds) ((f, v) :: vs)
/-- what stands at a for an abstract object -/
inductive RelM (r : List Addr) (H : Hp) : Addr → MO → HO → Prop
  | lst {a : Addr} {ds : List D} {vs : List V} : RelDs K r H ds vs → RelM r H a (.lst ds) (.lst vs)
  | dK {a : Addr} {kvs : List (D × D)} {qs : List (Key × V)} : RelKV K keyD r H kvs qs → RelM r H a (.dic kvs) (.dK qs)
  | dN {a : Addr} {w : World} {kvs : List (D × D)} {xs : List (NestedKey × Addr × Value)} : RelNs K r H kvs xs → RelM r H a (.dit kvs) (DicN w a xs)
  | ins {a : Addr} {c : Str} {fs : List (Str × D)} {gs : List (Str × V)} {dx : Addr} : RelFs K r H fs gs → RelM r H a (.ins c fs) (.ins (cl c) dx gs)
structure RelH (r : List Addr) (h : Hd) (H : Hp) : Prop where
  len : r.length = h.length
  nd : r.Nodup
  ob : ∀ (n : Nat) (mo : MO) (a : Addr), h[n]? = some mo → r[n]? = some a → ∃ o, H a = some o ∧ RelM K cl r H a mo o
end
/-- what was there besides is as it was; no number changes its place -/
structure Ext (r : List Addr) (H : Hp) (r' : List Addr) (H' : Hp) : Prop where
  pre : ∃ t, r' = r ++ t
  fr : ∀ a o, H a = some o → a ∉ r → H' a = some o ∧ a ∉ r'
theorem Ext.refl (r : List Addr) (H : Hp) : Ext r H r H := ⟨⟨[], by simp⟩, fun _ _ h n => ⟨h, n⟩⟩
theorem Ext.trans {r1 r2 r3 : List Addr} {H1 H2 H3 : Hp} (a : Ext r1 H1 r2 H2) (b : Ext r2 H2 r3 H3) : Ext r1 H1 r3 H3 := by
  obtain ⟨t, e⟩ := a.pre
  obtain ⟨u, e2⟩ := b.pre
  refine ⟨⟨t ++ u, by rw [e2, e, List.append_assoc]⟩, fun x o h n => ?_⟩
  obtain ⟨h2, n2⟩ := a.fr x o h n
  exact b.fr x o h2 n2
theorem Ext.get {r r' : List Addr} {H H' : Hp} (e : Ext r H r' H') {n : Nat} {a : Addr} (h : r[n]? = some a) : r'[n]? = some a := by
  obtain ⟨t, q⟩ := e.pre
  have hl : n < r.length := (List.getElem?_eq_some_iff.mp h).1
  rw [q, List.getElem?_append_left hl]
  exact h
section
variable {K : PySem.W.Frag} {cl : Str → Addr} {r r' : List Addr} {H H' : Hp} {h h' : Hd}
theorem RelM.kind {a : Addr} {mo : MO} {o : HO} (m : RelM K cl r H a mo o) : (∀ xs, o ≠ .tup xs) ∧ (∀ b u, o ≠ .frz b u) ∧ (∀ x, o ≠ .own x) ∧ Mut (some o) := by
  cases m <;> exact ⟨(fun _ e => by cases e), (fun _ _ e => by cases e), (fun _ e => by cases e), trivial⟩
theorem RelH.at {n : Nat} {a : Addr} (R : RelH K cl r h H) (e : r[n]? = some a) : ∃ mo o, h[n]? = some mo ∧ H a = some o ∧ RelM K cl r H a mo o := by
  have hl : n < r.length := (List.getElem?_eq_some_iff.mp e).1
  have hl2 : n < h.length := by rw [← R.len]; exact hl
  have q : h[n]? = some h[n] := List.getElem?_eq_getElem hl2
  obtain ⟨o, h1, h2⟩ := R.ob n _ a q e
  exact ⟨_, o, q, h1, h2⟩
theorem RelH.mem {a : Addr} (R : RelH K cl r h H) (e : a ∈ r) : ∃ (n : Nat) (mo : MO) (o : HO), r[n]? = some a ∧ h[n]? = some mo ∧ H a = some o ∧ RelM K cl r H a mo o := by
  obtain ⟨n, hn⟩ := List.getElem?_of_mem e
  obtain ⟨mo, o, h1, h2, h3⟩ := R.at hn
  exact ⟨n, mo, o, hn, h1, h2, h3⟩
theorem RelH.not_tup {a : Addr} {xs : List V} (R : RelH K cl r h H) (e : H a = some (.tup xs)) : a ∉ r := fun m => by
  obtain ⟨n, mo, o, _, _, h2, h3⟩ := R.mem m
  rw [e] at h2
  cases h2
  exact h3.kind.1 _ rfl
theorem RelH.not_frz {a : Addr} {b : Obj} {u : HO} (R : RelH K cl r h H) (e : H a = some (.frz b u)) : a ∉ r := fun m => by
  obtain ⟨n, mo, o, _, _, h2, h3⟩ := R.mem m
  rw [e] at h2
  cases h2
  exact h3.kind.2.1 _ _ rfl
theorem RelH.not_own {a x : Addr} (R : RelH K cl r h H) (e : H a = some (.own x)) : a ∉ r := fun m => by
  obtain ⟨n, mo, o, _, _, h2, h3⟩ := R.mem m
  rw [e] at h2
  cases h2
  exact h3.kind.2.2.1 _ rfl
theorem RelH.not_none {a : Addr} (R : RelH K cl r h H) (e : H a = none) : a ∉ r := fun m => by
  obtain ⟨n, mo, o, _, _, h2, h3⟩ := R.mem m
  rw [e] at h2
  cases h2
theorem sqT_ext {a : Addr} {vs : List V} (R : RelH K cl r h H) (e : Ext r H r' H') (s : SqT K H a vs) : SqT K H' a vs := by
  rcases s with (s | ⟨o, s⟩) | s
  · exact .inl (.inl (e.fr _ _ s (R.not_tup s)).1)
  · exact .inl (.inr ⟨o, (e.fr _ _ s (R.not_frz s)).1⟩)
  · exact .inr s
theorem fz_ext {a : Addr} {vs : List V} (R : RelH K cl r h H) (e : Ext r H r' H') (s : Fz K H a vs) : Fz K H' a vs := by
  rcases s with ⟨o, s⟩ | s
  · exact .inl ⟨o, (e.fr _ _ s (R.not_frz s)).1⟩
  · exact .inr s
/-- what the relation of a datum leans on -/
structure Keep (K : PySem.W.Frag) (r : List Addr) (H : Hp) (r' : List Addr) (H' : Hp) : Prop where
  t : ∀ a vs, SqT K H a vs → SqT K H' a vs
  f : ∀ a vs, Fz K H a vs → Fz K H' a vs
  g : ∀ (n : Nat) (a : Addr), r[n]? = some a → r'[n]? = some a
theorem Keep.refl : Keep K r H r H := ⟨fun _ _ s => s, fun _ _ s => s, fun _ _ s => s⟩
theorem Keep.trans {r1 r2 r3 : List Addr} {H1 H2 H3 : Hp} (a : Keep K r1 H1 r2 H2) (b : Keep K r2 H2 r3 H3) : Keep K r1 H1 r3 H3 := ⟨fun x vs s => b.t x vs (a.t x vs s), fun x vs s => b.f x vs (a.f x vs s), fun n x s => b.g n x (a.g n x s)⟩
theorem RelH.keep (R : RelH K cl r h H) (e : Ext r H r' H') : Keep K r H r' H' := ⟨fun _ _ s => sqT_ext R e s, fun _ _ s => fz_ext R e s, fun _ _ s => e.get s⟩
mutual
theorem RelD.mono (k : Keep K r H r' H') : ∀ {d : D} {v : V}, RelD K r H d v → RelD K r' H' d v
  | _, _, .non => .non
  | _, _, .bl => .bl
  | _, _, .int => .int
  | _, _, .str => .str
  | _, _, .tup s m => .tup (k.t _ _ s) (RelDs.mono k m)
  | _, _, .ref e => .ref (k.g _ _ e)
  | _, _, .fl s m => .fl (k.f _ _ s) (RelDs.mono k m)
theorem RelDs.mono (k : Keep K r H r' H') : ∀ {ds : List D} {vs : List V}, RelDs K r H ds vs → RelDs K r' H' ds vs
  | _, _, .nil => .nil
  | _, _, .cons a b => .cons (RelD.mono k a) (RelDs.mono k b)
end
theorem RelKV.mono {κ : Type} {kf : D → Option κ} (k : Keep K r H r' H') : ∀ {ds : List (D × D)} {vs : List (κ × V)}, RelKV K kf r H ds vs → RelKV K kf r' H' ds vs
  | _, _, .nil => .nil
  | _, _, .cons e a b => .cons e (a.mono k) (RelKV.mono k b)
theorem RelFs.mono (k : Keep K r H r' H') : ∀ {ds : List (Str × D)} {vs : List (Str × V)}, RelFs K r H ds vs → RelFs K r' H' ds vs
  | _, _, .nil => .nil
  | _, _, .cons a b => .cons (a.mono k) (RelFs.mono k b)
theorem RelNs.mono (k : Keep K r H r' H') : ∀ {ds : List (D × D)} {xs : List (NestedKey × Addr × Value)}, RelNs K r H ds xs → RelNs K r' H' ds xs
  | _, _, .nil => .nil
  | _, _, .cons e l a b c d => .cons e l (a.mono k) (b.mono k) c (RelNs.mono k d)
theorem RelM.mono {a : Addr} {mo : MO} {o : HO} (k : Keep K r H r' H') : RelM K cl r H a mo o → RelM K cl r' H' a mo o
  | .lst m => .lst (m.mono k)
  | .dK m => .dK (m.mono k)
  | .dN m => .dN (m.mono k)
  | .ins m => .ins (m.mono k)
theorem RelDs.length : ∀ {ds : List D} {vs : List V}, RelDs K r H ds vs → ds.length = vs.length
  | _, _, .nil => rfl
  | _, _, .cons _ b => congrArg Nat.succ b.length
theorem RelDs.get : ∀ {ds : List D} {vs : List V} {i : Nat} {d : D}, RelDs K r H ds vs → ds[i]? = some d → ∃ v, vs[i]? = some v ∧ RelD K r H d v
  | _, _, _, _, .nil, e => by simp at e
  | _, _, 0, _, .cons a _, e => by simp at e; subst e; exact ⟨_, rfl, a⟩
  | _, _, i + 1, d, .cons _ b, e => by
    obtain ⟨v, h1, h2⟩ := RelDs.get (i := i) (d := d) b (by simpa using e)
    exact ⟨v, by simpa using h1, h2⟩
theorem RelDs.getV : ∀ {ds : List D} {vs : List V} {i : Nat} {v : V}, RelDs K r H ds vs → vs[i]? = some v → ∃ d, ds[i]? = some d ∧ RelD K r H d v
  | _, _, _, _, .nil, e => by simp at e
  | _, _, 0, _, .cons a _, e => by simp at e; subst e; exact ⟨_, rfl, a⟩
  | _, _, i + 1, v, .cons _ b, e => by
    obtain ⟨d, h1, h2⟩ := RelDs.getV (i := i) (v := v) b (by simpa using e)
    exact ⟨d, by simpa using h1, h2⟩
theorem RelDs.append : ∀ {ds es : List D} {vs ws : List V}, RelDs K r H ds vs → RelDs K r H es ws → RelDs K r H (ds ++ es) (vs ++ ws)
  | _, _, _, _, .nil, s => s
  | _, _, _, _, .cons a b, s => .cons a (b.append s)
theorem RelDs.take : ∀ {ds : List D} {vs : List V} (n : Nat), RelDs K r H ds vs → RelDs K r H (ds.take n) (vs.take n)
  | _, _, 0, _ => .nil
  | _, _, _ + 1, .nil => .nil
  | _, _, n + 1, .cons a b => .cons a (b.take n)
theorem RelDs.drop : ∀ {ds : List D} {vs : List V} (n : Nat), RelDs K r H ds vs → RelDs K r H (ds.drop n) (vs.drop n)
  | _, _, 0, m => m
  | _, _, _ + 1, .nil => .nil
  | _, _, n + 1, .cons _ b => b.drop n
theorem RelDs.set {d : D} {v : V} (q : RelD K r H d v) : ∀ {ds : List D} {vs : List V} (n : Nat), RelDs K r H ds vs → RelDs K r H (ds.set n d) (vs.set n v)
  | _, _, _, .nil => .nil
  | _, _, 0, .cons _ b => .cons q b
  | _, _, n + 1, .cons a b => .cons a (RelDs.set q n b)
theorem RelDs.reverse {ds : List D} {vs : List V} (m : RelDs K r H ds vs) : RelDs K r H ds.reverse vs.reverse := by
  induction m using RelDs.rec (motive_1 := fun _ _ _ => True) with
  | nil => exact .nil
  | cons a b _ ih => rw [List.reverse_cons, List.reverse_cons]; exact ih.append (.cons a .nil)
  | _ => trivial
theorem RelDs.rep {ds : List D} {vs : List V} (m : RelDs K r H ds vs) : ∀ k : Nat, RelDs K r H (List.replicate k ds).flatten (List.replicate k vs).flatten
  | 0 => .nil
  | k + 1 => by rw [List.replicate_succ, List.replicate_succ, List.flatten_cons, List.flatten_cons]; exact m.append (m.rep k)
theorem RelDs.map {α : Type} (f : α → D) (g : α → V) (q : ∀ x, RelD K r H (f x) (g x)) : ∀ xs : List α, RelDs K r H (xs.map f) (xs.map g)
  | [] => .nil
  | x :: xs => .cons (q x) (RelDs.map f g q xs)

/-! ### changes -/
/-- a new tuple (or what else is no abstract object) -/
theorem Ext.new {p : Addr} {o : HO} (R : RelH K cl r h H) (e : H p = none) : Ext r H r (upd H p o) :=
  ⟨⟨[], by simp⟩, fun a u q n => ⟨by rw [upd_ne (ne_of_none q e)]; exact q, n⟩⟩
theorem RelH.new {p : Addr} {o : HO} (R : RelH K cl r h H) (e : H p = none) : RelH K cl r h (upd H p o) := by
  have E : Ext r H r (upd H p o) := Ext.new R e
  refine ⟨R.len, R.nd, fun n mo a h1 h2 => ?_⟩
  obtain ⟨u, q1, q2⟩ := R.ob n mo a h1 h2
  exact ⟨u, by rw [upd_ne (ne_of_none q1 e)]; exact q1, q2.mono (R.keep E)⟩
/-- a new abstract object -/
theorem Ext.push {p : Addr} {o : HO} (R : RelH K cl r h H) (e : H p = none) : Ext r H (r ++ [p]) (upd H p o) :=
  ⟨⟨[p], rfl⟩, fun a u q n => ⟨by rw [upd_ne (ne_of_none q e)]; exact q, by
    intro m
    rcases List.mem_append.mp m with m | m
    · exact n m
    · have : a = p := by simpa using m
      rw [this, e] at q
      cases q⟩⟩
theorem RelH.push {p : Addr} {mo : MO} {o : HO} (R : RelH K cl r h H) (e : H p = none) (m : RelM K cl (r ++ [p]) (upd H p o) p mo o) : RelH K cl (r ++ [p]) (h ++ [mo]) (upd H p o) := by
  have E : Ext r H (r ++ [p]) (upd H p o) := Ext.push R e
  refine ⟨by rw [List.length_append, List.length_append, R.len]; rfl, ?_, fun n mo' a h1 h2 => ?_⟩
  · rw [List.nodup_append]
    refine ⟨R.nd, by simp, fun a ha b hb => ?_⟩
    have : b = p := by simpa using hb
    rw [this]
    rintro rfl
    exact R.not_none e ha
  · by_cases hn : n < h.length
    · rw [List.getElem?_append_left hn] at h1
      rw [List.getElem?_append_left (by rw [R.len]; exact hn)] at h2
      obtain ⟨u, q1, q2⟩ := R.ob n mo' a h1 h2
      exact ⟨u, by rw [upd_ne (ne_of_none q1 e)]; exact q1, q2.mono (R.keep E)⟩
    · have hl : n < (h ++ [mo]).length := (List.getElem?_eq_some_iff.mp h1).1
      have en : n = h.length := by rw [List.length_append] at hl; simp at hl; omega
      subst en
      rw [List.getElem?_append_right (Nat.le_refl _)] at h1
      rw [← R.len, List.getElem?_append_right (Nat.le_refl _)] at h2
      simp at h1 h2
      subst h1 h2
      exact ⟨o, upd_same, m⟩
/-- the number of the new one -/
theorem push_get {p : Addr} (R : RelH K cl r h H) : (r ++ [p])[h.length]? = some p := by
  rw [← R.len, List.getElem?_append_right (Nat.le_refl _)]
  simp
/-- an abstract object is written -/
theorem Ext.write {p : Addr} {o : HO} (hp : p ∈ r) : Ext r H r (upd H p o) :=
  ⟨⟨[], by simp⟩, fun a u q n => ⟨by rw [upd_ne (fun e => n (by rw [e]; exact hp))]; exact q, n⟩⟩
theorem RelH.write {n : Nat} {p : Addr} {mo : MO} {o : HO} (R : RelH K cl r h H) (hp : r[n]? = some p) (m : RelM K cl r (upd H p o) p mo o) : RelH K cl r (h.set n mo) (upd H p o) := by
  have hm : p ∈ r := List.mem_of_getElem? hp
  have E : Ext r H r (upd H p o) := Ext.write hm
  refine ⟨by rw [List.length_set, R.len], R.nd, fun k mo' a h1 h2 => ?_⟩
  by_cases hk : n = k
  · subst hk
    have hl : n < h.length := by have := (List.getElem?_eq_some_iff.mp h1).1; rwa [List.length_set] at this
    rw [List.getElem?_set_self hl] at h1
    cases h1
    rw [hp] at h2
    cases h2
    exact ⟨o, upd_same, m⟩
  · rw [List.getElem?_set_ne hk] at h1
    obtain ⟨u, q1, q2⟩ := R.ob k mo' a h1 h2
    have ne : a ≠ p := by
      rintro rfl
      have l1 : n < r.length := (List.getElem?_eq_some_iff.mp hp).1
      obtain ⟨l2, e2⟩ := List.getElem?_eq_some_iff.mp h2
      obtain ⟨l1, e1⟩ := List.getElem?_eq_some_iff.mp hp
      exact hk ((List.getElem_inj R.nd).mp (e1.trans e2.symm))
    exact ⟨u, by rw [upd_ne ne]; exact q1, q2.mono (R.keep E)⟩
end

/-! ### the slots -/
abbrev En := List (Option D)
structure RelE (K : PySem.W.Frag) (r : List Addr) (H : Hp) (en : En) (σ : L2.St) : Prop where
  len : en.length = σ.length
  ob : ∀ (i : Nat) (d : D), en[i]? = some (some d) → ∃ v, σ[i]? = some (some v) ∧ RelD K r H d v
section
variable {K : PySem.W.Frag} {cl : Str → Addr} {r r' : List Addr} {H H' : Hp} {h h' : Hd} {en : En} {σ : L2.St}
theorem RelE.mono (e : RelE K r H en σ) (k : Keep K r H r' H') : RelE K r' H' en σ := ⟨e.len, fun i d q => let ⟨v, a, b⟩ := e.ob i d q; ⟨v, a, b.mono k⟩⟩
theorem RelE.set {d : D} {v : V} (e : RelE K r H en σ) (q : RelD K r H d v) (i : Nat) : RelE K r H (en.set i (some d)) (σ.set i (some v)) := by
  refine ⟨by rw [List.length_set, List.length_set, e.len], fun j d' hj => ?_⟩
  by_cases hij : i = j
  · subst hij
    have hl : i < en.length := by have := (List.getElem?_eq_some_iff.mp hj).1; rwa [List.length_set] at this
    rw [List.getElem?_set_self hl] at hj
    cases hj
    exact ⟨v, by rw [List.getElem?_set_self (by rw [← e.len]; exact hl)], q⟩
  · rw [List.getElem?_set_ne hij] at hj
    obtain ⟨w, a, b⟩ := e.ob j d' hj
    exact ⟨w, by rw [List.getElem?_set_ne hij]; exact a, b⟩
theorem RelE.unset (e : RelE K r H en σ) (i : Nat) : RelE K r H (en.set i none) (σ.set i none) := by
  refine ⟨by rw [List.length_set, List.length_set, e.len], fun j d' hj => ?_⟩
  by_cases hij : i = j
  · subst hij
    by_cases hl : i < en.length
    · rw [List.getElem?_set_self hl] at hj; cases hj
    · rw [List.getElem?_eq_none (by simpa using hl)] at hj; cases hj
  · rw [List.getElem?_set_ne hij] at hj
    obtain ⟨w, a, b⟩ := e.ob j d' hj
    exact ⟨w, by rw [List.getElem?_set_ne hij]; exact a, b⟩
end
end Z
/-! text Z1 -/
/-! Z1: readings made of functions of data; expressions, tests, arguments, statements, loops. -/
namespace L2
open PySem PySem.Spec PyProof.Rows
theorem PE.imp {X : Cx} {e : Expr} {t t' : TE} (p : PE X e t) (f : ∀ σ H Q, t' σ H Q → t σ H Q) : PE X e t' := ⟨fun pins s σ H Q I q => p.run pins s σ H Q I (f σ H Q q)⟩
theorem PT.imp {X : Cx} {e : Expr} {t t' : TT} (p : PT X e t) (f : ∀ σ H Q, t' σ H Q → t σ H Q) : PT X e t' := ⟨fun pins s σ H Q I q => p.run pins s σ H Q I (f σ H Q q)⟩
theorem PW.imp {X : Cx} {e : Expr} {t t' : TT} (p : PW X e t) (f : ∀ σ H Q, t' σ H Q → t σ H Q) : PW X e t' := ⟨fun wh pins s σ H Q I q => p.run wh pins s σ H Q I (f σ H Q q)⟩
theorem PA.imp {X : Cx} {es : List Expr} {t t' : TA} (p : PA X es t) (f : ∀ σ H Q, t' σ H Q → t σ H Q) : PA X es t' := ⟨fun pos pins s σ H Q I q => p.run pos pins s σ H Q I (f σ H Q q)⟩
theorem PS.imp {X : Cx} {e : Stmt} {t t' : TS} (p : PS X e t) (f : ∀ N σ H, t' N σ H → t N σ H) : PS X e t' := ⟨fun pins s σ H N I q => p.run pins s σ H N I (f N σ H q)⟩
theorem PSs.imp {X : Cx} {e : List Stmt} {t t' : TS} (p : PSs X e t) (f : ∀ N σ H, t' N σ H → t N σ H) : PSs X e t' := ⟨fun pins s σ H N I q => p.run pins s σ H N I (f N σ H q)⟩
theorem PE.or {X : Cx} {e : Expr} {t t' : TE} (p : PE X e t) (p' : PE X e t') : PE X e (fun σ H Q => t σ H Q ∨ t' σ H Q) := ⟨fun pins s σ H Q I q => q.elim (p.run pins s σ H Q I) (p'.run pins s σ H Q I)⟩

theorem PI.imp {X : Cx} {tg e : Expr} {t t' : TI} (p : PI X tg e t) (f : ∀ σ H R, t' σ H R → t σ H R) : PI X tg e t' := ⟨fun pins s σ H R I q => p.run pins s σ H R I (f σ H R q)⟩
theorem PI.or {X : Cx} {tg e : Expr} {t t' : TI} (p : PI X tg e t) (p' : PI X tg e t') : PI X tg e (fun σ H R => t σ H R ∨ t' σ H R) := ⟨fun pins s σ H R I q => q.elim (p.run pins s σ H R I) (p'.run pins s σ H R I)⟩
theorem PG.imp {X : Cx} {e : Expr} {t t' : TG} (p : PG X e t) (f : ∀ v σ H Q, t' v σ H Q → t v σ H Q) : PG X e t' := ⟨fun pins s σ H v u Q I r q => p.run pins s σ H v u Q I r (f v σ H Q q)⟩
theorem PGs.imp {X : Cx} {e : List Expr} {t t' : TGs} (p : PGs X e t) (f : ∀ v σ H Q, t' v σ H Q → t v σ H Q) : PGs X e t' := ⟨fun pins s σ H v u Q I r q => p.run pins s σ H v u Q I r (f v σ H Q q)⟩
end L2
namespace Z
open PySem PySem.Spec PyProof.Rows L2

/-! ### what an end says -/
section
variable (K : PySem.W.Frag) (cl : Str → Addr)
/-- an exception of the class c with the fields fs -/
def ExcP (E : XK) (c : Str) (fs : List (Str × D)) (r' : List Addr) (H' : Hp) : Prop :=
  (fs = [] → E (.ref (cl c)) none H') ∧ (fs ≠ [] → ∀ dx gs, H' dx = some (.xd gs) → RelFs K r' H' fs gs → E (.ref (cl c)) (some dx) H')
def Post {α : Type} (r : List Addr) (H : Hp) (E : XK) (P : List Addr → Hd → Hp → α → Prop) : Out α → Prop
  | .fail => False
  | .ok a h' => ∀ r' H', Ext r H r' H' → RelH K cl r' h' H' → P r' h' H' a
  | .exc c fs h' => ∀ r' H', Ext r H r' H' → RelH K cl r' h' H' → ExcP K cl E c fs r' H'
/-- how a statement ends -/
inductive SOut where
  | fail | nx (en : En) (h : Hd) | rt (d : D) (h : Hd) | bk (en : En) (h : Hd) | ct (en : En) (h : Hd) | exc (c : Str) (fs : List (Str × D)) (h : Hd)
def PostS (r : List Addr) (H : Hp) (E : XK) (N : Ends) : SOut → Prop
  | .fail => False
  | .nx en h' => ∀ r' H' σ, Ext r H r' H' → RelH K cl r' h' H' → RelE K r' H' en σ → N.nx σ H'
  | .bk en h' => ∀ r' H' σ, Ext r H r' H' → RelH K cl r' h' H' → RelE K r' H' en σ → N.bk σ H'
  | .ct en h' => ∀ r' H' σ, Ext r H r' H' → RelH K cl r' h' H' → RelE K r' H' en σ → N.ct σ H'
  | .rt d h' => ∀ r' H' v, Ext r H r' H' → RelH K cl r' h' H' → RelD K r' H' d v → N.rt v H'
  | .exc c fs h' => ∀ r' H', Ext r H r' H' → RelH K cl r' h' H' → ExcP K cl E c fs r' H'
abbrev PV (Q : VK) : List Addr → Hd → Hp → D → Prop := fun r' _ H' d => ∀ v, RelD K r' H' d v → Q v H'
abbrev PB (Q : Bool → Hp → Prop) : List Addr → Hd → Hp → Bool → Prop := fun _ _ H' b => Q b H'
abbrev PL (Q : List V → Hp → Prop) : List Addr → Hd → Hp → List D → Prop := fun r' _ H' ds => ∀ vs, RelDs K r' H' ds vs → Q vs H'
end
section
variable {K : PySem.W.Frag} {cl : Str → Addr} {r r' : List Addr} {H H' : Hp} {h h' : Hd} {en en' : En} {σ σ' : L2.St} {E : XK} {α β : Type}
theorem Post.step {P : List Addr → Hd → Hp → α → Prop} {x : Out α} (e : Ext r H r' H') (p : Post K cl r H E P x) : Post K cl r' H' E P x := by
  cases x with
  | fail => exact p
  | ok a h1 => exact fun r2 H2 e2 R => p r2 H2 (e.trans e2) R
  | exc c fs h1 => exact fun r2 H2 e2 R => p r2 H2 (e.trans e2) R
theorem Post.imp {P P' : List Addr → Hd → Hp → α → Prop} {x : Out α} (p : Post K cl r H E P x) (f : ∀ a r2 h2 H2, Ext r H r2 H2 → RelH K cl r2 h2 H2 → P r2 h2 H2 a → P' r2 h2 H2 a) : Post K cl r H E P' x := by
  cases x with
  | fail => exact p
  | ok a h1 => exact fun r2 H2 e2 R => f a r2 h1 H2 e2 R (p r2 H2 e2 R)
  | exc c fs h1 => exact p
theorem Post.bind {P : List Addr → Hd → Hp → β → Prop} {x : Out α} {f : α → Hd → Out β} (p : Post K cl r H E P (x.bind f)) : Post K cl r H E (fun r' h' H' a => Post K cl r' H' E P (f a h')) x := by
  cases x with
  | fail => exact p
  | ok a h1 => exact fun r2 H2 e2 R => Post.step e2 p
  | exc c fs h1 => exact p
theorem PostS.step {N : Ends} {x : SOut} (e : Ext r H r' H') (p : PostS K cl r H E N x) : PostS K cl r' H' E N x := by
  cases x with
  | fail => exact p
  | nx a h1 => exact fun r2 H2 σ2 e2 R => p r2 H2 σ2 (e.trans e2) R
  | bk a h1 => exact fun r2 H2 σ2 e2 R => p r2 H2 σ2 (e.trans e2) R
  | ct a h1 => exact fun r2 H2 σ2 e2 R => p r2 H2 σ2 (e.trans e2) R
  | rt d h1 => exact fun r2 H2 v e2 R => p r2 H2 v (e.trans e2) R
  | exc c fs h1 => exact fun r2 H2 e2 R => p r2 H2 (e.trans e2) R
/-- an expression within a statement -/
def Out.bindS {α : Type} (x : Out α) (f : α → Hd → SOut) : SOut := match x with
  | .fail => .fail
  | .ok a h => f a h
  | .exc c fs h => .exc c fs h
theorem PostS.bindS {N : Ends} {x : Out α} {f : α → Hd → SOut} (p : PostS K cl r H E N (x.bindS f)) : Post K cl r H E (fun r' h' H' a => PostS K cl r' H' E N (f a h')) x := by
  cases x with
  | fail => exact p
  | ok a h1 => exact fun r2 H2 e2 R => PostS.step e2 p
  | exc c fs h1 => exact p
end

/-! ### readings -/
abbrev XE := En → Hd → Out D
abbrev XT := En → Hd → Out Bool
abbrev XA := En → Hd → Out (List D)
abbrev XS := En → Hd → SOut
abbrev XG := D → En → Hd → SOut
section
variable (K : PySem.W.Frag) (cl : Str → Addr) (E : XK)
def TDm (m : XE) : TE := fun σ H Q => ∃ r h en, RelH K cl r h H ∧ RelE K r H en σ ∧ Post K cl r H E (PV K Q) (m en h)
def TTm (m : XT) : TT := fun σ H Q => ∃ r h en, RelH K cl r h H ∧ RelE K r H en σ ∧ Post K cl r H E (PB Q) (m en h)
def TAm (m : XA) : TA := fun σ H Q => ∃ r h en, RelH K cl r h H ∧ RelE K r H en σ ∧ Post K cl r H E (PL K Q) (m en h)
def TSm (m : XS) : TS := fun N σ H => ∃ r h en, RelH K cl r h H ∧ RelE K r H en σ ∧ PostS K cl r H E N (m en h)
/-- targets: the slots vs may change -/
def TGm (vs : List Nat) (m : XG) : TG := fun v σ H Q => ∃ r h en d, RelH K cl r h H ∧ RelE K r H en σ ∧ RelD K r H d v ∧ PostS K cl r H E { nx := fun σ' H' => wipe σ' vs = wipe σ vs → Q σ' H', rt := fun _ _ => False } (m d en h)
/-- the targets of a tuple -/
abbrev XGs := List D → En → Hd → SOut
def TGsm (ws : List Nat) (m : XGs) : TGs := fun vs σ H Q => ∃ r h en ds, RelH K cl r h H ∧ RelE K r H en σ ∧ RelDs K r H ds vs ∧ PostS K cl r H E { nx := fun σ' H' => wipe σ' ws = wipe σ ws → Q σ' H', rt := fun _ _ => False } (m ds en h)
end
/-! ### the judgements -/
abbrev PEm (X : Cx) (cl : Str → Addr) (E : XK) (e : Expr) (m : XE) : Prop := PE X e (TDm X.K cl E m)
abbrev PTm (X : Cx) (cl : Str → Addr) (E : XK) (e : Expr) (m : XT) : Prop := PT X e (TTm X.K cl E m)
abbrev PWm (X : Cx) (cl : Str → Addr) (E : XK) (e : Expr) (m : XT) : Prop := PW X e (TTm X.K cl E m)
abbrev PAm (X : Cx) (cl : Str → Addr) (E : XK) (es : List Expr) (m : XA) : Prop := PA X es (TAm X.K cl E m)
abbrev PSm (X : Cx) (cl : Str → Addr) (E : XK) (e : Stmt) (m : XS) : Prop := PS X e (TSm X.K cl E m)
abbrev PSsm (X : Cx) (cl : Str → Addr) (E : XK) (e : List Stmt) (m : XS) : Prop := PSs X e (TSm X.K cl E m)
abbrev PGm (X : Cx) (cl : Str → Addr) (E : XK) (ws : List Nat) (e : Expr) (m : XG) : Prop := PG X e (TGm X.K cl E ws m)
abbrev PGsm (X : Cx) (cl : Str → Addr) (E : XK) (ws : List Nat) (e : List Expr) (m : XGs) : Prop := PGs X e (TGsm X.K cl E ws m)

/-! ### expressions: names, constants, operators -/
def xVar (i : Nat) : XE := fun en h => match en[i]? with
  | some (some d) => .ok d h
  | _ => .fail
def xC (d : D) : XE := fun _ h => .ok d h
def xOp (f : D → D → Hd → Out D) (a b : XE) : XE := fun en h => (a en h).bind fun x h1 => (b en h1).bind fun y h2 => f x y h2
def xUn (f : D → Hd → Out D) (a : XE) : XE := fun en h => (a en h).bind fun x h1 => f x h1
def xBool (b : XT) : XE := fun en h => (b en h).bind fun x h1 => .ok (.bl x) h1
section
variable {X : Cx} {cl : Str → Addr} {E : XK} {e a b c : Expr} {pos : Pos} {ma mb mc : XE} {ta tb tc : XT}
/-- a two-place operation on data, by a two-place reading on values -/
def OpM (K : PySem.W.Frag) (cl : Str → Addr) (E : XK) (rd : R2) (f : D → D → Hd → Out D) : Prop :=
  ∀ r h H x y vx vy Q, RelH K cl r h H → RelD K r H x vx → RelD K r H y vy → Post K cl r H E (PV K Q) (f x y h) → rd vx vy H Q
def UnM (K : PySem.W.Frag) (cl : Str → Addr) (E : XK) (rd : V → Hp → VK → Prop) (f : D → Hd → Out D) : Prop :=
  ∀ r h H x vx Q, RelH K cl r h H → RelD K r H x vx → Post K cl r H E (PV K Q) (f x h) → rd vx H Q
def CallM (K : PySem.W.Frag) (cl : Str → Addr) (E : XK) (rd : List V → Hp → VK → Prop) (f : List D → Hd → Out D) : Prop :=
  ∀ r h H xs vs Q, RelH K cl r h H → RelDs K r H xs vs → Post K cl r H E (PV K Q) (f xs h) → rd vs H Q
def MtM2 (K : PySem.W.Frag) (cl : Str → Addr) (E : XK) (rd : V → List V → Hp → VK → Prop) (f : D → List D → Hd → Out D) : Prop :=
  ∀ r h H x xs vx vs Q, RelH K cl r h H → RelD K r H x vx → RelDs K r H xs vs → Post K cl r H E (PV K Q) (f x xs h) → rd vx vs H Q
theorem Post.end' {K : PySem.W.Frag} {r : List Addr} {h : Hd} {H : Hp} {d : D} {v : V} {Q : VK} (R : RelH K cl r h H) (p : Post K cl r H E (PV K Q) (.ok d h)) (q : RelD K r H d v) : Q v H := p r H (Ext.refl r H) R v q

theorem em_var {i : Nat} {x : Str} (hN : X.N[i]? = some x) (hv : Vis X.env.scope x) (hd : (x == ("__debug__" : Str)) = false) (hcd : (x == ("__classdict__" : Str)) = false) : PEm X cl E (.Name x pos) (xVar i) :=
  (pe_var hN hv hd hcd).imp fun σ H Q ⟨r, h, en, R, e, p⟩ => by
    unfold xVar at p
    cases q : en[i]? with
    | none => rw [q] at p; exact p.elim
    | some o =>
      cases o with
      | none => rw [q] at p; exact p.elim
      | some d =>
        rw [q] at p
        obtain ⟨v, h1, h2⟩ := e.ob i d q
        exact ⟨v, h1, Post.end' R p h2⟩
theorem em_c {d : D} {v : V} (p : PE X e (tC v)) (q : ∀ r H, RelD X.K r H d v) : PEm X cl E e (xC d) :=
  p.imp fun σ H Q ⟨r, h, en, R, e, z⟩ => Post.end' R z (q r H)
theorem em_op {op : Operator} {rd : R2} {f : D → D → Hd → Out D} (ho : OpR X (binaryOp op) rd) (hm : OpM X.K cl E rd f) (ha : PEm X cl E a ma) (hb : PEm X cl E b mb) : PEm X cl E (.BinOp a op b pos) (xOp f ma mb) :=
  (pe_op ho ha hb).imp fun σ H Q ⟨r, h, en, R, e, p⟩ =>
    ⟨r, h, en, R, e, (Post.bind p).imp fun x r1 h1 H1 e1 R1 p1 v1 q1 =>
      ⟨r1, h1, en, R1, e.mono (R.keep e1), (Post.bind p1).imp fun y r2 h2 H2 e2 R2 p2 v2 q2 => hm r2 h2 H2 x y v1 v2 Q R2 (q1.mono (R1.keep e2)) q2 p2⟩⟩
theorem em_cmp {op : CmpOp} {rd : R2} {f : D → D → Hd → Out D} (ho : OpR X (compareOp op) rd) (hm : OpM X.K cl E rd f) (ha : PEm X cl E a ma) (hb : PEm X cl E b mb) (hk : behindInMarks op b = false) : PEm X cl E (.Compare a [op] [b] pos) (xOp f ma mb) :=
  (pe_cmpR ho ha hb hk).imp fun σ H Q ⟨r, h, en, R, e, p⟩ =>
    ⟨r, h, en, R, e, (Post.bind p).imp fun x r1 h1 H1 e1 R1 p1 v1 q1 =>
      ⟨r1, h1, en, R1, e.mono (R.keep e1), (Post.bind p1).imp fun y r2 h2 H2 e2 R2 p2 v2 q2 => hm r2 h2 H2 x y v1 v2 Q R2 (q1.mono (R1.keep e2)) q2 p2⟩⟩
theorem em_un {op : UnaryOp} {rd : V → Hp → VK → Prop} {f : D → Hd → Out D} (ho : UnR X (unaryOp op) rd) (hm : UnM X.K cl E rd f) (ha : PEm X cl E a ma) : PEm X cl E (.UnaryOp op a pos) (xUn f ma) :=
  (pe_un ho ha).imp fun σ H Q ⟨r, h, en, R, e, p⟩ =>
    ⟨r, h, en, R, e, (Post.bind p).imp fun x r1 h1 H1 e1 R1 p1 v1 q1 => hm r1 h1 H1 x v1 Q R1 q1 p1⟩
theorem em_ix {rd : R2} {f : D → D → Hd → Out D} (ho : IxR X rd) (hm : OpM X.K cl E rd f) (ha : PEm X cl E a ma) (hb : PEm X cl E b mb) (hs : PlainIx b) : PEm X cl E (.Subscript a b pos) (xOp f ma mb) :=
  (pe_ix ho ha hb hs).imp fun σ H Q ⟨r, h, en, R, e, p⟩ =>
    ⟨r, h, en, R, e, (Post.bind p).imp fun x r1 h1 H1 e1 R1 p1 v1 q1 =>
      ⟨r1, h1, en, R1, e.mono (R.keep e1), (Post.bind p1).imp fun y r2 h2 H2 e2 R2 p2 v2 q2 => hm r2 h2 H2 x y v1 v2 Q R2 (q1.mono (R1.keep e2)) q2 p2⟩⟩
/-! ### tests -/
/-- a value that is a bool -/
def boolOf (x : D) (h : Hd) : Out Bool := match x with
  | .bl b => .ok b h
  | _ => .fail
def xTrue (m : XE) : XT := fun en h => (m en h).bind boolOf
def xAnd (a b : XT) : XT := fun en h => (a en h).bind fun x h1 => if x = true then b en h1 else .ok false h1
def xOr (a b : XT) : XT := fun en h => (a en h).bind fun x h1 => if x = true then .ok true h1 else b en h1
def xNot (a : XT) : XT := fun en h => (a en h).bind fun x h1 => .ok (!x) h1
theorem post_true {K : PySem.W.Frag} {r : List Addr} {h : Hd} {H : Hp} {x : D} {v : V} {Q : Bool → Hp → Prop} (R : RelH K cl r h H) (q : RelD K r H x v)
    (p : Post K cl r H E (PB Q) (boolOf x h)) : ∃ c, v = .bl c ∧ Q c H := by
  cases q with
  | bl => exact ⟨_, rfl, p r H (Ext.refl r H) R⟩
  | _ => exact p.elim
theorem tm_val (ha : PEm X cl E a ma) (he : ∀ whole, isTrue a X.env whole = (do let v ← whole; standAt a.pos; holding [v] (truthy v))) : PTm X cl E a (xTrue ma) :=
  (pt_val ha he).imp fun σ H Q ⟨r, h, en, R, e, p⟩ =>
    ⟨r, h, en, R, e, (Post.bind p).imp fun x r1 h1 H1 e1 R1 p1 v1 q1 => post_true R1 q1 p1⟩
theorem tm_cmp {op : CmpOp} {rd : R2} {f : D → D → Hd → Out D} (ho : OpR X (compareOp op) rd) (hm : OpM X.K cl E rd f) (ha : PEm X cl E a ma) (hb : PEm X cl E b mb) (hk : behindInMarks op b = false) : PTm X cl E (.Compare a [op] [b] pos) (xTrue (xOp f ma mb)) :=
  (pt_cmpR ho ha hb hk).imp fun σ H Q ⟨r, h, en, R, e, p⟩ =>
    ⟨r, h, en, R, e, (Post.bind (Post.bind p)).imp fun x r1 h1 H1 e1 R1 p1 v1 q1 =>
      ⟨r1, h1, en, R1, e.mono (R.keep e1), (Post.bind p1).imp fun y r2 h2 H2 e2 R2 p2 v2 q2 =>
        hm r2 h2 H2 x y v1 v2 _ R2 (q1.mono (R1.keep e2)) q2 (p2.imp fun z r3 h3 H3 e3 R3 p3 v3 q3 => post_true R3 q3 p3)⟩⟩
theorem wm_and1 (ha : PTm X cl E a ta) : PWm X cl E (.BoolOp .And [a] pos) ta := pw_and1 ha
theorem wm_or1 (ha : PTm X cl E a ta) : PWm X cl E (.BoolOp .Or [a] pos) ta := pw_or1 ha
theorem wm_and {rest : List Expr} (ha : PTm X cl E a ta) (hb : PWm X cl E (.BoolOp .And (b :: rest) pos) tb) : PWm X cl E (.BoolOp .And (a :: b :: rest) pos) (xAnd ta tb) :=
  (pw_and ha hb).imp fun σ H Q ⟨r, h, en, R, e, p⟩ =>
    ⟨r, h, en, R, e, (Post.bind p).imp fun x r1 h1 H1 e1 R1 p1 => by
      cases x with
      | true => exact iteT ⟨r1, h1, en, R1, e.mono (R.keep e1), p1⟩
      | false => exact iteF (p1 r1 H1 (Ext.refl _ _) R1)⟩
theorem wm_or {rest : List Expr} (ha : PTm X cl E a ta) (hb : PWm X cl E (.BoolOp .Or (b :: rest) pos) tb) : PWm X cl E (.BoolOp .Or (a :: b :: rest) pos) (xOr ta tb) :=
  (pw_or ha hb).imp fun σ H Q ⟨r, h, en, R, e, p⟩ =>
    ⟨r, h, en, R, e, (Post.bind p).imp fun x r1 h1 H1 e1 R1 p1 => by
      cases x with
      | true => exact iteT (p1 r1 H1 (Ext.refl _ _) R1)
      | false => exact iteF ⟨r1, h1, en, R1, e.mono (R.keep e1), p1⟩⟩
theorem tm_not (ha : PTm X cl E a ta) : PTm X cl E (.UnaryOp .Not a pos) (xNot ta) :=
  (pt_not ha).imp fun σ H Q ⟨r, h, en, R, e, p⟩ =>
    ⟨r, h, en, R, e, (Post.bind p).imp fun x r1 h1 H1 e1 R1 p1 => p1 r1 H1 (Ext.refl _ _) R1⟩
/-! ### and, or, not as values -/
def xAndV (a b : XE) : XE := fun en h => (a en h).bind fun x h1 => match x with
  | .bl true => b en h1
  | .bl false => .ok (.bl false) h1
  | _ => .fail
def xOrV (a b : XE) : XE := fun en h => (a en h).bind fun x h1 => match x with
  | .bl true => .ok (.bl true) h1
  | .bl false => b en h1
  | _ => .fail
def xNotV (a : XE) : XE := fun en h => (a en h).bind fun x h1 => match x with
  | .bl b => .ok (.bl (!b)) h1
  | _ => .fail
theorem em_and {rest : List Expr} (ha : PEm X cl E a ma) (hb : PEm X cl E (.BoolOp .And (b :: rest) pos) mb) : PEm X cl E (.BoolOp .And (a :: b :: rest) pos) (xAndV ma mb) :=
  (pe_and ha hb).imp fun σ H Q ⟨r, h, en, R, e, p⟩ =>
    ⟨r, h, en, R, e, (Post.bind p).imp fun x r1 h1 H1 e1 R1 p1 v1 q1 => by
      cases q1 with
      | @bl c =>
        cases c with
        | true => exact ⟨_, rfl, iteT ⟨r1, h1, en, R1, e.mono (R.keep e1), p1⟩⟩
        | false => exact ⟨_, rfl, iteF (Post.end' R1 p1 .bl)⟩
      | _ => exact p1.elim⟩
theorem em_or {rest : List Expr} (ha : PEm X cl E a ma) (hb : PEm X cl E (.BoolOp .Or (b :: rest) pos) mb) : PEm X cl E (.BoolOp .Or (a :: b :: rest) pos) (xOrV ma mb) :=
  (pe_or ha hb).imp fun σ H Q ⟨r, h, en, R, e, p⟩ =>
    ⟨r, h, en, R, e, (Post.bind p).imp fun x r1 h1 H1 e1 R1 p1 v1 q1 => by
      cases q1 with
      | @bl c =>
        cases c with
        | true => exact ⟨_, rfl, iteT (Post.end' R1 p1 .bl)⟩
        | false => exact ⟨_, rfl, iteF ⟨r1, h1, en, R1, e.mono (R.keep e1), p1⟩⟩
      | _ => exact p1.elim⟩
theorem em_one {op : BoolOp} (ha : PEm X cl E a ma) : PEm X cl E (.BoolOp op [a] pos) ma := pe_one ha
theorem em_not (ha : PEm X cl E a ma) : PEm X cl E (.UnaryOp .Not a pos) (xNotV ma) :=
  (pe_not ha).imp fun σ H Q ⟨r, h, en, R, e, p⟩ =>
    ⟨r, h, en, R, e, (Post.bind p).imp fun x r1 h1 H1 e1 R1 p1 v1 q1 => by
      cases q1 with
      | @bl c => exact ⟨_, rfl, Post.end' R1 p1 .bl⟩
      | _ => exact p1.elim⟩
def xIf (t : XT) (a b : XE) : XE := fun en h => (t en h).bind fun x h1 => if x = true then a en h1 else b en h1
theorem em_if (ht : PTm X cl E c tc) (ha : PEm X cl E a ma) (hb : PEm X cl E b mb) : PEm X cl E (.IfExp c a b pos) (xIf tc ma mb) :=
  (pe_ifExp ht ha hb).imp fun σ H Q ⟨r, h, en, R, e, p⟩ =>
    ⟨r, h, en, R, e, (Post.bind p).imp fun x r1 h1 H1 e1 R1 p1 => by
      cases x with
      | true => exact iteT ⟨r1, h1, en, R1, e.mono (R.keep e1), p1⟩
      | false => exact iteF ⟨r1, h1, en, R1, e.mono (R.keep e1), p1⟩⟩
/-! ### chains of two comparisons -/
def xChain (f g : D → D → Hd → Out D) (a b c : XE) : XE := fun en h => (a en h).bind fun x h1 => (b en h1).bind fun y h2 => (f x y h2).bind fun z h3 => match z with
  | .bl true => (c en h3).bind fun w h4 => g y w h4
  | .bl false => .ok (.bl false) h3
  | _ => .fail
theorem em_chain {op op' : CmpOp} {rd rd' : R2} {f g : D → D → Hd → Out D} (ho : OpR X (compareOp op) rd) (ho' : OpR X (compareOp op') rd') (hm : OpM X.K cl E rd f) (hm' : OpM X.K cl E rd' g) (ha : PEm X cl E a ma) (hb : PEm X cl E b mb) (hc : PEm X cl E c mc)
    (hk : lastMarks [op, op'] [b, c] = false) : PEm X cl E (.Compare a [op, op'] [b, c] pos) (xChain f g ma mb mc) :=
  (pe_chain ho ho' ha hb hc hk).imp fun σ H Q ⟨r, h, en, R, e, p⟩ =>
    ⟨r, h, en, R, e, (Post.bind p).imp fun x r1 h1 H1 e1 R1 p1 v1 q1 =>
      ⟨r1, h1, en, R1, e.mono (R.keep e1), (Post.bind p1).imp fun y r2 h2 H2 e2 R2 p2 v2 q2 =>
        hm r2 h2 H2 x y v1 v2 _ R2 (q1.mono (R1.keep e2)) q2 ((Post.bind p2).imp fun z r3 h3 H3 e3 R3 p3 v3 q3 => by
          cases q3 with
          | @bl c =>
            cases c with
            | true =>
              refine ⟨_, rfl, iteT ⟨r3, h3, en, R3, ((e.mono (R.keep e1)).mono (R1.keep e2)).mono (R2.keep e3), (Post.bind p3).imp fun w r4 h4 H4 e4 R4 p4 v4 q4 => ?_⟩⟩
              exact hm' r4 h4 H4 y w v2 v4 _ R4 ((q2.mono (R2.keep e3)).mono (R3.keep e4)) q4 p4
            | false => exact ⟨_, rfl, iteF (Post.end' R3 p3 .bl)⟩
          | _ => exact p3.elim)⟩⟩
theorem tm_chain {op op' : CmpOp} {rd rd' : R2} {f g : D → D → Hd → Out D} (ho : OpR X (compareOp op) rd) (ho' : OpR X (compareOp op') rd') (hm : OpM X.K cl E rd f) (hm' : OpM X.K cl E rd' g) (ha : PEm X cl E a ma) (hb : PEm X cl E b mb) (hc : PEm X cl E c mc)
    (hk : lastMarks [op, op'] [b, c] = false) : PTm X cl E (.Compare a [op, op'] [b, c] pos) (xTrue (xChain f g ma mb mc)) :=
  (pt_chain ho ho' ha hb hc hk).imp fun σ H Q ⟨r, h, en, R, e, p⟩ =>
    ⟨r, h, en, R, e, (Post.bind (Post.bind p)).imp fun x r1 h1 H1 e1 R1 p1 v1 q1 =>
      ⟨r1, h1, en, R1, e.mono (R.keep e1), (Post.bind p1).imp fun y r2 h2 H2 e2 R2 p2 v2 q2 =>
        hm r2 h2 H2 x y v1 v2 _ R2 (q1.mono (R1.keep e2)) q2 ((Post.bind p2).imp fun z r3 h3 H3 e3 R3 p3 v3 q3 => by
          cases q3 with
          | @bl c =>
            cases c with
            | true =>
              refine ⟨_, rfl, iteT ⟨r3, h3, en, R3, ((e.mono (R.keep e1)).mono (R1.keep e2)).mono (R2.keep e3), (Post.bind p3).imp fun w r4 h4 H4 e4 R4 p4 v4 q4 => ?_⟩⟩
              exact hm' r4 h4 H4 y w v2 v4 _ R4 ((q2.mono (R2.keep e3)).mono (R3.keep e4)) q4 (p4.imp fun z r5 h5 H5 e5 R5 p5 v5 q5 => post_true R5 q5 p5)
            | false => exact ⟨_, rfl, iteF (post_true R3 RelD.bl (p3 r3 H3 (Ext.refl _ _) R3))⟩
          | _ => exact p3.elim)⟩⟩
/-! ### arguments, displays -/
def xNil : XA := fun _ h => .ok [] h
def xCons (m : XE) (ms : XA) : XA := fun en h => (m en h).bind fun x h1 => (ms en h1).bind fun xs h2 => .ok (x :: xs) h2
theorem am_nil : PAm X cl E [] xNil := pa_nil.imp fun σ H Q ⟨r, h, en, R, e, p⟩ => p r H (Ext.refl _ _) R _ .nil
theorem am_cons {es : List Expr} {m : XE} {ms : XA} (ha : PEm X cl E e m) (hr : PAm X cl E es ms) (hs : starEach (e :: es) X.env = (false, eval e X.env) :: starEach es X.env) : PAm X cl E (e :: es) (xCons m ms) :=
  (pa_cons ha hr hs).imp fun σ H Q ⟨r, h, en, R, e, p⟩ =>
    ⟨r, h, en, R, e, (Post.bind p).imp fun x r1 h1 H1 e1 R1 p1 v1 q1 =>
      ⟨r1, h1, en, R1, e.mono (R.keep e1), (Post.bind p1).imp fun y r2 h2 H2 e2 R2 p2 vs q2 => p2 r2 H2 (Ext.refl _ _) R2 _ (.cons (q1.mono (R1.keep e2)) q2)⟩⟩
/-- a new tuple, a new list -/
def mkTup (ds : List D) (h : Hd) : Out D := if ds.length ≤ sizeLine then .ok (.tup ds) h else .fail
def mkLst (ds : List D) (h : Hd) : Out D := if ds.length ≤ sizeLine then .ok (.ref h.length) (h ++ [.lst ds]) else .fail
theorem post_tup {K : PySem.W.Frag} {r : List Addr} {h : Hd} {H : Hp} {ds : List D} {vs : List V} {Q : VK} (R : RelH K cl r h H) (q : RelDs K r H ds vs) (p : Post K cl r H E (PV K Q) (mkTup ds h)) :
    vs.length ≤ sizeLine ∧ ∀ a, H a = none → Q (.ref a) (upd H a (.tup vs)) := by
  unfold mkTup at p
  by_cases hl : ds.length ≤ sizeLine
  · rw [if_pos hl] at p
    refine ⟨by rw [← q.length]; exact hl, fun a ha => ?_⟩
    have E1 : Ext r H r (upd H a (.tup vs)) := Ext.new R ha
    exact p r _ E1 (R.new ha) _ (.tup (.inl (.inl upd_same)) (q.mono (R.keep E1)))
  · rw [if_neg hl] at p
    exact p.elim
theorem post_lst {K : PySem.W.Frag} {r : List Addr} {h : Hd} {H : Hp} {ds : List D} {vs : List V} {Q : VK} (R : RelH K cl r h H) (q : RelDs K r H ds vs) (p : Post K cl r H E (PV K Q) (mkLst ds h)) :
    vs.length ≤ sizeLine ∧ ∀ a, H a = none → Q (.ref a) (upd H a (.lst vs)) := by
  unfold mkLst at p
  by_cases hl : ds.length ≤ sizeLine
  · rw [if_pos hl] at p
    refine ⟨by rw [← q.length]; exact hl, fun a ha => ?_⟩
    have E1 : Ext r H (r ++ [a]) (upd H a (.lst vs)) := Ext.push R ha
    exact p _ _ E1 (R.push ha (.lst (q.mono (R.keep E1)))) _ (.ref (push_get R))
  · rw [if_neg hl] at p
    exact p.elim
def xTup (ms : XA) : XE := fun en h => (ms en h).bind mkTup
def xLst (ms : XA) : XE := fun en h => (ms en h).bind mkLst
theorem em_tup {es : List Expr} {x1 : Nat} {ms : XA} (ha : PAm X cl E es ms) : PEm X cl E (.Tuple es x1 pos) (xTup ms) :=
  (pe_tup ha).imp fun σ H Q ⟨r, h, en, R, e, p⟩ =>
    ⟨r, h, en, R, e, (Post.bind p).imp fun x r1 h1 H1 e1 R1 p1 vs q1 => post_tup R1 q1 p1⟩
theorem em_lst {es : List Expr} {ms : XA} (ha : PAm X cl E es ms) : PEm X cl E (.List es pos) (xLst ms) :=
  (pe_lst ha).imp fun σ H Q ⟨r, h, en, R, e, p⟩ =>
    ⟨r, h, en, R, e, (Post.bind p).imp fun x r1 h1 H1 e1 R1 p1 vs q1 => post_lst R1 q1 p1⟩
/-! ### calls of built-ins by name, methods of built-in types -/
def xCall (f : List D → Hd → Out D) (ms : XA) : XE := fun en h => (ms en h).bind f
theorem em_callB {x : Str} {id : String} {p0 : Pos} {es : List Expr} {ms : XA} {rd : List V → Hp → VK → Prop} {f : List D → Hd → Out D} (hc : CallR X (.builtin id) rd) (hf : CallM X.K cl E rd f) (hg : Gl X x) (hm : X.mg x = none) (hv : bootBuiltins x = some (.builtin id)) (ha : PAm X cl E (e :: es) ms)
    (hn : x ≠ "__name__") (hdb : (x == ("__debug__" : Str)) = false) (hs : starEach (e :: es) X.env = (false, eval e X.env) :: starEach es X.env) (hpl : (backTo pos (starEach es X.env)).any (·.1) = false) : PEm X cl E (.Call (.Name x p0) (e :: es) [] pos) (xCall f ms) :=
  (pe_callB hc hg hm hv ha hn hdb hs hpl).imp fun σ H Q ⟨r, h, en, R, e, p⟩ =>
    ⟨r, h, en, R, e, (Post.bind p).imp fun x r1 h1 H1 e1 R1 p1 vs q1 => hf r1 h1 H1 x vs Q R1 q1 p1⟩
theorem em_callTy {x : Str} {T : String} {p0 : Pos} {es : List Expr} {ms : XA} {rd : List V → Hp → VK → Prop} {f : List D → Hd → Out D} (hc : CallR X (.type T) rd) (hf : CallM X.K cl E rd f) (hg : Gl X x) (hm : X.mg x = none) (hv : bootBuiltins x = some (.type T)) (ha : PAm X cl E (e :: es) ms)
    (hn : x ≠ "__name__") (hdb : (x == ("__debug__" : Str)) = false) (hs : starEach (e :: es) X.env = (false, eval e X.env) :: starEach es X.env) (hpl : (backTo pos (starEach es X.env)).any (·.1) = false) : PEm X cl E (.Call (.Name x p0) (e :: es) [] pos) (xCall f ms) :=
  (pe_callTy hc hg hm hv ha hn hdb hs hpl).imp fun σ H Q ⟨r, h, en, R, e, p⟩ =>
    ⟨r, h, en, R, e, (Post.bind p).imp fun x r1 h1 H1 e1 R1 p1 vs q1 => hf r1 h1 H1 x vs Q R1 q1 p1⟩
end
end Z
/-! text Z2 -/
/-! Z2: targets, statements, loops, comprehensions. -/
namespace Z
open PySem PySem.Spec PyProof.Rows L2

/-! ### targets -/
def gNm (i : Nat) : XG := fun d en h => .nx (en.set i (some d)) h
def gsNil : XGs := fun ds en h => match ds with
  | [] => .nx en h
  | _ :: _ => .fail
def gsCons (g : XG) (gs : XGs) : XGs := fun ds en h => match ds with
  | [] => .fail
  | d :: r => match g d en h with
    | .nx en1 h1 => gs r en1 h1
    | o => o
def gTupN (n : Nat) (gs : XGs) : XG := fun d en h => match d with
  | .tup ds => if ds.length = n then gs ds en h else .fail
  | _ => .fail
section
variable {K : PySem.W.Frag} {cl : Str → Addr} {E : XK} {r : List Addr} {h : Hd} {H : Hp} {en : En}
/-- an end that only goes on -/
def OnlyNx : SOut → Prop
  | .nx _ _ => True
  | .fail => True
  | _ => False
/-- what a tuple of data is -/
theorem RelD.tup_inv {ds : List D} {v : V} (q : RelD K r H (.tup ds) v) : ∃ a vs, v = .ref a ∧ SqT K H a vs ∧ RelDs K r H ds vs := by
  cases q with
  | tup s m => exact ⟨_, _, rfl, s, m⟩
theorem RelD.ref_inv {n : Nat} {v : V} (q : RelD K r H (.ref n) v) : ∃ a, v = .ref a ∧ r[n]? = some a := by
  cases q with
  | ref e => exact ⟨_, rfl, e⟩
theorem RelD.fl_inv {ds : List D} {v : V} (q : RelD K r H (.fl ds) v) : ∃ a vs, v = .ref a ∧ Fz K H a vs ∧ RelDs K r H ds vs := by
  cases q with
  | fl s m => exact ⟨_, _, rfl, s, m⟩
theorem RelD.int_inv {i : Int} {v : V} (q : RelD K r H (.int i) v) : v = .int i := by cases q; rfl
theorem RelD.str_inv {i : Str} {v : V} (q : RelD K r H (.str i) v) : v = .str i := by cases q; rfl
theorem RelD.bl_inv {i : Bool} {v : V} (q : RelD K r H (.bl i) v) : v = .bl i := by cases q; rfl
theorem RelD.non_inv {v : V} (q : RelD K r H .non v) : v = .non := by cases q; rfl
theorem Fz.sq {a : Addr} {vs : List V} (f : Fz K H a vs) : SqL K H a vs := by
  rcases f with ⟨o, f⟩ | f
  · exact .inl (.inr ⟨o, f⟩)
  · exact .inr f
/-- a list that may change, as it stands -/
theorem RelH.lst {n : Nat} {a : Addr} {ds : List D} (R : RelH K cl r h H) (e : r[n]? = some a) (q : h[n]? = some (.lst ds)) : ∃ vs, H a = some (.lst vs) ∧ RelDs K r H ds vs := by
  obtain ⟨o, h1, h2⟩ := R.ob n _ a q e
  cases h2 with
  | lst m => exact ⟨_, h1, m⟩
end
theorem wipe_get {σ : L2.St} {j : Nat} : ∀ {vs : List Nat}, (wipe σ vs)[j]? = if j ∈ vs ∧ j < σ.length then some none else σ[j]?
  | [] => by rw [if_neg (by simp)]; rfl
  | v :: vs => by
    show ((wipe σ vs).set v none)[j]? = _
    by_cases hv : v = j
    · subst hv
      by_cases hl : v < σ.length
      · rw [List.getElem?_set_self (by rw [wipe_length]; exact hl), if_pos ⟨by simp, hl⟩]
      · rw [if_neg (fun z => hl z.2), List.getElem?_eq_none (by rw [List.length_set, wipe_length]; omega), List.getElem?_eq_none (by omega)]
    · rw [List.getElem?_set_ne hv, wipe_get]
      by_cases hj : j ∈ vs ∧ j < σ.length
      · rw [if_pos hj, if_pos ⟨List.mem_cons_of_mem _ hj.1, hj.2⟩]
      · rw [if_neg hj, if_neg fun z => hj ⟨(List.mem_cons.mp z.1).resolve_left fun e => hv e.symm, z.2⟩]
theorem wipe_set {σ : L2.St} {i : Nat} {x : Option V} {vs : List Nat} (h : i ∈ vs) : wipe (σ.set i x) vs = wipe σ vs := by
  apply List.ext_getElem?
  intro j
  rw [wipe_get, wipe_get, List.length_set]
  by_cases hj : j ∈ vs ∧ j < σ.length
  · rw [if_pos hj, if_pos hj]
  · rw [if_neg hj, if_neg hj]
    by_cases hij : i = j
    · subst hij
      have : ¬ i < σ.length := fun z => hj ⟨h, z⟩
      rw [List.getElem?_eq_none (by rw [List.length_set]; omega), List.getElem?_eq_none (by omega)]
    · rw [List.getElem?_set_ne hij]
theorem wipe_idem {σ : L2.St} {vs : List Nat} : wipe (wipe σ vs) vs = wipe σ vs := by
  apply List.ext_getElem?
  intro j
  rw [wipe_get, wipe_get, wipe_length]
  by_cases hj : j ∈ vs ∧ j < σ.length
  · rw [if_pos hj, if_pos hj]
  · rw [if_neg hj]
theorem PostS.impN {K : PySem.W.Frag} {cl : Str → Addr} {E : XK} {r : List Addr} {H : Hp} {Q Q' : L2.St → Hp → Prop} {x : SOut} (p : PostS K cl r H E { nx := Q, rt := fun _ _ => False } x) (f : ∀ σ' H', Q σ' H' → Q' σ' H') :
    PostS K cl r H E { nx := Q', rt := fun _ _ => False } x := by
  cases x with
  | nx en1 h1 => exact fun r2 H2 σ2 e2 R2 q2 => f _ _ (p r2 H2 σ2 e2 R2 q2)
  | fail => exact p
  | bk en1 h1 => exact p
  | ct en1 h1 => exact p
  | rt d h1 => exact p
  | exc c fs h1 => exact p
/-- targets only go on -/
def GoodG (g : XG) : Prop := ∀ d en h, OnlyNx (g d en h)
def GoodGs (g : XGs) : Prop := ∀ d en h, OnlyNx (g d en h)
theorem good_nm (i : Nat) : GoodG (gNm i) := fun _ _ _ => trivial
theorem good_nil : GoodGs gsNil := fun ds _ _ => by cases ds <;> trivial
theorem good_cons {g : XG} {gs : XGs} (h1 : GoodG g) (h2 : GoodGs gs) : GoodGs (gsCons g gs) := fun ds en h => by
  cases ds with
  | nil => trivial
  | cons d r =>
    show OnlyNx (match g d en h with | .nx en1 h1 => gs r en1 h1 | o => o)
    have z := h1 d en h
    cases hx : g d en h with
    | nx en1 h1 => exact h2 r en1 h1
    | fail => trivial
    | _ => rw [hx] at z; exact z.elim
theorem good_tup {gs : XGs} {n : Nat} (h2 : GoodGs gs) : GoodG (gTupN n gs) := fun d en h => by
  cases d with
  | tup ds =>
    show OnlyNx (if ds.length = n then gs ds en h else .fail)
    split
    · exact h2 _ _ _
    · trivial
  | _ => trivial
section
variable {X : Cx} {cl : Str → Addr} {E : XK} {e a b c : Expr} {pos : Pos} {m : XE} {t : XT} {g : XG} {gs : XGs} {ms mr : XS} {st : Stmt} {sts : List Stmt} {ws : List Nat}
theorem gm_name {i : Nat} {x : Str} (hN : X.N.Nodup) (hi : X.N[i]? = some x) (hx : Loc X.env.scope x) (hf : X.fn x = true ∨ X.env.scope.names.lookup x = some .local) (hw : i ∈ ws) : PGm X cl E ws (.Name x pos) (gNm i) :=
  (pg_name hN hi hx hf).imp fun v σ H Q ⟨r, h, en, d, R, e, q, p⟩ => p r H _ (Ext.refl _ _) R (e.set q i) (wipe_set hw)
theorem gsm_nil : PGsm X cl E ws [] gsNil :=
  pgs_nil.imp fun vs σ H Q ⟨r, h, en, ds, R, e, q, p⟩ => by
    cases q with
    | nil => exact ⟨rfl, p r H _ (Ext.refl _ _) R e rfl⟩
    | cons _ _ => exact p.elim
theorem gsm_cons {es : List Expr} (h1 : PGm X cl E ws e g) (gg : GoodG g) (h2 : PGsm X cl E ws es gs) (hs : (assignEach (e :: es) X.env).map (·.2) = assign e X.env :: (assignEach es X.env).map (·.2)) : PGsm X cl E ws (e :: es) (gsCons g gs) :=
  (pgs_cons h1 h2 hs).imp fun vs σ H Q ⟨r, h, en, ds, R, e, q, p⟩ => by
    cases q with
    | nil => exact p.elim
    | @cons d v ds vs q1 q2 =>
      refine ⟨v, vs, rfl, r, h, en, d, R, e, q1, ?_⟩
      have p4 : PostS X.K cl r H E { nx := fun σ' H' => wipe σ' ws = wipe σ ws → Q σ' H', rt := fun _ _ => False } (match g d en h with | .nx en1 h1 => gs ds en1 h1 | o => o) := p
      have good := gg d en h
      cases hx : g d en h with
      | nx en1 h1 =>
        rw [hx] at p4
        intro r' H' σ' e' R' q' w'
        refine ⟨r', h1, en1, ds, R', q', q2.mono (R.keep e'), ?_⟩
        exact (PostS.step e' p4).impN fun σ2 H2 z w2 => z (w2.trans w')
      | fail => rw [hx] at p4; exact p4
      | _ => rw [hx] at good; exact good.elim
theorem gm_tup {es : List Expr} {k n : Nat} (hp : PG X (.Tuple es k pos) (gTup X.K n (TGsm X.K cl E ws gs))) : PGm X cl E ws (.Tuple es k pos) (gTupN n gs) :=
  hp.imp fun v σ H Q ⟨r, h, en, d, R, e, q, p⟩ => by
    cases d with
    | tup ds =>
      obtain ⟨a, vs, rfl, s, m⟩ := q.tup_inv
      unfold gTupN at p
      by_cases hl : ds.length = n
      · simp only [if_pos hl] at p
        exact ⟨a, vs, rfl, s, by rw [← m.length]; exact hl, r, h, en, ds, R, e, m, p⟩
      · simp only [if_neg hl] at p
        exact p.elim
    | _ => exact p.elim

/-! ### statements -/
def sNext : XS := fun en h => .nx en h
def sSeq (a b : XS) : XS := fun en h => match a en h with
  | .nx en1 h1 => b en1 h1
  | o => o
def sDrop (m : XE) : XS := fun en h => (m en h).bindS fun _ h1 => .nx en h1
def sRet (m : XE) : XS := fun en h => (m en h).bindS fun d h1 => .rt d h1
def sRetN : XS := fun _ h => .rt .non h
def sIf (t : XT) (a b : XS) : XS := fun en h => (t en h).bindS fun c h1 => if c = true then a en h1 else b en h1
def sAsg (m : XE) (g : XG) : XS := fun en h => (m en h).bindS fun d h1 => g d en h1
def sBreak : XS := fun en h => .bk en h
def sCont : XS := fun en h => .ct en h
theorem sm_next (p : PSs X sts tNext) : PSsm X cl E sts sNext := p.imp fun N σ H ⟨r, h, en, R, e, p⟩ => p r H σ (Ext.refl _ _) R e
theorem sm_pass : PSm X cl E (.Pass pos) sNext := ps_pass.imp fun N σ H ⟨r, h, en, R, e, p⟩ => p r H σ (Ext.refl _ _) R e
theorem sm_break : PSm X cl E (.Break pos) sBreak := ps_break.imp fun N σ H ⟨r, h, en, R, e, p⟩ => p r H σ (Ext.refl _ _) R e
theorem sm_cont : PSm X cl E (.Continue pos) sCont := ps_continue.imp fun N σ H ⟨r, h, en, R, e, p⟩ => p r H σ (Ext.refl _ _) R e
theorem ssm_nil : PSsm X cl E [] sNext := pss_nil.imp fun N σ H ⟨r, h, en, R, e, p⟩ => p r H σ (Ext.refl _ _) R e
theorem postS_seq {K : PySem.W.Frag} {r : List Addr} {H : Hp} {N : Ends} {x : SOut} {f : En → Hd → SOut} (p : PostS K cl r H E N (match x with | .nx en1 h1 => f en1 h1 | o => o)) :
    PostS K cl r H E { N with nx := fun σ' H' => ∃ r' h' en', RelH K cl r' h' H' ∧ RelE K r' H' en' σ' ∧ PostS K cl r' H' E N (f en' h') } x := by
  cases x with
  | nx en1 h1 => exact fun r' H' σ' e' R' q' => ⟨r', h1, en1, R', q', PostS.step e' p⟩
  | fail => exact p
  | bk en1 h1 => exact p
  | ct en1 h1 => exact p
  | rt d h1 => exact p
  | exc c fs h1 => exact p
theorem ssm_cons (h1 : PSm X cl E st ms) (h2 : PSsm X cl E sts mr) : PSsm X cl E (st :: sts) (sSeq ms mr) :=
  (pss_cons h1 h2).imp fun N σ H ⟨r, h, en, R, e, p⟩ => ⟨r, h, en, R, e, postS_seq p⟩
theorem ssm_one (h1 : PSm X cl E st ms) : PSsm X cl E [st] ms := pss_one h1
theorem sm_expr (he : PEm X cl E e m) (hs : swapsWith e none pos.line X.env = pure false) : PSm X cl E (.Expr e pos) (sDrop m) :=
  (ps_expr he hs).imp fun N σ H ⟨r, h, en, R, e, p⟩ => ⟨r, h, en, R, e, (PostS.bindS p).imp fun x r1 h1 H1 e1 R1 p1 v q => p1 r1 H1 σ (Ext.refl _ _) R1 (e.mono (R.keep e1))⟩
theorem sm_ret (he : PEm X cl E e m) : PSm X cl E (.Return (some e) pos) (sRet m) :=
  (ps_ret he).imp fun N σ H ⟨r, h, en, R, e, p⟩ => ⟨r, h, en, R, e, (PostS.bindS p).imp fun x r1 h1 H1 e1 R1 p1 v q => p1 r1 H1 v (Ext.refl _ _) R1 q⟩
theorem sm_retN : PSm X cl E (.Return none pos) sRetN :=
  ps_retN.imp fun N σ H ⟨r, h, en, R, e, p⟩ => p r H .non (Ext.refl _ _) R .non
theorem sm_if {sa sb : List Stmt} {xa xb : XS} (ht : PTm X cl E c t) (ha : PSsm X cl E sa xa) (hb : PSsm X cl E sb xb) : PSm X cl E (.If c sa sb pos) (sIf t xa xb) :=
  (ps_if ht ha hb).imp fun N σ H ⟨r, h, en, R, e, p⟩ => ⟨r, h, en, R, e, (PostS.bindS p).imp fun x r1 h1 H1 e1 R1 p1 => by
    cases x with
    | true => exact iteT ⟨r1, h1, en, R1, e.mono (R.keep e1), p1⟩
    | false => exact iteF ⟨r1, h1, en, R1, e.mono (R.keep e1), p1⟩⟩
theorem PostS.onlyNx {K : PySem.W.Frag} {r : List Addr} {H : Hp} {N : Ends} {x : SOut} (p : PostS K cl r H E N x) (o : OnlyNx x) : PostS K cl r H E { nx := N.nx, rt := fun _ _ => False } x := by
  cases x with
  | nx en1 h1 => exact p
  | fail => exact p
  | _ => exact o.elim
theorem sm_asg {tg : Expr} (he : PEm X cl E e m) (hg : PGm X cl E ws tg g) (gg : GoodG g) (hs : swapsWithSole [tg] e pos.line X.env = pure false) (hw : swappedStores [tg] e X.env = pure none) (h1 : (assignEach [tg] X.env).map (·.2) = [assign tg X.env]) : PSm X cl E (.Assign [tg] e pos) (sAsg m g) :=
  (ps_asg he hg hs hw h1).imp fun N σ H ⟨r, h, en, R, e, p⟩ => ⟨r, h, en, R, e, (PostS.bindS p).imp fun x r1 h1 H1 e1 R1 p1 v q => ⟨r1, h1, en, x, R1, e.mono (R.keep e1), q, (p1.onlyNx (gg _ _ _)).impN fun _ _ z _ => z⟩⟩
/-! ### loops -/
def whileL (t : XT) (b : XS) : Nat → XS
  | 0 => fun _ _ => .fail
  | n + 1 => fun en h => (t en h).bindS fun c h1 => if c = true then (match b en h1 with
    | .nx en2 h2 => whileL t b n en2 h2
    | .ct en2 h2 => whileL t b n en2 h2
    | .bk en2 h2 => .nx en2 h2
    | o => o) else .nx en h1
theorem sm_while {body : List Stmt} {xb : XS} (W : Nat) (hp : PassesOwn (model X.prog X.w) X.A X.env X.xe) (ht : PTm X cl E c t) (hb : PSsm X cl E body xb) : PSm X cl E (.While c body [] pos) (whileL t xb W) :=
  (ps_while hp ht hb).imp fun N σ H ⟨r, h, en, R, e, p⟩ => by
    refine ⟨fun n σ H => ∃ r h en, RelH X.K cl r h H ∧ RelE X.K r H en σ ∧ PostS X.K cl r H E N (whileL t xb n en h), ⟨W, r, h, en, R, e, p⟩, ?_⟩
    rintro n σ H ⟨r, h, en, R, e, p⟩
    cases n with
    | zero => exact p.elim
    | succ n =>
      refine ⟨r, h, en, R, e, (PostS.bindS p).imp fun x r1 h1 H1 e1 R1 p1 => ?_⟩
      cases x with
      | false => exact iteF (p1 r1 H1 σ (Ext.refl _ _) R1 (e.mono (R.keep e1)))
      | true =>
        refine iteT ⟨fun σ' H' => ∃ r h en, RelH X.K cl r h H' ∧ RelE X.K r H' en σ' ∧ PostS X.K cl r H' E N (whileL t xb n en h), fun σ' H' z => ⟨n, Nat.lt_succ_self n, z⟩, r1, h1, en, R1, e.mono (R.keep e1), ?_⟩
        have p2 : PostS X.K cl r1 H1 E N (match xb en h1 with
          | .nx en2 h2 => whileL t xb n en2 h2
          | .ct en2 h2 => whileL t xb n en2 h2
          | .bk en2 h2 => .nx en2 h2
          | o => o) := p1
        cases hx : xb en h1 with
        | nx en2 h2 => rw [hx] at p2; exact fun r' H' σ' e' R' q' => ⟨r', h2, en2, R', q', PostS.step e' p2⟩
        | ct en2 h2 => rw [hx] at p2; exact fun r' H' σ' e' R' q' => ⟨r', h2, en2, R', q', PostS.step e' p2⟩
        | bk en2 h2 => rw [hx] at p2; exact p2
        | fail => rw [hx] at p2; exact p2
        | rt d h2 => rw [hx] at p2; exact p2
        | exc c fs h2 => rw [hx] at p2; exact p2
/-- what a for walks: its items, and what must stand as it is meanwhile -/
structure Its where
  ds : List D
  gd : List (Nat × MO)
def gdOk (gd : List (Nat × MO)) (h : Hd) : Prop := ∀ p ∈ gd, h[p.1]? = some p.2
instance (gd : List (Nat × MO)) (h : Hd) : Decidable (gdOk gd h) := inferInstanceAs (Decidable (∀ p ∈ gd, h[p.1]? = some p.2))
abbrev XI := En → Hd → Out Its
/-- the items of a walk -/
def ItM (K : PySem.W.Frag) (cl : Str → Addr) (J : It) (r0 : List Addr) (H0 : Hp) (it : Its) : Prop :=
  ∀ r h H, Keep K r0 H0 r H → RelH K cl r h H → gdOk it.gd h → ∀ i, (i = it.ds.length → J.stop i H) ∧ (∀ d, it.ds[i]? = some d → J.go i H ∧ ∀ x H', J.yld i H x H' → Ext r H r H' ∧ RelH K cl r h H' ∧ RelD K r H' d x)
def TIm (K : PySem.W.Frag) (cl : Str → Addr) (E : XK) (m : XI) : TI := fun σ H R => ∃ r h en, RelH K cl r h H ∧ RelE K r H en σ ∧ Post K cl r H E (fun r' _ H' it => ∀ J, ItM K cl J r' H' it → R J H') (m en h)
abbrev PIm (X : Cx) (cl : Str → Addr) (E : XK) (tg iter : Expr) (m : XI) : Prop := PI X tg iter (TIm X.K cl E m)
def itsOf (d : D) (h : Hd) : Out Its := match d with
  | .tup ds => .ok ⟨ds, []⟩ h
  | .fl ds => .ok ⟨ds, []⟩ h
  | .ref n => match h[n]? with
    | some (.lst ds) => .ok ⟨ds, [(n, .lst ds)]⟩ h
    | _ => .fail
  | _ => .fail
def xIter (m : XE) : XI := fun en h => (m en h).bind itsOf
theorem itM_tup {K : PySem.W.Frag} {r : List Addr} {h : Hd} {H : Hp} {ds : List D} {a : Addr} {vs : List V} {gd : List (Nat × MO)} (R : RelH K cl r h H) (s : SqT K H a vs) (m : RelDs K r H ds vs) : ItM K cl (Itt K a) r H ⟨ds, gd⟩ := fun r2 h2 H2 e2 R2 _ i => by
  have k := e2
  have s2 := k.t _ _ s
  have m2 := m.mono k
  refine ⟨fun e => ⟨vs, s2, by rw [e, ← m.length]; exact Nat.le_refl _⟩, fun d hd => ?_⟩
  obtain ⟨v, h1, h2'⟩ := m2.get hd
  refine ⟨⟨vs, v, s2, h1⟩, fun x H' ⟨e', q⟩ => ?_⟩
  subst e'
  have : v = x := Option.some.inj (h1.symm.trans (q vs s2))
  subst this
  exact ⟨Ext.refl _ _, R2, h2'⟩
theorem itM_fl {K : PySem.W.Frag} {r : List Addr} {h : Hd} {H : Hp} {ds : List D} {a : Addr} {vs : List V} {gd : List (Nat × MO)} (R : RelH K cl r h H) (s : Fz K H a vs) (m : RelDs K r H ds vs) : ItM K cl (Itl K a) r H ⟨ds, gd⟩ := fun r2 h2 H2 e2 R2 _ i => by
  have k := e2
  have s2 := (k.f _ _ s).sq
  have m2 := m.mono k
  refine ⟨fun e => ⟨vs, s2, by rw [e, ← m.length]; exact Nat.le_refl _⟩, fun d hd => ?_⟩
  obtain ⟨v, h1, h2'⟩ := m2.get hd
  refine ⟨⟨vs, v, s2, h1⟩, fun x H' ⟨e', q⟩ => ?_⟩
  subst e'
  have : v = x := Option.some.inj (h1.symm.trans (q vs s2))
  subst this
  exact ⟨Ext.refl _ _, R2, h2'⟩
theorem itM_lst {K : PySem.W.Frag} {r : List Addr} {h : Hd} {H : Hp} {ds : List D} {a : Addr} {n : Nat} (R : RelH K cl r h H) (q : r[n]? = some a) : ItM K cl (Itl K a) r H ⟨ds, [(n, .lst ds)]⟩ := fun r2 h2 H2 e2 R2 gd i => by
  have q2 := e2.g _ _ q
  obtain ⟨vs, hv, m2⟩ := R2.lst q2 (gd (n, .lst ds) (by simp))
  have s2 : SqL K H2 a vs := SqL.of hv
  refine ⟨fun e => ⟨vs, s2, by rw [e, ← m2.length]; exact Nat.le_refl _⟩, fun d hd => ?_⟩
  obtain ⟨v, h1, h2'⟩ := m2.get hd
  refine ⟨⟨vs, v, s2, h1⟩, fun x H' ⟨e', q⟩ => ?_⟩
  subst e'
  have : v = x := Option.some.inj (h1.symm.trans (q vs s2))
  subst this
  exact ⟨Ext.refl _ _, R2, h2'⟩
theorem im_iter {tg : Expr} (he : PEm X cl E e m) : PIm X cl E tg e (xIter m) :=
  ((pi_list he).or (pi_tup he)).imp fun σ H R' ⟨r, h, en, R, q, p⟩ => by
    have p1 := Post.bind p
    cases hm : m en h with
    | fail => rw [hm] at p1; exact p1.elim
    | exc c fs h1 =>
      rw [hm] at p1
      exact .inl ⟨r, h, en, R, q, by rw [hm]; exact p1⟩
    | ok d h1 =>
      rw [hm] at p1
      cases d with
      | tup ds =>
        refine .inr ⟨r, h, en, R, q, ?_⟩
        rw [hm]
        intro r1 H1 e1 R1 v q1
        obtain ⟨a, vs, rfl, s, mm⟩ := q1.tup_inv
        exact ⟨a, rfl, ⟨vs, s⟩, p1 r1 H1 e1 R1 r1 H1 (Ext.refl _ _) R1 _ (itM_tup R1 s mm)⟩
      | fl ds =>
        refine .inl ⟨r, h, en, R, q, ?_⟩
        rw [hm]
        intro r1 H1 e1 R1 v q1
        obtain ⟨a, vs, rfl, s, mm⟩ := q1.fl_inv
        exact ⟨a, rfl, ⟨vs, s.sq⟩, p1 r1 H1 e1 R1 r1 H1 (Ext.refl _ _) R1 _ (itM_fl R1 s mm)⟩
      | ref n =>
        refine .inl ⟨r, h, en, R, q, ?_⟩
        rw [hm]
        intro r1 H1 e1 R1 v q1
        obtain ⟨a, rfl, qa⟩ := q1.ref_inv
        have p2 := p1 r1 H1 e1 R1
        simp only [itsOf] at p2
        cases hn : h1[n]? with
        | none => rw [hn] at p2; exact p2.elim
        | some mo =>
          rw [hn] at p2
          cases mo with
          | lst ds =>
            obtain ⟨vs, hv, mm⟩ := R1.lst qa hn
            exact ⟨a, rfl, ⟨vs, SqL.of hv⟩, p2 r1 H1 (Ext.refl _ _) R1 _ (itM_lst R1 qa)⟩
          | _ => exact p2.elim
      | _ => exact .inl ⟨r, h, en, R, q, by rw [hm]; exact fun r1 H1 e1 R1 => (p1 r1 H1 e1 R1).elim⟩
/-- over a range -/
def intsFrom (lo : Int) (n : Nat) : List D := (List.range n).map fun (i : Nat) => D.int (lo + (i : Int))
def rangeOf1 (ds : List D) (h : Hd) : Out Its := match ds with
  | [.int j] => if -(2 ^ 62) ≤ j ∧ j < 2 ^ 62 then .ok ⟨intsFrom 0 j.toNat, []⟩ h else .fail
  | _ => .fail
def rangeOf2 (ds : List D) (h : Hd) : Out Its := match ds with
  | [.int i, .int j] => if -(2 ^ 62) ≤ i ∧ i < 2 ^ 62 ∧ -(2 ^ 62) ≤ j ∧ j < 2 ^ 62 then .ok ⟨intsFrom i (j - i).toNat, []⟩ h else .fail
  | _ => .fail
def xIts (f : List D → Hd → Out Its) (ms : XA) : XI := fun en h => (ms en h).bind f
theorem itM_range {K : PySem.W.Frag} {r : List Addr} {H : Hp} {lo : Int} {n : Nat} : ItM K cl (Itr lo n) r H ⟨intsFrom lo n, []⟩ := fun r2 h2 H2 e2 R2 gd i => by
  refine ⟨fun e => ?_, fun d hd => ?_⟩
  · show n ≤ i
    rw [e]; unfold intsFrom; simp
  · have hd' : ((List.range n).map fun (i : Nat) => D.int (lo + (i : Int)))[i]? = some d := hd
    rw [List.getElem?_map] at hd'
    by_cases hi : i < n
    · rw [List.getElem?_range hi] at hd'
      cases hd'
      refine ⟨hi, fun x H' ⟨e', q⟩ => ?_⟩
      subst e' q
      exact ⟨Ext.refl _ _, R2, .int⟩
    · rw [List.getElem?_eq_none (by simpa using hi)] at hd'
      cases hd'
theorem im_range1 {tg : Expr} {p0 : Pos} {ms : XA} (hg : Gl X "range") (hm : X.mg "range" = none) (ha : PAm X cl E [a] ms) (hs : starEach [a] X.env = [(false, eval a X.env)]) : PIm X cl E tg (.Call (.Name "range" p0) [a] [] pos) (xIts rangeOf1 ms) :=
  (pi_range1 hg hm ha hs).imp fun σ H R' ⟨r, h, en, R, q, p⟩ => ⟨r, h, en, R, q, (Post.bind p).imp fun ds r1 h1 H1 e1 R1 p1 vs q1 => by
    cases q1 with
    | nil => exact p1.elim
    | cons a1 b1 =>
      cases b1 with
      | nil =>
        cases a1 with
        | @int j =>
          simp only [rangeOf1] at p1
          by_cases hj : -(2 ^ 62) ≤ j ∧ j < 2 ^ 62
          · rw [if_pos hj] at p1
            exact ⟨j, rfl, hj.1, hj.2, p1 r1 H1 (Ext.refl _ _) R1 _ itM_range⟩
          · rw [if_neg hj] at p1; exact p1.elim
        | _ => exact p1.elim
      | cons a2 b2 => cases a1 <;> exact p1.elim⟩
theorem im_range2 {tg : Expr} {p0 : Pos} {ms : XA} (hg : Gl X "range") (hm : X.mg "range" = none) (ha : PAm X cl E [a, b] ms) (hs : starEach [a, b] X.env = [(false, eval a X.env), (false, eval b X.env)]) (hs2 : starEach [b] X.env = [(false, eval b X.env)]) :
    PIm X cl E tg (.Call (.Name "range" p0) [a, b] [] pos) (xIts rangeOf2 ms) :=
  (pi_range2 hg hm ha hs hs2).imp fun σ H R' ⟨r, h, en, R, q, p⟩ => ⟨r, h, en, R, q, (Post.bind p).imp fun ds r1 h1 H1 e1 R1 p1 vs q1 => by
    cases q1 with
    | nil => exact p1.elim
    | cons a1 b1 =>
      cases b1 with
      | nil => cases a1 <;> exact p1.elim
      | cons a2 b2 =>
        cases b2 with
        | cons a3 b3 => cases a1 <;> first | exact p1.elim | (cases a2 <;> exact p1.elim)
        | nil =>
          cases a1 with
          | @int i =>
            cases a2 with
            | @int j =>
              simp only [rangeOf2] at p1
              by_cases hj : -(2 ^ 62) ≤ i ∧ i < 2 ^ 62 ∧ -(2 ^ 62) ≤ j ∧ j < 2 ^ 62
              · rw [if_pos hj] at p1
                exact ⟨i, j, rfl, hj, p1 r1 H1 (Ext.refl _ _) R1 _ itM_range⟩
              · rw [if_neg hj] at p1; exact p1.elim
            | _ => exact p1.elim
          | _ => exact p1.elim⟩
/-! ### for -/
def forL (gd : List (Nat × MO)) (g : XG) (b : XS) : List D → XS
  | [] => fun en h => if gdOk gd h then .nx en h else .fail
  | d :: ds => fun en h => if gdOk gd h then (match g d en h with
    | .nx en1 h1 => (match b en1 h1 with
      | .nx en2 h2 => forL gd g b ds en2 h2
      | .ct en2 h2 => forL gd g b ds en2 h2
      | .bk en2 h2 => .nx en2 h2
      | o => o)
    | o => o) else .fail
def sFor (mi : XI) (g : XG) (b : XS) : XS := fun en h => (mi en h).bindS fun it h1 => forL it.gd g b it.ds en h1
theorem sm_for {tg iter : Expr} {body : List Stmt} {mi : XI} {xb : XS} (hp : PassesOwn (model X.prog X.w) X.A X.env X.xe) (hc : X.calm = true) (hi : PIm X cl E tg iter mi) (hg : PGm X cl E ws tg g) (gg : GoodG g) (hb : PSsm X cl E body xb)
    (hs : ∀ x, foldedSetIterable iter X.env x = pure x) : PSm X cl E (.For tg iter body [] pos) (sFor mi g xb) :=
  (ps_for hp hc hi hg hb hs).imp fun N σ H ⟨r, h, en, R, e, p⟩ => ⟨r, h, en, R, e, (PostS.bindS p).imp fun it r0 h0 H0 e0 R0 p0 J hJ => by
    refine ⟨fun i n σ H => n = it.ds.length - i ∧ i ≤ it.ds.length ∧ ∃ r h en, Ext r0 H0 r H ∧ RelH X.K cl r h H ∧ RelE X.K r H en σ ∧ PostS X.K cl r H E N (forL it.gd g xb (it.ds.drop i) en h),
      ⟨_, rfl, Nat.zero_le _, r0, h0, en, Ext.refl _ _, R0, e.mono (R.keep e0), by rw [List.drop_zero]; exact p0⟩, ?_⟩
    rintro i n σ H ⟨rfl, hle, r, h, en, e1, R1, q1, p1⟩
    by_cases hi : i < it.ds.length
    · have hd : it.ds.drop i = it.ds[i] :: it.ds.drop (i + 1) := by rw [List.drop_eq_getElem_cons hi]
      rw [hd] at p1
      have p1 : PostS X.K cl r H E N (if gdOk it.gd h then (match g it.ds[i] en h with
        | .nx en1 h1 => (match xb en1 h1 with
          | .nx en2 h2 => forL it.gd g xb (it.ds.drop (i + 1)) en2 h2
          | .ct en2 h2 => forL it.gd g xb (it.ds.drop (i + 1)) en2 h2
          | .bk en2 h2 => .nx en2 h2
          | o => o)
        | o => o) else .fail) := p1
      by_cases hgd : gdOk it.gd h
      · rw [if_pos hgd] at p1
        obtain ⟨go, yl⟩ := (hJ r h H (R0.keep e1) R1 hgd i).2 it.ds[i] (List.getElem?_eq_getElem hi)
        refine .inr ⟨go, fun σ' H' => ∃ r h en, Ext r0 H0 r H' ∧ RelH X.K cl r h H' ∧ RelE X.K r H' en σ' ∧ PostS X.K cl r H' E N (forL it.gd g xb (it.ds.drop (i + 1)) en h),
          fun σ' H' z => ⟨_, by omega, rfl, hi, z⟩, fun x H' hy => ?_⟩
        obtain ⟨e2, R2, q2⟩ := yl x H' hy
        refine ⟨r, h, en, it.ds[i], R2, q1.mono (R1.keep e2), q2, ?_⟩
        have good := gg it.ds[i] en h
        cases hg2 : g it.ds[i] en h with
        | nx en1 h1 =>
          rw [hg2] at p1
          dsimp only at p1
          intro r3 H3 σ3 e3 R3 q3 _
          refine ⟨r3, h1, en1, R3, q3, ?_⟩
          have ee : Ext r H r3 H3 := e2.trans e3
          cases hx : xb en1 h1 with
          | nx en2 h2 => rw [hx] at p1; exact fun r' H' σ' e' R' q' => ⟨r', h2, en2, e1.trans (ee.trans e'), R', q', PostS.step (ee.trans e') p1⟩
          | ct en2 h2 => rw [hx] at p1; exact fun r' H' σ' e' R' q' => ⟨r', h2, en2, e1.trans (ee.trans e'), R', q', PostS.step (ee.trans e') p1⟩
          | bk en2 h2 => rw [hx] at p1; exact PostS.step ee p1
          | fail => rw [hx] at p1; exact p1
          | rt d h2 => rw [hx] at p1; exact PostS.step ee p1
          | exc c fs h2 => rw [hx] at p1; exact PostS.step ee p1
        | fail => rw [hg2] at p1; exact p1
        | _ => rw [hg2] at good; exact good.elim
      · rw [if_neg hgd] at p1
        exact p1.elim
    · have ei : i = it.ds.length := by omega
      rw [List.drop_eq_nil_of_le (by omega)] at p1
      have p1 : PostS X.K cl r H E N (if gdOk it.gd h then .nx en h else .fail) := p1
      by_cases hgd : gdOk it.gd h
      · rw [if_pos hgd] at p1
        exact .inl ⟨(hJ r h H (R0.keep e1) R1 hgd i).1 ei, p1 r H σ (Ext.refl _ _) R1 q1⟩
      · rw [if_neg hgd] at p1
        exact p1.elim⟩
end
/-! ### comprehensions -/
/-- no exception is let out of a comprehension -/
def compL (gd : List (Nat × MO)) (g : XG) (t : XT) (m : XE) (en : En) : List D → Hd → Out (List D)
  | [], h => if gdOk gd h then .ok [] h else .fail
  | d :: ds, h => if gdOk gd h then (match g d en h with
    | .nx en1 h1 => (match t en1 h1 with
      | .ok true h2 => (match m en1 h2 with
        | .ok y h3 => (match compL gd g t m en ds h3 with
          | .ok ys h4 => .ok (y :: ys) h4
          | _ => .fail)
        | _ => .fail)
      | .ok false h2 => compL gd g t m en ds h2
      | _ => .fail)
    | _ => .fail) else .fail
def wipeE (en : En) : List Nat → En
  | [] => en
  | v :: vs => (wipeE en vs).set v none
def xComp (mi : XI) (g : XG) (t : XT) (m : XE) (own : List Nat) : XE := fun en h => (mi en h).bind fun it h1 => (compL it.gd g t m (wipeE en own) it.ds h1).bind mkLst
section
variable {K : PySem.W.Frag} {cl : Str → Addr} {r : List Addr} {h : Hd} {H : Hp}
/-- a list besides is written -/
theorem keep_other {p : Addr} {xs ys : List V} (hp : H p = some (.lst xs)) : Keep K r H r (upd H p (.lst ys)) := by
  have ne : ∀ a o, H a = some o → (∀ zs, o ≠ .lst zs) → upd H p (.lst ys) a = some o := fun a o e n => by
    rw [upd_ne]
    · exact e
    · rintro rfl
      rw [hp] at e
      cases e
      exact n _ rfl
  refine ⟨fun a vs s => ?_, fun a vs s => ?_, fun _ _ e => e⟩
  · rcases s with (s | ⟨o, s⟩) | s
    · exact .inl (.inl (ne _ _ s fun _ e => nomatch e))
    · exact .inl (.inr ⟨o, ne _ _ s fun _ e => nomatch e⟩)
    · exact .inr s
  · rcases s with ⟨o, s⟩ | s
    · exact .inl ⟨o, ne _ _ s fun _ e => nomatch e⟩
    · exact .inr s
theorem RelH.other {p : Addr} {xs ys : List V} (R : RelH K cl r h H) (hp : H p = some (.lst xs)) (np : p ∉ r) : RelH K cl r h (upd H p (.lst ys)) :=
  ⟨R.len, R.nd, fun n mo a h1 h2 => by
    obtain ⟨o, q1, q2⟩ := R.ob n mo a h1 h2
    exact ⟨o, by rw [upd_ne (fun e => np (by rw [← e]; exact List.mem_of_getElem? h2))]; exact q1, q2.mono (keep_other hp)⟩⟩
/-- a list besides becomes an abstract object -/
theorem RelH.adopt {p : Addr} {xs : List V} {ds : List D} (R : RelH K cl r h H) (hp : H p = some (.lst xs)) (np : p ∉ r) (m : RelDs K r H ds xs) : RelH K cl (r ++ [p]) (h ++ [.lst ds]) H := by
  have k : Keep K r H (r ++ [p]) H := ⟨fun _ _ s => s, fun _ _ s => s, fun n a e => by rw [List.getElem?_append_left (List.getElem?_eq_some_iff.mp e).1]; exact e⟩
  refine ⟨by rw [List.length_append, List.length_append, R.len]; rfl, ?_, fun n mo' a h1 h2 => ?_⟩
  · rw [List.nodup_append]
    refine ⟨R.nd, by simp, fun a ha b hb => ?_⟩
    have : b = p := by simpa using hb
    rw [this]
    rintro rfl
    exact np ha
  · by_cases hn : n < h.length
    · rw [List.getElem?_append_left hn] at h1
      rw [List.getElem?_append_left (by rw [R.len]; exact hn)] at h2
      obtain ⟨u, q1, q2⟩ := R.ob n mo' a h1 h2
      exact ⟨u, q1, q2.mono k⟩
    · have hl : n < (h ++ [MO.lst ds]).length := (List.getElem?_eq_some_iff.mp h1).1
      have en : n = h.length := by rw [List.length_append] at hl; simp at hl; omega
      subst en
      rw [List.getElem?_append_right (Nat.le_refl _)] at h1
      rw [← R.len, List.getElem?_append_right (Nat.le_refl _)] at h2
      simp at h1 h2
      subst h1 h2
      exact ⟨_, hp, .lst (m.mono k)⟩
theorem RelE.wipe {en : En} {σ : L2.St} (e : RelE K r H en σ) : ∀ vs : List Nat, RelE K r H (wipeE en vs) (wipe σ vs)
  | [] => e
  | v :: vs => (RelE.wipe e vs).unset v
end
def xYes : XT := fun _ h => .ok true h
abbrev E00 : XK := fun _ _ _ => False
section
variable {X : Cx} {cl : Str → Addr} {E : XK} {elt tg iter : Expr} {ifs : List Expr} {scope : Scope} {own : List (Str × Nat)} {pos : Pos} {mi : XI} {g : XG} {t : XT} {m : XE}
theorem tts_nil : PTs X [] (TTm X.K cl E xYes) := ⟨fun pins s σ H Q I ⟨r, h, en, R, e, p⟩ => pts_nil.run pins s σ H Q I (p r H (Ext.refl _ _) R)⟩
theorem tts_one {c : Expr} (ht : PTm X cl E c t) : PTs X [c] (TTm X.K cl E t) := pts_one ht
theorem compL_no {gd : List (Nat × MO)} {g : XG} {t : XT} {m : XE} {en : En} {c : Str} {fs : List (Str × D)} {hx : Hd} : ∀ {ds : List D} {h : Hd}, compL gd g t m en ds h = .exc c fs hx → False
  | [], h, e => by
    simp only [compL] at e
    split at e <;> cases e
  | d :: ds, h, e => by
    simp only [compL] at e
    split at e
    · split at e
      · split at e
        · split at e
          · split at e <;> cases e
          · cases e
        · exact compL_no e
        · cases e
      · cases e
    · cases e
/-- the reading of a comprehension -/
theorem lc_read {K : PySem.W.Frag} {σ : L2.St} {H : Hp} {Q : VK} {r : List Addr} {h : Hd} {en : En} {ws : List Nat} {E : XK} (R : RelH K cl r h H) (e : RelE K r H en σ) (p : Post K cl r H E (PV K Q) (xComp mi g t m ws en h)) :
    tLc (TIm K cl E mi) (TGm K cl E00 ws g) (TTm K cl E00 t) (TDm K cl E00 m) ws σ H Q := by
  refine ⟨r, h, en, R, e, (Post.bind p).imp fun it r0 h0 H0 e0 R0 p0 J hJ L hL => ?_⟩
  have w0 : RelE K r0 H0 (wipeE en ws) (wipe σ ws) := (e.mono (R.keep e0)).wipe ws
  cases hc : compL it.gd g t m (wipeE en ws) it.ds h0 with
  | fail => rw [hc] at p0; exact p0.elim
  | exc c fs hx => exact (compL_no hc).elim
  | ok YS hF =>
    rw [hc] at p0
    have p0 : Post K cl r0 H0 E (PV K Q) (mkLst YS hF) := p0
    unfold mkLst at p0
    by_cases hz : YS.length ≤ sizeLine
    · rw [if_pos hz] at p0
      have nL : L ∉ r0 := R0.not_none hL
      refine ⟨fun i n H => n = it.ds.length - i ∧ i ≤ it.ds.length ∧ ∃ r h accd acc ys, Ext r0 H0 r H ∧ RelH K cl r h H ∧ H L = some (.lst acc) ∧ L ∉ r ∧ RelDs K r H accd acc ∧ RelE K r H (wipeE en ws) (wipe σ ws) ∧
        compL it.gd g t m (wipeE en ws) (it.ds.drop i) h = .ok ys hF ∧ accd ++ ys = YS, ⟨_, rfl, Nat.zero_le _, r0, h0, [], [], YS, ?_, ?_, upd_same, nL, .nil, ?_, by rw [List.drop_zero]; exact hc, rfl⟩, ?_⟩
      · exact ⟨⟨[], by simp⟩, fun a o q n => ⟨by rw [upd_ne (ne_of_none q hL)]; exact q, n⟩⟩
      · exact R0.new hL
      · exact w0.mono (R0.keep (Ext.new R0 hL))
      · rintro i n H ⟨rfl, hle, r, h, accd, acc, ys, e1, R1, hLa, nLr, m1, w1, hcl, hy⟩
        by_cases hi : i < it.ds.length
        · have hd : it.ds.drop i = it.ds[i] :: it.ds.drop (i + 1) := by rw [List.drop_eq_getElem_cons hi]
          rw [hd] at hcl
          simp only [compL] at hcl
          by_cases hgd : gdOk it.gd h
          · rw [if_pos hgd] at hcl
            obtain ⟨go, yl⟩ := (hJ r h H (R0.keep e1) R1 hgd i).2 it.ds[i] (List.getElem?_eq_getElem hi)
            refine .inr ⟨go, fun H' => ∃ r h accd acc ys, Ext r0 H0 r H' ∧ RelH K cl r h H' ∧ H' L = some (.lst acc) ∧ L ∉ r ∧ RelDs K r H' accd acc ∧ RelE K r H' (wipeE en ws) (wipe σ ws) ∧
              compL it.gd g t m (wipeE en ws) (it.ds.drop (i + 1)) h = .ok ys hF ∧ accd ++ ys = YS, fun H' z => ⟨_, by omega, rfl, hi, z⟩, fun x H' hyl => ?_⟩
            obtain ⟨e2, R2, q2⟩ := yl x H' hyl
            cases hg2 : g it.ds[i] (wipeE en ws) h with
            | nx en1 h1 =>
              rw [hg2] at hcl
              dsimp only at hcl
              refine ⟨r, h, wipeE en ws, it.ds[i], R2, w1.mono (R1.keep e2), q2, ?_⟩
              rw [hg2]
              intro r3 H3 σ3 e3 R3 q3 hw
              refine ⟨hw.trans wipe_idem, r3, h1, en1, R3, q3, ?_⟩
              cases ht2 : t en1 h1 with
              | ok b h2 =>
                rw [ht2] at hcl
                intro r4 H4 e4 R4
                have e14 : Ext r H r4 H4 := (e2.trans e3).trans e4
                obtain ⟨hL4, nL4⟩ := e14.fr L _ hLa nLr
                have k4 := R1.keep e14
                cases b with
                | false =>
                  dsimp only at hcl
                  exact iteF ⟨r4, h2, accd, acc, ys, e1.trans e14, R4, hL4, nL4, m1.mono k4, w1.mono k4, hcl, hy⟩
                | true =>
                  dsimp only at hcl
                  refine iteT ⟨r4, h2, en1, R4, q3.mono (R3.keep e4), ?_⟩
                  cases hm2 : m en1 h2 with
                  | ok y h3 =>
                    rw [hm2] at hcl
                    dsimp only at hcl
                    intro r5 H5 e5 R5 v q5
                    have e15 : Ext r H r5 H5 := e14.trans e5
                    obtain ⟨hL5, nL5⟩ := e15.fr L _ hLa nLr
                    have k5 := R1.keep e15
                    cases hcl2 : compL it.gd g t m (wipeE en ws) (it.ds.drop (i + 1)) h3 with
                    | ok ys2 h4 =>
                      rw [hcl2] at hcl
                      dsimp only at hcl
                      have hys : y :: ys2 = ys ∧ h4 = hF := by
                        injection hcl with z1 z2
                        exact ⟨z1, z2⟩
                      obtain ⟨rfl, rfl⟩ := hys
                      have kk : Keep K r5 H5 r5 (upd H5 L (.lst (acc ++ [v]))) := keep_other hL5
                      refine ⟨acc, hL5, ?_, r5, h3, accd ++ [y], acc ++ [v], ys2, ?_, R5.other hL5 nL5, upd_same, nL5, ((m1.mono k5).append (.cons q5 .nil)).mono kk, (w1.mono k5).mono kk, hcl2, by rw [List.append_assoc]; exact hy⟩
                      · have l1 := m1.length
                        have : accd.length + (ys2.length + 1) = YS.length := by rw [← hy, List.length_append, List.length_cons]
                        omega
                      · have e05 : Ext r0 H0 r5 H5 := e1.trans e15
                        exact ⟨e05.pre, fun a o q n => ⟨by rw [upd_ne (ne_of_none q hL)]; exact (e05.fr a o q n).1, (e05.fr a o q n).2⟩⟩
                    | fail => rw [hcl2] at hcl; cases hcl
                    | exc c fs hx => rw [hcl2] at hcl; cases hcl
                  | fail => rw [hm2] at hcl; cases hcl
                  | exc c fs hx => rw [hm2] at hcl; cases hcl
              | fail => rw [ht2] at hcl; cases hcl
              | exc c fs hx => rw [ht2] at hcl; cases hcl
            | _ => rw [hg2] at hcl; cases hcl
          · rw [if_neg hgd] at hcl
            cases hcl
        · have ei : i = it.ds.length := by omega
          rw [List.drop_eq_nil_of_le (by omega)] at hcl
          simp only [compL] at hcl
          by_cases hgd : gdOk it.gd h
          · rw [if_pos hgd] at hcl
            have hys : [] = ys ∧ h = hF := by
              injection hcl with z1 z2
              exact ⟨z1, z2⟩
            obtain ⟨rfl, rfl⟩ := hys
            rw [List.append_nil] at hy
            subst hy
            refine .inl ⟨(hJ r h H (R0.keep e1) R1 hgd i).1 ei, p0 (r ++ [L]) H ?_ (R1.adopt hLa nLr m1) _ (.ref (push_get R1))⟩
            obtain ⟨u, hu⟩ := e1.pre
            refine ⟨⟨u ++ [L], by rw [hu, List.append_assoc]⟩, fun a o q n => ?_⟩
            obtain ⟨z1, z2⟩ := e1.fr a o q n
            refine ⟨z1, fun z => ?_⟩
            rcases List.mem_append.mp z with z | z
            · exact z2 z
            · have : a = L := by simpa using z
              rw [this, hL] at q
              cases q
          · rw [if_neg hgd] at hcl
            cases hcl
    · rw [if_neg hz] at p0
      exact p0.elim
theorem em_comp (hc : X.calm = true) (hN : X.N.Nodup) (hi : PIm X cl E tg iter mi) (ok : BlkOk X.N X.env.scope scope own)
    (hg : ∀ (s : Shared) (H : Hp) (C : Addr) (cl' : List (Str × Addr)) (fp : List Addr), PGm (X.blk s H scope (compEnvC scope cl' C X.env) fp) cl E00 (own.map (·.2)) tg g)
    (ht : ∀ (s : Shared) (H : Hp) (C : Addr) (cl' : List (Str × Addr)) (fp : List Addr), PTs (X.blk s H scope (compEnvC scope cl' C X.env) fp) ifs (TTm X.K cl E00 t))
    (he : ∀ (s : Shared) (H : Hp) (C : Addr) (cl' : List (Str × Addr)) (fp : List Addr), PEm (X.blk s H scope (compEnvC scope cl' C X.env) fp) cl E00 elt m) (hs : ∀ x, foldedSetIterable iter X.env x = pure x) :
    PEm X cl E (.ListComp elt [⟨tg, iter, ifs, 0⟩] scope pos) (xComp mi g t m (own.map (·.2))) :=
  (pe_lc hc hN hi ok hg ht he hs).imp fun σ H Q ⟨r, h, en, R, e, p⟩ => lc_read R e p
theorem sm_setComp {i : Nat} {y : Str} {py spos : Pos} (hc : X.calm = true) (hN : X.N.Nodup) (hy : X.N[i]? = some y) (hyl : X.env.scope.names.lookup y = some .local)
    (hsw : swapsWith (.ListComp elt [⟨tg, iter, ifs, 0⟩] scope pos) (some (.Name y py)) spos.line X.env = pure true) (hi : PIm X cl E tg iter mi) (ok : BlkOk X.N X.env.scope scope own)
    (hg : ∀ (s : Shared) (H : Hp) (C : Addr) (cl' : List (Str × Addr)) (fp : List Addr), PGm (X.blk s H scope (compEnvC scope cl' C X.env) fp) cl E00 (own.map (·.2)) tg g)
    (ht : ∀ (s : Shared) (H : Hp) (C : Addr) (cl' : List (Str × Addr)) (fp : List Addr), PTs (X.blk s H scope (compEnvC scope cl' C X.env) fp) ifs (TTm X.K cl E00 t))
    (he : ∀ (s : Shared) (H : Hp) (C : Addr) (cl' : List (Str × Addr)) (fp : List Addr), PEm (X.blk s H scope (compEnvC scope cl' C X.env) fp) cl E00 elt m) (hs : ∀ x, foldedSetIterable iter X.env x = pure x) :
    PSm X cl E (.Assign [.Name y py] (.ListComp elt [⟨tg, iter, ifs, 0⟩] scope pos) spos) (sAsg (xComp mi g t m (own.map (·.2))) (gNm i)) :=
  (ps_setLc hc hN hy hyl hsw hi ok hg ht he hs).imp fun N σ H ⟨r, h, en, R, e, p⟩ => lc_read R e ((PostS.bindS p).imp fun d r1 h1 H1 e1 R1 p1 v q => p1 r1 H1 _ (Ext.refl _ _) R1 ((e.mono (R.keep e1)).set q i))
end
end Z
/-! text Z3 -/
/-! Z3: functions of data for defs; calls. -/
namespace Z
open PySem PySem.Spec PyProof.Rows L2

/-- room for k calls, and no repr under way -/
structure RoomG (k : Nat) (A : Around) : Prop where
  room : Room k A
  gd : A.guards = some []
theorem RoomG.mono {j k : Nat} {A : Around} (q : RoomG k A) (h : j ≤ k) : RoomG j A := ⟨q.room.mono h, q.gd⟩
theorem RoomG.deeper {k : Nat} {A : Around} (q : RoomG (k + 1) A) (env : Env) : RoomG k (A.deeper env) := ⟨q.room.deeper env, q.gd⟩
theorem RoomG.in1 {k : Nat} {A : Around} (q : RoomG (k + 1) A) : RoomG k A.in1 := ⟨q.room.in1, q.gd⟩
theorem RoomG.make {k : Nat} {A : Around} (q : RoomG (k + 1) A) (C : Addr) (us : List Value) (kw : List (Str × Value)) : RoomG k (A.under (.builtin "type.__call__" ⟨.ref C :: us, kw⟩)) := by
  refine ⟨q.room.make C us kw, ?_⟩
  show pushGuards (Code.guards (.builtin "type.__call__" ⟨.ref C :: us, kw⟩)) A.guards = some []
  rw [q.gd]
  rfl
abbrev Fn := List D → Hd → Out D
/-- the promise of a def whose function of data is F -/
def spD (K : PySem.W.Frag) (cl : Str → Addr) (F : Fn) : Sp := fun vs H Q E => ∃ r h ds, RelH K cl r h H ∧ RelDs K r H ds vs ∧ Post K cl r H E (PV K Q) (F ds h)
structure FnM (P : Program) (w : World) (K : PySem.W.Frag) (mg : Str → Option Value) (base : Heap) (cl : Str → Addr) (k : Nat) (f : Addr) (fd : FuncData) (ps : List Str) (F : Fn) : Prop where
  run : ∀ (A : Around) (outer : List Env) (s : Shared) (H : Hp) (args : Args) (us : List Value) (vs : List V) (Q : VK) (E : XK), RoomG k A → Env0 P w K mg base A outer s H → BindsTo s fd args (ps.zip us) → us.length = ps.length → Vals vs us → spD K cl F vs H Q E →
    codeAny (model P w) A (.call (.ref f) args) (CR (L2.CX P w) outer P w H s Q E) s
section
variable {P : Program} {w : World} {K : PySem.W.Frag} {mg : Str → Option Value} {base : Heap} {cl : Str → Addr} {k : Nat} {f : Addr} {fd : FuncData} {ps : List Str} {F : Fn}
theorem FnM.mono {j : Nat} (M : FnM P w K mg base cl j f fd ps F) (h : j ≤ k) : FnM P w K mg base cl k f fd ps F := ⟨fun A outer s H args us vs Q E hr => M.run A outer s H args us vs Q E (hr.mono h)⟩
/-- what a body yields as a def -/
def outOf : SOut → Out D
  | .rt d h => .ok d h
  | .nx _ h => .ok .non h
  | .exc c fs h => .exc c fs h
  | _ => .fail
def startE (n : Nat) (ds : List D) : En := ds.map some ++ List.replicate (n - ds.length) none
def bodyFn (n m : Nat) (x : XS) : Fn := fun ds h => if ds.length = m then outOf (x (startE n ds) h) else .fail
theorem relE_start {r : List Addr} {H : Hp} {N : List Str} {ds : List D} {vs : List V} (q : RelDs K r H ds vs) : RelE K r H (startE N.length ds) (L2.start N vs) := by
  have hl := q.length
  refine ⟨?_, fun i d hi => ?_⟩
  · unfold startE L2.start
    rw [List.length_append, List.length_append, List.length_map, List.length_map, List.length_replicate, List.length_replicate, hl]
  · unfold startE at hi
    by_cases h : i < ds.length
    · rw [List.getElem?_append_left (by simpa using h), List.getElem?_map] at hi
      cases e : ds[i]? with
      | none => rw [e] at hi; cases hi
      | some x =>
        rw [e] at hi
        cases hi
        obtain ⟨v, h1, h2⟩ := q.get e
        refine ⟨v, ?_, h2⟩
        unfold L2.start
        rw [List.getElem?_append_left (by rw [List.length_map, ← hl]; exact h), List.getElem?_map, h1]
        rfl
    · rw [List.getElem?_append_right (by simpa using h), List.getElem?_replicate] at hi
      split at hi <;> cases hi
theorem post_body {r : List Addr} {H : Hp} {E : XK} {Q : VK} {x : SOut} (p : Post K cl r H E (PV K Q) (outOf x)) : PostS K cl r H E { nx := fun _ H' => Q .non H', rt := Q } x := by
  cases x with
  | fail => exact p
  | nx en h => exact fun r' H' σ e R q => p r' H' e R _ .non
  | rt d h => exact fun r' H' v e R q => p r' H' e R _ q
  | bk en h => exact p.elim
  | ct en h => exact p.elim
  | exc c fs h => exact p
/-- the context of a body -/
abbrev CxB (P : Program) (w : World) (K : PySem.W.Frag) (mg : Str → Option Value) (base : Heap) (N : List Str) (qual : Str) (scope : Scope) (f : Addr) (cd : Value) (A : Around) (outer : List Env) (s : Shared) (H : Hp) (E : XK) : Cx :=
  cxOf (L2.CX P w) P w K mg base N qual scope f cd A outer s H E
/-- THE RULE of a def -/
theorem fnM_of {x qual : Str} {params : Arguments} {body : List Stmt} {scope : Scope} {dvs : List V} {kws : List (Str × V)} {N : List Str} {m : XS} (Fd : FunD K x qual params body scope dvs kws f fd) (S : FnScope N ps scope)
    (hbody : ∀ (cdv : Value) (A : Around) (outer : List Env) (s : Shared) (H : Hp) (E : XK), RoomG k (A.deeper (envOfC qual scope s.heap.objs.size f cdv)) → PSsm (CxB P w K mg base N qual scope f cdv A outer s H E) cl E body m) :
    FnM P w K mg base cl (k + 1) f fd ps (bodyFn N.length ps.length m) := by
  obtain ⟨oc, od, dV, kV, doc, pm, an, cdv, ct, osl, rfl, lk, hcd, _, _⟩ := Fd.ex
  refine ⟨fun A outer s H args us vs Q E hr e0 hb hul rv hsp => ?_⟩
  obtain ⟨r, h, ds, R, q, p⟩ := hsp
  have hvl : vs.length = ps.length := rv.length.trans hul
  have hdl : ds.length = ps.length := q.length.trans hvl
  have p2 : Post K cl r H E (PV K Q) (outOf (m (startE N.length ds) h)) := by
    unfold bodyFn at p
    rw [if_pos hdl] at p
    exact p
  have KX : K.In s.heap := e0.mod.kin.keeps fun b o e => (e0.bs b o e).1
  have lim : s.heap.NoLimit := e0.mod.nolimit.keeps fun b o e => (e0.bs b o e).1
  have kinds : ∀ y ∈ ps.zip us, scope.names.lookup y.1 = some .local ∨ (scope.names.lookup y.1 = some .cell ∧ ((cellsFrom (s.heap.objs.size + 1) scope.names []).lookup y.1).isSome = true) := by
    rintro ⟨n, v⟩ hy
    rcases S.par n (List.of_mem_zip hy).1 with z | z
    · exact Or.inl z
    · exact Or.inr ⟨z, PySem.W.cellsFrom_some _ _ _ (Or.inl z)⟩
  refine codeAny_call_function hr.room.depth (KX _ _ lk) rfl S.co S.gen rfl (PySem.W.codeRec_of KX hcd) (hb _ _ _ _ ?_)
  refine wpAny_newFunctionEnv_cells S.kind kinds fun env he s1 x1 => ?_
  subst he
  refine ⟨lim.keeps x1.toInCall.keep, codeAny_func ?_⟩
  have I : Inv (CxB P w K mg base N qual scope f cdv A outer s H E) [] (start N vs) H s1 := inv_start S hr.room.hd e0 hvl rv x1
  have B := (hbody cdv A outer s H E (hr.deeper _)).run [] s1 (start N vs) H { nx := fun _ H' => Q .non H', rt := Q } I ⟨r, h, _, R, relE_start q, post_body p2⟩
  refine wpAny_mono B (fun fl s' hs => ?_) fun _ _ hs => hs
  cases fl with
  | ret u =>
    obtain ⟨v, σ', H', J, rv2, q2⟩ := hs
    exact ⟨v, H', J.os, J.bare, J.base, J.hok, rv2, q2⟩
  | next =>
    obtain ⟨σ', H', J, q2⟩ := hs
    exact ⟨V.non, H', J.os, J.bare, J.base, J.hok, rfl, q2⟩
  | brk => obtain ⟨_, _, _, z⟩ := hs; exact z.elim
  | cont => obtain ⟨_, _, _, z⟩ := hs; exact z.elim
end

/-! ### calls -/
/-- how written arguments (positional, then by keyword) become the parameters' values: each parameter is one of the written ones or a default -/
abbrev Arr := List (Nat ⊕ D)
def arrD (a : Arr) (ds : List D) : Option (List D) := a.mapM fun
  | .inl i => ds[i]?
  | .inr d => some d
/-- n positional arguments and keywords ks bind to ps by the arrangement a -/
structure BindM (K : PySem.W.Frag) (fd : FuncData) (ps : List Str) (n : Nat) (ks : List Str) (a : Arr) : Prop where
  to : ∀ (s : Shared) (us ws : List Value), K.In s.heap → us.length = n → ws.length = ks.length → ∃ zs, BindsTo s fd ⟨us, ks.zip ws⟩ (ps.zip zs) ∧ zs.length = ps.length ∧
    ∀ (r : List Addr) (H : Hp) (ds es : List D) (vs vz : List V), RelDs K r H ds vs → Vals vs us → RelDs K r H es vz → Vals vz ws → ∃ xs ys, arrD a (ds ++ es) = some xs ∧ RelDs K r H xs ys ∧ Vals ys zs
def callA (F : Fn) (a : Arr) (n m : Nat) (ds es : List D) (h : Hd) : Out D := if ds.length = n ∧ es.length = m then (match arrD a (ds ++ es) with
  | some xs => F xs h
  | none => .fail) else .fail
def xFn (F : Fn) (a : Arr) (n : Nat) (ms : XA) : XE := fun en h => (ms en h).bind fun ds h1 => callA F a n 0 ds [] h1
def xFnK (F : Fn) (a : Arr) (n m : Nat) (ms mk : XA) : XE := fun en h => (ms en h).bind fun ds h1 => (mk en h1).bind fun es h2 => callA F a n m ds es h2
section
variable {X : Cx} {cl : Str → Addr} {E : XK} {k n : Nat} {f C : Addr} {fd : FuncData} {ps ks : List Str} {F : Fn} {a : Arr} {x m : Str} {p0 pos apos : Pos} {e o : Expr} {es : List Expr} {kws : List Keyword} {ms mk : XA} {mo : XE}
/-- what a call needs of the context -/
abbrev Tk (X : Cx) (E : XK) : Prop := Takes X fun c d _ H => E c d H
theorem run_fnM {pins : List (Addr × Obj)} {σ : L2.St} {H : Hp} {s : Shared} {Q : VK} {us ws : List Value} {vs vz : List V} {ds es : List D} {r : List Addr} {h : Hd} (M : FnM X.prog X.w X.K X.mg X.base cl k f fd ps F) (hr : RoomG k X.A) (b : BindM X.K fd ps n ks a)
    (tk : Tk X E) (I : Inv X pins σ H s) (R : RelH X.K cl r h H) (q1 : RelDs X.K r H ds vs) (v1 : Vals vs us) (q2 : RelDs X.K r H es vz) (v2 : Vals vz ws) (p : Post X.K cl r H E (PV X.K Q) (callA F a n ks.length ds es h)) :
    wpAny (model X.prog X.w) X.A (call (.ref f) us (ks.zip ws)) (EP X pins σ Q) X.xe s := by
  unfold callA at p
  by_cases hn : ds.length = n ∧ es.length = ks.length
  · rw [if_pos hn] at p
    have l1 : us.length = n := by rw [← v1.length, ← q1.length]; exact hn.1
    have l2 : ws.length = ks.length := by rw [← v2.length, ← q2.length]; exact hn.2
    obtain ⟨zs, hb, hz, hx⟩ := b.to s us ws I.kIn l1 l2
    obtain ⟨xs, ys, e1, q3, v3⟩ := hx r H ds es vs vz q1 v1 q2 v2
    rw [e1] at p
    refine wpAny_call (codeAny_mono (M.run X.A X.stack s H ⟨us, ks.zip ws⟩ zs ys Q E hr I.env0 hb hz v3 ⟨r, h, xs, R, q3, p⟩) fun rs s' hq => ?_)
    cases rs with
    | error er => exact passes_call tk (fun _ _ _ _ z => z) pins σ H s er s' I hq
    | ok fl =>
      cases fl with
      | ret u => exact I.after hq
      | next => exact hq.elim
      | brk => exact hq.elim
      | cont => exact hq.elim
  · rw [if_neg hn] at p
    exact p.elim
/-- f(e, ..) -/
theorem em_call (M : FnM X.prog X.w X.K X.mg X.base cl k f fd ps F) (hr : RoomG k X.A) (tk : Tk X E) (hg : Gl X x) (hm : X.mg x = some (.ref f)) (hk : PySem.W.keepIn X.K (.ref f) = true) (ha : PAm X cl E (e :: es) ms)
    (b : BindM X.K fd ps n [] a) (hdb : (x == ("__debug__" : Str)) = false) (he : starEach (e :: es) X.env = (false, eval e X.env) :: starEach es X.env) (hpl : (backTo pos (starEach es X.env)).any (·.1) = false) :
    PEm X cl E (.Call (.Name x p0) (e :: es) [] pos) (xFn F a n ms) := by
  refine ⟨fun pins s σ H Q I ⟨r, h, en, R, re, p⟩ => ?_⟩
  refine wpAny_Call_Name_kw (ld_glob I hg hm ?_ hdb)
  have z : TAm X.K cl E ms σ H fun vs H1 => ∃ r1 h1 ds, RelH X.K cl r1 h1 H1 ∧ RelDs X.K r1 H1 ds vs ∧ Post X.K cl r1 H1 E (PV X.K Q) (callA F a n 0 ds [] h1) :=
    ⟨r, h, en, R, re, (Post.bind p).imp fun ds r1 h1 H1 e1 R1 p1 vs q1 => ⟨r1, h1, ds, R1, q1, p1⟩⟩
  refine PySem.W.callWith_K (h₀ := X.base) I.ok.mod.kin hk (thn (ha.run pos pins s σ H _ I z) fun us s1 ⟨vs, H1, I1, rv, r1, h1, ds, R1, q1, p1⟩ => ⟨I1.kIn, ?_⟩) he hpl
  exact run_fnM (ks := []) (ws := []) (es := []) (vz := []) M hr b tk I1 R1 q1 rv .nil .nil p1
/-- f() -/
theorem em_call0 (M : FnM X.prog X.w X.K X.mg X.base cl k f fd ps F) (hr : RoomG k X.A) (tk : Tk X E) (hg : Gl X x) (hm : X.mg x = some (.ref f)) (hk : PySem.W.keepIn X.K (.ref f) = true)
    (b : BindM X.K fd ps 0 [] a) (hdb : (x == ("__debug__" : Str)) = false) : PEm X cl E (.Call (.Name x p0) [] [] pos) (xFn F a 0 xNil) := by
  refine ⟨fun pins s σ H Q I ⟨r, h, en, R, re, p⟩ => ?_⟩
  refine wpAny_Call_Name_kw (ld_glob I hg hm ?_ hdb)
  exact PySem.W.callWith_K0 I.kIn hk (run_fnM (ks := []) (us := []) (ws := []) (ds := []) (es := []) (vs := []) (vz := []) M hr b tk I R .nil .nil .nil .nil p)
/-- keywords' values -/
abbrev PKm (X : Cx) (cl : Str → Addr) (E : XK) (kws : List Keyword) (m : XA) : Prop := PK X kws (TAm X.K cl E m)
theorem PK.imp {t t' : TA} (p : PK X kws t) (f : ∀ σ H Q, t' σ H Q → t σ H Q) : PK X kws t' := ⟨fun pos pins s σ H Q I q => p.run pos pins s σ H Q I (f σ H Q q)⟩
theorem km_nil : PKm X cl E [] xNil := PK.imp pk_nil fun σ H Q ⟨r, h, en, R, e, p⟩ => p r H (Ext.refl _ _) R _ .nil
theorem km_cons {nm : Option Str} {kp : Pos} {mv : XE} (ha : PEm X cl E e mv) (hr : PKm X cl E kws ms) : PKm X cl E (⟨nm, e, kp⟩ :: kws) (xCons mv ms) :=
  PK.imp (pk_cons ha hr) fun σ H Q ⟨r, h, en, R, e, p⟩ =>
    ⟨r, h, en, R, e, (Post.bind p).imp fun x r1 h1 H1 e1 R1 p1 v1 q1 =>
      ⟨r1, h1, en, R1, e.mono (R.keep e1), (Post.bind p1).imp fun y r2 h2 H2 e2 R2 p2 vs q2 => p2 r2 H2 (Ext.refl _ _) R2 _ (.cons (q1.mono (R1.keep e2)) q2)⟩⟩
/-- f(e, .., k = v, ..) -/
theorem em_callK (M : FnM X.prog X.w X.K X.mg X.base cl k f fd ps F) (hr : RoomG k X.A) (tk : Tk X E) (hg : Gl X x) (hm : X.mg x = some (.ref f)) (hk : PySem.W.keepIn X.K (.ref f) = true) (ha : PAm X cl E (e :: es) ms) (hkw : PKm X cl E kws mk)
    (b : BindM X.K fd ps n ks a) (hall : (backToKw pos (keywordEach kws X.env)).all (·.1.isSome) = true) (hks : (backToKw pos (keywordEach kws X.env)).filterMap (·.1) = ks) (hdb : (x == ("__debug__" : Str)) = false)
    (he : starEach (e :: es) X.env = (false, eval e X.env) :: starEach es X.env) (hpl : ((backTo pos (starEach (e :: es) X.env)).any (·.1) || (backToKw pos (keywordEach kws X.env)).any (·.1.isNone)) = false) :
    PEm X cl E (.Call (.Name x p0) (e :: es) kws pos) (xFnK F a n ks.length ms mk) := by
  refine ⟨fun pins s σ H Q I ⟨r, h, en, R, re, p⟩ => ?_⟩
  refine wpAny_Call_Name_kw (ld_glob I hg hm ?_ hdb)
  have z : TAm X.K cl E ms σ H fun vs H1 => ∃ r1 h1 ds, RelH X.K cl r1 h1 H1 ∧ RelE X.K r1 H1 en σ ∧ RelDs X.K r1 H1 ds vs ∧ Post X.K cl r1 H1 E (PV X.K Q) ((mk en h1).bind fun es h2 => callA F a n ks.length ds es h2) :=
    ⟨r, h, en, R, re, (Post.bind p).imp fun ds r1 h1 H1 e1 R1 p1 vs q1 => ⟨r1, h1, ds, R1, re.mono (R.keep e1), q1, p1⟩⟩
  refine PySem.W.callWith_KW (h₀ := X.base) I.ok.mod.kin hk hall (thn (ha.run pos pins s σ H _ I z) fun us s1 ⟨vs, H1, I1, rv, r1, h1, ds, R1, re1, q1, p1⟩ => ?_) hpl he
  have z2 : TAm X.K cl E mk σ H1 fun vz H2 => ∃ r2 h2 es, RelH X.K cl r2 h2 H2 ∧ RelDs X.K r2 H2 ds vs ∧ RelDs X.K r2 H2 es vz ∧ Post X.K cl r2 H2 E (PV X.K Q) (callA F a n ks.length ds es h2) :=
    ⟨r1, h1, en, R1, re1, (Post.bind p1).imp fun es r2 h2 H2 e2 R2 p2 vz q2 => ⟨r2, h2, es, R2, q1.mono (R1.keep e2), q2, p2⟩⟩
  refine thn (hkw.run pos pins s1 σ H1 _ I1 z2) fun ws s2 ⟨vz, H2, I2, rz, r2, h2, es, R2, q3, q4, p2⟩ => ⟨I2.kIn, ?_⟩
  rw [hks]
  exact run_fnM M hr b tk I2 R2 q3 rv q4 rz p2
/-- f(k = v, ..) -/
theorem em_callK0 (M : FnM X.prog X.w X.K X.mg X.base cl k f fd ps F) (hr : RoomG k X.A) (tk : Tk X E) (hg : Gl X x) (hm : X.mg x = some (.ref f)) (hk : PySem.W.keepIn X.K (.ref f) = true) (hkw : PKm X cl E kws mk)
    (b : BindM X.K fd ps 0 ks a) (hall : (backToKw pos (keywordEach kws X.env)).all (·.1.isSome) = true) (hks : (backToKw pos (keywordEach kws X.env)).filterMap (·.1) = ks) (hdb : (x == ("__debug__" : Str)) = false)
    (hpl : ((backTo pos (starEach [] X.env)).any (·.1) || (backToKw pos (keywordEach kws X.env)).any (·.1.isNone)) = false) :
    PEm X cl E (.Call (.Name x p0) [] kws pos) (xFnK F a 0 ks.length xNil mk) := by
  refine ⟨fun pins s σ H Q I ⟨r, h, en, R, re, p⟩ => ?_⟩
  refine wpAny_Call_Name_kw (ld_glob I hg hm ?_ hdb)
  have p' : Post X.K cl r H E (PV X.K Q) ((mk en h).bind fun es h2 => callA F a 0 ks.length [] es h2) := p
  have z2 : TAm X.K cl E mk σ H fun vz H2 => ∃ r2 h2 es, RelH X.K cl r2 h2 H2 ∧ RelDs X.K r2 H2 es vz ∧ Post X.K cl r2 H2 E (PV X.K Q) (callA F a 0 ks.length [] es h2) :=
    ⟨r, h, en, R, re, (Post.bind p').imp fun es r2 h2 H2 e2 R2 p2 vz q2 => ⟨r2, h2, es, R2, q2, p2⟩⟩
  refine PySem.W.callWith_KW0 (h₀ := X.base) I.ok.mod.kin hk hall ?_ hpl
  refine thn (hkw.run pos pins s σ H _ I z2) fun ws s2 ⟨vz, H2, I2, rz, r2, h2, es, R2, q4, p2⟩ => ⟨I2.kIn, ?_⟩
  rw [hks]
  exact run_fnM (us := []) (vs := []) (ds := []) M hr b tk I2 R2 .nil .nil q4 rz p2
end
/-! ### instances -/
theorem RelFs.lookup {K : PySem.W.Frag} {r : List Addr} {H : Hp} {f : Str} : ∀ {fs : List (Str × D)} {gs : List (Str × V)}, RelFs K r H fs gs → (∀ d, fs.lookup f = some d → ∃ v, gs.lookup f = some v ∧ RelD K r H d v) ∧ (fs.lookup f = none → gs.lookup f = none)
  | _, _, .nil => ⟨(fun d e => by cases e), (fun _ => rfl)⟩
  | _, _, .cons (f := g) (ds := ds) (vs := vs) a b => by
    obtain ⟨h1, h2⟩ := RelFs.lookup (f := f) b
    by_cases hg : f = g
    · subst hg
      exact ⟨fun d e => by rw [List.lookup_cons_self] at e; cases e; exact ⟨_, List.lookup_cons_self, a⟩, fun e => by rw [List.lookup_cons_self] at e; cases e⟩
    · have hb : (f == g) = false := beq_eq_false_iff_ne.mpr hg
      refine ⟨fun d e => ?_, fun e => ?_⟩
      · rw [List.lookup_cons, hb] at e
        rw [List.lookup_cons, hb]
        exact h1 d e
      · rw [List.lookup_cons, hb] at e
        rw [List.lookup_cons, hb]
        exact h2 e
def putD (f : Str) (d : D) : List (Str × D) → List (Str × D)
  | [] => [(f, d)]
  | (g, e) :: fs => if g = f then (g, d) :: fs else (g, e) :: putD f d fs
theorem RelFs.put {K : PySem.W.Frag} {r : List Addr} {H : Hp} {f : Str} {d : D} {v : V} (q : RelD K r H d v) : ∀ {fs : List (Str × D)} {gs : List (Str × V)}, RelFs K r H fs gs → RelFs K r H (putD f d fs) (putF f v gs)
  | _, _, .nil => .cons q .nil
  | _, _, .cons (f := g) (ds := ds) (vs := vs) a b => by
    unfold putD putF
    by_cases hg : g = f
    · rw [if_pos hg, if_pos hg]
      exact .cons q b
    · rw [if_neg hg, if_neg hg]
      exact .cons a (RelFs.put q b)
theorem RelFs.length {K : PySem.W.Frag} {r : List Addr} {H : Hp} : ∀ {fs : List (Str × D)} {gs : List (Str × V)}, RelFs K r H fs gs → fs.length = gs.length
  | _, _, .nil => rfl
  | _, _, .cons _ b => congrArg Nat.succ b.length
theorem RelH.inst {K : PySem.W.Frag} {cl : Str → Addr} {r : List Addr} {h : Hd} {H : Hp} {n : Nat} {a : Addr} {c : Str} {fs : List (Str × D)} (R : RelH K cl r h H) (e : r[n]? = some a) (q : h[n]? = some (.ins c fs)) : ∃ dx gs, H a = some (.ins (cl c) dx gs) ∧ RelFs K r H fs gs := by
  obtain ⟨o, h1, h2⟩ := R.ob n _ a q e
  cases h2 with
  | ins m => exact ⟨_, _, h1, m⟩
/-- what an attribute of a name is, by classes: a field; a property; a constant of the class -/
structure AttrT where
  flds : List Str
  props : List (Str × Fn)
  cons : List (Str × D)
def noExc {α : Type} : Out α → Out α
  | .exc _ _ _ => .fail
  | o => o
theorem Post.noExc {K : PySem.W.Frag} {cl : Str → Addr} {r : List Addr} {H : Hp} {E E' : XK} {α : Type} {P : List Addr → Hd → Hp → α → Prop} {x : Out α} (p : Post K cl r H E P (Z.noExc x)) : Post K cl r H E' P x := by
  cases x with
  | fail => exact p
  | ok a h => exact p
  | exc c fs h => exact p.elim
theorem cx_false {P : Program} {w : World} {outer : List Env} {H : Hp} {s : Shared} {e : Value} {s' : Shared} (h : L2.CX P w outer H s E00 e s') : False := by
  obtain ⟨_, _, _, _, _, _, _, _, _, _, _, _, z⟩ := h
  exact z
def attrOf (T : AttrT) (f : Str) (x : D) (h : Hd) : Out D := match x with
  | .ref i => match h[i]? with
    | some (.ins c fs) => if c ∈ T.flds then (match fs.lookup f with
      | some d => .ok d h
      | none => .fail) else match T.props.lookup c with
      | some F => noExc (F [x] h)
      | none => match T.cons.lookup c with
        | some d => if fs.lookup f = none then .ok d h else .fail
        | none => .fail
    | _ => .fail
  | _ => .fail
structure AttrOk (P : Program) (w : World) (K : PySem.W.Frag) (mg : Str → Option Value) (base : Heap) (cl : Str → Addr) (k : Nat) (f : Str) (T : AttrT) : Prop where
  fld : ∀ c ∈ T.flds, Cls K (cl c) ∧ NoAttr K (cl c) f
  prop : ∀ c F, T.props.lookup c = some F → Cls K (cl c) ∧ ∃ p g fd, PropOf K (cl c) f p g ∧ FnM P w K mg base cl k g fd ["self"] F ∧ Binds K fd ["self"] []
  con : ∀ c d, T.cons.lookup c = some d → Cls K (cl c) ∧ ∃ v u, Con K (cl c) f v u ∧ ∀ r H, RelD K r H d v
def xAttr (T : AttrT) (f : Str) (m : XE) : XE := fun en h => (m en h).bind (attrOf T f)
section
variable {X : Cx} {cl : Str → Addr} {E : XK} {k n : Nat} {f C : Addr} {fd : FuncData} {ps ks : List Str} {F : Fn} {a : Arr} {x m g : Str} {p0 pos apos : Pos} {e o : Expr} {es : List Expr} {kws : List Keyword} {ms mk : XA} {mo mv : XE} {T : AttrT}
theorem em_attr (he : PEm X cl E o mo) (hT : AttrOk X.prog X.w X.K X.mg X.base cl k g T) (hr : RoomG (k + 1) X.A) (tk : Tk X E) (hab : attributeBase o g X.env (eval o X.env) = eval o X.env) : PEm X cl E (.Attribute o g pos) (xAttr T g mo) := by
  refine ⟨fun pins s σ H Q I ⟨r, h, en, R, re, p⟩ => ?_⟩
  have z : TDm X.K cl E mo σ H fun v H1 => ∃ r1 h1 d, RelH X.K cl r1 h1 H1 ∧ RelD X.K r1 H1 d v ∧ Post X.K cl r1 H1 E (PV X.K Q) (attrOf T g d h1) :=
    ⟨r, h, en, R, re, (Post.bind p).imp fun d r1 h1 H1 e1 R1 p1 v q1 => ⟨r1, h1, d, R1, q1, p1⟩⟩
  refine attr_of hab (thn (he.run pins s σ H _ I z) fun u s1 ⟨v, H1, I1, rv, r1, h1, d, R1, q1, p1⟩ => ?_)
  cases d with
  | ref i =>
    obtain ⟨b, rfl, hb⟩ := q1.ref_inv
    cases rv
    simp only [attrOf] at p1
    cases hi : h1[i]? with
    | none => rw [hi] at p1; exact p1.elim
    | some mo' =>
      rw [hi] at p1
      cases mo' with
      | ins c fs =>
        obtain ⟨dx, gs, hH, mF⟩ := R1.inst hb hi
        dsimp only at p1
        by_cases hc : c ∈ T.flds
        · rw [if_pos hc] at p1
          obtain ⟨c1, c2⟩ := hT.fld c hc
          cases hl : fs.lookup g with
          | none => rw [hl] at p1; exact p1.elim
          | some d =>
            rw [hl] at p1
            obtain ⟨v, l1, l2⟩ := mF.lookup.1 d hl
            exact getattr_ok I1 hH c1 c2 l1 fun u s2 I2 ru => ⟨v, H1, I2, ru, Post.end' R1 p1 l2⟩
        · rw [if_neg hc] at p1
          cases hp : T.props.lookup c with
          | some F =>
            rw [hp] at p1
            obtain ⟨c1, pp, gg, fd, c2, M, bd⟩ := hT.prop c F hp
            obtain ⟨mA, O, _, _, _, _⟩ := ins_get I1.hok hH
            obtain ⟨od, J, _⟩ := O.look
            obtain ⟨rest, hrec⟩ := c2.rec_
            have I2 := I1.tok (s1.toks + 1)
            have hcc : (PySem.W.clsIn X.K (cl c)).isSome = true := by
              obtain ⟨cd, h7, _⟩ := PySem.W.any_some c1.hd
              rw [h7]
              rfl
            refine PySem.W.get_bind I1.kIn J (PySem.W.plainGet_of (c1.get g)).1 (PySem.W.findObj_data hcc c2.at_ c2.get c2.tak) (PySem.W.plainGet_of (c1.get g)).2 (wpAny_call (PySem.W.prop_get (s := { s1 with toks := s1.toks + 1 }) I1.kIn hrec ?_))
            refine codeAny_mono (M.run X.A.in1 X.stack { s1 with toks := s1.toks + 1 } H1 ⟨[.ref b], []⟩ [.ref b] [.ref b] Q E00 hr.in1 I2.env0.in1 (bd _ [.ref b] I2.kIn rfl) rfl (.cons rfl .nil) ⟨r1, h1, [.ref i], R1, .cons (.ref hb) .nil, Post.noExc p1⟩) fun rs s' hq => ?_
            cases rs with
            | error er => exact (cx_false hq).elim
            | ok fl =>
              cases fl with
              | ret u =>
                obtain ⟨v, H', I3, rv, q3⟩ := I2.after hq
                show wpAny _ _ (handedOut u) _ _ _
                rw [PySem.W.handedOut_of (handed_of rv)]
                exact wpAny_pure ⟨v, H', I3, rv, q3⟩
              | next => exact hq.elim
              | brk => exact hq.elim
              | cont => exact hq.elim
          | none =>
            rw [hp] at p1
            cases hk : T.cons.lookup c with
            | none => rw [hk] at p1; exact p1.elim
            | some d =>
              rw [hk] at p1
              dsimp only at p1
              by_cases hl : fs.lookup g = none
              · rw [if_pos hl] at p1
                obtain ⟨c1, v, u, c2, c3⟩ := hT.con c d hk
                exact getcon_ok I1 hH c1 c2 (mF.lookup.2 hl) fun s2 I2 => ⟨v, H1, I2, c2.rel, Post.end' R1 p1 (c3 r1 H1)⟩
              · rw [if_neg hl] at p1
                exact p1.elim
      | _ => exact p1.elim
  | _ => exact p1.elim
/-- o.g = e -/
def setAttrM (cs : List Str) (g : Str) (x d : D) (en : En) (h : Hd) : SOut := match x with
  | .ref i => match h[i]? with
    | some (.ins c fs) => if c ∈ cs ∧ fs.length < 1000 then .nx en (h.set i (.ins c (putD g d fs))) else .fail
    | _ => .fail
  | _ => .fail
def sFld (cs : List Str) (g : Str) (mo mv : XE) : XS := fun en h => (mv en h).bindS fun d h1 => (mo en h1).bindS fun x h2 => setAttrM cs g x d en h2
theorem RelH.setIns {K : PySem.W.Frag} {cl : Str → Addr} {r : List Addr} {h : Hd} {H : Hp} {n : Nat} {a : Addr} {c : Str} {fs : List (Str × D)} {dx : Addr} {gs : List (Str × V)} (R : RelH K cl r h H) (e : r[n]? = some a) (m : RelFs K r H fs gs) : RelH K cl r (h.set n (.ins c fs)) (upd H a (.ins (cl c) dx gs)) ∧ Ext r H r (upd H a (.ins (cl c) dx gs)) := by
  have E1 : Ext r H r (upd H a (.ins (cl c) dx gs)) := Ext.write (List.mem_of_getElem? e)
  exact ⟨R.write e (.ins (m.mono (R.keep E1))), E1⟩
theorem sm_fld {cs : List Str} {pos' : Pos} (ho : PEm X cl E o mo) (hv : PEm X cl E e mv) (hcs : ∀ c ∈ cs, Cls X.K (cl c) ∧ NoAttr X.K (cl c) g) (hs : swapsWith e (some (.Attribute o g pos')) pos.line X.env = pure false) : PSm X cl E (.Assign [.Attribute o g pos'] e pos) (sFld cs g mo mv) :=
  (ps_fld ho hv hs).imp fun N σ H ⟨r, h, en, R, re, p⟩ => ⟨r, h, en, R, re, (PostS.bindS p).imp fun d r1 h1 H1 e1 R1 p1 v q1 =>
    ⟨r1, h1, en, R1, re.mono (R.keep e1), (PostS.bindS p1).imp fun x r2 h2 H2 e2 R2 p2 y q2 => by
      cases x with
      | ref i =>
        obtain ⟨b, rfl, hb⟩ := q2.ref_inv
        simp only [setAttrM] at p2
        cases hi : h2[i]? with
        | none => rw [hi] at p2; exact p2.elim
        | some mo' =>
          rw [hi] at p2
          cases mo' with
          | ins c fs =>
            dsimp only at p2
            by_cases hc : c ∈ cs ∧ fs.length < 1000
            · rw [if_pos hc] at p2
              obtain ⟨dx, gs, hH, mF⟩ := R2.inst hb hi
              obtain ⟨c1, c2⟩ := hcs c hc.1
              obtain ⟨R3, E3⟩ := R2.setIns (c := c) (dx := dx) hb (mF.put (f := g) (q1.mono (R1.keep e2)))
              refine ⟨b, cl c, dx, gs, rfl, hH, c1, c2, by rw [← mF.length]; exact hc.2, ?_⟩
              exact p2 r2 _ σ E3 R3 (((re.mono (R.keep e1)).mono (R1.keep e2)).mono (R2.keep E3))
            · rw [if_neg hc] at p2
              exact p2.elim
          | _ => exact p2.elim
      | _ => exact p2.elim⟩⟩
/-- methods of own classes, by the class -/
structure MethE where
  fn : Fn
  arr : Arr
  n : Nat
def methOf (L : List (Str × MethE)) (m : Str) (ms : XA) (x : D) (en : En) (h : Hd) : Out D := match x with
  | .ref i => match h[i]? with
    | some (.ins c fs) => match L.lookup c with
      | some M => if fs.lookup m = none then (ms en h).bind fun ds h2 => callA M.fn M.arr (M.n + 1) 0 (x :: ds) [] h2 else .fail
      | none => .fail
    | _ => .fail
  | _ => .fail
def xMeth (L : List (Str × MethE)) (m : Str) (mo : XE) (ms : XA) : XE := fun en h => (mo en h).bind fun x h1 => methOf L m ms x en h1
def MethOk (P : Program) (w : World) (K : PySem.W.Frag) (mg : Str → Option Value) (base : Heap) (cl : Str → Addr) (k : Nat) (m : Str) (L : List (Str × MethE)) : Prop :=
  ∀ c M, L.lookup c = some M → Cls K (cl c) ∧ ∃ f fd ps, Meth K (cl c) m f ∧ FnM P w K mg base cl k f fd ps M.fn ∧ BindM K fd ps (M.n + 1) [] M.arr
theorem meth_run {pins : List (Addr × Obj)} {s1 : Shared} {σ : L2.St} {H1 : Hp} {Q : VK} {v : V} {u : Value} {r1 : List Addr} {h1 : Hd} {d : D} {L : List (Str × MethE)} {pl : Sem Bool} {en : En}
    (hL : MethOk X.prog X.w X.K X.mg X.base cl k m L) (I1 : Inv X pins σ H1 s1) (rv : RelV v u) (R1 : RelH X.K cl r1 h1 H1) (re : RelE X.K r1 H1 en σ) (q1 : RelD X.K r1 H1 d v) (p1 : Post X.K cl r1 H1 E (PV X.K Q) (methOf L m ms d en h1)) {ct : Value × List Value → Sem Value}
    (go : ∀ (f : Addr) (fd : FuncData) (ps : List Str) (M : MethE) (b : Addr), u = .ref b → PySem.W.keepIn X.K (.ref f) = true → FnM X.prog X.w X.K X.mg X.base cl k f fd ps M.fn → BindM X.K fd ps (M.n + 1) [] M.arr → RelD X.K r1 H1 d (.ref b) →
      Post X.K cl r1 H1 E (PV X.K Q) ((ms en h1).bind fun ds h2 => callA M.fn M.arr (M.n + 1) 0 (d :: ds) [] h2) → wpAny (model X.prog X.w) X.A (ct (.ref f, [.ref b])) (EP X pins σ Q) X.xe s1) :
    wpAny (model X.prog X.w) X.A (getMethod u m pl) (fun fx s2 => wpAny (model X.prog X.w) X.A (ct fx) (EP X pins σ Q) X.xe s2) X.xe s1 := by
  cases d with
  | ref i =>
    obtain ⟨b, rfl, hb⟩ := q1.ref_inv
    cases rv
    simp only [methOf] at p1
    cases hi : h1[i]? with
    | none => rw [hi] at p1; exact p1.elim
    | some mo' =>
      rw [hi] at p1
      cases mo' with
      | ins c fs =>
        dsimp only at p1
        obtain ⟨dx, gs, hH, mF⟩ := R1.inst hb hi
        cases hl : L.lookup c with
        | none => rw [hl] at p1; exact p1.elim
        | some M =>
          rw [hl] at p1
          dsimp only at p1
          by_cases hf : fs.lookup m = none
          · rw [if_pos hf] at p1
            obtain ⟨c1, f, fd, ps, c2, M2, bd⟩ := hL c M hl
            exact getmeth_ok I1 hH c1 c2 (mF.lookup.2 hf) (go f fd ps M b rfl c2.kp M2 bd (.ref hb) p1)
          · rw [if_neg hf] at p1
            exact p1.elim
      | _ => exact p1.elim
  | _ => exact p1.elim
theorem em_meth {pl : Sem Bool} {L : List (Str × MethE)} (ho : PEm X cl E o mo) (hL : MethOk X.prog X.w X.K X.mg X.base cl k m L) (hr : RoomG k X.A) (tk : Tk X E) (ha : PAm X cl E (e :: es) ms)
    (hst : starEach (e :: es) X.env = (false, eval e X.env) :: starEach es X.env) (hpl : (backTo pos (starEach es X.env)).any (·.1) = false)
    (ht : eval (.Call (.Attribute o m apos) (e :: es) [] pos) X.env = (do
      let ov ← eval o X.env
      standAt apos.atName
      let (f, first) ← holding [ov] (getMethod ov m pl)
      callWith pos f first (backTo pos (starEach (e :: es) X.env)) (backToKw pos (keywordEach [] X.env)))) :
    PEm X cl E (.Call (.Attribute o m apos) (e :: es) [] pos) (xMeth L m mo ms) := by
  refine ⟨fun pins s σ H Q I ⟨r, h, en, R, re, p⟩ => ?_⟩
  have z : TDm X.K cl E mo σ H fun v H1 => ∃ r1 h1 d, RelH X.K cl r1 h1 H1 ∧ RelE X.K r1 H1 en σ ∧ RelD X.K r1 H1 d v ∧ Post X.K cl r1 H1 E (PV X.K Q) (methOf L m ms d en h1) :=
    ⟨r, h, en, R, re, (Post.bind p).imp fun d r1 h1 H1 e1 R1 p1 v q1 => ⟨r1, h1, d, R1, re.mono (R.keep e1), q1, p1⟩⟩
  refine PySem.W.methodCall_KW (pl := pl) (thn (ho.run pins s σ H _ I z) fun u s1 ⟨v, H1, I1, rv, r1, h1, d, R1, re1, q1, p1⟩ => ?_) ht
  refine meth_run (ct := fun fx => callWith pos fx.1 fx.2 (backTo pos (starEach (e :: es) X.env)) (backToKw pos (keywordEach [] X.env))) hL I1 rv R1 re1 q1 p1 fun f fd ps M b eu hk M2 bd qd pc => ?_
  have z2 : TAm X.K cl E ms σ H1 fun vs H2 => ∃ r2 h2 ds, RelH X.K cl r2 h2 H2 ∧ RelD X.K r2 H2 d (.ref b) ∧ RelDs X.K r2 H2 ds vs ∧ Post X.K cl r2 H2 E (PV X.K Q) (callA M.fn M.arr (M.n + 1) 0 (d :: ds) [] h2) :=
    ⟨r1, h1, en, R1, re1, (Post.bind pc).imp fun ds r2 h2 H2 e2 R2 p2 vs q2 => ⟨r2, h2, ds, R2, qd.mono (R1.keep e2), q2, p2⟩⟩
  refine PySem.W.callWith_K (first := [.ref b]) (h₀ := X.base) I1.ok.mod.kin hk (thn (ha.run pos pins s1 σ H1 _ I1 z2) fun us s2 ⟨vs, H2, I2, r3, r2, h2, ds, R2, qd2, q2, p2⟩ => ⟨I2.kIn, ?_⟩) hst hpl
  exact run_fnM (us := .ref b :: us) (vs := .ref b :: vs) (ks := []) (ws := []) (es := []) (vz := []) M2 hr bd tk I2 R2 (.cons qd2 q2) (.cons rfl r3) .nil .nil p2
theorem em_meth0 {pl : Sem Bool} {L : List (Str × MethE)} (ho : PEm X cl E o mo) (hL : MethOk X.prog X.w X.K X.mg X.base cl k m L) (hr : RoomG k X.A) (tk : Tk X E)
    (ht : eval (.Call (.Attribute o m apos) [] [] pos) X.env = (do
      let ov ← eval o X.env
      standAt apos.atName
      let (f, first) ← holding [ov] (getMethod ov m pl)
      callWith pos f first (backTo pos (starEach [] X.env)) (backToKw pos (keywordEach [] X.env)))) :
    PEm X cl E (.Call (.Attribute o m apos) [] [] pos) (xMeth L m mo xNil) := by
  refine ⟨fun pins s σ H Q I ⟨r, h, en, R, re, p⟩ => ?_⟩
  have z : TDm X.K cl E mo σ H fun v H1 => ∃ r1 h1 d, RelH X.K cl r1 h1 H1 ∧ RelE X.K r1 H1 en σ ∧ RelD X.K r1 H1 d v ∧ Post X.K cl r1 H1 E (PV X.K Q) (methOf L m xNil d en h1) :=
    ⟨r, h, en, R, re, (Post.bind p).imp fun d r1 h1 H1 e1 R1 p1 v q1 => ⟨r1, h1, d, R1, re.mono (R.keep e1), q1, p1⟩⟩
  refine PySem.W.methodCall_KW (pl := pl) (thn (ho.run pins s σ H _ I z) fun u s1 ⟨v, H1, I1, rv, r1, h1, d, R1, re1, q1, p1⟩ => ?_) ht
  refine meth_run (ct := fun fx => callWith pos fx.1 fx.2 (backTo pos (starEach [] X.env)) (backToKw pos (keywordEach [] X.env))) hL I1 rv R1 re1 q1 p1 fun f fd ps M b eu hk M2 bd qd pc => ?_
  exact PySem.W.callWith_K0 (first := [.ref b]) I1.kIn hk (run_fnM (us := [.ref b]) (vs := [.ref b]) (ks := []) (ws := []) (es := []) (vz := []) M2 hr bd tk I1 R1 (.cons qd .nil) (.cons rfl .nil) .nil .nil pc)
/-! ### making instances -/
def makeA (F : Fn) (a : Arr) (n m : Nat) (c : Str) (ds es : List D) (h : Hd) : Out D := (callA F a (n + 1) m (.ref h.length :: ds) es (h ++ [.ins c []])).bind fun d h2 => if d = .non then .ok (.ref h.length) h2 else .fail
def xMake (F : Fn) (a : Arr) (n : Nat) (c : Str) (ms : XA) : XE := fun en h => (ms en h).bind fun ds h1 => makeA F a n 0 c ds [] h1
def xMakeK (F : Fn) (a : Arr) (n m : Nat) (c : Str) (ms mk : XA) : XE := fun en h => (ms en h).bind fun ds h1 => (mk en h1).bind fun es h2 => makeA F a n m c ds es h2
theorem run_makeM {pins : List (Addr × Obj)} {σ : L2.St} {H : Hp} {s : Shared} {Q : VK} {us ws : List Value} {vs vz : List V} {ds es : List D} {r : List Addr} {h : Hd} {c : Str} (Mk' : Mk X.K (cl c) f) (M : FnM X.prog X.w X.K X.mg X.base cl k f fd ps F) (hr : RoomG (k + 1) X.A) (b : BindM X.K fd ps (n + 1) ks a)
    (tk : Tk X E) (I : Inv X pins σ H s) (R : RelH X.K cl r h H) (q1 : RelDs X.K r H ds vs) (v1 : Vals vs us) (q2 : RelDs X.K r H es vz) (v2 : Vals vz ws) (p : Post X.K cl r H E (PV X.K Q) (makeA F a n ks.length c ds es h)) :
    wpAny (model X.prog X.w) X.A (call (.ref (cl c)) us (ks.zip ws)) (EP X pins σ Q) X.xe s := by
  have I2 := Inv.made (C := cl c) I
  have f1 : H s.heap.objs.size = none := I.hok.fresh (Nat.le_refl _)
  have f2 : H (s.heap.objs.size + 1) = none := I.hok.fresh (Nat.le_succ _)
  have ne : s.heap.objs.size + 1 ≠ s.heap.objs.size := Nat.succ_ne_self _
  have e1 : Ext r H r (upd H s.heap.objs.size (.own (s.heap.objs.size + 1))) := Ext.new R f1
  have R1 : RelH X.K cl r h (upd H s.heap.objs.size (.own (s.heap.objs.size + 1))) := R.new f1
  have f3 : upd H s.heap.objs.size (.own (s.heap.objs.size + 1)) (s.heap.objs.size + 1) = none := by rw [upd_ne ne]; exact f2
  have e2 : Ext r _ (r ++ [s.heap.objs.size + 1]) (upd (upd H s.heap.objs.size (.own (s.heap.objs.size + 1))) (s.heap.objs.size + 1) (.ins (cl c) s.heap.objs.size [])) := Ext.push R1 f3
  have R2 := R1.push (mo := .ins c []) (o := .ins (cl c) s.heap.objs.size []) f3 (.ins .nil)
  have e12 := e1.trans e2
  have kk := R.keep e12
  have p2 : Post X.K cl r H E (PV X.K Q) ((callA F a (n + 1) ks.length (.ref h.length :: ds) es (h ++ [.ins c []])).bind fun d h2 => if d = .non then .ok (.ref h.length) h2 else .fail) := p
  have p3 := Post.step e12 (Post.bind p2)
  have hx : RelD X.K (r ++ [s.heap.objs.size + 1]) (upd (upd H s.heap.objs.size (.own (s.heap.objs.size + 1))) (s.heap.objs.size + 1) (.ins (cl c) s.heap.objs.size [])) (.ref h.length) (.ref (s.heap.objs.size + 1)) := .ref (push_get R)
  unfold callA at p3
  by_cases hn : (D.ref h.length :: ds).length = n + 1 ∧ es.length = ks.length
  · rw [if_pos hn] at p3
    have l1 : (Value.ref (s.heap.objs.size + 1) :: us).length = n + 1 := by
      rw [List.length_cons, ← v1.length, ← q1.length]
      exact hn.1
    have l2 : ws.length = ks.length := by rw [← v2.length, ← q2.length]; exact hn.2
    obtain ⟨zs, hb, hz, hx2⟩ := b.to _ (Value.ref (s.heap.objs.size + 1) :: us) ws I2.kIn l1 l2
    obtain ⟨xs, ys, ea, q3, v3⟩ := hx2 _ _ _ es _ vz (.cons hx (q1.mono kk)) (.cons rfl v1) (q2.mono kk) v2
    rw [ea] at p3
    refine wpAny_call (make_map (f := f) I.kIn Mk'.makes Mk'.init (beq_iff_eq.mp Mk'.fn) (codeAny_mono (M.run _ X.stack _ _ ⟨Value.ref (s.heap.objs.size + 1) :: us, ks.zip ws⟩ zs ys (fun v H2 => v = .non ∧ Q (.ref (s.heap.objs.size + 1)) H2) E (hr.make (cl c) us (ks.zip ws))
      (I2.env0.make (cl c) us (ks.zip ws)) hb hz v3 ⟨_, _, xs, R2, q3, p3.imp fun d r3 h3 H3 e3 R3 p4 v qv => ?_⟩) fun rs s' hq => ?_))
    · by_cases hd : d = .non
      · rw [if_pos hd] at p4
        subst hd
        exact ⟨qv.non_inv, Post.end' R3 p4 (hx.mono (R2.keep e3))⟩
      · rw [if_neg hd] at p4
        exact p4.elim
    · cases rs with
      | error er => exact passes_call tk (fun _ _ _ _ z => z) pins σ _ _ er s' I2 hq
      | ok fl =>
        cases fl with
        | ret u =>
          obtain ⟨v, H', I3, rv, ev, q5⟩ := I2.after hq
          subst ev
          exact ⟨rv, ⟨V.ref (s.heap.objs.size + 1), H', I3, rfl, q5⟩⟩
        | next => exact hq.elim
        | brk => exact hq.elim
        | cont => exact hq.elim
  · rw [if_neg hn] at p3
    exact p3.elim
theorem em_make {c : Str} (Mk' : Mk X.K (cl c) f) (M : FnM X.prog X.w X.K X.mg X.base cl k f fd ps F) (hr : RoomG (k + 1) X.A) (tk : Tk X E) (hg : Gl X x) (hm : X.mg x = some (.ref (cl c))) (ha : PAm X cl E (e :: es) ms)
    (b : BindM X.K fd ps (n + 1) [] a) (hdb : (x == ("__debug__" : Str)) = false) (he : starEach (e :: es) X.env = (false, eval e X.env) :: starEach es X.env) (hpl : (backTo pos (starEach es X.env)).any (·.1) = false) :
    PEm X cl E (.Call (.Name x p0) (e :: es) [] pos) (xMake F a n c ms) := by
  refine ⟨fun pins s σ H Q I ⟨r, h, en, R, re, p⟩ => ?_⟩
  refine wpAny_Call_Name_kw (ld_glob I hg hm ?_ hdb)
  have z : TAm X.K cl E ms σ H fun vs H1 => ∃ r1 h1 ds, RelH X.K cl r1 h1 H1 ∧ RelDs X.K r1 H1 ds vs ∧ Post X.K cl r1 H1 E (PV X.K Q) (makeA F a n 0 c ds [] h1) :=
    ⟨r, h, en, R, re, (Post.bind p).imp fun ds r1 h1 H1 e1 R1 p1 vs q1 => ⟨r1, h1, ds, R1, q1, p1⟩⟩
  refine PySem.W.callWith_K (h₀ := X.base) I.ok.mod.kin Mk'.kp (thn (ha.run pos pins s σ H _ I z) fun us s1 ⟨vs, H1, I1, rv, r1, h1, ds, R1, q1, p1⟩ => ⟨I1.kIn, ?_⟩) he hpl
  exact run_makeM (ks := []) (ws := []) (es := []) (vz := []) Mk' M hr b tk I1 R1 q1 rv .nil .nil p1
theorem em_make0 {c : Str} (Mk' : Mk X.K (cl c) f) (M : FnM X.prog X.w X.K X.mg X.base cl k f fd ps F) (hr : RoomG (k + 1) X.A) (tk : Tk X E) (hg : Gl X x) (hm : X.mg x = some (.ref (cl c)))
    (b : BindM X.K fd ps 1 [] a) (hdb : (x == ("__debug__" : Str)) = false) : PEm X cl E (.Call (.Name x p0) [] [] pos) (xMake F a 0 c xNil) := by
  refine ⟨fun pins s σ H Q I ⟨r, h, en, R, re, p⟩ => ?_⟩
  refine wpAny_Call_Name_kw (ld_glob I hg hm ?_ hdb)
  exact PySem.W.callWith_K0 I.kIn Mk'.kp (run_makeM (n := 0) (ks := []) (us := []) (ws := []) (ds := []) (es := []) (vs := []) (vz := []) Mk' M hr b tk I R .nil .nil .nil .nil p)
theorem em_makeK {c : Str} (Mk' : Mk X.K (cl c) f) (M : FnM X.prog X.w X.K X.mg X.base cl k f fd ps F) (hr : RoomG (k + 1) X.A) (tk : Tk X E) (hg : Gl X x) (hm : X.mg x = some (.ref (cl c))) (ha : PAm X cl E (e :: es) ms) (hkw : PKm X cl E kws mk)
    (b : BindM X.K fd ps (n + 1) ks a) (hall : (backToKw pos (keywordEach kws X.env)).all (·.1.isSome) = true) (hks : (backToKw pos (keywordEach kws X.env)).filterMap (·.1) = ks) (hdb : (x == ("__debug__" : Str)) = false)
    (he : starEach (e :: es) X.env = (false, eval e X.env) :: starEach es X.env) (hpl : ((backTo pos (starEach (e :: es) X.env)).any (·.1) || (backToKw pos (keywordEach kws X.env)).any (·.1.isNone)) = false) :
    PEm X cl E (.Call (.Name x p0) (e :: es) kws pos) (xMakeK F a n ks.length c ms mk) := by
  refine ⟨fun pins s σ H Q I ⟨r, h, en, R, re, p⟩ => ?_⟩
  refine wpAny_Call_Name_kw (ld_glob I hg hm ?_ hdb)
  have z : TAm X.K cl E ms σ H fun vs H1 => ∃ r1 h1 ds, RelH X.K cl r1 h1 H1 ∧ RelE X.K r1 H1 en σ ∧ RelDs X.K r1 H1 ds vs ∧ Post X.K cl r1 H1 E (PV X.K Q) ((mk en h1).bind fun es h2 => makeA F a n ks.length c ds es h2) :=
    ⟨r, h, en, R, re, (Post.bind p).imp fun ds r1 h1 H1 e1 R1 p1 vs q1 => ⟨r1, h1, ds, R1, re.mono (R.keep e1), q1, p1⟩⟩
  refine PySem.W.callWith_KW (h₀ := X.base) I.ok.mod.kin Mk'.kp hall (thn (ha.run pos pins s σ H _ I z) fun us s1 ⟨vs, H1, I1, rv, r1, h1, ds, R1, re1, q1, p1⟩ => ?_) hpl he
  have z2 : TAm X.K cl E mk σ H1 fun vz H2 => ∃ r2 h2 es, RelH X.K cl r2 h2 H2 ∧ RelDs X.K r2 H2 ds vs ∧ RelDs X.K r2 H2 es vz ∧ Post X.K cl r2 H2 E (PV X.K Q) (makeA F a n ks.length c ds es h2) :=
    ⟨r1, h1, en, R1, re1, (Post.bind p1).imp fun es r2 h2 H2 e2 R2 p2 vz q2 => ⟨r2, h2, es, R2, q1.mono (R1.keep e2), q2, p2⟩⟩
  refine thn (hkw.run pos pins s1 σ H1 _ I1 z2) fun ws s2 ⟨vz, H2, I2, rz, r2, h2, es, R2, q3, q4, p2⟩ => ⟨I2.kIn, ?_⟩
  rw [hks]
  exact run_makeM Mk' M hr b tk I2 R2 q3 rv q4 rz p2
end
end Z
/-! text ZS1 -/
set_option maxHeartbeats 2000000
/-! ZS1: a small set (at most four members) whose members are nested tuples of ints, in the model's words. -/
namespace Zs
open PySem PySem.Spec PyProof.Rows L2
mutual
/-- ints, and tuples of such keys -/
def numK : NestedKey → Bool
  | .num _ => true
  | .tup ks => numKs ks
  | _ => false
def numKs : List NestedKey → Bool
  | [] => true
  | k :: ks => numK k && numKs ks
end
/-- the tuple at a is the key k -/
structure IsK (h : Heap) (k : NestedKey) (a : Addr) : Prop where
  is : NestedIs h k (.ref a)
  dp : k.depth ≤ 8
  nm : numK k = true
section
variable {P : Program} {w : World}
mutual
theorem cls_k : ∀ (k : NestedKey) (v : Value) (n : Nat) (s : Shared), NestedIs s.heap k v → k.depth ≤ n → numK k = true → ∀ (A : Around) (E : Value → Shared → Prop) (Q : Bool → Shared → Prop), Q false s → wpAny (model P w) A (ofAClassStatement n v) Q E s
  | .none, _, _, _, _, _, e, _, _, _, _ => by cases e
  | .text _, _, _, _, _, _, e, _, _, _, _ => by cases e
  | .num i, _, n, s, x, _, _, A, E, Q, h => by
    cases x with
    | bool e => cases n <;> exact wpAny_pure h
    | int _ t => cases n <;> exact wpAny_pure h
  | .tup ks, _, n, s, x, hn, e, A, E, Q, h => by
    cases x with
    | @tup b o vs m _ hg hc hd hk =>
      simp only [NestedKey.depth] at hn
      cases n with
      | zero => omega
      | succ n =>
        have hT : s.TypeIs (.ref b) "tuple" := ⟨o, hg, hc⟩
        unfold ofAClassStatement
        refine wpAny_bind (wpAny_typeOf hT ?_)
        dsimp only
        have et : (("tuple" : String) == "tuple") = true := by decide
        simp only [et, if_true, Bool.not_true, Bool.false_eq_true, if_false]
        try refine wpAny_bind (wpAny_pure ?_)
        try simp only [Bool.not_true, Bool.false_eq_true, if_false]
        show wpAny _ _ (seqItems? (.ref b) >>= _) _ _ s
        refine wpAny_bind (wpAny_seqItems hg hd ?_)
        dsimp only
        refine wpAny_bind ?_
        show wpAny _ _ (forIn vs _ _) _ _ s
        rw [← Array.forIn_toList]
        have all := cls_ks ks vs.toList n s hk (by omega) e
        refine wpAny_forIn_list _ (fun zs r u => (r.1 = none ∧ u = s) ∧ ∀ v ∈ zs, ∀ (A : Around) (E : Value → Shared → Prop) (Q : Bool → Shared → Prop), Q false s → wpAny (model P w) A (ofAClassStatement n v) Q E s) _ ?_ ?_ _ _ ⟨⟨rfl, rfl⟩, all⟩
        · rintro v zs r u ⟨⟨hr, rfl⟩, al⟩
          refine wpAny_bind (al v List.mem_cons_self _ _ _ ?_)
          simp only [Bool.false_eq_true, if_false]
          exact wpAny_pure ⟨⟨rfl, rfl⟩, fun y hy => al y (List.mem_cons_of_mem _ hy)⟩
        · rintro ⟨r1, r2⟩ u ⟨⟨hr, rfl⟩, _⟩
          simp only at hr
          subst hr
          exact wpAny_pure h
theorem cls_ks : ∀ (ks : List NestedKey) (vs : List Value) (n : Nat) (s : Shared), NestedAll s.heap ks vs → NestedKey.depthAll ks ≤ n → numKs ks = true → ∀ v ∈ vs, ∀ (A : Around) (E : Value → Shared → Prop) (Q : Bool → Shared → Prop), Q false s → wpAny (model P w) A (ofAClassStatement n v) Q E s
  | [], _, _, _, x, _, _, v, hv => by cases x; cases hv
  | k :: ks, _, n, s, x, hn, e, v, hv => by
    cases x with
    | cons x1 x2 =>
      simp only [NestedKey.depthAll] at hn
      simp only [numKs, Bool.and_eq_true] at e
      rcases List.mem_cons.mp hv with q | hv
      · rw [q]; exact cls_k k _ n s x1 (by omega) e.1
      · exact cls_ks ks _ n s x2 (by omega) e.2 v hv
end
mutual
theorem hby_k : ∀ (k : NestedKey) (v : Value) (n : Nat) (s : Shared), NestedIs s.heap k v → k.depth ≤ n → numK k = true → ∀ (A : Around) (E : Value → Shared → Prop) (Q : Bool → Shared → Prop), Q true s → wpAny (model P w) A (hashByValue n v) Q E s
  | .none, _, _, _, _, _, e, _, _, _, _ => by cases e
  | .text _, _, _, _, _, _, e, _, _, _, _ => by cases e
  | .num i, _, n, s, x, _, _, A, E, Q, h => by
    cases x with
    | bool e => cases n <;> exact wpAny_pure h
    | int _ t => cases n <;> exact wpAny_pure h
  | .tup ks, _, n, s, x, hn, e, A, E, Q, h => by
    cases x with
    | @tup b o vs m _ hg hc hd hk =>
      simp only [NestedKey.depth] at hn
      cases n with
      | zero => omega
      | succ n =>
        have hT : s.TypeIs (.ref b) "tuple" := ⟨o, hg, hc⟩
        unfold hashByValue
        refine wpAny_bind (wpAny_specialOf hT F.slot_tuple_hash.lookup ?_)
        show wpAny _ _ (seqItems? (.ref b) >>= _) _ _ s
        refine wpAny_bind (wpAny_seqItems hg hd ?_)
        refine wpAny_bind ?_
        show wpAny _ _ (forIn vs _ _) _ _ s
        rw [← Array.forIn_toList]
        have all := hby_ks ks vs.toList n s hk (by omega) e
        refine wpAny_forIn_list _ (fun zs r u => (r.1 = none ∧ u = s) ∧ ∀ v ∈ zs, ∀ (A : Around) (E : Value → Shared → Prop) (Q : Bool → Shared → Prop), Q true s → wpAny (model P w) A (hashByValue n v) Q E s) _ ?_ ?_ _ _ ⟨⟨rfl, rfl⟩, all⟩
        · rintro v zs r u ⟨⟨hr, rfl⟩, al⟩
          refine wpAny_bind (al v List.mem_cons_self _ _ _ ?_)
          simp only [Bool.not_true, Bool.false_eq_true, if_false]
          exact wpAny_pure ⟨⟨rfl, rfl⟩, fun y hy => al y (List.mem_cons_of_mem _ hy)⟩
        · rintro ⟨r1, r2⟩ u ⟨⟨hr, rfl⟩, _⟩
          simp only at hr
          subst hr
          exact wpAny_pure h
theorem hby_ks : ∀ (ks : List NestedKey) (vs : List Value) (n : Nat) (s : Shared), NestedAll s.heap ks vs → NestedKey.depthAll ks ≤ n → numKs ks = true → ∀ v ∈ vs, ∀ (A : Around) (E : Value → Shared → Prop) (Q : Bool → Shared → Prop), Q true s → wpAny (model P w) A (hashByValue n v) Q E s
  | [], _, _, _, x, _, _, v, hv => by cases x; cases hv
  | k :: ks, _, n, s, x, hn, e, v, hv => by
    cases x with
    | cons x1 x2 =>
      simp only [NestedKey.depthAll] at hn
      simp only [numKs, Bool.and_eq_true] at e
      rcases List.mem_cons.mp hv with q | hv
      · rw [q]; exact hby_k k _ n s x1 (by omega) e.1
      · exact hby_ks ks _ n s x2 (by omega) e.2 v hv
end
variable {A : Around} {E : Value → Shared → Prop} {s : Shared}
/-- looking for a key among keys shows nothing -/
theorem unseen {k : NestedKey} {b : Addr} {Q : Bool → Shared → Prop} (hk : IsK s.heap k b) {ys : List Value} (hy : ∀ y ∈ ys, ∃ q c, y = Value.ref c ∧ IsK s.heap q c) (h : Q false s) : wpAny (model P w) A (searchCouldBeSeen (.ref b) ys) Q E s := by
  unfold searchCouldBeSeen
  refine wpAny_bind ?_
  refine wpAny_forIn_list _ (fun zs r u => (r.1 = none ∧ u = s) ∧ ∀ y ∈ zs, ∃ q c, y = Value.ref c ∧ IsK s.heap q c) _ ?_ ?_ _ _ ⟨⟨rfl, rfl⟩, hy⟩
  · rintro v zs r u ⟨⟨hr, rfl⟩, al⟩
    obtain ⟨q, c, rfl, hc⟩ := al v List.mem_cons_self
    have al2 : ∀ y ∈ zs, ∃ q c, y = Value.ref c ∧ IsK u.heap q c := fun y hy => al y (List.mem_cons_of_mem _ hy)
    dsimp only
    by_cases hv : (b == c || (carriedByValue (.ref b) && carriedByValue (.ref c))) = true
    · exact wp_if_pos hv (wpAny_pure ⟨⟨rfl, rfl⟩, al2⟩)
    · refine wp_if_neg hv (wpAny_bind (quiet_key k _ 8 u hk.is hk.dp _ _ _ ?_))
      simp only [Bool.not_true, Bool.false_eq_true, if_false]
      refine wpAny_bind (quiet_key q _ 8 u hc.is hc.dp _ _ _ ?_)
      simp only [Bool.not_true, Bool.false_eq_true, if_false]
      refine wpAny_bind (cls_k k _ 8 u hk.is hk.dp hk.nm _ _ _ ?_)
      simp only [Bool.false_eq_true, if_false]
      refine wpAny_bind (cls_k q _ 8 u hc.is hc.dp hc.nm _ _ _ ?_)
      simp only [Bool.false_eq_true, if_false]
      exact wpAny_pure ⟨⟨rfl, rfl⟩, al2⟩
  · rintro ⟨r1, r2⟩ u ⟨⟨hr, rfl⟩, _⟩
    simp only at hr
    subst hr
    exact wpAny_pure h
end
/-- the set at a has just the keys of L, in its table's order -/
structure SetN (w : World) (h : Heap) (a : Addr) (L : List (Addr × NestedKey)) (es : Array (Int × Value)) (ep : Nat) (t : SetTable) : Prop where
  ob : ∃ o, h.get? a = some o ∧ o.ExactSet ∧ o.data = .set es ep t
  rows : es.toList = L.map fun p => (p.2.hash w, Value.ref p.1)
  tab : TabOk t (L.map fun p => p.2.hash w)
  nd : (L.map (·.2)).Nodup
  plain : t.plain = true
  led : w.params.followText "set-order" = true ∨ t.led = true
  mask : t.mask = 7
  few : L.length ≤ 4
section
variable {P : Program} {w : World} {A : Around} {E : Value → Shared → Prop} {s : Shared} {a : Addr} {L : List (Addr × NestedKey)} {es : Array (Int × Value)} {ep : Nat} {t : SetTable}
theorem SetN.size (R : SetN w s.heap a L es ep t) : es.size = L.length := by
  have h := congrArg List.length R.rows
  rw [Array.length_toList, List.length_map] at h
  exact h
theorem SetN.place (R : SetN w s.heap a L es ep t) : t.place.size = L.length := by
  have h := R.tab.sz
  rwa [List.length_map] at h
theorem SetN.fits (R : SetN w s.heap a L es ep t) : t.fits es.size = true := by
  have h2 := R.size
  have h1 := R.place
  have h3 := R.mask
  have h4 := R.few
  unfold SetTable.fits SetTable.fill
  rw [R.tab.dm, Bool.and_eq_true, beq_iff_eq, decide_eq_true_eq]
  show t.place.size = es.size ∧ t.place.size + 0 ≤ t.mask
  omega
theorem SetN.entry (R : SetN w s.heap a L es ep t) {i : Nat} {p : Addr × NestedKey} (h : L[i]? = some p) : es[i]? = some (p.2.hash w, Value.ref p.1) := by
  rw [← Array.getElem?_toList, R.rows, List.getElem?_map, h]
  rfl
theorem SetN.gw (R : SetN w s.heap a L es ep t) : ¬ t.gaveWay = true := by
  unfold SetTable.gaveWay
  rw [R.mask]
  decide
theorem SetN.keys (R : SetN w s.heap a L es ep t) (i : Nat) (p : Addr × NestedKey) (hp : L[i]? = some p) : (es[i]?.map (·.1)).getD 0 = p.2.hash w := by rw [R.entry hp]; rfl
theorem nth_dm (m : Nat) : ∀ (n : Nat) (p : SetTable.Probe), p.dummy = none → (nth m p n).dummy = none
  | 0, _, h => h
  | n + 1, p, h => nth_dm m n (adv m p) (by unfold adv; split <;> exact h)
/-- the search, from the c-th step of the way -/
theorem srch (R : SetN w s.heap a L es ep t) (tp : ∀ p ∈ L, IsK s.heap p.2 p.1) {x : Addr} {k : NestedKey} (hx : IsK s.heap k x) (hu : A.units + 20 < cLine) {K : Nat} (K1 : K < 10 * SetTable.turns t.mask)
    (K2 : way t.mask (k.hash w) K ∉ t.place.toList) (K3 : ∀ c, c < K → way t.mask (k.hash w) c ∈ t.place.toList) {Q : SetFound → Shared → Prop}
    (yes : k ∈ L.map (·.2) → Q (.there none) s) (no : k ∉ L.map (·.2) → Q (.free (way t.mask (k.hash w) K) false) s) :
    ∀ (f c : Nat) (st : Option SetTable.Probe), st.getD (t.probeStart (k.hash w)) = nth t.mask (runAt t.mask (SetTable.bits (k.hash w) % (t.mask + 1)) (SetTable.bits (k.hash w))) c → c ≤ K → K - c < f →
      (∀ (i : Nat) p, L[i]? = some p → p.2 = k → ∃ d, c ≤ d ∧ d < K ∧ t.place.toList[i]? = some (way t.mask (k.hash w) d)) →
      wpAny (model P w) A (setSearchFrom a (.ref x) (k.hash w) true f st) Q E s := by
  intro f
  induction f with
  | zero => intro c st _ _ hf; exact absurd hf (Nat.not_lt_zero _)
  | succ f ih =>
    intro c st e0 hc hf rest
    obtain ⟨o, ho, hex, hd⟩ := R.ob
    generalize hB : runAt t.mask (SetTable.bits (k.hash w) % (t.mask + 1)) (SetTable.bits (k.hash w)) = B at e0
    have wy : ∀ n, (nth t.mask B n).j = way t.mask (k.hash w) n := fun n => by rw [← hB]
    have sh : ∀ q, nth t.mask (nth t.mask B c) q = nth t.mask B (c + q) := fun q => (nth_add t.mask c B q).symm
    rw [setSearchFrom_succ]
    refine wpAny_bind (wpAny_setState_of ho hd R.fits ?_)
    dsimp only
    refine wp_if_neg R.gw ?_
    try refine wpAny_bind (wpAny_pure ?_)
    have spec := go_spec t R.tab.ris R.tab.dm (fun i => (es[i]?.map (·.1)).getD 0) (k.hash w) (10 * SetTable.turns t.mask) (K - c) (nth t.mask B c) (nth_dm _ _ _ (by rw [← hB]; rfl)) (by omega)
      (fun q hq => by rw [sh, wy]; exact K3 _ (by omega)) (by rw [sh, wy, Nat.add_sub_cancel' hc]; exact K2)
    have goes : ∀ m, SetTable.probe.go t (fun i => (es[i]?.map (·.1)).getD 0) (k.hash w) (10 * SetTable.turns t.mask) (nth t.mask B c) = some m → t.probe (fun i => (es[i]?.map (·.1)).getD 0) (k.hash w) (st.getD (t.probeStart (k.hash w))) = some m := fun m hm => by rw [e0]; exact hm
    rcases spec with ⟨q, i, hq, hi, hh, hno, hpr⟩ | ⟨hno, hpr⟩
    · rw [goes _ hpr]
      dsimp only
      rw [sh, wy] at hi ⊢
      rw [sh]
      have hil : i < L.length := by
        have l1 : i < t.place.toList.length := (List.getElem?_eq_some_iff.mp hi).1
        rw [Array.length_toList, R.place] at l1
        exact l1
      obtain ⟨p, hp⟩ : ∃ p, L[i]? = some p := ⟨_, List.getElem?_eq_getElem hil⟩
      have hm : p ∈ L := List.mem_of_getElem? hp
      have core : wpAny (model P w) A (searchRest a (.ref x) (k.hash w) true f es t (way t.mask (k.hash w) (c + q)) i (nth t.mask B (c + (q + 1)))) Q E s := by
        unfold searchRest
        rw [R.entry hp]
        dsimp only
        refine wpAny_bind (wpAny_holding (eqAt_key p.2 k A s _ _ (tp p hm).is hx.is (by have := hx.dp; omega) _ _ _ _ ?_))
        refine wpAny_bind (wpAny_setState_of ho hd R.fits ?_)
        dsimp only
        by_cases same : p.2 = k
        · have eb : NestedKey.beq p.2 k = true := by rw [same]; exact NestedKey.beq_self k
          refine wp_if_pos (by simp [eb]) (wpAny_pure (yes ?_))
          exact List.mem_map.mpr ⟨p, hm, same⟩
        · have eb : NestedKey.beq p.2 k = false := by
            cases z : NestedKey.beq p.2 k with
            | false => rfl
            | true => exact absurd (NestedKey.eq_of_beq _ _ z) same
          refine wp_if_neg (by simp [eb]) ?_
          try refine wpAny_bind (wpAny_pure ?_)
          rw [sameMem]
          dsimp only
          have hsl : t.slot (way t.mask (k.hash w) (c + q)) = .live i := slot_live R.tab.ris hi
          simp only [if_true, hsl, R.entry hp]
          refine wpAny_bind (wpAny_isSame_ref_self (wpAny_bind (wpAny_pure ?_)))
          simp only [if_true]
          refine wp_if_neg (by simp [eb]) ?_
          refine ih (c + (q + 1)) _ (by rw [hB]; rfl) (by omega) (by omega) fun j p' hp' hk' => ?_
          obtain ⟨d, d1, d2, d3⟩ := rest j p' hp' hk'
          refine ⟨d, ?_, d2, d3⟩
          rcases Nat.lt_trichotomy d (c + q) with z | z | z
          · refine absurd ((R.keys j p' hp').trans (by rw [hk'])) (hno (d - c) j (by omega) ?_)
            rw [sh, wy, Nat.add_sub_cancel' d1]
            exact d3
          · rw [z] at d3
            have s0 := slot_live R.tab.ris d3
            rw [hsl] at s0
            injection s0 with s0
            rw [← s0, hp] at hp'
            exact absurd ((congrArg Prod.snd (Option.some.inj hp')).trans hk') same
          · omega
      by_cases hl : t.led = true
      · refine wp_if_neg (by simp [hl]) ?_
        try refine wpAny_bind (wpAny_pure ?_)
        exact core
      · refine wp_if_pos (by simp [hl]) (wpAny_bind (unseen hx (fun y hy => ?_) ?_))
        · obtain ⟨e, he, ee⟩ := List.mem_map.mp hy
          have he1 : e ∈ es ∧ e.1 = k.hash w := by simpa using he
          have he2 : e ∈ es.toList := by simpa using he1.1
          rw [R.rows] at he2
          obtain ⟨p2, hp2, e2⟩ := List.mem_map.mp he2
          exact ⟨p2.2, p2.1, by rw [← ee, ← e2], tp p2 hp2⟩
        · refine wp_if_neg (by decide) ?_
          try refine wpAny_bind (wpAny_pure ?_)
          exact core
    · rw [goes _ hpr]
      dsimp only
      rw [sh, wy, Nat.add_sub_cancel' hc]
      refine wpAny_pure (no fun hm => ?_)
      obtain ⟨p', hp0, hk'⟩ := List.mem_map.mp hm
      obtain ⟨j, hj, ej⟩ := List.getElem_of_mem hp0
      have hp' : L[j]? = some p' := by rw [List.getElem?_eq_getElem hj, ej]
      obtain ⟨d, d1, d2, d3⟩ := rest j p' hp' hk'
      refine hno (d - c) j (by omega) ?_ ((R.keys j p' hp').trans (by rw [hk']))
      rw [sh, wy, Nat.add_sub_cancel' d1]
      exact d3
theorem srch0 (R : SetN w s.heap a L es ep t) (tp : ∀ p ∈ L, IsK s.heap p.2 p.1) {x : Addr} {k : NestedKey} (hx : IsK s.heap k x) (hu : A.units + 20 < cLine) {Q : SetFound → Shared → Prop}
    (yes : k ∈ L.map (·.2) → Q (.there none) s) (no : ∀ K, k ∉ L.map (·.2) → way t.mask (k.hash w) K ∉ t.place.toList → (∀ c, c < K → way t.mask (k.hash w) c ∈ t.place.toList) → Q (.free (way t.mask (k.hash w) K) false) s) :
    wpAny (model P w) A (setSearch a (.ref x) (k.hash w) true) Q E s := by
  have h7 := R.mask
  have hf := R.few
  obtain ⟨K, K1, K2, K3⟩ := R.tab.first (by rw [List.length_map]; omega) (k.hash w)
  have big : K < 100000 := by
    have : 10 * SetTable.turns t.mask ≤ 1420 := by rw [h7]; decide
    omega
  unfold setSearch
  refine srch R tp hx hu K1 K2 K3 yes (fun hn => no K hn K2 K3) 100000 0 none rfl (Nat.zero_le _) (by omega) fun i p hp hk => ?_
  have hi : (L.map fun p => p.2.hash w)[i]? = some (k.hash w) := by rw [List.getElem?_map, hp, ← hk] <;> rfl
  have hil : i < t.place.toList.length := by
    have l1 : i < L.length := (List.getElem?_eq_some_iff.mp hp).1
    rw [Array.length_toList, R.place]
    exact l1
  have hj := List.getElem?_eq_getElem hil
  obtain ⟨d, hd, e⟩ := R.tab.before K2 hi hj
  exact ⟨d, Nat.zero_le _, hd, by rw [hj, e]⟩
end
end Zs
/-! text Z4 -/
/-! Z4: rules of values that the layer lacks; operations on data. -/
namespace Z
open PySem PySem.Spec PyProof.Rows L2

/-! ### rules of values -/
section
variable {prog : Program} {w : World} {A : Around} {E : Value → Shared → Prop} {s : Shared}
theorem cat_tup0 {t b : Addr} {ws : List Value} {Q : Value → Shared → Prop} (ht : IsTup s.heap t ([] : List Value).toArray) (hb : IsTup s.heap b ws.toArray) (h1 : Q (.ref b) s) : wpAny (model prog w) A (binaryOp .Add (.ref t) (.ref b)) Q E s := by
  obtain ⟨⟨c1, d1, x1, s1⟩, o1, k1, n1, e1⟩ := id ht
  obtain ⟨⟨c2, d2, x2, s2⟩, o2, k2, n2, e2⟩ := id hb
  simp only at k1 e1 k2 e2
  subst k1 e1 k2 e2
  exact concat_meets ⟨_, o1, rfl⟩ ⟨_, o2, rfl⟩ noFill_tuple_add seq_tuple_add PySem.F.slot_tuple_add PySem.F.entry_tuple_add (PySem.F.args_tuple_add_2 _ _) (tuple_addW0 t b _ ws.toArray n1 n2 d1 d2 s1 s2 (by simp)) ⟨o1, o2, h1⟩
theorem getItem_tuple_whole {t sl : Addr} {items : Array Value} {vl vu : Value} {lo hi : Option Int} {Q : Value → Shared → Prop} (ht : IsTup s.heap t items) (hs : s.heap.IsSliceOf sl vl vu .none) (pl : IsPart vl lo) (pu : IsPart vu hi)
    (h0 : HT.sIx items.size 0 lo = 0) (h1 : HT.sIx items.size items.size hi = items.size) (h : Q (.ref t) s) : wpAny (model prog w) A (getItem (.ref t) (.ref sl)) Q E s := by
  obtain ⟨os, hos, hcs, hds⟩ := id hs
  have hTs : s.TypeIs (.ref sl) "slice" := ⟨os, hos, hcs⟩
  unfold getItem
  try with_reducible refine wpAny_holding ?_
  first | refine wpAny_bind (wpAny_pure ?_) | skip
  refine wpAny_bind (wpAny_sequenceKey ht.typeIs (by decide) ?_)
  refine wpAny_bind (wpAny_callSpecial?_slot (name := Str.ofString "__getitem__") ht.typeIs PyProof.Rows.slot_tuple_getitem (wpAny_call_entry PyProof.Rows.slot_tuple_getitem ht.typeIs entry_tuple_getitem ?_ (args_tuple_getitem _ _)))
  show wpAny _ _ (Builtin.Tuple.tupleItemsOf (.ref t) >>= _) _ _ s
  refine wpAny_bind (tupleItemsOf_ ht ?_)
  refine wpAny_bind (wpAny_typeOf hTs ?_)
  rw [if_pos (by decide)]
  refine wpAny_bind (HT.sliceApplied_gen hs pl pu ?_)
  have yes : ((((HT.sIx items.size 0 lo : Nat) : Int) == 0 && (1 : Int) == 1 && (HT.sIx items.size items.size hi - HT.sIx items.size 0 lo) == items.size) = true) := by
    rw [h0, h1]
    simp
  show wpAny _ _ (if (((HT.sIx items.size 0 lo : Nat) : Int) == 0 && (1 : Int) == 1 && (HT.sIx items.size items.size hi - HT.sIx items.size 0 lo) == items.size) = true then _ else _) _ _ s
  rw [if_pos yes]
  refine wpAny_bind (m := Builtin.Tuple.tupleIsExact _) ?_
  unfold Builtin.Tuple.tupleIsExact
  refine wpAny_bind (wpAny_typeOf ht.typeIs (wpAny_pure ?_))
  rw [if_pos (by decide)]
  refine wpAny_bind ?_
  first
    | exact wpAny_rule (wpAny_pure ⟨_, rfl, wpAny_pure h⟩)
    | exact wpAny_rule (wpAny_ret ⟨_, rfl, wpAny_pure h⟩)
end
section
variable {X : Cx}
theorem op_catT0 : OpR X (binaryOp .Add) (fun x y H Q => ∃ a b ys, x = .ref a ∧ y = .ref b ∧ SqT X.K H a [] ∧ SqT X.K H b ys ∧ Q (.ref b) H) := by
  rintro pins s σ H x y v u Q I rx ry ⟨a, b, ys, rfl, rfl, ha, hb, q⟩
  cases rx
  cases ry
  obtain ⟨its, r1, p1, _⟩ := I.tuple ha
  obtain ⟨its2, r2, p2, _⟩ := I.tuple hb
  cases r1
  exact cat_tup0 p1 p2 ⟨.ref b, H, I, rfl, q⟩
theorem sl_tupW : SlR X (fun x lo hi H Q => ∃ a xs, x = .ref a ∧ SqT X.K H a xs ∧ HT.sIx xs.length 0 lo = 0 ∧ HT.sIx xs.length xs.length hi = xs.length ∧ Q (.ref a) H) := by
  rintro pins s σ H x v vl vu lo hi sl Q I rx hs pl pu ⟨a, xs, rfl, ht, h0, h1, q⟩
  cases rx
  obtain ⟨its, r, p, _⟩ := I.tuple ht
  have e : its.toArray.size = xs.length := by rw [List.size_toArray, r.length]
  exact ⟨_, _, PyProof.Rows.slot_tuple_getitem.lookup, p.typeIs, getItem_tuple_whole p hs pl pu (by rw [e]; exact h0) (by rw [e]; exact h1) ⟨.ref a, H, I, rfl, q⟩⟩
/-- repr of data -/
theorem call_repr (hg : X.A.guards = some []) (hu : X.A.units + 80 < cLine) : CallR X (.builtin "repr") (fun xs H Q => ∃ v d, xs = [v] ∧ Dp X.K H v d ∧ d.showable = true ∧ d.hasDict = false ∧ d.depth ≤ 64 ∧ d.shown.length ≤ sizeLine ∧ Q (.str d.shown) H) := by
  rintro pins s σ H xs us Q I r ⟨v, d, rfl, hd, hs, hn, hz, hl, q⟩
  obtain ⟨u, rfl, ru⟩ := vals1 r
  obtain ⟨as, rd⟩ := Dp.reads I d v u hd ru
  cases hd with
  | non => cases ru; exact P.repr_of_none ⟨.str _, H, I.tok _, ⟨_, rfl⟩, q⟩
  | bl b => cases ru; exact P.repr_of_bool ⟨.str _, H, I.tok _, ⟨_, rfl⟩, q⟩
  | int i =>
    obtain ⟨t, rfl⟩ := ru
    exact P.repr_of_int (of_decide_eq_true hs) ⟨.str _, H, I.tok _, ⟨_, rfl⟩, q⟩
  | str x =>
    obtain ⟨t, rfl⟩ := ru
    exact P.repr_of_str ⟨.str _, H, I.tok _, ⟨_, rfl⟩, q⟩ hl
  | lst s1 s2 =>
    cases ru
    exact repr_of_reads' rd hs (PyData.noDict_hsm hn) hg (by omega) (fun _ _ e => e) (fun h' u tk hk => ⟨.str _, H, I.kept hk, ⟨_, rfl⟩, q⟩) hl
  | tup s1 s2 =>
    cases ru
    exact repr_of_reads' rd hs (PyData.noDict_hsm hn) hg (by omega) (fun _ _ e => e) (fun h' u tk hk => ⟨.str _, H, I.kept hk, ⟨_, rfl⟩, q⟩) hl
end
end Z
/-! text Z5 -/
/-! Z5: operations on data. -/
namespace Z
open PySem PySem.Spec PyProof.Rows L2

/-! ### data as the library's trees -/
mutual
def rfW (f : Nat → Option PyData) : D → Option PyData
  | .non => some .none
  | .bl b => some (.bool b)
  | .int i => some (.int i)
  | .str s => some (.str s)
  | .tup ds => (rfsW f ds).map .tuple
  | .fl ds => (rfsW f ds).map .list
  | .ref n => f n
def rfsW (f : Nat → Option PyData) : List D → Option (List PyData)
  | [] => some []
  | d :: ds => match rfW f d, rfsW f ds with
    | some p, some ps => some (p :: ps)
    | _, _ => none
end
def rfR : Nat → Hd → Nat → Option PyData
  | 0, _, _ => none
  | k + 1, h, n => match h[n]? with
    | some (.lst ds) => (rfsW (rfR k h) ds).map .list
    | _ => none
def rf (h : Hd) (d : D) : Option PyData := rfW (rfR 8 h) d
section
variable {K : PySem.W.Frag} {cl : Str → Addr} {r : List Addr} {h : Hd} {H : Hp}
mutual
theorem rfW_ok {f : Nat → Option PyData} (R : RelH K cl r h H) (hf : ∀ n a p, r[n]? = some a → f n = some p → Dp K H (.ref a) p) : ∀ {d : D} {v : V} {p : PyData}, RelD K r H d v → rfW f d = some p → Dp K H v p
  | _, _, _, .non, e => by cases e; exact .non
  | _, _, _, .bl, e => by cases e; exact .bl _
  | _, _, _, .int, e => by cases e; exact .int _
  | _, _, _, .str, e => by cases e; exact .str _
  | _, _, p, .tup (ds := ds) s m, e => by
    have e : (rfsW f ds).map PyData.tuple = some p := e
    cases q : rfsW f ds with
    | none => rw [q] at e; cases e
    | some ps => rw [q] at e; cases e; exact .tup s (rfsW_ok R hf m q)
  | _, _, p, .fl (ds := ds) s m, e => by
    have e : (rfsW f ds).map PyData.list = some p := e
    cases q : rfsW f ds with
    | none => rw [q] at e; cases e
    | some ps => rw [q] at e; cases e; exact .lst s.sq (rfsW_ok R hf m q)
  | _, _, _, .ref q, e => hf _ _ _ q e
theorem rfsW_ok {f : Nat → Option PyData} (R : RelH K cl r h H) (hf : ∀ n a p, r[n]? = some a → f n = some p → Dp K H (.ref a) p) : ∀ {ds : List D} {vs : List V} {ps : List PyData}, RelDs K r H ds vs → rfsW f ds = some ps → DpAll K H vs ps
  | _, _, _, .nil, e => by cases e; exact .nil
  | _, _, ps, .cons (d := d) (ds := ds) a b, e => by
    simp only [rfsW] at e
    cases q1 : rfW f d with
    | none => rw [q1] at e; cases e
    | some p =>
      rw [q1] at e
      cases q2 : rfsW f ds with
      | none => rw [q2] at e; cases e
      | some ps =>
        rw [q2] at e
        cases e
        exact .cons (rfW_ok R hf a q1) (rfsW_ok R hf b q2)
end
theorem rfR_ok (R : RelH K cl r h H) : ∀ (k n : Nat) (a : Addr) (p : PyData), r[n]? = some a → rfR k h n = some p → Dp K H (.ref a) p
  | 0, _, _, _, _, e => by cases e
  | k + 1, n, a, p, q, e => by
    simp only [rfR] at e
    cases hn : h[n]? with
    | none => rw [hn] at e; cases e
    | some mo =>
      rw [hn] at e
      cases mo with
      | lst ds =>
        dsimp only at e
        cases q2 : rfsW (rfR k h) ds with
        | none => rw [q2] at e; cases e
        | some ps =>
          rw [q2] at e
          cases e
          obtain ⟨vs, hv, m⟩ := R.lst q hn
          exact .lst (SqL.of hv) (rfsW_ok R (rfR_ok R k) m q2)
      | _ => cases e
theorem rf_ok (R : RelH K cl r h H) {d : D} {v : V} {p : PyData} (q : RelD K r H d v) (e : rf h d = some p) : Dp K H v p := rfW_ok R (rfR_ok R 8) q e

/-! ### arithmetic -/
def dAdd (x y : D) (h : Hd) : Out D := match x, y with
  | .int i, .int j => .ok (.int (i + j)) h
  | .str s, .str t => if s.length + t.length ≤ sizeLine then .ok (.str (s ++ t)) h else .fail
  | .tup xs, .tup ys => if xs.length + ys.length ≤ sizeLine then .ok (.tup (xs ++ ys)) h else .fail
  | .ref a, .ref b => match h[a]?, h[b]? with
    | some (.lst xs), some (.lst ys) => mkLst (xs ++ ys) h
    | _, _ => .fail
  | _, _ => .fail
def dSub (x y : D) (h : Hd) : Out D := match x, y with
  | .int i, .int j => .ok (.int (i - j)) h
  | _, _ => .fail
def dMul (x y : D) (h : Hd) : Out D := match x, y with
  | .int i, .int j => if (-(2 ^ 64) < i ∧ i < 2 ^ 64) ∨ (-(2 ^ 64) < j ∧ j < 2 ^ 64) then .ok (.int (i * j)) h else .fail
  | .tup xs, .int k => if xs ≠ [] ∧ 2 ≤ k ∧ k ≤ 1000 ∧ xs.length ≤ 1000 then .ok (.tup (List.replicate k.toNat xs).flatten) h else .fail
  | .ref a, .int k => match h[a]? with
    | some (.lst xs) => if -(2 ^ 63) ≤ k ∧ k < 2 ^ 63 then mkLst (List.replicate k.toNat xs).flatten h else .fail
    | _ => .fail
  | _, _ => .fail
def dDiv (x y : D) (h : Hd) : Out D := match x, y with
  | .int i, .int j => if 0 < j ∧ j < 1073741824 then .ok (.int (i / j)) h else .fail
  | _, _ => .fail
def dMod (x y : D) (h : Hd) : Out D := match x, y with
  | .int i, .int j => if 0 < j then .ok (.int (i % j)) h else .fail
  | _, _ => .fail
def dPow (x y : D) (h : Hd) : Out D := match x, y with
  | .int i, .int j => if 0 ≤ j ∧ j ≤ 1000000 ∧ i.natAbs < 2 ^ 64 then .ok (.int (i ^ j.toNat)) h else .fail
  | _, _ => .fail
variable {E : XK}
abbrev rdAdd (K : PySem.W.Frag) : R2 := fun x y H Q => (rI0 fun i j => .int (i + j)) x y H Q ∨ (∃ i j, x = .str i ∧ y = .str j ∧ i.length + j.length ≤ sizeLine ∧ Q (.str (i ++ j)) H) ∨ rCatT K x y H Q ∨
  (∃ a b ys, x = .ref a ∧ y = .ref b ∧ SqT K H a [] ∧ SqT K H b ys ∧ Q (.ref b) H) ∨ rCat x y H Q
theorem opr_add {X : Cx} : OpR X (binaryOp .Add) (rdAdd X.K) := op_add.or (op_add_str.or (op_catT.or (op_catT0.or op_cat)))
theorem opm_add : OpM K cl E (rdAdd K) dAdd := fun r h H x y vx vy Q R qx qy p => by
  unfold dAdd at p
  split at p
  · rw [qx.int_inv, qy.int_inv]; exact .inl ⟨_, _, rfl, rfl, Post.end' R p .int⟩
  · rw [qx.str_inv, qy.str_inv]
    split at p
    · rename_i hl; exact .inr (.inl ⟨_, _, rfl, rfl, hl, Post.end' R p .str⟩)
    · exact p.elim
  · rename_i xs ys
    obtain ⟨a, vs, rfl, s1, m1⟩ := qx.tup_inv
    obtain ⟨b, ws, rfl, s2, m2⟩ := qy.tup_inv
    split at p
    · rename_i hl
      cases xs with
      | nil =>
        cases m1
        exact .inr (.inr (.inr (.inl ⟨a, b, ws, rfl, rfl, s1, s2, Post.end' R p (.tup s2 m2)⟩)))
      | cons x xs =>
        have l1 := m1.length
        have l2 := m2.length
        refine .inr (.inr (.inl ⟨a, b, vs, ws, rfl, rfl, s1, s2, ?_, by rw [← l1, ← l2]; exact hl, fun hw => ?_, fun hw q hq => ?_⟩))
        · rintro rfl; cases m1
        · subst hw
          cases m2
          rw [List.append_nil] at p
          exact Post.end' R p (.tup s1 m1)
        · have E1 : Ext r H r (upd H q (.tup (vs ++ ws))) := Ext.new R hq
          exact p r _ E1 (R.new hq) _ (.tup (.inl (.inl upd_same)) ((m1.append m2).mono (R.keep E1)))
    · exact p.elim
  · rename_i a b
    obtain ⟨a', rfl, ha⟩ := qx.ref_inv
    obtain ⟨b', rfl, hb⟩ := qy.ref_inv
    split at p
    · rename_i xs ys e1 e2
      obtain ⟨vs, h1, m1⟩ := R.lst ha e1
      obtain ⟨ws, h2, m2⟩ := R.lst hb e2
      obtain ⟨z1, z2⟩ := post_lst R (m1.append m2) p
      exact .inr (.inr (.inr (.inr ⟨a', b', vs, ws, rfl, rfl, h1, h2, by rw [← List.length_append]; exact z1, z2⟩)))
    · exact p.elim
  · exact p.elim
theorem opm_sub : OpM K cl E (rI0 fun i j => .int (i - j)) dSub := fun r h H x y vx vy Q R qx qy p => by
  unfold dSub at p
  split at p
  · rw [qx.int_inv, qy.int_inv]; exact ⟨_, _, rfl, rfl, Post.end' R p .int⟩
  · exact p.elim
abbrev rdMul (K : PySem.W.Frag) : R2 := fun x y H Q => (rI CMul fun i j => .int (i * j)) x y H Q ∨ L2.rRepT K x y H Q ∨ rRep x y H Q
theorem opr_mul {X : Cx} : OpR X (binaryOp .Mult) (rdMul X.K) := op_mul.or (op_repT.or op_rep)
theorem opm_mul : OpM K cl E (rdMul K) dMul := fun r h H x y vx vy Q R qx qy p => by
  unfold dMul at p
  split at p
  · rw [qx.int_inv, qy.int_inv]
    split at p
    · rename_i hl; exact .inl ⟨_, _, rfl, rfl, hl, Post.end' R p .int⟩
    · exact p.elim
  · rename_i xs k
    obtain ⟨a, vs, rfl, s1, m1⟩ := qx.tup_inv
    rw [qy.int_inv]
    split at p
    · rename_i hl
      have l1 := m1.length
      refine .inr (.inl ⟨a, _, vs, rfl, rfl, s1, ?_, hl.2.1, hl.2.2.1, by rw [← l1]; exact hl.2.2.2, fun q hq => ?_⟩)
      · rintro rfl; cases m1; exact hl.1 rfl
      · have E1 := Ext.new (o := .tup (List.replicate k.toNat vs).flatten) R hq
        exact p r _ E1 (R.new hq) _ (.tup (.inl (.inl upd_same)) ((m1.rep _).mono (R.keep E1)))
    · exact p.elim
  · rename_i a k
    obtain ⟨a', rfl, ha⟩ := qx.ref_inv
    rw [qy.int_inv]
    split at p
    · rename_i xs e1
      obtain ⟨vs, h1, m1⟩ := R.lst ha e1
      split at p
      · rename_i hl
        obtain ⟨z1, z2⟩ := post_lst R (m1.rep _) p
        refine .inr (.inr ⟨a', _, vs, rfl, rfl, h1, hl.1, hl.2, ?_, z2⟩)
        have : (List.replicate k.toNat vs).flatten.length = vs.length * k.toNat := by simp [Nat.mul_comm]
        rw [← this]
        exact z1
      · exact p.elim
    · exact p.elim
  · exact p.elim
theorem opm_div : OpM K cl E (rI CDiv fun i j => .int (i / j)) dDiv := fun r h H x y vx vy Q R qx qy p => by
  unfold dDiv at p
  split at p
  · rw [qx.int_inv, qy.int_inv]
    split at p
    · rename_i hl; exact ⟨_, _, rfl, rfl, hl, Post.end' R p .int⟩
    · exact p.elim
  · exact p.elim
theorem opm_mod : OpM K cl E (rI (fun _ j => 0 < j) fun i j => .int (i % j)) dMod := fun r h H x y vx vy Q R qx qy p => by
  unfold dMod at p
  split at p
  · rw [qx.int_inv, qy.int_inv]
    split at p
    · rename_i hl; exact ⟨_, _, rfl, rfl, hl, Post.end' R p .int⟩
    · exact p.elim
  · exact p.elim
theorem opm_pow : OpM K cl E (rI CPow fun i j => .int (i ^ j.toNat)) dPow := fun r h H x y vx vy Q R qx qy p => by
  unfold dPow at p
  split at p
  · rw [qx.int_inv, qy.int_inv]
    split at p
    · rename_i hl; exact ⟨_, _, rfl, rfl, hl, Post.end' R p .int⟩
    · exact p.elim
  · exact p.elim
def dNeg (x : D) (h : Hd) : Out D := match x with
  | .int i => .ok (.int (-i)) h
  | _ => .fail
theorem unm_neg : UnM K cl E (rU fun i => .int (-i)) dNeg := fun r h H x vx Q R qx p => by
  unfold dNeg at p
  split at p
  · rw [qx.int_inv]; exact ⟨_, rfl, Post.end' R p .int⟩
  · exact p.elim
/-! ### comparisons -/
def dCmpI (c : Int → Int → Bool) (x y : D) (h : Hd) : Out D := match x, y with
  | .int i, .int j => .ok (.bl (c i j)) h
  | _, _ => .fail
abbrev dLt := dCmpI fun i j => decide (i < j)
abbrev dLe := dCmpI fun i j => decide (i ≤ j)
abbrev dGt := dCmpI fun i j => decide (j < i)
abbrev dGe := dCmpI fun i j => decide (j ≤ i)
theorem opm_cmp (c : Int → Int → Bool) : OpM K cl E (rI0 fun i j => .bl (c i j)) (dCmpI c) := fun r h H x y vx vy Q R qx qy p => by
  unfold dCmpI at p
  split at p
  · rw [qx.int_inv, qy.int_inv]; exact ⟨_, _, rfl, rfl, Post.end' R p .bl⟩
  · exact p.elim
/-- equality: scalars at once, other data as trees -/
def eqD (x y : D) (h : Hd) : Option Bool := match x, y with
  | .int i, .int j => some (decide (i = j))
  | .str i, .str j => some (decide (i = j))
  | .bl i, .bl j => some (decide (i = j))
  | .non, .non => some true
  | .non, .int _ | .int _, .non | .non, .bl _ | .bl _, .non | .non, .str _ | .str _, .non | .int _, .str _ | .str _, .int _ | .bl _, .str _ | .str _, .bl _ => some false
  | x, y => match rf h x, rf h y with
    | some p, some q => if SeqAt.shaped p = true ∧ SeqAt.shaped q = true then some (PyData.eqv p q) else none
    | _, _ => none
def dEq (x y : D) (h : Hd) : Out D := match eqD x y h with
  | some b => .ok (.bl b) h
  | none => .fail
def dNe (x y : D) (h : Hd) : Out D := match eqD x y h with
  | some b => .ok (.bl (!b)) h
  | none => .fail
theorem eqD_ok {x y : D} {vx vy : V} {b : Bool} (R : RelH K cl r h H) (qx : RelD K r H x vx) (qy : RelD K r H y vy) (e : eqD x y h = some b) :
    (scal vx vy = true ∧ decide (vx = vy) = b) ∨ ∃ p q, Dp K H vx p ∧ Dp K H vy q ∧ SeqAt.shaped p = true ∧ SeqAt.shaped q = true ∧ PyData.eqv p q = b := by
  unfold eqD at e
  split at e
  · rw [qx.int_inv, qy.int_inv]; cases e; exact .inl ⟨rfl, by simp⟩
  · rw [qx.str_inv, qy.str_inv]; cases e; exact .inl ⟨rfl, by simp⟩
  · rw [qx.bl_inv, qy.bl_inv]; cases e; exact .inl ⟨rfl, by simp⟩
  · rw [qx.non_inv, qy.non_inv]; cases e; exact .inl ⟨rfl, rfl⟩
  · rw [qx.non_inv, qy.int_inv]; cases e; exact .inl ⟨rfl, rfl⟩
  · rw [qx.int_inv, qy.non_inv]; cases e; exact .inl ⟨rfl, rfl⟩
  · rw [qx.non_inv, qy.bl_inv]; cases e; exact .inl ⟨rfl, rfl⟩
  · rw [qx.bl_inv, qy.non_inv]; cases e; exact .inl ⟨rfl, rfl⟩
  · rw [qx.non_inv, qy.str_inv]; cases e; exact .inl ⟨rfl, rfl⟩
  · rw [qx.str_inv, qy.non_inv]; cases e; exact .inl ⟨rfl, rfl⟩
  · rw [qx.int_inv, qy.str_inv]; cases e; exact .inl ⟨rfl, rfl⟩
  · rw [qx.str_inv, qy.int_inv]; cases e; exact .inl ⟨rfl, rfl⟩
  · rw [qx.bl_inv, qy.str_inv]; cases e; exact .inl ⟨rfl, rfl⟩
  · rw [qx.str_inv, qy.bl_inv]; cases e; exact .inl ⟨rfl, rfl⟩
  · split at e
    · rename_i p q e1 e2
      split at e
      · rename_i hs
        cases e
        exact .inr ⟨p, q, rf_ok R qx e1, rf_ok R qy e2, hs.1, hs.2, rfl⟩
      · cases e
    · cases e
abbrev rdEq (K : PySem.W.Frag) : R2 := fun x y H Q => rEq x y H Q ∨ rEqD K x y H Q
abbrev rdNe (K : PySem.W.Frag) : R2 := fun x y H Q => rNe x y H Q ∨ rNeD K x y H Q
theorem opr_eq {X : Cx} (hu : X.A.units + 64 < cLine) : OpR X (compareOp .Eq) (rdEq X.K) := op_eq.or (op_eqD hu)
theorem opr_ne {X : Cx} (hu : X.A.units + 64 < cLine) : OpR X (compareOp .NotEq) (rdNe X.K) := op_ne.or (op_neD hu)
theorem opm_eq : OpM K cl E (rdEq K) dEq := fun r h H x y vx vy Q R qx qy p => by
  unfold dEq at p
  split at p
  · rename_i b e
    have q := Post.end' R p (.bl (b := b))
    rcases eqD_ok R qx qy e with ⟨h1, h2⟩ | ⟨u, v, h1, h2, h3, h4, h5⟩
    · exact .inl ⟨h1, by rw [h2]; exact q⟩
    · exact .inr ⟨u, v, h1, h2, h3, h4, by rw [h5]; exact q⟩
  · exact p.elim
theorem opm_ne : OpM K cl E (rdNe K) dNe := fun r h H x y vx vy Q R qx qy p => by
  unfold dNe at p
  split at p
  · rename_i b e
    have q := Post.end' R p (.bl (b := !b))
    rcases eqD_ok R qx qy e with ⟨h1, h2⟩ | ⟨u, v, h1, h2, h3, h4, h5⟩
    · exact .inl ⟨h1, by rw [h2]; exact q⟩
    · exact .inr ⟨u, v, h1, h2, h3, h4, by rw [h5]; exact q⟩
  · exact p.elim
/-- is, is not: None, bools -/
def isD (x y : D) : Option Bool := match y with
  | .non => some (decide (x = .non))
  | .bl b => match x with
    | .bl a => some (decide (a = b))
    | _ => none
  | _ => none
def dIs (x y : D) (h : Hd) : Out D := match isD x y with
  | some b => .ok (.bl b) h
  | none => .fail
def dIsNot (x y : D) (h : Hd) : Out D := match isD x y with
  | some b => .ok (.bl (!b)) h
  | none => .fail
theorem RelD.non_iff {x : D} {v : V} (q : RelD K r H x v) : decide (v = .non) = decide (x = .non) := by
  cases q <;> simp
theorem isD_ok {x y : D} {vx vy : V} {b : Bool} (qx : RelD K r H x vx) (qy : RelD K r H y vy) (e : isD x y = some b) : (vy = .non ∧ decide (vx = .non) = b) ∨ ∃ i j : Bool, vx = .bl i ∧ vy = .bl j ∧ decide (i = j) = b := by
  unfold isD at e
  split at e
  · cases e; exact .inl ⟨qy.non_inv, qx.non_iff⟩
  · split at e
    · cases e; exact .inr ⟨_, _, qx.bl_inv, qy.bl_inv, rfl⟩
    · cases e
  · cases e
abbrev rdIs : R2 := fun x y H Q => (y = .non ∧ Q (.bl (decide (x = .non))) H) ∨ rIsB x y H Q
abbrev rdIsNot : R2 := fun x y H Q => (y = .non ∧ Q (.bl (!decide (x = .non))) H) ∨ rNotB x y H Q
theorem opr_is {X : Cx} : OpR X (compareOp .Is) rdIs := op_isN.or op_isBl
theorem opr_isNot {X : Cx} : OpR X (compareOp .IsNot) rdIsNot := op_notN.or op_notBl
theorem opm_is : OpM K cl E rdIs dIs := fun r h H x y vx vy Q R qx qy p => by
  unfold dIs at p
  split at p
  · rename_i b e
    have q := Post.end' R p (.bl (b := b))
    rcases isD_ok qx qy e with ⟨h1, h2⟩ | ⟨i, j, h1, h2, h3⟩
    · exact .inl ⟨h1, by rw [h2]; exact q⟩
    · exact .inr ⟨i, j, h1, h2, by rw [h3]; exact q⟩
  · exact p.elim
theorem opm_isNot : OpM K cl E rdIsNot dIsNot := fun r h H x y vx vy Q R qx qy p => by
  unfold dIsNot at p
  split at p
  · rename_i b e
    have q := Post.end' R p (.bl (b := !b))
    rcases isD_ok qx qy e with ⟨h1, h2⟩ | ⟨i, j, h1, h2, h3⟩
    · exact .inl ⟨h1, by rw [h2]; exact q⟩
    · exact .inr ⟨i, j, h1, h2, by rw [h3]; exact q⟩
  · exact p.elim
end
end Z
/-! text ZN -/
set_option maxHeartbeats 4000000
/-! ZN: dicts with nested keys, in the model's words. -/
namespace Z
open PySem PySem.Spec PyProof.Rows L2 Zs
/-! ### dicts as data -/
def dlook (kvs : List (D × D)) (k : D) : Option D := (kvs.find? fun p => decide (p.1 = k)).map (·.2)
def dput (kvs : List (D × D)) (k v : D) : List (D × D) := if (kvs.any fun p => decide (p.1 = k)) = true then kvs.map (fun p => if p.1 = k then (p.1, v) else p) else kvs ++ [(k, v)]
mutual
theorem keyN_num : ∀ (d : D) (k : NestedKey), keyN d = some k → numK k = true
  | .int i, k, e => by cases e; rfl
  | .tup ds, k, e => by
    rw [keyN] at e
    cases q : keyN.keyNs ds with
    | none => rw [q] at e; cases e
    | some ks =>
      rw [q] at e
      cases e
      rw [numK]
      exact keyNs_num ds ks q
  | .non, _, e => by simp [keyN] at e
  | .bl _, _, e => by simp [keyN] at e
  | .str _, _, e => by simp [keyN] at e
  | .ref _, _, e => by simp [keyN] at e
  | .fl _, _, e => by simp [keyN] at e
theorem keyNs_num : ∀ (ds : List D) (ks : List NestedKey), keyN.keyNs ds = some ks → numKs ks = true
  | [], ks, e => by cases e; rfl
  | d :: ds, ks, e => by
    rw [keyN.keyNs] at e
    cases q1 : keyN d with
    | none => rw [q1] at e; cases e
    | some k => cases q2 : keyN.keyNs ds with
      | none => rw [q1, q2] at e; cases e
      | some ks2 =>
        rw [q1, q2] at e
        cases e
        rw [numKs, keyN_num d k q1, keyNs_num ds ks2 q2]
        rfl
end
mutual
theorem keyN_inj : ∀ (d e : D) (k : NestedKey), keyN d = some k → keyN e = some k → d = e
  | .int i, .int j, k, a, b => by cases a; cases b; rfl
  | .tup ds, .tup es, k, a, b => by
    rw [keyN] at a b
    cases q1 : keyN.keyNs ds with
    | none => rw [q1] at a; cases a
    | some ks => cases q2 : keyN.keyNs es with
      | none => rw [q2] at b; cases b
      | some ls =>
        rw [q1] at a
        rw [q2] at b
        cases a
        cases b
        rw [keyNs_inj ds es ks q1 q2]
  | .int i, .tup es, k, a, b => by
    cases a
    rw [keyN] at b
    cases q2 : keyN.keyNs es with
    | none => rw [q2] at b; cases b
    | some ls => rw [q2] at b; cases b
  | .tup ds, .int j, k, a, b => by
    cases b
    rw [keyN] at a
    cases q2 : keyN.keyNs ds with
    | none => rw [q2] at a; cases a
    | some ls => rw [q2] at a; cases a
  | .non, _, _, e, _ => by simp [keyN] at e
  | .bl _, _, _, e, _ => by simp [keyN] at e
  | .str _, _, _, e, _ => by simp [keyN] at e
  | .ref _, _, _, e, _ => by simp [keyN] at e
  | .fl _, _, _, e, _ => by simp [keyN] at e
  | .int _, .non, _, _, f => by simp [keyN] at f
  | .int _, .bl _, _, _, f => by simp [keyN] at f
  | .int _, .str _, _, _, f => by simp [keyN] at f
  | .int _, .ref _, _, _, f => by simp [keyN] at f
  | .int _, .fl _, _, _, f => by simp [keyN] at f
  | .tup _, .non, _, _, f => by simp [keyN] at f
  | .tup _, .bl _, _, _, f => by simp [keyN] at f
  | .tup _, .str _, _, _, f => by simp [keyN] at f
  | .tup _, .ref _, _, _, f => by simp [keyN] at f
  | .tup _, .fl _, _, _, f => by simp [keyN] at f
theorem keyNs_inj : ∀ (ds es : List D) (ks : List NestedKey), keyN.keyNs ds = some ks → keyN.keyNs es = some ks → ds = es
  | [], [], _, _, _ => rfl
  | [], q :: qs, ks, e, f => by
    cases e
    rw [keyN.keyNs] at f
    cases q1 : keyN q with
    | none => rw [q1] at f; cases f
    | some k => cases q2 : keyN.keyNs qs with
      | none => rw [q1, q2] at f; cases f
      | some l => rw [q1, q2] at f; cases f
  | q :: qs, [], ks, f, e => by
    cases e
    rw [keyN.keyNs] at f
    cases q1 : keyN q with
    | none => rw [q1] at f; cases f
    | some k => cases q2 : keyN.keyNs qs with
      | none => rw [q1, q2] at f; cases f
      | some l => rw [q1, q2] at f; cases f
  | p :: ps, q :: qs, ks, e, f => by
    rw [keyN.keyNs] at e f
    cases a1 : keyN p with
    | none => rw [a1] at e; cases e
    | some k => cases a2 : keyN.keyNs ps with
      | none => rw [a1, a2] at e; cases e
      | some l => cases b1 : keyN q with
        | none => rw [b1] at f; cases f
        | some k' => cases b2 : keyN.keyNs qs with
          | none => rw [b1, b2] at f; cases f
          | some l' =>
            rw [a1, a2] at e
            rw [b1, b2] at f
            cases e
            cases f
            rw [keyN_inj p q k a1 b1, keyNs_inj ps qs l a2 b2]
end
mutual
theorem hash_num (w w' : World) : ∀ k : NestedKey, numK k = true → k.hash w = k.hash w'
  | .num _, _ => rfl
  | .tup ks, e => by
    rw [numK] at e
    simp only [NestedKey.hash]
    rw [hashes_num w w' ks e]
  | .none, e => by cases e
  | .text _, e => by cases e
theorem hashes_num (w w' : World) : ∀ ks : List NestedKey, numKs ks = true → NestedKey.hashes w ks = NestedKey.hashes w' ks
  | [], _ => rfl
  | k :: ks, e => by
    rw [numKs, Bool.and_eq_true] at e
    simp only [NestedKey.hashes]
    rw [hash_num w w' k e.1, hashes_num w w' ks e.2]
end
section
variable {K : PySem.W.Frag} {cl : Str → Addr} {r : List Addr} {h : Hd} {H : Hp}
theorem RelH.dit {n : Nat} {a : Addr} {kvs : List (D × D)} (R : RelH K cl r h H) (e : r[n]? = some a) (q : h[n]? = some (.dit kvs)) : ∃ w xs, H a = some (DicN w a xs) ∧ RelNs K r H kvs xs := by
  obtain ⟨o, h1, h2⟩ := R.ob n _ a q e
  cases h2 with
  | dN m => exact ⟨_, _, h1, m⟩
theorem RelNs.length : ∀ {kvs : List (D × D)} {xs : List (NestedKey × Addr × Value)}, RelNs K r H kvs xs → kvs.length = xs.length
  | _, _, .nil => rfl
  | _, _, .cons _ _ _ _ _ m => congrArg Nat.succ m.length
theorem RelNs.num : ∀ {kvs : List (D × D)} {xs : List (NestedKey × Addr × Value)}, RelNs K r H kvs xs → ∀ x ∈ xs, numK x.1 = true
  | _, _, .nil, _, h => nomatch h
  | _, _, .cons e _ _ _ _ m, x, h => by
    rcases List.mem_cons.mp h with rfl | h
    · exact keyN_num _ _ e
    · exact m.num x h
/-- the key k is looked up -/
theorem RelNs.look {k : D} {q : NestedKey} (e : keyN k = some q) : ∀ {kvs : List (D × D)} {xs : List (NestedKey × Addr × Value)}, RelNs K r H kvs xs → (∀ d, dlook kvs k = some d → ∃ b v u, atKey xs q = some (b, u) ∧ RelD K r H d v ∧ RelV v u) ∧ (dlook kvs k = none → atKey xs q = none)
  | _, _, .nil => ⟨(fun _ h => nomatch h), fun _ => rfl⟩
  | _, _, .cons (k := k') (d := d') (q := q') (b := b') (u := u') (ds := ds) (xs := xs) e' l a b c m => by
    obtain ⟨i1, i2⟩ := RelNs.look e m
    by_cases hk : k' = k
    · subst hk
      have hq : q' = q := Option.some.inj (e'.symm.trans e)
      subst hq
      refine ⟨fun d hd => ?_, fun hd => ?_⟩
      · unfold dlook at hd
        rw [List.find?_cons_of_pos (by simp)] at hd
        cases hd
        exact ⟨b', _, u', by unfold atKey; rw [List.find?_cons_of_pos (by simp)]; rfl, b, c⟩
      · unfold dlook at hd
        rw [List.find?_cons_of_pos (by simp)] at hd
        cases hd
    · have hq : q' ≠ q := fun z => hk (keyN_inj _ _ q (by rw [e', z]) e)
      have e1 : dlook ((k', d') :: ds) k = dlook ds k := by
        unfold dlook
        rw [List.find?_cons_of_neg (by simpa using hk)]
      have e2 : atKey ((q', b', u') :: xs) q = atKey xs q := by
        unfold atKey
        rw [List.find?_cons_of_neg (by simpa using hq)]
      rw [e1, e2]
      exact ⟨i1, i2⟩
theorem RelNs.any {k : D} {q : NestedKey} (e : keyN k = some q) {kvs : List (D × D)} {xs : List (NestedKey × Addr × Value)} (m : RelNs K r H kvs xs) : (kvs.any fun p => decide (p.1 = k)) = (atKey xs q).isSome := by
  obtain ⟨i1, i2⟩ := m.look e
  cases hd : dlook kvs k with
  | none =>
    rw [i2 hd]
    unfold dlook at hd
    rw [Option.map_eq_none_iff, List.find?_eq_none] at hd
    exact List.any_eq_false.mpr hd
  | some d =>
    obtain ⟨b, v, u, h1, _⟩ := i1 d hd
    rw [h1]
    unfold dlook at hd
    obtain ⟨p, hp, _⟩ := Option.map_eq_some_iff.mp hd
    have hq : decide (p.1 = k) = true := List.find?_some (p := fun p : D × D => decide (p.1 = k)) hp
    exact List.any_eq_true.mpr ⟨p, List.mem_of_find?_eq_some hp, hq⟩
theorem RelNs.put {k d : D} {q : NestedKey} {b : Addr} {v : V} {u : Value} (e : keyN k = some q) (l : q.depth ≤ 8) (qk : RelD K r H k (.ref b)) (qd : RelD K r H d v) (qu : RelV v u) {kvs : List (D × D)} {xs : List (NestedKey × Addr × Value)} (m : RelNs K r H kvs xs) :
    RelNs K r H (dput kvs k d) (storedH xs q b u) := by
  have ha := m.any e
  unfold dput
  by_cases hs : (kvs.any fun p => decide (p.1 = k)) = true
  · rw [if_pos hs]
    rw [hs] at ha
    obtain ⟨p, hp⟩ := Option.isSome_iff_exists.mp ha.symm
    rw [storedH_old hp]
    clear ha hs hp
    induction m with
    | nil => exact .nil
    | @cons k' d' q' b' v' u' ds xs e' l' a' c' u2 m ih =>
      rw [List.map_cons, List.map_cons]
      by_cases hk : k' = k
      · subst hk
        have hq : q' = q := Option.some.inj (e'.symm.trans e)
        subst hq
        dsimp only
        rw [if_pos rfl]
        unfold putAt
        rw [if_pos rfl]
        exact .cons e' l' a' qd qu ih
      · have hq : q' ≠ q := fun z => hk (keyN_inj _ _ q (by rw [e', z]) e)
        dsimp only
        rw [if_neg hk]
        unfold putAt
        rw [if_neg hq]
        exact .cons e' l' a' c' u2 ih
  · rw [if_neg hs]
    have : atKey xs q = none := by
      cases z : atKey xs q with
      | none => rfl
      | some p => rw [z] at ha; exact absurd ha hs
    rw [storedH_new this]
    clear ha hs this
    induction m with
    | nil => exact .cons e l qk qd qu .nil
    | cons e' l' a' c' u2 m ih => exact .cons e' l' a' c' u2 ih
end
section
variable {X : Cx} {pins : List (Addr × Obj)} {σ : L2.St} {H : Hp} {s : Shared} {r : List Addr}
mutual
theorem keyN_is (I : Inv X pins σ H s) : ∀ (d : D) (k : NestedKey) (v : V) (u : Value), keyN d = some k → RelD X.K r H d v → RelV v u → NestedIs s.heap k u
  | .int i, k, v, u, e, q, ru => by
    cases e
    cases q
    obtain ⟨t, rfl⟩ := ru
    exact .int _ _
  | .tup ds, k, v, u, e, q, ru => by
    rw [keyN] at e
    cases q1 : keyN.keyNs ds with
    | none => rw [q1] at e; cases e
    | some ks =>
      rw [q1] at e
      cases e
      cases q with
      | tup s m =>
        cases ru
        obtain ⟨its, rv, ⟨o, ho, hc, n, hd⟩, _⟩ := I.tuple s
        exact .tup ho hc hd (by simpa using keyNs_is I ds ks _ its q1 m rv)
  | .non, _, _, _, e, _, _ => by simp [keyN] at e
  | .bl _, _, _, _, e, _, _ => by simp [keyN] at e
  | .str _, _, _, _, e, _, _ => by simp [keyN] at e
  | .ref _, _, _, _, e, _, _ => by simp [keyN] at e
  | .fl _, _, _, _, e, _, _ => by simp [keyN] at e
theorem keyNs_is (I : Inv X pins σ H s) : ∀ (ds : List D) (ks : List NestedKey) (vs : List V) (us : List Value), keyN.keyNs ds = some ks → RelDs X.K r H ds vs → Vals vs us → NestedAll s.heap ks us
  | [], ks, vs, us, e, q, ru => by
    cases e
    cases q
    cases ru
    exact .nil
  | d :: ds, ks, vs, us, e, q, ru => by
    rw [keyN.keyNs] at e
    cases q1 : keyN d with
    | none => rw [q1] at e; cases e
    | some k => cases q2 : keyN.keyNs ds with
      | none => rw [q1, q2] at e; cases e
      | some ks2 =>
        rw [q1, q2] at e
        cases e
        cases q with
        | cons a b => cases ru with
          | cons c dd => exact .cons (keyN_is I d k _ _ q1 a c) (keyNs_is I ds ks2 _ _ q2 b dd)
end
/-- the dict as the library tells it -/
structure Raw (P : Program) (w : World) (h : Heap) (a : Addr) (xs : List (NestedKey × Addr × Value)) (o : Obj) (es : Array DictEntry) : Prop where
  nm : (a == sysModules) = false
  ob : h.get? a = some o
  ex : o.ExactDict
  dt : o.data = .dict es xs.length
  rows : es.toList = xs.map (entryOfKey (nestedKind P w))
  ks : ∀ x ∈ xs, (nestedKind P w).is h x.1 x.2.1
  nd : (xs.map (·.1)).Nodup
theorem Raw.dict {P : Program} {w : World} {h : Heap} {a : Addr} {xs : List (NestedKey × Addr × Value)} {o : Obj} {es : Array DictEntry} (R : Raw P w h a xs o es) : h.DictOfH (nestedKind P w) a xs := ⟨o, es, _, R.ob, R.ex, R.dt, R.rows, R.ks, R.nd⟩
theorem relNs_is (I : Inv X pins σ H s) : ∀ {kvs : List (D × D)} {xs : List (NestedKey × Addr × Value)}, RelNs X.K r H kvs xs → ∀ x ∈ xs, NestedIs s.heap x.1 (.ref x.2.1) ∧ x.1.depth ≤ 8
  | _, _, .nil, _, h => nomatch h
  | _, _, .cons e l a _ _ m, x, h => by
    rcases List.mem_cons.mp h with rfl | h
    · exact ⟨keyN_is I _ _ _ _ e a rfl, l⟩
    · exact relNs_is I m x h
theorem raw_of {w : World} {a : Addr} {kvs : List (D × D)} {xs : List (NestedKey × Addr × Value)} (I : Inv X pins σ H s) (e : H a = some (DicN w a xs)) (m : RelNs X.K r H kvs xs) : ∃ o es, Raw X.prog X.w s.heap a xs o es := by
  obtain ⟨⟨nm, o, es, ho, hx, hd, hr, hn⟩, _⟩ := I.hok a _ e
  refine ⟨o, es, nm, ho, hx, hd, ?_, fun x hx => relNs_is I m x hx, hn⟩
  rw [hr]
  refine List.map_congr_left fun x hx => ?_
  show entN w x = (⟨x.1.hash X.w, .ref x.2.1, x.2.2⟩ : DictEntry)
  unfold entN
  rw [hash_num w X.w x.1 (m.num x hx)]
end
/-! ### d[k] = v, with the count of changes told -/
section
variable {P : Program} {w : World} {A : Around} {E : Value → Shared → Prop} {s : Shared}
theorem dictSetN {d a : Addr} {xs : List (NestedKey × Addr × Value)} {o : Obj} {es : Array DictEntry} {k : NestedKey} {v : Value} {Q : Unit → Shared → Prop} (hu : A.units + 8 < cLine) (hk : (nestedKind P w).is s.heap k a) (R : Raw P w s.heap d xs o es) (hz : xs.length ≤ sizeLine)
    (hQ : ∀ h' o' es' tk, h'.get? d = some o' → o'.ExactDict → o'.data = .dict es' (storedH xs k a v).length → es'.toList = (storedH xs k a v).map (entryOfKey (nestedKind P w)) → ((storedH xs k a v).map (·.1)).Nodup → Heap.SameBut d s.heap h' → Q () { s with heap := h', toks := tk }) :
    wpAny (model P w) A (dictSet d (.ref a) v) Q E s := by
  obtain ⟨_, ho, hc, hd, he, his, hn⟩ := R
  unfold dictSet
  try with_reducible refine wpAny_holding ?_
  refine wpAny_bind ((nestedKind P w).pyHash hu hk ?_)
  unfold dictSetHashed
  try with_reducible refine wpAny_holding ?_
  have hsz := size_of_entries he
  refine wpAny_bind (wpAny_dictFind_heap (s := { s with toks := s.toks + (nestedKind P w).draws k }) hu hk ho hd he his hn (fun hno => ?_) fun j p hj => ?_)
  · have hnot : k ∉ xs.map (·.1) := not_mem_keys_of_get hno
    have new := storedH_new (atKey_none_of_get hno) a v
    refine wpAny_bind (wpAny_rule (wpAny_updateDictKeys (hz := by omega) (s := { s with toks := s.toks + (nestedKind P w).draws k }) ho hd ?_))
    have e1 : xs.length + 1 = (storedH xs k a v).length := by rw [new, List.length_append] <;> rfl
    refine hQ _ _ _ _ (Heap.get?_update_self _ ho (Obj.isFreed_of_dict (Obj.data_mapDictKeys hd _))) (hc.mapDictKeys _) (e1 ▸ Obj.data_mapDictKeys hd _) ?_ ?_ (Heap.SameBut.update ..)
    · rw [new]
      simp [he, entryOfKey]
    · rw [new, List.map_append, List.nodup_append]
      refine ⟨hn, by simp, fun x hx y hy => ?_⟩
      simp only [List.map_cons, List.map_nil, List.mem_singleton] at hy
      subst hy
      exact fun e => hnot (e ▸ hx)
  · have old := storedH_old (atKey_of_get hn hj) a v
    refine wpAny_bind (wpAny_rule (wpAny_bind (wpAny_updateDict (s := { s with toks := s.toks + (nestedKind P w).draws k }) ho hd (wpAny_point ?_))))
    have e1 : xs.length = (storedH xs k a v).length := by rw [old, List.length_map]
    refine hQ _ _ _ _ (Heap.get?_update_self _ ho (Obj.isFreed_of_dict (Obj.data_mapDict hd _))) (hc.mapDict _) (e1 ▸ Obj.data_mapDict hd _) ?_ ?_ (Heap.SameBut.update ..)
    · rw [old]
      have := modify_map_putAt (entryOfKey (nestedKind P w)) (fun e : DictEntry => { e with val := v }) k v (fun _ _ => rfl) hn hj
      rw [← he] at this
      obtain ⟨l⟩ := es
      simpa using this
    · rw [old, keys_map_putAt]
      exact hn
theorem setItemN {d a : Addr} {xs : List (NestedKey × Addr × Value)} {o : Obj} {es : Array DictEntry} {k : NestedKey} {v : Value} {Q : Unit → Shared → Prop} (hu : A.units + 20 < cLine) (hk : (nestedKind P w).is s.heap k a) (R : Raw P w s.heap d xs o es) (hz : xs.length ≤ sizeLine)
    (hQ : ∀ h' o' es' tk, h'.get? d = some o' → o'.ExactDict → o'.data = .dict es' (storedH xs k a v).length → es'.toList = (storedH xs k a v).map (entryOfKey (nestedKind P w)) → ((storedH xs k a v).map (·.1)).Nodup → Heap.SameBut d s.heap h' → Q () { s with heap := h', toks := tk }) :
    wpAny (model P w) A (setItem (.ref d) (.ref a) v) Q E s := by
  have hT := R.dict.typeIs
  unfold setItem
  try with_reducible refine wpAny_holding ?_
  refine wpAny_bind (wpAny_sequenceKey hT (by decide) ?_)
  refine wpAny_bind (wpAny_callSpecial?_slot (name := Str.ofString "__setitem__") hT slot_dict_setitem (wpAny_call_entry slot_dict_setitem hT entry_dict_setitem ?_ (args_dict_setitem _ _ _)))
  show wpAny _ _ (Builtin.Dict.notOrdered "__setitem__" ⟨[.ref d, .ref a, v], []⟩ >>= _) _ _ s
  refine wpAny_bind (wpAny_notOrdered_dict hT ?_)
  show wpAny _ _ (dictSet d (.ref a) v >>= _) _ _ s
  exact wpAny_bind (dictSetN (by show A.units + 1 + 8 < _; omega) hk R hz fun h' o' es' tk h1 h2 h3 h4 h5 h6 => wpAny_pure ⟨.none, rfl, wpAny_pure (hQ h' o' es' tk h1 h2 h3 h4 h5 h6)⟩)
end
/-! ### as rules of the hand layer -/
def isKeyN (y : D) : Bool := match y with
  | .tup ds => match keyN (.tup ds) with
    | some q => decide (q.depth ≤ 8)
    | none => false
  | _ => false
theorem isKeyN_ok {K : PySem.W.Frag} {r : List Addr} {H : Hp} {y : D} {v : V} (e : isKeyN y = true) (q : RelD K r H y v) : ∃ k b, keyN y = some k ∧ k.depth ≤ 8 ∧ v = .ref b := by
  unfold isKeyN at e
  split at e
  · split at e
    · rename_i k hk
      cases q
      exact ⟨k, _, hk, of_decide_eq_true e, rfl⟩
    · cases e
  · cases e
def rNIx (K : PySem.W.Frag) : R2 := fun x y H Q => ∃ a w r kvs xs b q k v u c, x = .ref a ∧ y = .ref b ∧ H a = some (DicN w a xs) ∧ RelNs K r H kvs xs ∧ keyN k = some q ∧ q.depth ≤ 8 ∧ RelD K r H k (.ref b) ∧ atKey xs q = some (c, u) ∧ RelV v u ∧ Q v H
section
variable {X : Cx}
theorem dicN_at {pins : List (Addr × Obj)} {σ : L2.St} {H : Hp} {s : Shared} {a b : Addr} {w : World} {r : List Addr} {kvs : List (D × D)} {xs : List (NestedKey × Addr × Value)} {k : D} {q : NestedKey} (I : Inv X pins σ H s) (e : H a = some (DicN w a xs)) (m : RelNs X.K r H kvs xs) (hk : keyN k = some q) (hq : q.depth ≤ 8) (qk : RelD X.K r H k (.ref b)) :
    ∃ o es, Raw X.prog X.w s.heap a xs o es ∧ (nestedKind X.prog X.w).is s.heap q b := by
  obtain ⟨o, es, R⟩ := raw_of I e m
  exact ⟨o, es, R, keyN_is I k q _ _ hk qk rfl, hq⟩
theorem ix_dicN (hu : X.A.units + 30 < cLine) : IxR X (rNIx X.K) := by
  rintro value slice pins s σ H x y v u Q I rx ry ⟨a, w, r, kvs, xs, b, q, k, z, uz, c, rfl, rfl, ha, m, hk, hq, qk, hat, rz, p⟩ hs
  cases rx
  cases ry
  obtain ⟨o, es, R, kk⟩ := dicN_at I ha m hk hq qk
  have hT := R.dict.typeIs
  unfold subscriptTail
  refine wpAny_bind ?_
  rw [getitemInPython_of_ne hT.not_modules]
  refine wpAny_bind (wpAny_specialOf hT PySem.F.slot_dict_getitem.lookup ?_)
  have fin : wpAny (model X.prog X.w) X.A (subscripted slice false (.ref a) (.ref b)) (fun r s3 => wpAny (model X.prog X.w) X.A (letTemporaryGo value (.ref a) r >>= fun _ => pure r) (EP X pins σ Q) X.xe s3) X.xe s := by
    rw [hs]
    exact wpAny_operating (wpAny_getItem_heap (by show X.A.units + 1 + 8 < _; omega) kk R.dict hat (wpAny_bind (wpAny_letTemporaryGo (wpAny_pure ⟨z, H, I.tok _, rz, p⟩))))
  first
    | exact wpAny_pure (wpAny_bind fin)
    | exact wpAny_bind (wpAny_pure (wpAny_bind fin))
    | exact wpAny_bind fin
def rNSet (K : PySem.W.Frag) (w : World) : TSet := fun o i v H Q => ∃ a w' r kvs xs b q k, o = .ref a ∧ i = .ref b ∧ H a = some (DicN w' a xs) ∧ RelNs K r H kvs xs ∧ keyN k = some q ∧ q.depth ≤ 8 ∧ RelD K r H k (.ref b) ∧ xs.length < sizeLine ∧ ∀ u, RelV v u → Q (upd H a (DicN w a (storedH xs q b u)))
theorem set_dicN (hu : X.A.units + 30 < cLine) : PSet X (rNSet X.K X.w) := fun pins s σ H o i v ov iv u Q I ro ri rv ⟨a, w', r, kvs, xs, b, q, k, e1, e2, ha, m, hk, hq, qk, hl, p⟩ => by
  subst e1 e2
  cases ro
  cases ri
  obtain ⟨ob, es, R, kk⟩ := dicN_at I ha m hk hq qk
  refine setItemN (by omega) kk R (Nat.le_of_lt hl) fun h' o' es' tk h1 h2 h3 h4 h5 sb => ?_
  refine ⟨_, I.write (e := a) (t' := tk) (o := DicN X.w a (storedH xs q b u)) (by rw [ha]; trivial) (.inl rfl) (fun c ob hc e => (sb.2 c hc).trans e) ⟨o', h1⟩ ?_, p u rv⟩
  exact ⟨⟨R.nm, o', es', h1, h2, h3, h4, h5⟩, ⟨o', h1⟩, fun _ _ ⟨e, o, es, ho, rr⟩ k => ⟨e, o, es, k o ho, rr⟩⟩
end
end Z
/-! text Z6 -/
/-! Z6: more operations on data: in, items, slices, built-ins, methods, stores. -/
namespace Z
open PySem PySem.Spec PyProof.Rows L2

section
variable {K : PySem.W.Frag} {cl : Str → Addr} {r : List Addr} {h : Hd} {H : Hp} {E : XK}
theorem keyD_inj {a b : D} {k : Key} (h1 : keyD a = some k) (h2 : keyD b = some k) : a = b := by
  cases a <;> cases b <;> simp only [keyD] at h1 h2 <;> first | (cases h1; done) | (cases h2; done) | (cases h1; cases h2; done) | (cases h1; cases h2; rfl)
theorem keyD_rel {d : D} {k : Key} {v : V} (e : keyD d = some k) (q : RelD K r H d v) : v = kV k := by
  cases q <;> simp only [keyD] at e <;> cases e <;> rfl
theorem RelKV.look {k : D} {q : Key} (e : keyD k = some q) : ∀ {kvs : List (D × D)} {qs : List (Key × V)}, RelKV K keyD r H kvs qs → (∀ d, dlook kvs k = some d → ∃ v, valV qs q = some v ∧ RelD K r H d v) ∧ (dlook kvs k = none → valV qs q = none)
  | _, _, .nil => ⟨(fun d e => by cases e), (fun _ => rfl)⟩
  | _, _, .cons (k := k2) (q := q2) (d := d2) (v := v2) (ds := ds) (vs := vs) e2 a b => by
    obtain ⟨h1, h2⟩ := RelKV.look e b
    by_cases hk : k2 = k
    · subst hk
      have eq : q2 = q := Option.some.inj (e2.symm.trans e)
      subst eq
      have l1 : dlook ((k2, d2) :: ds) k2 = some d2 := by simp [dlook]
      have l2 : valV ((q2, v2) :: vs) q2 = some v2 := valV_pos rfl
      exact ⟨fun d hd => ⟨v2, l2, by rw [l1] at hd; cases hd; exact a⟩, fun hn => by rw [l1] at hn; cases hn⟩
    · have hq : ¬ q2 = q := fun z => hk (keyD_inj (z ▸ e2) e)
      have l1 : dlook ((k2, d2) :: ds) k = dlook ds k := by simp [dlook, hk]
      have l2 : valV ((q2, v2) :: vs) q = valV vs q := valV_neg hq
      rw [l1, l2]
      exact ⟨h1, h2⟩
theorem RelKV.any {k : D} {q : Key} (e : keyD k = some q) : ∀ {kvs : List (D × D)} {qs : List (Key × V)}, RelKV K keyD r H kvs qs → (kvs.any fun p => decide (p.1 = k)) = qs.any fun p => decide (p.1 = q)
  | _, _, .nil => rfl
  | _, _, .cons (k := k2) (q := q2) e2 a b => by
    rw [List.any_cons, List.any_cons, RelKV.any e b]
    congr 1
    by_cases hk : k2 = k
    · subst hk
      have eq : q2 = q := Option.some.inj (e2.symm.trans e)
      simp [eq]
    · have hq : ¬ q2 = q := fun z => hk (keyD_inj (z ▸ e2) e)
      simp [hk, hq]
theorem RelKV.mapPut {k d : D} {q : Key} {v : V} (e : keyD k = some q) (qd : RelD K r H d v) : ∀ {kvs : List (D × D)} {qs : List (Key × V)}, RelKV K keyD r H kvs qs → RelKV K keyD r H (kvs.map fun p => if p.1 = k then (p.1, d) else p) (qs.map fun p => if p.1 = q then (p.1, v) else p)
  | _, _, .nil => .nil
  | _, _, .cons (k := k2) (q := q2) e2 a b => by
    rw [List.map_cons, List.map_cons]
    by_cases hk : k2 = k
    · have eq : q2 = q := Option.some.inj (e2.symm.trans (hk ▸ e))
      rw [if_pos hk, if_pos eq]
      exact .cons e2 qd (RelKV.mapPut e qd b)
    · have hq : ¬ q2 = q := fun z => hk (keyD_inj (z ▸ e2) e)
      rw [if_neg hk, if_neg hq]
      exact .cons e2 a (RelKV.mapPut e qd b)
theorem RelKV.snoc {k d : D} {q : Key} {v : V} (e : keyD k = some q) (qd : RelD K r H d v) : ∀ {kvs : List (D × D)} {qs : List (Key × V)}, RelKV K keyD r H kvs qs → RelKV K keyD r H (kvs ++ [(k, d)]) (qs ++ [(q, v)])
  | _, _, .nil => .cons e qd .nil
  | _, _, .cons e2 a b => .cons e2 a (RelKV.snoc e qd b)
theorem RelKV.put {k d : D} {q : Key} {v : V} {kvs : List (D × D)} {qs : List (Key × V)} (m : RelKV K keyD r H kvs qs) (e : keyD k = some q) (qd : RelD K r H d v) : RelKV K keyD r H (dput kvs k d) (putK qs q v) := by
  unfold dput putK
  rw [m.any e]
  split
  · exact m.mapPut e qd
  · exact m.snoc e qd
theorem RelKV.length {κ : Type} {kf : D → Option κ} : ∀ {kvs : List (D × D)} {qs : List (κ × V)}, RelKV K kf r H kvs qs → kvs.length = qs.length
  | _, _, .nil => rfl
  | _, _, .cons _ _ b => congrArg Nat.succ b.length
/-- a dict of ints and texts as it stands -/
theorem RelH.dic {n : Nat} {a : Addr} {kvs : List (D × D)} (R : RelH K cl r h H) (e : r[n]? = some a) (q : h[n]? = some (.dic kvs)) : ∃ qs, H a = some (.dK qs) ∧ RelKV K keyD r H kvs qs := by
  obtain ⟨o, h1, h2⟩ := R.ob n _ a q e
  cases h2 with
  | dK m => exact ⟨_, h1, m⟩
/-! ### in -/
def flatD : D → Bool
  | .non => true
  | .bl _ => true
  | .int _ => true
  | .str _ => true
  | _ => false
def eqF : D → D → Bool
  | .non, .non => true
  | .bl a, .bl b => a == b
  | .bl a, .int b => (if a then 1 else 0) == b
  | .int a, .bl b => a == (if b then 1 else 0)
  | .int a, .int b => a == b
  | .str a, .str b => a == b
  | _, _ => false
/-- x in a sequence: flat data at once, other data as trees -/
def inSeq (x : D) (ds : List D) (h : Hd) : Option Bool := if flatD x = true ∧ ds.all flatD = true then some (ds.any fun y => eqF y x) else none
def seqOf (y : D) (h : Hd) : Option (List D) := match y with
  | .tup ds => some ds
  | .fl ds => some ds
  | .ref n => match h[n]? with
    | some (.lst ds) => some ds
    | _ => none
  | _ => none
def inD (x y : D) (h : Hd) : Option Bool := match seqOf y h with
  | some ds => inSeq x ds h
  | none => match y with
    | .ref n => match h[n]? with
      | some (.dic kvs) => if (keyD x).isSome = true then some (dlook kvs x).isSome else none
      | _ => none
    | .str t => match x with
      | .str s => some (!(Builtin.Str.occurrences t s 0 t.length 1).isEmpty)
      | _ => none
    | _ => none
def dIn (x y : D) (h : Hd) : Out D := match inD x y h with
  | some b => .ok (.bl b) h
  | none => .fail
def dNotIn (x y : D) (h : Hd) : Out D := match inD x y h with
  | some b => .ok (.bl (!b)) h
  | none => .fail
theorem flat_rel {d : D} {v : V} (q : RelD K r H d v) : flatV v = flatD d ∨ flatD d = false := by
  cases q <;> first | exact .inl rfl | exact .inr rfl
theorem flat_all {ds : List D} {vs : List V} (m : RelDs K r H ds vs) (e : ds.all flatD = true) : vs.all flatV = true := by
  induction m using RelDs.rec (motive_1 := fun _ _ _ => True) with
  | nil => rfl
  | @cons d v ds vs a b _ ih =>
    rw [List.all_cons, Bool.and_eq_true] at e ⊢
    refine ⟨?_, ih e.2⟩
    rcases flat_rel a with z | z
    · rw [z]; exact e.1
    · rw [z] at e; cases e.1
  | _ => trivial
theorem eqF_rel {x y : D} {u v : V} (qx : RelD K r H x u) (qy : RelD K r H y v) (fx : flatD x = true) (fy : flatD y = true) : eqV u v = eqF x y := by
  cases qx <;> cases qy <;> first | rfl | cases fx | cases fy
theorem any_rel {x : D} {u : V} (qx : RelD K r H x u) (fx : flatD x = true) {ds : List D} {vs : List V} (m : RelDs K r H ds vs) (e : ds.all flatD = true) : inV u vs = ds.any fun y => eqF y x := by
  induction m using RelDs.rec (motive_1 := fun _ _ _ => True) with
  | nil => rfl
  | @cons d v ds vs a b _ ih =>
    rw [List.all_cons, Bool.and_eq_true] at e
    show (eqV v u || inV u vs) = _
    rw [List.any_cons, ih e.2, eqF_rel a qx e.1 fx]
  | _ => trivial
theorem seqOf_rel {y : D} {ds : List D} {v : V} (R : RelH K cl r h H) (q : RelD K r H y v) (e : seqOf y h = some ds) : ∃ a vs, v = .ref a ∧ (SqL K H a vs ∨ SqT K H a vs) ∧ RelDs K r H ds vs := by
  cases q with
  | tup s m => cases e; exact ⟨_, _, rfl, .inr s, m⟩
  | fl s m => cases e; exact ⟨_, _, rfl, .inl s.sq, m⟩
  | @ref n a q =>
    simp only [seqOf] at e
    cases hn : h[n]? with
    | none => rw [hn] at e; cases e
    | some mo =>
      rw [hn] at e
      cases mo with
      | lst xs =>
        cases e
        obtain ⟨vs, h1, m⟩ := R.lst q hn
        exact ⟨a, vs, rfl, .inl (SqL.of h1), m⟩
      | _ => cases e
  | _ => cases e
abbrev rdDIn (neg : Bool) : R2 := fun y x H Q => ∃ a o, x = .ref a ∧ DGet H a y o ∧ Q (.bl (if neg then !o.isSome else o.isSome)) H
abbrev rdSIn (neg : Bool) : R2 := fun x y H Q => ∃ i j, x = .str i ∧ y = .str j ∧ Q (.bl (if neg then !(!(Builtin.Str.occurrences j i 0 j.length 1).isEmpty) else !(Builtin.Str.occurrences j i 0 j.length 1).isEmpty)) H
abbrev rdIn (K : PySem.W.Frag) (neg : Bool) : R2 := fun x y H Q => rIn K neg x y H Q ∨ rdDIn neg x y H Q ∨ rdSIn neg x y H Q
theorem opr_in {X : Cx} (hu : X.A.units + 1 < cLine) : OpR X (compareOp .In) (rdIn X.K false) := op_in_seq.or (OpR.or (fun pins s σ H y x iv u Q I ry rx ⟨a, o, ex, g, q⟩ => by
  subst ex
  obtain rfl : u = Value.ref a := rx
  exact d_in hu I g ry fun s3 I3 => ⟨.bl o.isSome, H, I3, rfl, q⟩) op_in_str)
theorem opr_notIn {X : Cx} (hu : X.A.units + 1 < cLine) : OpR X (compareOp .NotIn) (rdIn X.K true) := op_notIn_seq.or (OpR.or (fun pins s σ H y x iv u Q I ry rx ⟨a, o, ex, g, q⟩ => by
  subst ex
  obtain rfl : u = Value.ref a := rx
  exact d_notIn hu I g ry fun s3 I3 => ⟨.bl (!o.isSome), H, I3, rfl, q⟩) op_notin_str)
theorem inD_ok {x y : D} {u v : V} {b : Bool} (R : RelH K cl r h H) (qx : RelD K r H x u) (qy : RelD K r H y v) (e : inD x y h = some b) :
    (∃ p vs, v = .ref p ∧ (SqL K H p vs ∨ SqT K H p vs) ∧ flatV u = true ∧ vs.all flatV = true ∧ inV u vs = b) ∨ (∃ a o, v = .ref a ∧ DGet H a u o ∧ o.isSome = b) ∨ ∃ i j, u = .str i ∧ v = .str j ∧ (!(Builtin.Str.occurrences j i 0 j.length 1).isEmpty) = b := by
  unfold inD at e
  cases hs : seqOf y h with
  | some ds =>
    rw [hs] at e
    simp only [inSeq] at e
    split at e
    · rename_i hf
      cases e
      obtain ⟨a, vs, rfl, s, m⟩ := seqOf_rel R qy hs
      refine .inl ⟨a, vs, rfl, s, ?_, flat_all m hf.2, any_rel qx hf.1 m hf.2⟩
      rcases flat_rel qx with z | z
      · rw [z]; exact hf.1
      · rw [z] at hf; cases hf.1
    · cases e
  | none =>
    rw [hs] at e
    dsimp only at e
    split at e
    · rename_i n
      obtain ⟨a, rfl, ha⟩ := qy.ref_inv
      split at e
      · rename_i kvs hn
        split at e
        · rename_i hk
          cases e
          obtain ⟨k, ek⟩ := Option.isSome_iff_exists.mp hk
          obtain ⟨qs, h1, m⟩ := R.dic ha hn
          refine .inr (.inl ⟨a, valV qs k, rfl, ?_, ?_⟩)
          · rw [keyD_rel ek qx]; exact DGet.k h1
          · cases hl : dlook kvs x with
            | none => rw [(m.look ek).2 hl]; rfl
            | some d => obtain ⟨v, h2, _⟩ := (m.look ek).1 d hl; rw [h2]; rfl
        · cases e
      · cases e
    · split at e
      · cases e
        exact .inr (.inr ⟨_, _, qx.str_inv, qy.str_inv, rfl⟩)
      · cases e
    · cases e
theorem opm_in : OpM K cl E (rdIn K false) dIn := fun r h H x y vx vy Q R qx qy p => by
  unfold dIn at p
  split at p
  · rename_i b e
    have q := Post.end' R p (.bl (b := b))
    rcases inD_ok R qx qy e with ⟨a, vs, h1, h2, h3, h4, h5⟩ | ⟨a, o, h1, h2, h3⟩ | ⟨i, j, h1, h2, h3⟩
    · exact .inl ⟨a, vs, h1, h2, h3, h4, by rw [h5]; exact q⟩
    · exact .inr (.inl ⟨a, o, h1, h2, by rw [h3]; exact q⟩)
    · exact .inr (.inr ⟨i, j, h1, h2, by rw [h3]; exact q⟩)
  · exact p.elim
theorem opm_notIn : OpM K cl E (rdIn K true) dNotIn := fun r h H x y vx vy Q R qx qy p => by
  unfold dNotIn at p
  split at p
  · rename_i b e
    have q := Post.end' R p (.bl (b := !b))
    rcases inD_ok R qx qy e with ⟨a, vs, h1, h2, h3, h4, h5⟩ | ⟨a, o, h1, h2, h3⟩ | ⟨i, j, h1, h2, h3⟩
    · exact .inl ⟨a, vs, h1, h2, h3, h4, by rw [h5]; exact q⟩
    · exact .inr (.inl ⟨a, o, h1, h2, by rw [h3]; exact q⟩)
    · exact .inr (.inr ⟨i, j, h1, h2, by rw [h3]; exact q⟩)
  · exact p.elim
/-! ### items -/
def dIx (x y : D) (h : Hd) : Out D := match seqOf x h with
  | some ds => match y with
    | .int i => match atI ds i with
      | some d => .ok d h
      | none => .fail
    | _ => .fail
  | none => match x with
    | .ref n => match h[n]? with
      | some (.dic kvs) => if (keyD y).isSome = true then (match dlook kvs y with
        | some d => .ok d h
        | none => .fail) else .fail
      | some (.dit kvs) => if isKeyN y = true then (match dlook kvs y with
        | some d => .ok d h
        | none => .fail) else .fail
      | _ => .fail
    | .str s => match y with
      | .int i => if s.length ≤ sizeLine then (match atI s.cps.toList i with
        | some c => .ok (.str ⟨#[c]⟩) h
        | none => .fail) else .fail
      | _ => .fail
    | _ => .fail
abbrev rdDIx : R2 := fun x y H Q => ∃ a v, x = .ref a ∧ DGet H a y (some v) ∧ Q v H
theorem ix_dict {X : Cx} (hu : X.A.units + 1 < cLine) : IxR X rdDIx := by
  rintro value slice pins s σ H x y v u Q I rx ry ⟨a, z, rfl, g, q⟩ hs
  cases rx
  have hT := dict_typeIs I g
  unfold subscriptTail
  refine wpAny_bind ?_
  rw [getitemInPython_of_ne hT.not_modules]
  refine wpAny_bind (wpAny_specialOf hT PySem.F.slot_dict_getitem.lookup ?_)
  have fin : wpAny (model X.prog X.w) X.A (subscripted slice false (.ref a) u) (fun r s3 => wpAny (model X.prog X.w) X.A (letTemporaryGo value (.ref a) r >>= fun _ => pure r) (EP X pins σ Q) X.xe s3) X.xe s := by
    rw [hs]
    exact wpAny_operating (wpAny_mono (d_getItem hu I g ry fun w' s3 I3 rw' => (show EP X pins σ Q w' s3 from ⟨z, H, I3, rw', q⟩)) (fun r s3 h3 => wpAny_bind (wpAny_letTemporaryGo (wpAny_pure h3))) fun _ _ x => x)
  first
    | exact wpAny_pure (wpAny_bind fin)
    | exact wpAny_bind (wpAny_pure (wpAny_bind fin))
    | exact wpAny_bind fin
abbrev rdIx (K : PySem.W.Frag) : R2 := fun x y H Q => rIx K x y H Q ∨ rdDIx x y H Q ∨ rNIx K x y H Q
theorem ixr {X : Cx} (hu : X.A.units + 30 < cLine) : IxR X (rdIx X.K) := ix_seq.or (IxR.or (ix_dict (by omega)) (ix_dicN hu))
theorem RelDs.atI {ds : List D} {vs : List V} (m : RelDs K r H ds vs) {i : Int} {d : D} (e : L2.atI ds i = some d) : ∃ v, L2.atI vs i = some v ∧ RelD K r H d v := by
  unfold L2.atI at e ⊢
  rw [← m.length]
  cases hx : ixN ds.length i with
  | none => rw [hx] at e; cases e
  | some j =>
    rw [hx] at e
    exact m.get e
theorem opm_ix : OpM K cl E (rdIx K) dIx := fun r h H x y vx vy Q R qx qy p => by
  unfold dIx at p
  cases hs : seqOf x h with
  | some ds =>
    rw [hs] at p
    dsimp only at p
    split at p
    · rename_i i
      split at p
      · rename_i d e
        obtain ⟨a, vs, rfl, s, m⟩ := seqOf_rel R qx hs
        obtain ⟨v, e2, q2⟩ := m.atI e
        rw [qy.int_inv]
        rcases s with s | s
        · exact .inl (.inl ⟨a, vs, i, v, rfl, rfl, s, e2, Post.end' R p q2⟩)
        · exact .inl (.inr (.inl ⟨a, vs, i, v, rfl, rfl, s, e2, Post.end' R p q2⟩))
      · exact p.elim
    · exact p.elim
  | none =>
    rw [hs] at p
    dsimp only at p
    split at p
    · rename_i n
      obtain ⟨a, rfl, ha⟩ := qx.ref_inv
      split at p
      · rename_i kvs hn
        split at p
        · rename_i hk
          split at p
          · rename_i d e
            obtain ⟨k, ek⟩ := Option.isSome_iff_exists.mp hk
            obtain ⟨qs, h1, m⟩ := R.dic ha hn
            obtain ⟨v, h2, q2⟩ := (m.look ek).1 d e
            refine .inr (.inl ⟨a, v, rfl, ?_, Post.end' R p q2⟩)
            rw [keyD_rel ek qy, ← h2]
            exact DGet.k h1
          · exact p.elim
        · exact p.elim
      · rename_i kvs hn
        split at p
        · rename_i hk
          split at p
          · rename_i d e
            obtain ⟨k, b, ek, dk, rfl⟩ := isKeyN_ok hk qy
            obtain ⟨w, xs, h1, m⟩ := R.dit ha hn
            obtain ⟨c, v, u, h2, q2, q3⟩ := (m.look ek).1 d e
            exact .inr (.inr ⟨a, w, r, kvs, xs, b, k, y, v, u, c, rfl, rfl, h1, m, ek, dk, qy, h2, q3, Post.end' R p q2⟩)
          · exact p.elim
        · exact p.elim
      · exact p.elim
    · rename_i s
      split at p
      · rename_i i
        split at p
        · rename_i hl
          split at p
          · rename_i c e
            rw [qx.str_inv, qy.int_inv]
            exact .inl (.inr (.inr ⟨s, i, c, rfl, rfl, hl, e, Post.end' R p .str⟩))
          · exact p.elim
        · exact p.elim
      · exact p.elim
    · exact p.elim
end
end Z
/-! text Z7 -/
/-! Z7: slices, built-ins, methods, stores, displays with stars. -/
namespace Z
open PySem PySem.Spec PyProof.Rows L2

/-! ### slices -/
abbrev XO := En → Hd → Out (Option Int)
def TOm (K : PySem.W.Frag) (cl : Str → Addr) (E : XK) (m : XO) : TO := fun σ H Q => ∃ r h en, RelH K cl r h H ∧ RelE K r H en σ ∧ Post K cl r H E (fun _ _ H' o => Q o H') (m en h)
abbrev POm (X : Cx) (cl : Str → Addr) (E : XK) (e : Option Expr) (m : XO) : Prop := PO X e (TOm X.K cl E m)
def oNone : XO := fun _ h => .ok none h
def intOf (x : D) (h : Hd) : Out (Option Int) := match x with
  | .int i => .ok (some i) h
  | _ => .fail
def oSome (m : XE) : XO := fun en h => (m en h).bind intOf
def cutL {α : Type} (xs : List α) (lo hi : Option Int) : List α := (xs.drop (HT.sIx xs.length 0 lo)).take (HT.sIx xs.length xs.length hi - HT.sIx xs.length 0 lo)
/-- the items of a list -/
def lstOf (y : D) (h : Hd) : Option (List D) := match y with
  | .fl ds => some ds
  | .ref n => match h[n]? with
    | some (.lst ds) => some ds
    | _ => none
  | _ => none
def dSl (x : D) (lo hi : Option Int) (h : Hd) : Out D := match x with
  | .tup ds => .ok (.tup (cutL ds lo hi)) h
  | .str s => if s.length ≤ sizeLine then .ok (.str (cutS s lo hi)) h else .fail
  | x => match lstOf x h with
    | some ds => mkLst (cutL ds lo hi) h
    | none => .fail
def xSl (m : XE) (lo hi : XO) : XE := fun en h => (m en h).bind fun x h1 => (lo en h1).bind fun l h2 => (hi en h2).bind fun u h3 => dSl x l u h3
def xRev (m : XE) : XE := fun en h => (m en h).bind fun x h1 => match lstOf x h1 with
  | some ds => mkLst ds.reverse h1
  | none => .fail
section
variable {X : Cx} {cl : Str → Addr} {E : XK} {e a b c : Expr} {pos p2 : Pos} {m mb mo mv : XE} {ms : XA} {K : PySem.W.Frag} {r : List Addr} {h : Hd} {H : Hp}
theorem om_none : POm X cl E none oNone := ⟨fun pins s σ H Q I ⟨r, h, en, R, e, p⟩ => po_none.run pins s σ H Q I (p r H (Ext.refl _ _) R)⟩
theorem om_some (he : PEm X cl E e m) : POm X cl E (some e) (oSome m) := ⟨fun pins s σ H Q I ⟨r, h, en, R, e, p⟩ => (po_some he).run pins s σ H Q I ⟨r, h, en, R, e, (Post.bind p).imp fun x r1 h1 H1 e1 R1 p1 v q => by
  cases x with
  | int i => exact ⟨i, q.int_inv, p1 r1 H1 (Ext.refl _ _) R1⟩
  | _ => exact p1.elim⟩⟩
abbrev rdSl (K : PySem.W.Frag) : V → Option Int → Option Int → Hp → VK → Prop := fun x lo hi H Q => rSlT K x lo hi H Q ∨
  (∃ a xs, x = .ref a ∧ SqT K H a xs ∧ HT.sIx xs.length 0 lo = 0 ∧ HT.sIx xs.length xs.length hi = xs.length ∧ Q (.ref a) H) ∨ rSlL K x lo hi H Q ∨ rSlS x lo hi H Q
theorem slr : SlR X (rdSl X.K) := sl_tup.or (sl_tupW.or (sl_list.or sl_str))
theorem cut_rel {ds : List D} {vs : List V} (q : RelDs K r H ds vs) (lo hi : Option Int) : RelDs K r H (cutL ds lo hi) (cutV vs lo hi) := by
  unfold cutL cutV
  rw [q.length]
  exact (q.drop _).take _
theorem lstOf_rel {y : D} {ds : List D} {v : V} (R : RelH K cl r h H) (q : RelD K r H y v) (e : lstOf y h = some ds) : ∃ a vs, v = .ref a ∧ SqL K H a vs ∧ RelDs K r H ds vs := by
  cases q with
  | fl s m => cases e; exact ⟨_, _, rfl, s.sq, m⟩
  | @ref n a q =>
    simp only [lstOf] at e
    cases hn : h[n]? with
    | none => rw [hn] at e; cases e
    | some mo =>
      rw [hn] at e
      cases mo with
      | lst xs =>
        cases e
        obtain ⟨vs, h1, m⟩ := R.lst q hn
        exact ⟨a, vs, rfl, SqL.of h1, m⟩
      | _ => cases e
  | _ => cases e
theorem dSl_ok {x : D} {v : V} {lo hi : Option Int} {Q : VK} (R : RelH K cl r h H) (q : RelD K r H x v) (p : Post K cl r H E (PV K Q) (dSl x lo hi h)) : rdSl K v lo hi H Q := by
  unfold dSl at p
  split at p
  · obtain ⟨a, vs, rfl, s, m⟩ := q.tup_inv
    by_cases hw : HT.sIx vs.length 0 lo = 0 ∧ HT.sIx vs.length vs.length hi = vs.length
    · refine .inr (.inl ⟨a, vs, rfl, s, hw.1, hw.2, Post.end' R p (.tup s ?_)⟩)
      have e : cutV vs lo hi = vs := by
        unfold cutV
        rw [hw.1, hw.2]
        simp
      have z := cut_rel m lo hi
      rw [e] at z
      exact z
    · refine .inl ⟨a, vs, rfl, s, hw, fun b hb => ?_⟩
      have E1 : Ext r H r (upd H b (.tup (cutV vs lo hi))) := Ext.new R hb
      exact p r _ E1 (R.new hb) _ (.tup (.inl (.inl upd_same)) ((cut_rel m lo hi).mono (R.keep E1)))
  · rename_i s
    split at p
    · rename_i hl
      exact .inr (.inr (.inr ⟨s, q.str_inv, hl, Post.end' R p .str⟩))
    · exact p.elim
  · split at p
    · rename_i ds e
      obtain ⟨a, vs, rfl, s, m⟩ := lstOf_rel R q e
      exact .inr (.inr (.inl ⟨a, vs, rfl, s, (post_lst R (cut_rel m lo hi) p).2⟩))
    · exact p.elim
theorem em_slice {lo hi : Option Expr} {ml mh : XO} (he : PEm X cl E e m) (hl : POm X cl E lo ml) (hu : POm X cl E hi mh) : PEm X cl E (.Subscript e (.Slice lo hi none p2) pos) (xSl m ml mh) :=
  (pe_slice slr he hl hu).imp fun σ H Q ⟨r, h, en, R, e, p⟩ =>
    ⟨r, h, en, R, e, (Post.bind p).imp fun x r1 h1 H1 e1 R1 p1 v1 q1 =>
      ⟨r1, h1, en, R1, e.mono (R.keep e1), (Post.bind p1).imp fun l r2 h2 H2 e2 R2 p2 =>
        ⟨r2, h2, en, R2, (e.mono (R.keep e1)).mono (R1.keep e2), (Post.bind p2).imp fun u r3 h3 H3 e3 R3 p3 => dSl_ok R3 ((q1.mono (R1.keep e2)).mono (R2.keep e3)) p3⟩⟩⟩
theorem em_rev {k : Nat} {q1 q2 q3 : Pos} (he : PEm X cl E e m) : PEm X cl E (.Subscript e (.Slice none none (some (.UnaryOp .USub (.Constant (.int 1) k q1) q2)) q3) pos) (xRev m) :=
  (pe_revL he).imp fun σ H Q ⟨r, h, en, R, e, p⟩ =>
    ⟨r, h, en, R, e, (Post.bind p).imp fun x r1 h1 H1 e1 R1 p1 v1 q1 => by
      split at p1
      · rename_i ds e2
        obtain ⟨a, vs, rfl, s, m⟩ := lstOf_rel R1 q1 e2
        exact ⟨a, vs, rfl, s, (post_lst R1 m.reverse p1).2⟩
      · exact p1.elim⟩
/-! ### built-ins -/
def dLen (xs : List D) (h : Hd) : Out D := match xs with
  | [.str s] => if s.length ≤ sizeLine then .ok (.int s.length) h else .fail
  | [.ref n] => match h[n]? with
    | some (.lst ds) => .ok (.int ds.length) h
    | some (.dic kvs) => .ok (.int kvs.length) h
    | _ => .fail
  | [.tup ds] => .ok (.int ds.length) h
  | [.fl ds] => .ok (.int ds.length) h
  | _ => .fail
theorem RelDs.one {d : D} {vs : List V} (q : RelDs K r H [d] vs) : ∃ v, vs = [v] ∧ RelD K r H d v := by
  cases q with
  | cons a b => cases b; exact ⟨_, rfl, a⟩
theorem RelDs.two {d e : D} {vs : List V} (q : RelDs K r H [d, e] vs) : ∃ v w, vs = [v, w] ∧ RelD K r H d v ∧ RelD K r H e w := by
  cases q with
  | cons a b => cases b with | cons c d => cases d; exact ⟨_, _, rfl, a, c⟩
abbrev rdLen (K : PySem.W.Frag) : List V → Hp → VK → Prop := fun xs H Q => (∃ x n, xs = [x] ∧ LenV K x H n ∧ Q (.int n) H) ∨ ∃ a kvs, xs = [V.ref a] ∧ H a = some (.dK kvs) ∧ Q (.int kvs.length) H
theorem cr_len : CallR X (.builtin "len") (rdLen X.K) := call_len.or call_lenD
theorem cm_len : CallM K cl E (rdLen K) dLen := fun r h H xs vs Q R q p => by
  unfold dLen at p
  split at p
  · obtain ⟨v, rfl, qv⟩ := q.one
    rw [qv.str_inv]
    split at p
    · rename_i hl; exact .inl ⟨_, _, rfl, ⟨hl, rfl⟩, Post.end' R p .int⟩
    · exact p.elim
  · obtain ⟨v, rfl, qv⟩ := q.one
    obtain ⟨a, rfl, ha⟩ := qv.ref_inv
    split at p
    · rename_i ds hn
      obtain ⟨ws, h1, m⟩ := R.lst ha hn
      rw [m.length] at p
      exact .inl ⟨_, _, rfl, .inl ⟨_, SqL.of h1, rfl⟩, Post.end' R p .int⟩
    · rename_i kvs hn
      obtain ⟨qs, h1, m⟩ := R.dic ha hn
      rw [m.length] at p
      exact .inr ⟨_, _, rfl, h1, Post.end' R p .int⟩
    · exact p.elim
  · obtain ⟨v, rfl, qv⟩ := q.one
    obtain ⟨a, ws, rfl, s, m⟩ := qv.tup_inv
    rw [m.length] at p
    exact .inl ⟨_, _, rfl, .inr ⟨_, s, rfl⟩, Post.end' R p .int⟩
  · obtain ⟨v, rfl, qv⟩ := q.one
    obtain ⟨a, ws, rfl, s, m⟩ := qv.fl_inv
    rw [m.length] at p
    exact .inl ⟨_, _, rfl, .inl ⟨_, s.sq, rfl⟩, Post.end' R p .int⟩
  · exact p.elim
def dTuple (xs : List D) (h : Hd) : Out D := match xs with
  | [.tup ds] => .ok (.tup ds) h
  | [x] => match lstOf x h with
    | some ds => .ok (.tup ds) h
    | none => .fail
  | _ => .fail
abbrev rdTuple (K : PySem.W.Frag) : List V → Hp → VK → Prop := fun xs H Q => ∃ p ys, xs = [.ref p] ∧ ((SqL K H p ys ∧ ∀ l, H l = none → Q (.ref l) (upd H l (.tup ys))) ∨ (SqT K H p ys ∧ Q (.ref p) H))
theorem cm_tuple : CallM K cl E (rdTuple K) dTuple := fun r h H xs vs Q R q p => by
  unfold dTuple at p
  split at p
  · obtain ⟨v, rfl, qv⟩ := q.one
    obtain ⟨a, ws, rfl, s, m⟩ := qv.tup_inv
    exact ⟨a, ws, rfl, .inr ⟨s, Post.end' R p (.tup s m)⟩⟩
  · obtain ⟨v, rfl, qv⟩ := q.one
    split at p
    · rename_i ds e
      obtain ⟨a, ws, rfl, s, m⟩ := lstOf_rel R qv e
      refine ⟨a, ws, rfl, .inl ⟨s, fun b hb => ?_⟩⟩
      have E1 : Ext r H r (upd H b (.tup ws)) := Ext.new R hb
      exact p r _ E1 (R.new hb) _ (.tup (.inl (.inl upd_same)) (m.mono (R.keep E1)))
    · exact p.elim
  · exact p.elim
def dList (xs : List D) (h : Hd) : Out D := match xs with
  | [x] => match seqOf x h with
    | some ds => mkLst ds h
    | none => .fail
  | _ => .fail
abbrev rdList (K : PySem.W.Frag) : List V → Hp → VK → Prop := fun xs H Q => ∃ p ys, xs = [.ref p] ∧ (SqL K H p ys ∨ SqT K H p ys) ∧ ∀ l, H l = none → Q (.ref l) (upd H l (.lst ys))
theorem cm_list : CallM K cl E (rdList K) dList := fun r h H xs vs Q R q p => by
  unfold dList at p
  split at p
  · obtain ⟨v, rfl, qv⟩ := q.one
    split at p
    · rename_i ds e
      obtain ⟨a, ws, rfl, s, m⟩ := seqOf_rel R qv e
      exact ⟨a, ws, rfl, s, (post_lst R m p).2⟩
    · exact p.elim
  · exact p.elim
def dInt (xs : List D) (h : Hd) : Out D := match xs with
  | [.int i] => .ok (.int i) h
  | [.bl b] => .ok (.int (if b then 1 else 0)) h
  | [.str s] => match PySem.intText? s with
    | some n => if s.length ≤ 640 then .ok (.int n) h else .fail
    | none => .fail
  | _ => .fail
abbrev rdInt : List V → Hp → VK → Prop := fun xs H Q => ((∃ i, xs = [.int i] ∧ Q (.int i) H) ∨ ∃ k, xs = [.bl k] ∧ Q (.int (if k then 1 else 0)) H) ∨ ∃ s n, xs = [V.str s] ∧ PySem.intText? s = some n ∧ s.length ≤ 640 ∧ Q (.int n) H
theorem cr_int (hi : CallR X (.type "int") (fun xs H Q => ∃ s n, xs = [V.str s] ∧ PySem.intText? s = some n ∧ s.length ≤ 640 ∧ Q (.int n) H)) : CallR X (.type "int") rdInt := call_int1.or hi
theorem cm_int : CallM K cl E rdInt dInt := fun r h H xs vs Q R q p => by
  unfold dInt at p
  split at p
  · obtain ⟨v, rfl, qv⟩ := q.one
    rw [qv.int_inv]
    exact .inl (.inl ⟨_, rfl, Post.end' R p .int⟩)
  · obtain ⟨v, rfl, qv⟩ := q.one
    rw [qv.bl_inv]
    exact .inl (.inr ⟨_, rfl, Post.end' R p .int⟩)
  · obtain ⟨v, rfl, qv⟩ := q.one
    rw [qv.str_inv]
    split at p
    · rename_i n e
      split at p
      · rename_i hl; exact .inr ⟨_, n, rfl, e, hl, Post.end' R p .int⟩
      · exact p.elim
    · exact p.elim
  · exact p.elim
/-- a list of bools -/
def blsOf : List D → Option (List Bool)
  | [] => some []
  | .bl b :: ds => (blsOf ds).map fun bs => b :: bs
  | _ :: _ => none
theorem blsOf_rel : ∀ {ds : List D} {vs : List V} {bs : List Bool}, RelDs K r H ds vs → blsOf ds = some bs → vs = bs.map V.bl
  | _, _, _, .nil, e => by cases e; rfl
  | _, _, bs, .cons (d := d) (ds := ds) a b, e => by
    cases d <;> simp only [blsOf] at e <;> try cases e
    cases hq : blsOf ds with
    | none => rw [hq] at e; cases e
    | some cs =>
      rw [hq] at e
      cases e
      rw [a.bl_inv, blsOf_rel b hq]
      rfl
def dAll (xs : List D) (h : Hd) : Out D := match xs with
  | [x] => match (lstOf x h).bind blsOf with
    | some bs => .ok (.bl (bs.all id)) h
    | none => .fail
  | _ => .fail
def dAny (xs : List D) (h : Hd) : Out D := match xs with
  | [x] => match (lstOf x h).bind blsOf with
    | some bs => .ok (.bl (bs.any id)) h
    | none => .fail
  | _ => .fail
theorem bls_rel {x : D} {v : V} {bs : List Bool} (R : RelH K cl r h H) (q : RelD K r H x v) (e : (lstOf x h).bind blsOf = some bs) : ∃ a, v = .ref a ∧ SqL K H a (bs.map V.bl) := by
  cases hl : lstOf x h with
  | none => rw [hl] at e; cases e
  | some ds =>
    rw [hl] at e
    obtain ⟨a, ws, rfl, s, m⟩ := lstOf_rel R q hl
    exact ⟨a, rfl, by rw [← blsOf_rel m e]; exact s⟩
theorem cm_all : CallM K cl E (rAll K) dAll := fun r h H xs vs Q R q p => by
  unfold dAll at p
  split at p
  · obtain ⟨v, rfl, qv⟩ := q.one
    split at p
    · rename_i bs e
      obtain ⟨a, rfl, s⟩ := bls_rel R qv e
      exact ⟨a, bs, rfl, s, Post.end' R p .bl⟩
    · exact p.elim
  · exact p.elim
theorem cm_any : CallM K cl E (rAny K) dAny := fun r h H xs vs Q R q p => by
  unfold dAny at p
  split at p
  · obtain ⟨v, rfl, qv⟩ := q.one
    split at p
    · rename_i bs e
      obtain ⟨a, rfl, s⟩ := bls_rel R qv e
      exact ⟨a, bs, rfl, s, Post.end' R p .bl⟩
    · exact p.elim
  · exact p.elim
/-- a list of ints -/
def intsOf : List D → Option (List Int)
  | [] => some []
  | .int b :: ds => (intsOf ds).map fun bs => b :: bs
  | _ :: _ => none
theorem intsOf_rel : ∀ {ds : List D} {vs : List V} {bs : List Int}, RelDs K r H ds vs → intsOf ds = some bs → vs = bs.map V.int
  | _, _, _, .nil, e => by cases e; rfl
  | _, _, bs, .cons (d := d) (ds := ds) a b, e => by
    cases d <;> simp only [intsOf] at e <;> try cases e
    cases hq : intsOf ds with
    | none => rw [hq] at e; cases e
    | some cs =>
      rw [hq] at e
      cases e
      rw [a.int_inv, intsOf_rel b hq]
      rfl
def dSum (xs : List D) (h : Hd) : Out D := match xs with
  | [x] => match (lstOf x h).bind intsOf with
    | some ns => .ok (.int ns.sum) h
    | none => .fail
  | _ => .fail
theorem ints_rel {x : D} {v : V} {bs : List Int} (R : RelH K cl r h H) (q : RelD K r H x v) (e : (lstOf x h).bind intsOf = some bs) : ∃ a, v = .ref a ∧ SqL K H a (bs.map V.int) := by
  cases hl : lstOf x h with
  | none => rw [hl] at e; cases e
  | some ds =>
    rw [hl] at e
    obtain ⟨a, ws, rfl, s, m⟩ := lstOf_rel R q hl
    exact ⟨a, rfl, by rw [← intsOf_rel m e]; exact s⟩
theorem cm_sum : CallM K cl E (rSum K) dSum := fun r h H xs vs Q R q p => by
  unfold dSum at p
  split at p
  · obtain ⟨v, rfl, qv⟩ := q.one
    split at p
    · rename_i bs e
      obtain ⟨a, rfl, s⟩ := ints_rel R qv e
      exact ⟨a, bs, rfl, s, Post.end' R p .int⟩
    · exact p.elim
  · exact p.elim
def dMax (xs : List D) (h : Hd) : Out D := match xs with
  | [.int i, .int j] => .ok (.int (if j > i then j else i)) h
  | _ => .fail
def dMin (xs : List D) (h : Hd) : Out D := match xs with
  | [.int i, .int j] => .ok (.int (if j < i then j else i)) h
  | _ => .fail
theorem cm_max : CallM K cl E (fun xs H Q => ∃ i j, xs = [.int i, .int j] ∧ Q (.int (if j > i then j else i)) H) dMax := fun r h H xs vs Q R q p => by
  unfold dMax at p
  split at p
  · obtain ⟨v, w, rfl, q1, q2⟩ := q.two
    rw [q1.int_inv, q2.int_inv]
    exact ⟨_, _, rfl, Post.end' R p .int⟩
  · exact p.elim
theorem cm_min : CallM K cl E (fun xs H Q => ∃ i j, xs = [.int i, .int j] ∧ Q (.int (if j < i then j else i)) H) dMin := fun r h H xs vs Q R q p => by
  unfold dMin at p
  split at p
  · obtain ⟨v, w, rfl, q1, q2⟩ := q.two
    rw [q1.int_inv, q2.int_inv]
    exact ⟨_, _, rfl, Post.end' R p .int⟩
  · exact p.elim
def dAbs (xs : List D) (h : Hd) : Out D := match xs with
  | [.int i] => .ok (.int (if i < 0 then -i else i)) h
  | _ => .fail
theorem cm_abs : CallM K cl E (fun xs H Q => ∃ i, xs = [.int i] ∧ Q (.int (if i < 0 then -i else i)) H) dAbs := fun r h H xs vs Q R q p => by
  unfold dAbs at p
  split at p
  · obtain ⟨v, rfl, q1⟩ := q.one
    rw [q1.int_inv]
    exact ⟨_, rfl, Post.end' R p .int⟩
  · exact p.elim
/-- repr: of data as trees -/
def dRepr (xs : List D) (h : Hd) : Out D := match xs with
  | [x] => match rf h x with
    | some p => if p.showable = true ∧ p.hasDict = false ∧ p.depth ≤ 64 ∧ p.shown.length ≤ sizeLine then .ok (.str p.shown) h else .fail
    | none => .fail
  | _ => .fail
theorem cm_repr : CallM K cl E (fun xs H Q => ∃ v d, xs = [v] ∧ Dp K H v d ∧ d.showable = true ∧ d.hasDict = false ∧ d.depth ≤ 64 ∧ d.shown.length ≤ sizeLine ∧ Q (.str d.shown) H) dRepr := fun r h H xs vs Q R q p => by
  unfold dRepr at p
  split at p
  · obtain ⟨v, rfl, q1⟩ := q.one
    split at p
    · rename_i d e
      split at p
      · rename_i hc
        exact ⟨v, d, rfl, rf_ok R q1 e, hc.1, hc.2.1, hc.2.2.1, hc.2.2.2, Post.end' R p .str⟩
      · exact p.elim
    · exact p.elim
  · exact p.elim
/-- str of an int, of a text -/
def dStr (xs : List D) (h : Hd) : Out D := match xs with
  | [.int i] => if i.natAbs.log2 < 1920 then .ok (.str (toString i)) h else .fail
  | _ => .fail
theorem cm_str : CallM K cl E (fun xs H Q => ∃ i, xs = [.int i] ∧ i.natAbs.log2 < 1920 ∧ Q (.str (toString i)) H) dStr := fun r h H xs vs Q R q p => by
  unfold dStr at p
  split at p
  · obtain ⟨v, rfl, q1⟩ := q.one
    rw [q1.int_inv]
    split at p
    · rename_i hl; exact ⟨_, rfl, hl, Post.end' R p .str⟩
    · exact p.elim
  · exact p.elim
/-! ### isinstance of a built-in class -/
def kindOf (x : D) (h : Hd) : Option String := match x with
  | .non => some "NoneType"
  | .bl _ => some "bool"
  | .int _ => some "int"
  | .str _ => some "str"
  | .tup _ => some "tuple"
  | .fl _ => some "list"
  | .ref n => match h[n]? with
    | some (.lst _) => some "list"
    | some (.dic _) => some "dict"
    | _ => none
def isTy (k T : String) : Bool := k = T || (k = "bool" && T = "int")
def isiD (T : String) (x : D) (h : Hd) : Out D := match kindOf x h with
  | some k => if T ∈ ["int", "bool", "str", "tuple", "list", "dict"] then .ok (.bl (isTy k T)) h else .fail
  | none => .fail
def xIsi (T : String) (m : XE) : XE := fun en h => (m en h).bind (isiD T)
theorem kit_all : (["NoneType", "bool", "int", "str", "tuple", "list", "dict"].all fun k => ["int", "bool", "str", "tuple", "list", "dict"].all fun T => decide (kitB k T = some (isTy k T))) = true := by decide +kernel
theorem kit_at {k T : String} (h1 : k ∈ ["NoneType", "bool", "int", "str", "tuple", "list", "dict"]) (h2 : T ∈ ["int", "bool", "str", "tuple", "list", "dict"]) : kitB k T = some (isTy k T) :=
  of_decide_eq_true (List.all_eq_true.mp (List.all_eq_true.mp kit_all k h1) T h2)
theorem kind_rel {x : D} {v : V} {k : String} (R : RelH K cl r h H) (q : RelD K r H x v) (e : kindOf x h = some k) : TyX K H v (.type k) ∧ k ∈ ["NoneType", "bool", "int", "str", "tuple", "list", "dict"] := by
  cases q with
  | non => cases e; exact ⟨.base .non, by simp⟩
  | bl => cases e; exact ⟨.base (.bl _), by simp⟩
  | int => cases e; exact ⟨.base (.int _), by simp⟩
  | str => cases e; exact ⟨.base (.str _), by simp⟩
  | tup s m =>
    cases e
    refine ⟨?_, by simp⟩
    rcases s with (s | ⟨o, s⟩) | ⟨o, its, n, k1, k2, _⟩
    · exact .base (.tup s)
    · exact .fTuple s
    · exact .kTuple k1 k2
  | fl f m =>
    cases e
    refine ⟨?_, by simp⟩
    rcases f with ⟨o, s⟩ | ⟨o, its, n, k1, k2, _⟩
    · exact .base (.frz s)
    · exact .kList k1 k2
  | @ref n a qa =>
    obtain ⟨mo, o, q1, q2, q3⟩ := R.at qa
    simp only [kindOf, q1] at e
    cases q3 with
    | lst m => cases e; exact ⟨.base (.lst q2), by simp⟩
    | dK m => cases e; exact ⟨.base (.dK q2), by simp⟩
    | dN m => cases e
    | ins m => cases e
theorem em_isi {T : String} {x2 : Str} {p0 q0 : Pos} (he : PEm X cl E e m) (hg : Gl X "isinstance") (hm : X.mg "isinstance" = none) (hgT : Gl X x2) (hmT : X.mg x2 = none) (hvT : bootBuiltins x2 = some (.type T)) (hn : x2 ≠ "__name__") (hd : (x2 == ("__debug__" : Str)) = false)
    (hs1 : starEach [e, .Name x2 q0] X.env = (false, eval e X.env) :: starEach [.Name x2 q0] X.env) (hs2 : starEach [.Name x2 q0] X.env = (false, eval (.Name x2 q0) X.env) :: starEach [] X.env) (hpl : (backTo pos (starEach [.Name x2 q0] X.env)).any (·.1) = false) (hb : bootBuiltins "isinstance" = some (.builtin "isinstance")) :
    PEm X cl E (.Call (.Name "isinstance" p0) [e, .Name x2 q0] [] pos) (xIsi T m) :=
  (pe_callB call_isi hg hm hb (pa_cons he (pa_cons (pe_bltn (v := .ty T) hgT hmT hvT rfl hn hd) pa_nil hs2) hs1) (by decide) (by decide) hs1 hpl).imp fun σ H Q ⟨r, h, en, R, e, p⟩ =>
    ⟨r, h, en, R, e, (Post.bind p).imp fun x r1 h1 H1 e1 R1 p1 v1 q1 => by
      unfold isiD at p1
      split at p1
      · rename_i k ek
        split at p1
        · rename_i hT
          obtain ⟨t1, t2⟩ := kind_rel R1 q1 ek
          exact ⟨v1, .ty T, .type k, .type T, isTy k T, rfl, .ty T, t1, kit_ty (kit_at t2 hT), Post.end' R1 p1 .bl⟩
        · exact p1.elim
      · exact p1.elim⟩
/-! ### methods of lists -/
def xBm (isT : D → Hd → Bool) (f : D → List D → Hd → Out D) (mo : XE) (ms : XA) : XE := fun en h => (mo en h).bind fun x h1 => if isT x h1 = true then (ms en h1).bind fun xs h2 => f x xs h2 else .fail
def isLst (x : D) (h : Hd) : Bool := (lstOf x h).isSome
def isStr (x : D) (h : Hd) : Bool := match x with
  | .str _ => true
  | _ => false
theorem isLst_ty {x : D} {v : V} (R : RelH K cl r h H) (q : RelD K r H x v) (e : isLst x h = true) : tyV K "list" v H := by
  obtain ⟨ds, hd⟩ := Option.isSome_iff_exists.mp e
  obtain ⟨a, vs, rfl, s, _⟩ := lstOf_rel R q hd
  exact .inl ⟨rfl, _, s⟩
theorem isStr_ty {x : D} {v : V} (R : RelH K cl r h H) (q : RelD K r H x v) (e : isStr x h = true) : tyV K "str" v H := by
  cases q <;> first | rfl | cases e
theorem em_bm {T id : String} {o : Expr} {es : List Expr} {name : Str} {apos cpos : Pos} {isT : D → Hd → Bool} {rd : V → List V → Hp → VK → Prop} {f : D → List D → Hd → Out D}
    (hp : PE X (.Call (.Attribute o name apos) (e :: es) [] cpos) (tBM X.K T rd (TDm X.K cl E mo) (TAm X.K cl E ms))) (hf : MtM2 X.K cl E rd f) (hty : ∀ (r : List Addr) (h : Hd) (H : Hp) (x : D) (v : V), RelH X.K cl r h H → RelD X.K r H x v → isT x h = true → tyV X.K T v H) :
    PEm X cl E (.Call (.Attribute o name apos) (e :: es) [] cpos) (xBm isT f mo ms) :=
  hp.imp fun σ H Q ⟨r, h, en, R, e, p⟩ =>
    ⟨r, h, en, R, e, (Post.bind p).imp fun x r1 h1 H1 e1 R1 p1 v1 q1 => by
      split at p1
      · rename_i ht
        exact ⟨hty _ _ _ _ _ R1 q1 ht, r1, h1, en, R1, e.mono (R.keep e1), (Post.bind p1).imp fun xs r2 h2 H2 e2 R2 p2 vs q2 => hf r2 h2 H2 x xs v1 vs Q R2 (q1.mono (R1.keep e2)) q2 p2⟩
      · exact p1.elim⟩
theorem em_bm0 {T id : String} {o : Expr} {name : Str} {apos cpos : Pos} {isT : D → Hd → Bool} {rd : V → List V → Hp → VK → Prop} {f : D → List D → Hd → Out D}
    (hp : PE X (.Call (.Attribute o name apos) [] [] cpos) (tBM0 X.K T rd (TDm X.K cl E mo))) (hf : MtM2 X.K cl E rd f) (hty : ∀ (r : List Addr) (h : Hd) (H : Hp) (x : D) (v : V), RelH X.K cl r h H → RelD X.K r H x v → isT x h = true → tyV X.K T v H) :
    PEm X cl E (.Call (.Attribute o name apos) [] [] cpos) (xBm isT f mo xNil) :=
  hp.imp fun σ H Q ⟨r, h, en, R, e, p⟩ =>
    ⟨r, h, en, R, e, (Post.bind p).imp fun x r1 h1 H1 e1 R1 p1 v1 q1 => by
      split at p1
      · rename_i ht
        exact ⟨hty _ _ _ _ _ R1 q1 ht, hf r1 h1 H1 x [] v1 [] Q R1 q1 .nil p1⟩
      · exact p1.elim⟩
def mAppend (x : D) (xs : List D) (h : Hd) : Out D := match x, xs with
  | .ref n, [y] => match h[n]? with
    | some (.lst ds) => if ds.length < sizeLine then .ok .non (h.set n (.lst (ds ++ [y]))) else .fail
    | _ => .fail
  | _, _ => .fail
theorem RelH.setLst {n : Nat} {a : Addr} {ds : List D} {vs : List V} (R : RelH K cl r h H) (e : r[n]? = some a) (m : RelDs K r H ds vs) : RelH K cl r (h.set n (.lst ds)) (upd H a (.lst vs)) ∧ Ext r H r (upd H a (.lst vs)) := by
  have E1 : Ext r H r (upd H a (.lst vs)) := Ext.write (List.mem_of_getElem? e)
  exact ⟨R.write e (.lst (m.mono (R.keep E1))), E1⟩
theorem mm_append : MtM2 K cl E rAppend mAppend := fun r h H x xs vx vs Q R qx q p => by
  unfold mAppend at p
  split at p
  · rename_i n y
    obtain ⟨a, rfl, ha⟩ := qx.ref_inv
    obtain ⟨v, rfl, qv⟩ := q.one
    split at p
    · rename_i ds hn
      split at p
      · rename_i hl
        obtain ⟨ws, h1, m⟩ := R.lst ha hn
        obtain ⟨R2, E2⟩ := R.setLst ha (m.append (.cons qv .nil))
        exact ⟨a, ws, v, rfl, rfl, h1, by rw [← m.length]; exact hl, p r _ E2 R2 _ .non⟩
      · exact p.elim
    · exact p.elim
  · exact p.elim
/-- extend by another list (tracked) -/
def mExtend (x : D) (xs : List D) (h : Hd) : Out D := match x, xs with
  | .ref n, [.ref k] => match h[n]?, h[k]? with
    | some (.lst ds), some (.lst es) => if ds.length + es.length ≤ sizeLine then .ok .non (h.set n (.lst (ds ++ es))) else .fail
    | _, _ => .fail
  | _, _ => .fail
theorem mm_extend : MtM2 K cl E rExtend mExtend := fun r h H x xs vx vs Q R qx q p => by
  unfold mExtend at p
  split at p
  · rename_i n k
    obtain ⟨a, rfl, ha⟩ := qx.ref_inv
    obtain ⟨v, rfl, qv⟩ := q.one
    obtain ⟨b, rfl, hb⟩ := qv.ref_inv
    split at p
    · rename_i ds es hn hk
      split at p
      · rename_i hl
        obtain ⟨ws, h1, m⟩ := R.lst ha hn
        obtain ⟨zs, h2, m2⟩ := R.lst hb hk
        obtain ⟨R2, E2⟩ := R.setLst ha (m.append m2)
        exact ⟨a, b, ws, zs, rfl, rfl, h1, h2, by rw [← m.length, ← m2.length]; exact hl, p r _ E2 R2 _ .non⟩
      · exact p.elim
    · exact p.elim
  · exact p.elim
def mPop (x : D) (xs : List D) (h : Hd) : Out D := match x, xs with
  | .ref n, [] => match h[n]? with
    | some (.lst ds) => match ds[ds.length - 1]? with
      | some y => .ok y (h.set n (.lst ds.dropLast))
      | none => .fail
    | _ => .fail
  | _, _ => .fail
theorem RelDs.dropLast {ds : List D} {vs : List V} (m : RelDs K r H ds vs) : RelDs K r H ds.dropLast vs.dropLast := by
  rw [List.dropLast_eq_take, List.dropLast_eq_take, m.length]
  exact m.take _
theorem mm_pop : MtM2 K cl E rPop mPop := fun r h H x xs vx vs Q R qx q p => by
  unfold mPop at p
  split at p
  · rename_i n
    obtain ⟨a, rfl, ha⟩ := qx.ref_inv
    cases q
    split at p
    · rename_i ds hn
      split at p
      · rename_i y hy
        obtain ⟨ws, h1, m⟩ := R.lst ha hn
        obtain ⟨v, hv, qv⟩ := m.get hy
        obtain ⟨R2, E2⟩ := R.setLst ha m.dropLast
        exact ⟨a, ws, v, rfl, rfl, h1, by rw [← m.length]; exact hv, p r _ E2 R2 _ (qv.mono (R.keep E2))⟩
      · exact p.elim
    · exact p.elim
  · exact p.elim
/-! ### stores by place -/
def setIt (o i d : D) (en : En) (h : Hd) : SOut := match o with
  | .ref n => match h[n]? with
    | some (.lst ds) => match i with
      | .int k => match ixN ds.length k with
        | some j => .nx en (h.set n (.lst (ds.set j d)))
        | none => .fail
      | _ => .fail
    | some (.dic kvs) => if (keyD i).isSome = true ∧ kvs.length < sizeLine then .nx en (h.set n (.dic (dput kvs i d))) else .fail
    | some (.dit kvs) => if isKeyN i = true ∧ kvs.length < sizeLine then .nx en (h.set n (.dit (dput kvs i d))) else .fail
    | _ => .fail
  | _ => .fail
def gSubM (mo mi : XE) : XG := fun d en h => (mo en h).bindS fun o h1 => (mi en h1).bindS fun i h2 => setIt o i d en h2
/-- a store by place in an assignment: the value, the object, the place -/
def sSub (mo mi mv : XE) : XS := fun en h => (mv en h).bindS fun d h1 => (mo en h1).bindS fun o h2 => (mi en h2).bindS fun i h3 => setIt o i d en h3
abbrev rdSet (K : PySem.W.Frag) (w : World) : TSet := fun o i v H Q => rSetL o i v H Q ∨ (∃ a H', o = .ref a ∧ DPut H a i v H' ∧ Q H') ∨ rNSet K w o i v H Q
theorem PSet.or {t t' : TSet} (h1 : PSet X t) (h2 : PSet X t') : PSet X (fun o i v H Q => t o i v H Q ∨ t' o i v H Q) := fun pins s σ H o i v ov iv u Q I ro ri rv q => q.elim (h1 pins s σ H o i v ov iv u Q I ro ri rv) (h2 pins s σ H o i v ov iv u Q I ro ri rv)
theorem pset (hu : X.A.units + 30 < cLine) : PSet X (rdSet X.K X.w) := PSet.or set_list (PSet.or (fun pins s σ H o i v ov iv u Q I ro ri rv ⟨a, H', ex, g, q⟩ => by
  subst ex
  obtain rfl : ov = Value.ref a := ro
  exact d_setItem (by omega) I g ri rv fun s4 I4 => ⟨H', I4, q⟩) (set_dicN hu))
theorem RelH.setDic {n : Nat} {a : Addr} {kvs : List (D × D)} {qs : List (Key × V)} (R : RelH K cl r h H) (e : r[n]? = some a) (m : RelKV K keyD r H kvs qs) : RelH K cl r (h.set n (.dic kvs)) (upd H a (.dK qs)) ∧ Ext r H r (upd H a (.dK qs)) := by
  have E1 : Ext r H r (upd H a (.dK qs)) := Ext.write (List.mem_of_getElem? e)
  exact ⟨R.write e (.dK (m.mono (R.keep E1))), E1⟩
theorem setIt_ok {o i d : D} {vo vi vd : V} {en : En} {σ : L2.St} {Q : L2.St → Hp → Prop} (R : RelH K cl r h H) (re : RelE K r H en σ) (qo : RelD K r H o vo) (qi : RelD K r H i vi) (qd : RelD K r H d vd) {N : Ends} (hN : N.nx = Q) (p : PostS K cl r H E N (setIt o i d en h)) {w : World} : rdSet K w vo vi vd H fun H' => Q σ H' := by
  subst hN
  unfold setIt at p
  split at p
  · rename_i n
    obtain ⟨a, rfl, ha⟩ := qo.ref_inv
    split at p
    · rename_i ds hn
      split at p
      · rename_i k
        split at p
        · rename_i j hj
          obtain ⟨ws, h1, m⟩ := R.lst ha hn
          obtain ⟨R2, E2⟩ := R.setLst ha (m.set qd j)
          rw [qi.int_inv]
          exact .inl ⟨a, ws, k, j, rfl, rfl, h1, by rw [← m.length]; exact hj, p r _ σ E2 R2 (re.mono (R.keep E2))⟩
        · exact p.elim
      · exact p.elim
    · rename_i kvs hn
      split at p
      · rename_i hc
        obtain ⟨k, ek⟩ := Option.isSome_iff_exists.mp hc.1
        obtain ⟨qs, h1, m⟩ := R.dic ha hn
        obtain ⟨R2, E2⟩ := R.setDic ha (m.put ek qd)
        refine .inr (.inl ⟨a, _, rfl, ?_, p r _ σ E2 R2 (re.mono (R.keep E2))⟩)
        rw [keyD_rel ek qi]
        exact DPut.k h1 (by rw [← m.length]; exact hc.2)
      · exact p.elim
    · rename_i kvs hn
      split at p
      · rename_i hc
        obtain ⟨k, b, ek, dk, rfl⟩ := isKeyN_ok hc.1 qi
        obtain ⟨w', xs, h1, m⟩ := R.dit ha hn
        refine .inr (.inr ⟨a, w', r, kvs, xs, b, k, i, rfl, rfl, h1, m, ek, dk, qi, by rw [← m.length]; exact hc.2, fun u ru => ?_⟩)
        have E2 : Ext r H r (upd H a (DicN w a (storedH xs k b u))) := Ext.write (List.mem_of_getElem? ha)
        exact p r _ σ E2 (R.write ha (.dN ((m.put ek dk qi qd ru).mono (R.keep E2)))) (re.mono (R.keep E2))
      · exact p.elim
    · exact p.elim
  · exact p.elim
theorem sm_sub {o i : Expr} {pos' : Pos} {mi : XE} (hu : X.A.units + 30 < cLine) (ho : PEm X cl E o mo) (hi : PEm X cl E i mi) (hv : PEm X cl E e mv)
    (hp : PS X (.Assign [.Subscript o i pos'] e pos) (tAsg (TDm X.K cl E mv) (gSub (TDm X.K cl E mo) (TDm X.K cl E mi) (rdSet X.K X.w)))) : PSm X cl E (.Assign [.Subscript o i pos'] e pos) (sSub mo mi mv) :=
  hp.imp fun N σ H ⟨r, h, en, R, re, p⟩ => ⟨r, h, en, R, re, (PostS.bindS p).imp fun d r1 h1 H1 e1 R1 p1 vd qd =>
    ⟨r1, h1, en, R1, re.mono (R.keep e1), (PostS.bindS p1).imp fun o r2 h2 H2 e2 R2 p2 vo qo =>
      ⟨r2, h2, en, R2, (re.mono (R.keep e1)).mono (R1.keep e2), (PostS.bindS p2).imp fun i r3 h3 H3 e3 R3 p3 vi qi =>
        setIt_ok R3 (((re.mono (R.keep e1)).mono (R1.keep e2)).mono (R2.keep e3)) (qo.mono (R2.keep e3)) qi ((qd.mono (R1.keep e2)).mono (R2.keep e3)) rfl p3⟩⟩⟩
end
end Z
/-! text Z8 -/
set_option maxHeartbeats 2000000
/-! Z8: unpacking (lists, stars), arguments with stars, dict displays, swapped stores, stores by an operator. -/
namespace Z
open PySem PySem.Spec PyProof.Rows L2 PySem.W

/-! ### unpacking, at the library's level -/
section
variable {prog : Program} {w : World} {A : Around} {E : Value → Shared → Prop} {s : Shared} {env : Env}
/-- what is behind a star's place: a new list -/
def StarEnd (l : List Value) (n i : Nat) (s : Shared) (Q : List Value → Shared → Prop) : Prop :=
  ∀ (Dn : Addr) (h' : Heap) (tk : Nat), (∀ b o, s.heap.get? b = some o → h'.get? b = some o) → s.heap.get? Dn = none → h'.get? Dn = some { cls := .type "list", data := .seq ((l.drop i).take (l.length + 1 - n)).toArray } →
    Q (l.take i ++ [.ref Dn] ++ (l.drop i).drop (l.length + 1 - n)) { s with heap := h', toks := tk }
theorem star_end {l : List Value} {n i : Nat} {h2 : Heap} {tk : Nat} {Q : List Value → Shared → Prop} (hz : l.length ≤ 16384) (he : Heap.ExtBut s.heap.objs.size s.heap h2)
    (q : StarEnd l n i s Q) : wpAny (model prog w) A (newList ((l.drop i).take (l.length + 1 - n)) >>= fun d => pure (l.take i ++ [d] ++ (l.drop i).drop (l.length + 1 - n))) Q E { s with heap := h2, toks := tk } := by
  have e1 : (l.drop i).length = l.length - i := List.length_drop
  have fr : s.heap.get? s.heap.objs.size = none := by
    cases e : s.heap.get? s.heap.objs.size with
    | none => rfl
    | some o => exact absurd (Heap.lt_size e) (Nat.lt_irrefl _)
  have kp : ∀ b o, s.heap.get? b = some o → h2.get? b = some o := fun b o e => he b o (Nat.ne_of_lt (Heap.lt_size e)) e
  refine wpAny_bind (wpAny_newList ?_ (by rw [List.length_take, e1, sizeLine_eq]; omega))
  refine wpAny_pure (q h2.objs.size _ tk (fun b o e => Heap.get?_push_of_some _ (kp b o e)) ?_ (Heap.get?_push_size _ rfl))
  cases e : s.heap.get? h2.objs.size with
  | none => rfl
  | some o => exact absurd (Heap.lt_size (kp _ _ e)) (Nat.lt_irrefl _)
def IsSome1 (h : Heap) (l : Addr) (its : Array Value) : Prop := IsTup h l its ∨ h.IsList l its
theorem unpack_star {l : Addr} {its : Array Value} {n i : Nat} {Q : List Value → Shared → Prop} (hl : IsSome1 s.heap l its) (hh : A.handled = none) (hi : i < n) (hn : n ≤ its.size + 1) (hz : its.size ≤ 16384) (q : StarEnd its.toList n i s Q) :
    wpAny (model prog w) A (unpackItems (.ref l) n (some i)) Q E s := by
  have few : ¬ (its.toList.take i).length < i := by rw [List.length_take, Array.length_toList]; omega
  have dl : (its.toList.drop i).length = its.toList.length - i := List.length_drop
  have hz' : its.toList.length ≤ 16384 := by rw [Array.length_toList]; exact hz
  have few2 : ¬ (its.toList.drop i).length < n - 1 - i := by rw [dl, Array.length_toList]; omega
  have cut : (its.toList.drop i).length - (n - 1 - i) = its.toList.length + 1 - n := by rw [dl, Array.length_toList]; omega
  have szl : its.size ≤ sizeLine := by rw [sizeLine_eq]; omega
  unfold unpackItems notIterableAtAll
  rcases hl with hl | hl
  · have ne : l ≠ s.heap.objs.size := Nat.ne_of_lt hl.lt
    refine wpAny_bind (wpAny_bind (wpAny_specialOf hl.typeIs slot_tuple_iter.lookup (wpAny_pure ?_)))
    simp only [Bool.false_eq_true, if_false]
    refine wpAny_bind (wpAny_holding (iter_tuple hl ?_))
    refine wpAny_bind (wpAny_holding (draw_tuple ne i 0 _ _ ⟨_, Heap.get?_push_size _ rfl, rfl, rfl⟩ (hl.push _) (by omega) fun ha ita sa => ?_))
    have la : IsTup ha l its := (hl.push _).extBut sa.extBut ne
    rw [Nat.zero_add] at ita
    rw [List.drop_zero, if_neg few]
    have iti : s.heap.objs.size < ha.objs.size := let ⟨_, x, _⟩ := ita; Heap.lt_size x
    refine wpAny_bind (wpAny_holding (kun_collect (s := { s with heap := ha }) (T := "tuple_iterator") (.inr (.inr (.inr rfl))) (Walks.tuple (A := A.in1) hh s.heap.objs.size l ne its) (fun j u st => st.1.typeIs) (k := i) (by omega) ⟨ita, la⟩ iti la.lt (fun hb tk k => ?_) szl))
    show wpAny _ _ (if (its.toList.drop i).length < n - 1 - i then _ else _) _ _ _
    rw [if_neg few2]
    show wpAny _ _ (newList ((its.toList.drop i).take ((its.toList.drop i).length - (n - 1 - i))) >>= fun d => pure (its.toList.take i ++ [d] ++ (its.toList.drop i).drop ((its.toList.drop i).length - (n - 1 - i)))) _ _ _
    rw [cut]
    exact star_end (s := s) hz' (fun b o nb e => k b o nb (sa.extBut b o nb (Heap.get?_push_of_some _ e))) q
  · have ltl : l < s.heap.objs.size := let ⟨_, x, _⟩ := hl; Heap.lt_size x
    have ne : l ≠ s.heap.objs.size := Nat.ne_of_lt ltl
    refine wpAny_bind (wpAny_bind (wpAny_specialOf hl.typeIs slot_list_iter.lookup (wpAny_pure ?_)))
    simp only [Bool.false_eq_true, if_false]
    refine wpAny_bind (wpAny_holding (wpAny_pyIter_list hl ?_))
    refine wpAny_bind (wpAny_holding (kun_draw ne i 0 _ _ ⟨_, Heap.get?_push_size _ rfl, rfl, rfl⟩ (hl.push _) (by omega) fun ha ita sa => ?_))
    have la : ha.IsList l its := (hl.push _).extBut sa.extBut ne
    rw [Nat.zero_add] at ita
    rw [List.drop_zero, if_neg few]
    have iti : s.heap.objs.size < ha.objs.size := let ⟨_, x, _⟩ := ita; Heap.lt_size x
    have ltl2 : l < ha.objs.size := let ⟨_, x, _⟩ := la; Heap.lt_size x
    refine wpAny_bind (wpAny_holding (kun_collect (s := { s with heap := ha }) (T := "list_iterator") (.inr (.inr (.inl rfl))) (Walks.list (A := A.in1) hh s.heap.objs.size l ne its) (fun j u st => st.1.typeIs) (k := i) (by omega) ⟨ita, la⟩ iti ltl2 (fun hb tk k => ?_) szl))
    show wpAny _ _ (if (its.toList.drop i).length < n - 1 - i then _ else _) _ _ _
    rw [if_neg few2]
    show wpAny _ _ (newList ((its.toList.drop i).take ((its.toList.drop i).length - (n - 1 - i))) >>= fun d => pure (its.toList.take i ++ [d] ++ (its.toList.drop i).drop ((its.toList.drop i).length - (n - 1 - i)))) _ _ _
    rw [cut]
    exact star_end (s := s) hz' (fun b o nb e => k b o nb (sa.extBut b o nb (Heap.get?_push_of_some _ e))) q
end
/-! ### targets of tuples, lists, with a star -/
/-- a row of values: a tuple or a list -/
def rowOf (d : D) (h : Hd) : Option (List D) := match d with
  | .tup ds => some ds
  | d => lstOf d h
def gRow (n : Nat) (gs : XGs) : XG := fun d en h => match rowOf d h with
  | some ds => if ds.length = n then gs ds en h else .fail
  | none => .fail
def gStar (n i : Nat) (gs : XGs) : XG := fun d en h => match rowOf d h with
  | some ds => if i < n ∧ n ≤ ds.length + 1 ∧ ds.length ≤ 16384 then gs (ds.take i ++ [.ref h.length] ++ (ds.drop i).drop (ds.length + 1 - n)) en (h ++ [.lst ((ds.drop i).take (ds.length + 1 - n))]) else .fail
  | none => .fail
theorem good_row {gs : XGs} {n : Nat} (h2 : GoodGs gs) : GoodG (gRow n gs) := fun d en h => by
  unfold gRow
  split
  · split
    · exact h2 _ _ _
    · trivial
  · trivial
theorem good_star {gs : XGs} {n i : Nat} (h2 : GoodGs gs) : GoodG (gStar n i gs) := fun d en h => by
  unfold gStar
  split
  · split
    · exact h2 _ _ _
    · trivial
  · trivial
section
variable {K : PySem.W.Frag} {cl : Str → Addr} {r : List Addr} {h : Hd} {H : Hp}
theorem rowOf_rel {y : D} {ds : List D} {v : V} (R : RelH K cl r h H) (q : RelD K r H y v) (e : rowOf y h = some ds) : ∃ a vs, v = .ref a ∧ (SqT K H a vs ∨ SqL K H a vs) ∧ RelDs K r H ds vs := by
  cases q with
  | tup s m => cases e; exact ⟨_, _, rfl, .inl s, m⟩
  | ref z => obtain ⟨a, vs, h1, h2, h3⟩ := lstOf_rel R (.ref z) e; exact ⟨a, vs, h1, .inr h2, h3⟩
  | fl s m => obtain ⟨a, vs, h1, h2, h3⟩ := lstOf_rel R (.fl s m) e; exact ⟨a, vs, h1, .inr h2, h3⟩
  | _ => cases e
end
section
variable {X : Cx} {cl : Str → Addr} {E : XK} {es : List Expr} {k n i : Nat} {pos : Pos} {gs : XGs} {ws : List Nat}
theorem some1_of {pins : List (Addr × Obj)} {σ : L2.St} {H : Hp} {s : Shared} {a : Addr} {xs : List V} (I : Inv X pins σ H s) (q : SqT X.K H a xs ∨ SqL X.K H a xs) : ∃ its : List Value, Vals xs its ∧ IsSome1 s.heap a its.toArray := by
  rcases q with q | q
  · obtain ⟨its, h1, h2, _⟩ := I.tuple q
    exact ⟨its, h1, .inl h2⟩
  · obtain ⟨its, h1, h2, _⟩ := I.list q
    exact ⟨its, h1, .inr h2.isList⟩
theorem gm_star (hc : X.calm = true) (hn : (assignEach es X.env).length = n) (hst : (assignEach es X.env).findIdx? (·.1) = some i) (hs : PGsm X cl E ws es gs) : PGm X cl E ws (.Tuple es k pos) (gStar n i gs) := by
  refine ⟨fun pins s σ H v u Q I rv ⟨r, h, en, d, R, e, q, p⟩ => ?_⟩
  unfold gStar at p
  cases hr : rowOf d h with
  | none => rw [hr] at p; exact p.elim
  | some ds =>
    rw [hr] at p
    dsimp only at p
    by_cases hk : i < n ∧ n ≤ ds.length + 1 ∧ ds.length ≤ 16384
    · rw [if_pos hk] at p
      obtain ⟨a, vs, ev, sq, m⟩ := rowOf_rel R q hr
      subst ev
      cases rv
      obtain ⟨its, rvs, h1⟩ := some1_of I sq
      have ln : its.toArray.size = ds.length := by rw [List.size_toArray, ← rvs.length, m.length]
      rw [assign_Tuple]
      refine wpAny_bind (wpAny_standAt ?_)
      unfold unpack
      rw [hn, hst]
      refine wpAny_bind (wpAny_holding (unpack_star h1 (I.ok.hd hc) hk.1 (by omega) (by omega) fun Dn h' tk kp fr nw => ?_))
      have hH : H Dn = none := by
        exact HOk.gone I.hok fr
      have lz : its.length = vs.length := rvs.length.symm
      have rmid : RelDs X.K r H ((ds.drop i).take (ds.length + 1 - n)) ((vs.drop i).take (vs.length + 1 - n)) := by rw [← m.length]; exact (m.drop i).take _
      have vmid : Vals ((vs.drop i).take (vs.length + 1 - n)) ((its.drop i).take (its.length + 1 - n)) := by rw [lz]; exact (rvs.drop i).take _
      have I2 := I.laidN (t' := tk) (a := Dn) (o := .lst ((vs.drop i).take (vs.length + 1 - n))) kp fr hH ⟨by rw [List.length_take, List.length_drop, ← m.length, sizeLine_eq]; omega, _, 0, vmid, nw⟩
      have R2 := R.push (mo := .lst ((ds.drop i).take (ds.length + 1 - n))) (o := .lst ((vs.drop i).take (vs.length + 1 - n))) hH (.lst (rmid.mono (R.keep (Ext.push R hH))))
      have k2 := R.keep (Ext.push (o := .lst ((vs.drop i).take (vs.length + 1 - n))) R hH)
      refine hs.run pins _ σ _ (vs.take i ++ [.ref Dn] ++ (vs.drop i).drop (vs.length + 1 - n)) _ Q I2 ?_ ⟨_, _, en, _, R2, e.mono k2, ?_, PostS.step (Ext.push R hH) p⟩
      · rw [← rvs.length]
        have z1 : Vals [V.ref Dn] [Value.ref Dn] := .cons (show Value.ref Dn = Value.ref Dn from rfl) .nil
        exact ((rvs.take i).append z1).append ((rvs.drop i).drop _)
      · rw [m.length]
        exact (((m.take i).mono k2).append (.cons (.ref (push_get R)) .nil)).append (((m.drop i).drop _).mono k2)
    · rw [if_neg hk] at p
      exact p.elim
theorem gm_row (hc : X.calm = true) (hn : (assignEach es X.env).length = n) (hst : (assignEach es X.env).findIdx? (·.1) = none) (hs : PGsm X cl E ws es gs) : PGm X cl E ws (.Tuple es k pos) (gRow n gs) := by
  refine ⟨fun pins s σ H v u Q I rv ⟨r, h, en, d, R, e, q, p⟩ => ?_⟩
  unfold gRow at p
  cases hr : rowOf d h with
  | none => rw [hr] at p; exact p.elim
  | some ds =>
    rw [hr] at p
    dsimp only at p
    by_cases hk : ds.length = n
    · rw [if_pos hk] at p
      obtain ⟨a, vs, ev, sq, m⟩ := rowOf_rel R q hr
      subst ev
      cases rv
      obtain ⟨its, rvs, h1⟩ := some1_of I sq
      have ln : n = its.toArray.size := by rw [List.size_toArray, ← rvs.length, ← m.length, hk]
      rw [assign_Tuple]
      refine wpAny_bind (wpAny_standAt ?_)
      unfold unpack
      rw [hn, hst, ln]
      have go : ∀ h', Heap.ExtBut s.heap.objs.size s.heap h' → wpAny (model X.prog X.w) X.A (assignInOrder ((assignEach es X.env).map (·.2)) its.toArray.toList) (fun _ s' => ∃ σ' H', Inv X pins σ' H' s' ∧ Q σ' H') X.xe { s with heap := h' } := fun h' hx => by
        have I1 : Inv X pins σ H { s with heap := h' } := I.kept (t' := s.toks) fun b o e => hx b o (Nat.ne_of_lt (Heap.lt_size e)) e
        exact hs.run pins _ σ H vs _ Q I1 rvs ⟨r, h, en, ds, R, e, m, p⟩
      rcases h1 with h1 | h1
      · exact wpAny_bind (wpAny_holding (unpackItems_tuple (I.ok.hd hc) h1 go))
      · exact wpAny_bind (wpAny_holding (kun_itemsOf (I.ok.hd hc) h1 go))
    · rw [if_neg hk] at p
      exact p.elim
end
end Z
/-! text Z9 -/
/-! Z9: stores side by side, dict displays, arguments with stars, stores by an operator. -/
namespace Z
open PySem PySem.Spec PyProof.Rows L2

/-! ### stores side by side -/
def sPar (is : List Nat) (ma : XA) : XS := fun en h => (ma en h).bindS fun ds h1 => if ds.length = is.length then .nx ((is.zip ds).foldl (fun e p => e.set p.1 (some p.2)) en) h1 else .fail
section
variable {X : Cx} {cl : Str → Addr} {E : XK} {e a b c : Expr} {es : List Expr} {pos px py pz pt pt2 p1 p2 : Pos} {m mv mo : XE} {ms ma : XA} {i j l : Nat} {x y z : Str}
theorem sm_par2 {kt k2} (hc : X.calm = true) (hN : X.N.Nodup) (hi : X.N[i]? = some x) (hj : X.N[j]? = some y) (hij : i ≠ j) (hx : X.env.scope.names.lookup x = some .local) (hy : X.env.scope.names.lookup y = some .local) (ha : PAm X cl E [a, b] ma)
    (hw : swappedStores [.Tuple [.Name x px, .Name y py] kt pt] (.Tuple [a, b] k2 pt2) X.env = pure (some [x, y])) (hs : swapsWithSole [.Tuple [.Name x px, .Name y py] kt pt] (.Tuple [a, b] k2 pt2) pos.line X.env = pure false) :
    PSm X cl E (.Assign [.Tuple [.Name x px, .Name y py] kt pt] (.Tuple [a, b] k2 pt2) pos) (sPar [i, j] ma) :=
  (ps_par hc hN hi hj hij hx hy ha hw hs).imp fun N σ H ⟨r, h, en, R, re, p⟩ => ⟨r, h, en, R, re, (PostS.bindS p).imp fun ds r1 h1 H1 e1 R1 p1 vs q1 => by
    match ds, q1 with
    | [], _ => exact p1.elim
    | [_], _ => exact p1.elim
    | [d, d'], .cons q1 (.cons q2 .nil) => exact ⟨_, _, rfl, p1 r1 H1 _ (Ext.refl _ _) R1 (((re.mono (R.keep e1)).set q1 i).set q2 j)⟩
    | _ :: _ :: _ :: _, _ => exact p1.elim⟩
theorem sm_par3 {kt k2} (hc : X.calm = true) (hN : X.N.Nodup) (hi : X.N[i]? = some x) (hj : X.N[j]? = some y) (hl : X.N[l]? = some z) (hij : i ≠ j) (hil : i ≠ l) (hjl : j ≠ l) (hx : X.env.scope.names.lookup x = some .local) (hy : X.env.scope.names.lookup y = some .local)
    (hz : X.env.scope.names.lookup z = some .local) (ha : PAm X cl E [a, b, c] ma) (hw : swappedStores [.Tuple [.Name x px, .Name y py, .Name z pz] kt pt] (.Tuple [a, b, c] k2 pt2) X.env = pure (some [x, y, z]))
    (hs : swapsWithSole [.Tuple [.Name x px, .Name y py, .Name z pz] kt pt] (.Tuple [a, b, c] k2 pt2) pos.line X.env = pure false) :
    PSm X cl E (.Assign [.Tuple [.Name x px, .Name y py, .Name z pz] kt pt] (.Tuple [a, b, c] k2 pt2) pos) (sPar [i, j, l] ma) :=
  (ps_par3 hc hN hi hj hl hij hil hjl hx hy hz ha hw hs).imp fun N σ H ⟨r, h, en, R, re, p⟩ => ⟨r, h, en, R, re, (PostS.bindS p).imp fun ds r1 h1 H1 e1 R1 p1 vs q1 => by
    match ds, q1 with
    | [], _ => exact p1.elim
    | [_], _ => exact p1.elim
    | [_, _], _ => exact p1.elim
    | [d, d', d''], .cons q1 (.cons q2 (.cons q3 .nil)) => exact ⟨_, _, _, rfl, p1 r1 H1 _ (Ext.refl _ _) R1 ((((re.mono (R.keep e1)).set q1 i).set q2 j).set q3 l)⟩
    | _ :: _ :: _ :: _ :: _, _ => exact p1.elim⟩
end

/-! ### arguments with a star -/
def xStar (m : XE) (ms : XA) : XA := fun en h => (m en h).bind fun d h1 => match rowOf d h1 with
  | some ds => (ms en h1).bind fun es h2 => .ok (ds ++ es) h2
  | none => .fail
section
variable {X : Cx} {cl : Str → Addr} {E : XK} {e : Expr} {es : List Expr} {p : Pos} {m : XE} {ms : XA}
theorem am_star (he : PEm X cl E e m) (hr : PAm X cl E es ms) (hs : starEach (.Starred e p :: es) X.env = (true, eval e X.env) :: starEach es X.env) : PAm X cl E (.Starred e p :: es) (xStar m ms) :=
  (StX.pa_star he hr hs).imp fun σ H Q ⟨r, h, en, R, re, p⟩ => ⟨r, h, en, R, re, (Post.bind p).imp fun d r1 h1 H1 e1 R1 p1 v q1 => by
    cases hr : rowOf d h1 with
    | none => rw [hr] at p1; exact p1.elim
    | some ds =>
      rw [hr] at p1
      obtain ⟨a, vs, ev, sq, mm⟩ := rowOf_rel R1 q1 hr
      exact ⟨a, vs, ev, sq, r1, h1, en, R1, re.mono (R.keep e1), (Post.bind p1).imp fun ds2 r2 h2 H2 e2 R2 p2 ys q2 => p2 r2 H2 (Ext.refl _ _) R2 _ ((mm.mono (R1.keep e2)).append q2)⟩⟩
end

/-! ### dict displays -/
def xDic0 : XE := fun _ h => .ok (.ref h.length) (h ++ [.dic []])
def xDit0 : XE := fun _ h => .ok (.ref h.length) (h ++ [.dit []])
/-- the pairs, from the left -/
abbrev XPs := En → Hd → Out (List (D × D))
def pNil : XPs := fun _ h => .ok [] h
def pCons (mk mv : XE) (r : XPs) : XPs := fun en h => (mk en h).bind fun x h1 => (mv en h1).bind fun y h2 => (r en h2).bind fun ps h3 => .ok ((x, y) :: ps) h3
def pairD (n : Nat) (ps : List (D × D)) (h : Hd) : Out D := if h[n]? = some (.dic []) ∧ (ps.all fun p => (keyD p.1).isSome) = true ∧ ps.length ≤ 15 then .ok (.ref n) (h.set n (.dic (ps.foldl (fun a p => dput a p.1 p.2) []))) else .fail
def xDisp (m : XPs) : XE := fun en h => (m en (h ++ [.dic []])).bind fun ps h1 => pairD h.length ps h1
section
variable {K : PySem.W.Frag} {cl : Str → Addr} {r : List Addr} {h : Hd} {H : Hp} {E : XK} {X : Cx} {en : En} {σ : L2.St} {pos : Pos}
/-- pairs of data and of values -/
inductive RelPs (K : PySem.W.Frag) (r : List Addr) (H : Hp) : List (D × D) → List (V × V) → Prop
  | nil : RelPs K r H [] []
  | cons {d e : D} {v u : V} {ds : List (D × D)} {vs : List (V × V)} : RelD K r H d v → RelD K r H e u → RelPs K r H ds vs → RelPs K r H ((d, e) :: ds) ((v, u) :: vs)
abbrev PP (K : PySem.W.Frag) (Q : List (V × V) → Hp → Prop) : List Addr → Hd → Hp → List (D × D) → Prop := fun r' _ H' ds => ∀ vs, RelPs K r' H' ds vs → Q vs H'
/-- the pairs' readings -/
structure PPm (X : Cx) (cl : Str → Addr) (E : XK) (pos : Pos) (keys : List (Option Expr)) (values : List Expr) (m : XPs) : Prop where
  ex : ∃ trs, PPs X pos keys values trs ∧ ∀ σ H Q r h en, RelH X.K cl r h H → RelE X.K r H en σ → Post X.K cl r H E (PP X.K Q) (m en h) → tPairs trs σ H Q
theorem pm_nil : PPm X cl E pos [] [] pNil := ⟨[], pps_nil, fun σ H Q r h en R re p => p r H (Ext.refl _ _) R _ .nil⟩
theorem RelPs.mono {r' : List Addr} {H' : Hp} (k : Keep K r H r' H') : ∀ {ds : List (D × D)} {vs : List (V × V)}, RelPs K r H ds vs → RelPs K r' H' ds vs
  | _, _, .nil => .nil
  | _, _, .cons a b c => .cons (a.mono k) (b.mono k) (c.mono k)
theorem pm_cons {k v : Expr} {ks : List (Option Expr)} {vs : List Expr} {mk mv : XE} {m : XPs} (hk : PEm X cl E k mk) (hv : PEm X cl E v mv) (hr : PPm X cl E pos ks vs m) : PPm X cl E pos (some k :: ks) (v :: vs) (pCons mk mv m) := by
  obtain ⟨trs, h1, h2⟩ := hr
  refine ⟨_, pps_cons hk hv h1, fun σ H Q r h en R re p => ?_⟩
  refine ⟨r, h, en, R, re, (Post.bind p).imp fun x r1 hd1 H1 e1 R1 p1 vx q1 => ?_⟩
  refine ⟨r1, hd1, en, R1, re.mono (R.keep e1), (Post.bind p1).imp fun y r2 hd2 H2 e2 R2 p2 vy q2 => ?_⟩
  refine h2 σ H2 _ r2 hd2 en R2 (re.mono (R.keep (e1.trans e2))) ((Post.bind p2).imp fun ps r3 hd3 H3 e3 R3 p3 ws q3 => ?_)
  exact p3 r3 H3 (Ext.refl _ _) R3 _ (.cons (q1.mono (R1.keep (e2.trans e3))) (q2.mono (R2.keep e3)) q3)
theorem keyD_v {d : D} {v : V} {k : Key} (q : RelD K r H d v) (e : keyD d = some k) : v = kV k := by
  cases q <;> cases e <;> rfl
theorem rel_pairs : ∀ {ps : List (D × D)} {vs : List (V × V)}, RelPs K r H ps vs → (ps.all fun p => (keyD p.1).isSome) = true → ∃ kvs : List (Key × V), vs = kvs.map (fun kv => (kV kv.1, kv.2)) ∧ RelKV K keyD r H ps kvs
  | _, _, .nil, _ => ⟨[], rfl, .nil⟩
  | _, _, .cons (d := d) (u := u) a b c, h => by
    rw [List.all_cons, Bool.and_eq_true] at h
    obtain ⟨kvs, e1, q1⟩ := rel_pairs c h.2
    cases ek : keyD d with
    | none => rw [ek] at h; cases h.1
    | some k => exact ⟨(k, u) :: kvs, by rw [e1, keyD_v a ek]; rfl, .cons ek b q1⟩
theorem rel_merge : ∀ {ps : List (D × D)} {kvs : List (Key × V)}, RelKV K keyD r H ps kvs → ∀ {as : List (D × D)} {bs : List (Key × V)}, RelKV K keyD r H as bs → RelKV K keyD r H (ps.foldl (fun a p => dput a p.1 p.2) as) (mergeK bs kvs)
  | _, _, .nil => fun q => q
  | _, _, .cons e d c => fun q => by
    unfold mergeK
    rw [List.foldl_cons, List.foldl_cons]
    exact rel_merge c (q.put e d)
theorem RelKV.len {κ : Type} {kf : D → Option κ} : ∀ {ds : List (D × D)} {vs : List (κ × V)}, RelKV K kf r H ds vs → ds.length = vs.length
  | _, _, .nil => rfl
  | _, _, .cons _ _ c => congrArg Nat.succ c.len
theorem em_dict {v : Expr} {k' : Option Expr} {ks : List (Option Expr)} {vs : List Expr} {m : XPs} (hp : PPm X cl E pos (k' :: ks) (v :: vs) m) (hall : ((k' :: ks).all (·.isSome)) = true) (hl : (k' :: ks).length = (v :: vs).length) (h15 : (k' :: ks).length ≤ 15) :
    PEm X cl E (.Dict (k' :: ks) (v :: vs) pos) (xDisp m) := by
  obtain ⟨trs, h1, h2⟩ := hp
  refine (pe_disp h1 hall hl (by simp) h15).imp fun σ H Q ⟨r, h, en, R, re, p⟩ => fun a hn => ?_
  have R1 := R.push (mo := .dic []) (o := .dK []) hn (.dK .nil)
  have e1 : Ext r H (r ++ [a]) (upd H a (.dK [])) := Ext.push R hn
  refine h2 σ _ _ _ _ en R1 (re.mono (R.keep e1)) ((Post.bind (Post.step e1 p)).imp fun ps r2 hd2 H2 e2 R2 p2 ws q2 => ?_)
  unfold pairD at p2
  by_cases hc : hd2[h.length]? = some (.dic []) ∧ (ps.all fun p => (keyD p.1).isSome) = true ∧ ps.length ≤ 15
  · rw [if_pos hc] at p2
    have ra : r2[h.length]? = some a := e2.get (push_get R)
    obtain ⟨mo, o, g1, g2, g3⟩ := R2.at ra
    rw [hc.1] at g1
    cases g1
    cases g3 with
    | dK m0 =>
      cases m0
      obtain ⟨kvs, ek, qk⟩ := rel_pairs q2 hc.2.1
      have e3 : Ext r2 H2 r2 (upd H2 a (.dK (mergeK [] kvs))) := Ext.write (List.mem_of_getElem? ra)
      have R3 := R2.write (mo := .dic (ps.foldl (fun a p => dput a p.1 p.2) [])) (o := .dK (mergeK [] kvs)) ra (.dK ((rel_merge qk .nil).mono (R2.keep e3)))
      exact ⟨g2, kvs, ek, by rw [← qk.len]; exact hc.2.2, p2 r2 _ e3 R3 _ (.ref ra)⟩
  · rw [if_neg hc] at p2
    exact p2.elim
theorem em_dic0 : PEm X cl E (.Dict [] [] pos) xDic0 :=
  pe_dnewK.imp fun σ H Q ⟨r, h, en, R, re, p⟩ => fun a hn => p _ _ (Ext.push R hn) (R.push hn (.dK .nil)) _ (.ref (push_get R))
theorem dicN_new {P : Program} {w : World} {H : Hp} {h : Heap} {a : Addr} {xs : List (NestedKey × Addr × Value)} (e : (a == sysModules) = false) {o : Obj} {es : Array DictEntry} (ho : h.get? a = some o) (hx : o.ExactDict) (hd : o.data = .dict es xs.length) (hr : es.toList = xs.map (entN w)) (hn : (xs.map (·.1)).Nodup) : ObjOk P w H h a (DicN w a xs) :=
  ⟨⟨e, o, es, ho, hx, hd, hr, hn⟩, ⟨o, ho⟩, fun _ _ p k => let ⟨e, o, es, ho, r⟩ := p; ⟨e, o, es, k o ho, r⟩⟩
theorem pe_dnewN : PE X (.Dict [] [] pos) (fun _ H Q => ∀ p, H p = none → Q (.ref p) (upd H p (DicN X.w p []))) :=
  ⟨fun pins s σ H Q I h => wpAny_Dict_empty ⟨.ref s.heap.objs.size, _, I.laid (a := s.heap.objs.size) (o := DicN X.w s.heap.objs.size []) (t' := s.toks) (fun _ _ q => Heap.get?_push_of_some _ q) (Nat.le_refl _)
    (dicN_new (Bool.eq_false_iff.mpr fun z => absurd I.big (by rw [eq_of_beq z]; exact Nat.lt_irrefl _)) (Heap.get?_push_size _ rfl) ⟨rfl, rfl, rfl⟩ rfl rfl List.nodup_nil), rfl, h _ (I.hok.fresh (Nat.le_refl _))⟩⟩
theorem em_dit0 : PEm X cl E (.Dict [] [] pos) xDit0 :=
  pe_dnewN.imp fun σ H Q ⟨r, h, en, R, re, p⟩ => fun a hn => p _ _ (Ext.push R hn) (R.push hn (.dN .nil)) _ (.ref (push_get R))
end
end Z
/-! text Z10 -/
set_option maxHeartbeats 4000000
/-! Z10: enumerate over tuples and lists. -/
namespace Z
open PySem PySem.Spec PyProof.Rows L2
theorem meets_enum1 {v : Value} {o : Obj} {G : Heap → Prop} (B : Begins v o G) :
    Meets (Builtin.«enumerate.__new__» ⟨[.type "enumerate", v], []⟩) (fun _ R s => G s.heap ∧
      R (.ok (.ret (.ref (s.heap.push o).objs.size))) { s with heap := (s.heap.push o).push { cls := .type "enumerate", data := .fields #[.none, .bool false, .ref s.heap.objs.size, rawInt 0, .none, .none] } }) :=
  .of_wp fun prog w A R s hh => by
    obtain ⟨hp, g, d, tk, os⟩ := s
    obtain ⟨h1, hR⟩ := hh
    have sub1 := sub_enumerate
    have turn : ∀ {A' : Around} {E : Value → Shared → Prop} {Q : Value → Shared → Prop}, Q (.ref hp.objs.size) ⟨hp.push o, g, d, tk, os⟩ → wpAny (model prog w) A' (pyIter v) Q E ⟨hp, g, d, tk, os⟩ :=
      fun z => B.iter prog w _ _ ⟨hp, g, d, tk, os⟩ _ h1 z
    wp_walk using turn
    refine wpAny_stack_any fun st => wpAny_pure ?_
    split
    · rename_i c _ _ _ _ _
      cases (c == Value.type "enumerate") <;> (wp_walk using turn; exact ⟨_, rfl, hR⟩)
    · wp_walk using turn
      exact ⟨_, rfl, hR⟩
section
variable {prog : Program} {w : World} {A : Around} {E : Value → Shared → Prop} {s : Shared}
theorem call_enum1 {v : Value} {o : Obj} {G : Heap → Prop} {Q : Value → Shared → Prop} (B : Begins v o G) (h1 : G s.heap)
    (k : ∀ h', IsEnum h' (s.heap.objs.size + 1) s.heap.objs.size 0 .none → h'.get? s.heap.objs.size = some o → (∀ b x, s.heap.get? b = some x → h'.get? b = some x) → Q (.ref (s.heap.objs.size + 1)) { s with heap := h' }) :
    wpAny (model prog w) A (call (.type "enumerate") [v]) Q E s := by
  refine callType_new F.called_enumerate (by decide) (F.typeCall_enumerate_1 _) (F.newCall_enumerate_1 _) (fun obj => F.args_object_init_2 obj _) F.entry_enumerate_new (meets_enum1 B) ⟨h1, ?_⟩
  have sz : (s.heap.push o).objs.size = s.heap.objs.size + 1 := Heap.size_push ..
  show _ ∧ _
  rw [sz]
  have en : IsEnum ((s.heap.push o).push { cls := .type "enumerate", data := .fields #[.none, .bool false, .ref s.heap.objs.size, rawInt 0, .none, .none] }) (s.heap.objs.size + 1) s.heap.objs.size 0 .none := by
    have z := Heap.get?_push_size (s.heap.push o) (o := { cls := .type "enumerate", data := .fields #[.none, .bool false, .ref s.heap.objs.size, rawInt 0, .none, .none] }) rfl
    rwa [sz] at z
  exact ⟨⟨_, en, rfl⟩, k _ en (Heap.get?_push_of_some _ (Heap.get?_push_size _ B.free)) fun b x z => Heap.get?_push_of_some _ (Heap.get?_push_of_some _ z)⟩
end
theorem ne_ty {a b : String} (h : a ≠ b) : Value.type a ≠ Value.type b := fun z => h (by injection z)
/-- the tuple at a, each item in a new pair -/
def Itet (K : PySem.W.Frag) (a : Addr) : It :=
  ⟨fun i H => ∃ (xs : List V) (x : V), SqT K H a xs ∧ xs[i]? = some x, fun i H v H' => ∃ T x, v = .ref T ∧ H T = none ∧ H' = upd H T (.tup [.int (i : Nat), x]) ∧ ∀ xs, SqT K H a xs → xs[i]? = some x, fun i H => ∃ xs : List V, SqT K H a xs ∧ xs.length ≤ i⟩
theorem turn_enumT {P : Program} {w : World} {K : PySem.W.Frag} {elts : List Expr} {kk : Nat} {tpos : Pos} (a e it : Addr) :
    Turn P w K (.Tuple elts kk tpos) (Itet K a) [e, it] e (fun i h => (∃ old, IsEnum h e it ((i : Nat) : Int) old) ∧ h.IsTupleIter it a i ∧ e ≠ it) where
  mem := by simp
  obj := fun i h st b hb => by
    obtain ⟨⟨old, he⟩, ⟨o, ho, hc, hd⟩, _⟩ := st
    have e' : b = e ∨ b = it := by simpa using hb
    rcases e' with z | z
    · rw [z]; exact ⟨_, he, fun v q => nomatch q⟩
    · rw [z]; exact ⟨o, ho, fun v q => by rw [hd] at q; cases q⟩
  keep := fun i h h' st k => let ⟨⟨old, he⟩, hi, ne⟩ := st; ⟨⟨old, k e (by simp) _ he⟩, hi.at fun o q => k it (by simp) o q, ne⟩
  item := by
    intro X hP hw hK hc i pins s σ H E I hf st hg
    subst hP hw hK
    obtain ⟨⟨old, he⟩, hit, hne⟩ := st
    obtain ⟨xs, x, hq, hx⟩ := hg
    obtain ⟨its, rv, p, hz⟩ := I.tuple hq
    obtain ⟨u, hu, ru⟩ := rv.get hx
    have el : e < s.heap.objs.size := Heap.lt_size he
    have ilt : it < s.heap.objs.size := by obtain ⟨_, q, _⟩ := hit; exact Heap.lt_size q
    have ea : e ≠ a := fun z => by
      obtain ⟨o, ho, oc, _⟩ := p
      rw [← z] at ho
      have z2 := congrArg Obj.cls (Option.some.inj (he.symm.trans ho))
      rw [oc] at z2
      exact ne_ty (by decide) z2
    have ai : a ≠ it := fun z => by
      obtain ⟨o, ho, oc, _⟩ := p
      obtain ⟨o', ho', oc', _⟩ := hit
      rw [z] at ho
      cases ho.symm.trans ho'
      rw [oc] at oc'
      exact ne_ty (by decide) oc'
    have hlt : i < its.toArray.size := by
      have := (List.getElem?_eq_some_iff.mp hu).1
      simpa using this
    refine wpAny_pyNext_enum_itemD (Draws.tuple (A := X.A.in1) (I.ok.hd hc) it a ai its.toArray) he ⟨hit, p⟩ hlt hne (by simp [hne, ea]) fun y h' tk hP ho hst hT hsz hk => ?_
    have ey : y = u := by
      have : its[i]? = some y := by simpa using hP
      exact Option.some.inj (this.symm.trans hu)
    subst ey
    refine ⟨_, rfl, wpAny_letOwnedTupleGo_enum (s := { s with heap := h', toks := tk + 1 }) ho fun h2 he2 sb => ?_⟩
    have hT2 : h2.get? s.heap.objs.size = some { cls := .type "tuple", data := .seq #[.int i tk, y] } := (sb.2 _ (Nat.ne_of_gt el)).trans hT
    have new : ObjOk X.prog X.w (upd H s.heap.objs.size (.tup [.int (i : Nat), x])) h2 s.heap.objs.size (.tup [.int (i : Nat), x]) :=
      ⟨by show 2 ≤ sizeLine; decide, [.int i tk, y], .cons ⟨_, rfl⟩ (.cons ru .nil), ⟨_, hT2, rfl, _, rfl⟩⟩
    have I1 : Inv X pins σ (upd H s.heap.objs.size (.tup [.int (i : Nat), x])) { s with heap := h2, toks := tk + 1 } :=
      I.turnedNew (ch := [e, it]) (fun b ob hb q => (sb.2 b (fun z => hb (by simp [z]))).trans (hk b ob (fun z => hb (by simp [z])) (fun z => hb (by simp [z])) q)) hf (Nat.le_refl _) new
    refine ⟨.ref s.heap.objs.size, _, I1, rfl, ⟨_, x, rfl, I.hok.fresh (Nat.le_refl _), rfl, fun ys hy => by rw [I.tuple_inj hy hq]; exact hx⟩, ⟨⟨y, ?_⟩, hst.1.at fun o q => (sb.2 it (Ne.symm hne)).trans q, hne⟩, fun b hb => ?_⟩
    · have e1 : ((i + 1 : Nat) : Int) = (i : Int) + 1 := by omega
      rw [e1]; exact he2
    · have hb' : b < s.heap.objs.size := by
        have e' : b = e ∨ b = it := by simpa using hb
        rcases e' with z | z
        · rw [z]; exact el
        · rw [z]; exact ilt
      rw [upd_ne (Nat.ne_of_lt hb')]
      exact (hf b hb).1
  done := by
    intro X hP hw hK hc i pins s σ H E I hf st hg
    subst hP hw hK
    obtain ⟨⟨old, he⟩, hit, hne⟩ := st
    obtain ⟨xs, hq, hx⟩ := hg
    obtain ⟨its, rv, p, hz⟩ := I.tuple hq
    obtain ⟨f0, f1, f2, f3, f4, f5⟩ := hf it (by simp)
    have ai : a ≠ it := fun z => by
      obtain ⟨o, ho, oc, _⟩ := p
      obtain ⟨o', ho', oc', _⟩ := hit
      rw [z] at ho
      cases ho.symm.trans ho'
      rw [oc] at oc'
      exact ne_ty (by decide) oc'
    have hl := rv.length
    have hT : s.TypeIs (.ref e) "enumerate" := ⟨_, he, rfl⟩
    unfold pyNext
    refine wpAny_bind (wpAny_attempt (wpAny_callSpecial?_slot (name := Str.ofString "__next__") hT F.slot_enumerate_next
      (wpAny_call_entry F.slot_enumerate_next hT F.entry_enumerate_next ?_ (F.args_enumerate_next_1 _))))
    show wpAny _ _ (field (.ref e) 2 >>= _) _ _ _
    refine wpAny_bind (wpAny_field he rfl (x := .ref it) rfl ?_)
    refine wpAny_bind (wpAny_nextOf_tuple_end (A := X.A.in1) (I.ok.hd hc) hit p (by simp; omega) fun h' x eb hx' => ?_)
    obtain ⟨o, ho, oc⟩ := hx'
    refine wpAny_bind (wpAny_isInstance (T := "StopIteration") (b := true) ⟨o, ho, oc⟩ isSubtype_stop ?_)
    exact wpAny_pure ⟨rfl, I.turned (t' := s.toks) (fun b o hb q => eb b o hb q) f0 f1 f3 f4 f5⟩
  self := fun A i s Q E st h => let ⟨⟨_, he⟩, _⟩ := st; wpAny_pyIter_enum he h
def iEnumT (K : PySem.W.Frag) (ta : TA) : TI := fun σ H R => ta σ H fun vs H1 => ∃ a xs, vs = [.ref a] ∧ SqT K H1 a xs ∧ R (Itet K a) H1
theorem pi_enumT {X : Cx} {e : Expr} {ta : TA} {p pos tpos : Pos} {elts : List Expr} {kk : Nat} (hg : Gl X "enumerate") (hm : X.mg "enumerate" = none) (ha : PA X [e] ta) (hs : starEach [e] X.env = [(false, eval e X.env)] := by rfl) :
    PI X (.Tuple elts kk tpos) (.Call (.Name "enumerate" p) [e] [] pos) (iEnumT X.K ta) := by
  refine ⟨fun pins s σ H R I h => ?_⟩
  refine Call_ (ld_blt I hg hm boot_enumerate (PyProof.Rows.callWith_type1 (thn (ha.run pos pins s σ H _ I h) fun us s1 ⟨vs, H1, I1, r1, q1⟩ => ?_) hs rfl))
  obtain ⟨a, xs, ex, hq, q⟩ := q1
  subst ex
  cases r1 with
  | cons r rr =>
    cases rr
    cases r
    obtain ⟨its, rv, p', hz⟩ := I1.tuple hq
    refine call_enum1 (begins_tuple a its.toArray) p' fun h' he hit hk => wpAny_pyIter_enum he ?_
    have I2 : Inv X pins σ H1 { s1 with heap := h' } := I1.kept (t' := s1.toks) hk
    refine ⟨s1.heap.objs.size + 1, [s1.heap.objs.size + 1, s1.heap.objs.size], _, _, H1, rfl, I2, turn_enumT a (s1.heap.objs.size + 1) s1.heap.objs.size, ⟨⟨.none, he⟩, ⟨_, hit, rfl, rfl⟩, Nat.succ_ne_self _⟩, fun b hb => ?_, q⟩
    have e' : b = s1.heap.objs.size + 1 ∨ b = s1.heap.objs.size := by simpa using hb
    have hle : s1.heap.objs.size ≤ b := by
      rcases e' with z | z
      · rw [z]; exact Nat.le_add_right _ _
      · rw [z]; exact Nat.le_refl _
    exact I1.fpOk hle (I1.hok.fresh hle)
/-! ### the walk's data -/
def enumD (ds : List D) : List D := ds.mapIdx fun i d => .tup [.int (i : Nat), d]
def enumOf (ds : List D) (h : Hd) : Out Its := match ds with
  | [.tup es] => .ok ⟨enumD es, []⟩ h
  | [.fl es] => .ok ⟨enumD es, []⟩ h
  | [.ref n] => match h[n]? with
    | some (.lst es) => .ok ⟨enumD es, [(n, .lst es)]⟩ h
    | _ => .fail
  | _ => .fail
theorem enumD_at {ds : List D} {i : Nat} {d : D} (h : (enumD ds)[i]? = some d) : ∃ e, ds[i]? = some e ∧ d = .tup [.int (i : Nat), e] := by
  unfold enumD at h
  rw [List.getElem?_mapIdx] at h
  obtain ⟨e, h1, rfl⟩ := Option.map_eq_some_iff.mp h
  exact ⟨e, h1, rfl⟩
theorem enumD_len {ds : List D} : (enumD ds).length = ds.length := by unfold enumD; simp
section
variable {K : PySem.W.Frag} {cl : Str → Addr} {r : List Addr} {h : Hd} {H : Hp} {ds : List D} {a : Addr} {vs : List V} {gd : List (Nat × MO)}
theorem pair_new {T : Addr} {i : Nat} {x : V} {e : D} (R : RelH K cl r h H) (hT : H T = none) (q : RelD K r H e x) : Ext r H r (upd H T (.tup [.int (i : Nat), x])) ∧ RelH K cl r h (upd H T (.tup [.int (i : Nat), x])) ∧ RelD K r (upd H T (.tup [.int (i : Nat), x])) (.tup [.int (i : Nat), e]) (.ref T) := by
  have e1 : Ext r H r (upd H T (.tup [.int (i : Nat), x])) := Ext.new R hT
  have R1 := R.new (o := .tup [.int (i : Nat), x]) hT
  refine ⟨e1, R1, .tup (SqT.of (by unfold L2.upd; simp)) (.cons .int (.cons (q.mono (R.keep e1)) .nil))⟩
theorem itM_enumT (R : RelH K cl r h H) (s : SqT K H a vs) (m : RelDs K r H ds vs) : ItM K cl (Itet K a) r H ⟨enumD ds, gd⟩ := fun r2 h2 H2 e2 R2 _ i => by
  have k := e2
  have s2 := k.t _ _ s
  have m2 := m.mono k
  refine ⟨fun e => ⟨vs, s2, by rw [e, ← m.length, enumD_len]; exact Nat.le_refl _⟩, fun d hd => ?_⟩
  obtain ⟨e, he, rfl⟩ := enumD_at hd
  obtain ⟨v, h1, h2'⟩ := m2.get he
  refine ⟨⟨vs, v, s2, h1⟩, fun x H' ⟨T, y, ex, hT, e', q⟩ => ?_⟩
  subst e' ex
  have : v = y := Option.some.inj (h1.symm.trans (q vs s2))
  subst this
  exact pair_new R2 hT h2'
theorem itM_enumF (R : RelH K cl r h H) (s : Fz K H a vs) (m : RelDs K r H ds vs) : ItM K cl (Ite K a) r H ⟨enumD ds, gd⟩ := fun r2 h2 H2 e2 R2 _ i => by
  have k := e2
  have s2 := (k.f _ _ s).sq
  have m2 := m.mono k
  refine ⟨fun e => ⟨vs, s2, by rw [e, ← m.length, enumD_len]; exact Nat.le_refl _⟩, fun d hd => ?_⟩
  obtain ⟨e, he, rfl⟩ := enumD_at hd
  obtain ⟨v, h1, h2'⟩ := m2.get he
  refine ⟨⟨vs, v, s2, h1⟩, fun x H' ⟨T, y, ex, hT, e', q⟩ => ?_⟩
  subst e' ex
  have : v = y := Option.some.inj (h1.symm.trans (q vs s2))
  subst this
  exact pair_new R2 hT h2'
theorem itM_enumL {n : Nat} (R : RelH K cl r h H) (q : r[n]? = some a) : ItM K cl (Ite K a) r H ⟨enumD ds, [(n, .lst ds)]⟩ := fun r2 h2 H2 e2 R2 gd i => by
  have q2 := e2.g _ _ q
  obtain ⟨vs, hv, m2⟩ := R2.lst q2 (gd (n, .lst ds) (by simp))
  have s2 : SqL K H2 a vs := SqL.of hv
  refine ⟨fun e => ⟨vs, s2, by rw [e, ← m2.length, enumD_len]; exact Nat.le_refl _⟩, fun d hd => ?_⟩
  obtain ⟨e, he, rfl⟩ := enumD_at hd
  obtain ⟨v, h1, h2'⟩ := m2.get he
  refine ⟨⟨vs, v, s2, h1⟩, fun x H' ⟨T, y, ex, hT, e', q⟩ => ?_⟩
  subst e' ex
  have : v = y := Option.some.inj (h1.symm.trans (q vs s2))
  subst this
  exact pair_new R2 hT h2'
end
section
variable {X : Cx} {cl : Str → Addr} {E : XK} {e : Expr} {elts : List Expr} {kk : Nat} {p0 pos tpos : Pos} {ms : XA}
theorem im_enum (hg : Gl X "enumerate") (hm : X.mg "enumerate" = none) (ha : PAm X cl E [e] ms) (hs : starEach [e] X.env = [(false, eval e X.env)]) : PIm X cl E (.Tuple elts kk tpos) (.Call (.Name "enumerate" p0) [e] [] pos) (xIts enumOf ms) :=
  ((pi_enum hg hm ha hs).or (pi_enumT hg hm ha hs)).imp fun σ H R' ⟨r, h, en, R, q, p⟩ => by
    have p1 := Post.bind p
    cases hm : ms en h with
    | fail => rw [hm] at p1; exact p1.elim
    | exc c fs h1 =>
      rw [hm] at p1
      exact .inl ⟨r, h, en, R, q, by rw [hm]; exact p1⟩
    | ok xs h1 =>
      rw [hm] at p1
      have no : (∀ r1 H1, Ext r H r1 H1 → RelH X.K cl r1 h1 H1 → False) → iEnum X.K (TAm X.K cl E ms) σ H R' := fun z => ⟨r, h, en, R, q, by rw [hm]; exact fun r1 H1 e1 R1 => (z r1 H1 e1 R1).elim⟩
      match xs, p1 with
      | [.tup ds], p1 =>
        refine .inr ⟨r, h, en, R, q, ?_⟩
        rw [hm]
        intro r1 H1 e1 R1 vs q1
        cases q1 with
        | cons q1 q2 =>
          cases q2
          obtain ⟨a, ws, rfl, s, mm⟩ := q1.tup_inv
          exact ⟨a, ws, rfl, s, p1 r1 H1 e1 R1 r1 H1 (Ext.refl _ _) R1 _ (itM_enumT R1 s mm)⟩
      | [.fl ds], p1 =>
        refine .inl ⟨r, h, en, R, q, ?_⟩
        rw [hm]
        intro r1 H1 e1 R1 vs q1
        cases q1 with
        | cons q1 q2 =>
          cases q2
          obtain ⟨a, ws, rfl, s, mm⟩ := q1.fl_inv
          exact ⟨a, ws, rfl, s.sq, p1 r1 H1 e1 R1 r1 H1 (Ext.refl _ _) R1 _ (itM_enumF R1 s mm)⟩
      | [.ref n], p1 =>
        refine .inl ⟨r, h, en, R, q, ?_⟩
        rw [hm]
        intro r1 H1 e1 R1 vs q1
        cases q1 with
        | cons q1 q2 =>
          cases q2
          obtain ⟨a, rfl, qa⟩ := q1.ref_inv
          have p2 := p1 r1 H1 e1 R1
          simp only [enumOf] at p2
          cases hn : h1[n]? with
          | none => rw [hn] at p2; exact p2.elim
          | some mo =>
            rw [hn] at p2
            cases mo with
            | lst ds =>
              obtain ⟨ws, hv, mm⟩ := R1.lst qa hn
              exact ⟨a, ws, rfl, SqL.of hv, p2 r1 H1 (Ext.refl _ _) R1 _ (itM_enumL R1 qa)⟩
            | _ => exact p2.elim
      | [], p1 => exact .inl (no p1)
      | [.non], p1 | [.bl _], p1 | [.int _], p1 | [.str _], p1 => exact .inl (no p1)
      | _ :: _ :: _, p1 => exact .inl (no fun r1 H1 e1 R1 => by have := p1 r1 H1 e1 R1; simp only [enumOf] at this; exact this)
end
end Z
/-! text Z11 -/
set_option maxHeartbeats 2000000
/-! Z11: binding with defaults; making by keywords alone. -/
namespace Z
open PySem PySem.Spec PyProof.Rows L2
def arrOf (m : Nat) (md : List D) (π : List Nat) : Arr := π.map fun i => if i < m then .inl i else .inr (md.getD (i - m) .non)
section
variable {K : PySem.W.Frag} {x qual : Str} {params : Arguments} {body : List Stmt} {scope : Scope} {f : Addr} {fd : FuncData} {ps ks : List Str} {n : Nat}
theorem arr_ok {r : List Addr} {H : Hp} {ds es md : List D} {vs vz vm : List V} {us ws mv : List Value} (q1 : RelDs K r H ds vs) (v1 : Vals vs us) (q2 : RelDs K r H es vz) (v2 : Vals vz ws) (q3 : RelDs K r H md vm) (v3 : Vals vm mv)
    (π : List Nat) (hπ : ∀ i ∈ π, i < us.length + ws.length + mv.length) :
    ∃ xs ys, arrD (arrOf (us.length + ws.length) md π) (ds ++ es) = some xs ∧ RelDs K r H xs ys ∧ Vals ys (π.filterMap fun i => (us ++ ws ++ mv)[i]?) := by
  have q := q1.append q2
  have v := v1.append v2
  have lds : (ds ++ es).length = us.length + ws.length := by rw [q.length, v.length, List.length_append]
  have lmd : md.length = mv.length := by rw [q3.length, v3.length]
  induction π with
  | nil => exact ⟨[], [], rfl, .nil, .nil⟩
  | cons i π ih =>
    obtain ⟨xs, ys, e1, e2, e3⟩ := ih fun j hj => hπ j (List.mem_cons_of_mem _ hj)
    have hi := hπ i List.mem_cons_self
    by_cases hl : i < us.length + ws.length
    · have hd := List.getElem?_eq_getElem (l := ds ++ es) (i := i) (by omega)
      obtain ⟨v', hv', qv⟩ := q.get hd
      obtain ⟨u', hu', rv⟩ := v.get hv'
      refine ⟨_ :: xs, v' :: ys, ?_, .cons qv e2, ?_⟩
      · unfold arrD arrOf at e1 ⊢
        rw [List.map_cons, List.mapM_cons, e1, if_pos hl]
        show ((ds ++ es)[i]?.bind fun x => some (x :: xs)) = _
        rw [hd]
        rfl
      · have hu2 : (us ++ ws ++ mv)[i]? = some u' := by
          rw [List.getElem?_append_left (by rw [List.length_append]; exact hl)]
          exact hu'
        rw [List.filterMap_cons, hu2]
        exact .cons rv e3
    · have hm : i - (us.length + ws.length) < md.length := by omega
      have hd := List.getElem?_eq_getElem (l := md) hm
      obtain ⟨v', hv', qv⟩ := q3.get hd
      obtain ⟨u', hu', rv⟩ := v3.get hv'
      refine ⟨_ :: xs, v' :: ys, ?_, .cons qv e2, ?_⟩
      · unfold arrD arrOf at e1 ⊢
        rw [List.map_cons, List.mapM_cons, e1, if_neg hl]
        show some (md.getD (i - (us.length + ws.length)) .non :: xs) = _
        rw [List.getD_eq_getElem?_getD, hd]
        rfl
      · have hu2 : (us ++ ws ++ mv)[i]? = some u' := by
          rw [List.getElem?_append_right (by rw [List.length_append]; omega), List.length_append]
          exact hu'
        rw [List.filterMap_cons, hu2]
        exact .cons rv e3
theorem filt_len {us ws mv : List Value} : ∀ {π : List Nat}, (∀ i ∈ π, i < us.length + ws.length + mv.length) → (π.filterMap fun i => (us ++ ws ++ mv)[i]?).length = π.length
  | [], _ => rfl
  | i :: π, h => by
    have hi : i < (us ++ ws ++ mv).length := by rw [List.length_append, List.length_append]; exact h i List.mem_cons_self
    rw [List.filterMap_cons, List.getElem?_eq_getElem hi]
    show _ + 1 = _ + 1
    rw [filt_len fun j hj => h j (List.mem_cons_of_mem _ hj)]
/-- keyword-only parameters, some of which lack -/
theorem bindM_kw {kws : List (Str × V)} (Fd : FunD K x qual params body scope [] kws f fd) (ms : List (Str × V)) (md : List D) (π : List Nat) (hk : kws ≠ []) (hms : ∀ q ∈ ms, q ∈ kws) (hmd : ∀ r H, RelDs K r H md (ms.map (·.2)))
    (hπ : π.length = ps.length) (hπ2 : ∀ i ∈ π, i < n + ks.length + ms.length)
    (h : ∀ (D : Addr) (doc pm : Value) (an : Option Addr) (cdv ct : Value) (us ws mv : List Value), us.length = n → ws.length = ks.length → mv.length = ms.length →
      KwChain D ((ms.map (·.1)).zip mv) (bindArgs (PySem.W.fnOf x qual params body scope .none (.ref D) doc pm an cdv ct) ⟨us, ks.zip ws⟩) (ps.zip (π.filterMap fun i => (us ++ ws ++ mv)[i]?))) :
    BindM K fd ps n ks (arrOf (n + ks.length) md π) := by
  obtain ⟨oc, od, dV, kV, doc, pm, an, cdv, ct, osl, rfl, lk, hcd, hD, hK⟩ := Fd.ex
  rcases hD with ⟨_, rfl⟩ | ⟨e, _⟩
  · rcases hK with e | ⟨D, rfl, hq⟩
    · exact absurd e hk
    · obtain ⟨mv, hl, rk, hks⟩ := kwd_vals (ms := ms) fun q hm => hq q (hms q hm)
      refine ⟨fun s us ws X l1 l2 => ⟨_, BindsTo.of_looks fun M => KwChain.looks X hks (h D doc pm an cdv ct us ws mv l1 l2 hl), ?_, fun r H ds es vs vz q1 v1 q2 v2 => ?_⟩⟩
      · rw [filt_len (by rw [l1, l2, hl]; exact hπ2), hπ]
      · have := arr_ok q1 v1 q2 v2 (hmd r H) rk π (by rw [l1, l2, hl]; exact hπ2)
        rw [l1, l2] at this
        exact this
  · exact absurd rfl e
/-- positional parameters with defaults -/
theorem bindM_pos {dvs : List V} (Fd : FunD K x qual params body scope dvs [] f fd) (md : List D) (π : List Nat) (hd : dvs ≠ []) (hmd : ∀ r H, RelDs K r H md dvs)
    (hπ : π.length = ps.length) (hπ2 : ∀ i ∈ π, i < n + ks.length + dvs.length)
    (h : ∀ (T : Addr) (kV doc pm : Value) (an : Option Addr) (cdv ct : Value) (us ws its : List Value), us.length = n → ws.length = ks.length → its.length = dvs.length →
      ∃ k, bindArgs (PySem.W.fnOf x qual params body scope (.ref T) kV doc pm an cdv ct) ⟨us, ks.zip ws⟩ = seqItems? (.ref T) >>= k ∧ k (some its.toArray) = pure (ps.zip (π.filterMap fun i => (us ++ ws ++ its)[i]?))) :
    BindM K fd ps n ks (arrOf (n + ks.length) md π) := by
  obtain ⟨oc, od, dV, kV, doc, pm, an, cdv, ct, osl, rfl, lk, hcd, hD, hK⟩ := Fd.ex
  rcases hD with ⟨e, _⟩ | ⟨_, T, o, its, m, rfl, lT, oT, rT⟩
  · exact absurd e hd
  · have hl : its.length = dvs.length := rT.length.symm
    refine ⟨fun s us ws X l1 l2 => ⟨π.filterMap fun i => (us ++ ws ++ its)[i]?, BindsTo.of_looks fun M => ?_, ?_, fun r H ds es vs vz q1 v1 q2 v2 => ?_⟩⟩
    · obtain ⟨k, e1, e2⟩ := h T kV doc pm an cdv ct us ws its l1 l2 hl
      rw [e1]
      exact looks_items X lT oT (.of_pure e2)
    · rw [filt_len (by rw [l1, l2, hl]; exact hπ2), hπ]
    · have := arr_ok q1 v1 q2 v2 (hmd r H) rT π (by rw [l1, l2, hl]; exact hπ2)
      rw [l1, l2] at this
      exact this
end
section
variable {X : Cx} {cl : Str → Addr} {E : XK} {k n : Nat} {f : Addr} {fd : FuncData} {ps ks : List Str} {F : Fn} {a : Arr} {x : Str} {p0 pos : Pos} {kws : List Keyword} {mk : XA} {c : Str}
theorem em_makeK0 (Mk' : Mk X.K (cl c) f) (M : FnM X.prog X.w X.K X.mg X.base cl k f fd ps F) (hr : RoomG (k + 1) X.A) (tk : Tk X E) (hg : Gl X x) (hm : X.mg x = some (.ref (cl c))) (hkw : PKm X cl E kws mk)
    (b : BindM X.K fd ps 1 ks a) (hall : (backToKw pos (keywordEach kws X.env)).all (·.1.isSome) = true) (hks : (backToKw pos (keywordEach kws X.env)).filterMap (·.1) = ks) (hdb : (x == ("__debug__" : Str)) = false)
    (hpl : ((backTo pos (starEach [] X.env)).any (·.1) || (backToKw pos (keywordEach kws X.env)).any (·.1.isNone)) = false) :
    PEm X cl E (.Call (.Name x p0) [] kws pos) (xMakeK F a 0 ks.length c xNil mk) := by
  refine ⟨fun pins s σ H Q I ⟨r, h, en, R, re, p⟩ => ?_⟩
  refine wpAny_Call_Name_kw (ld_glob I hg hm ?_ hdb)
  have p' : Post X.K cl r H E (PV X.K Q) ((mk en h).bind fun es h2 => makeA F a 0 ks.length c [] es h2) := p
  have z2 : TAm X.K cl E mk σ H fun vz H2 => ∃ r2 h2 es, RelH X.K cl r2 h2 H2 ∧ RelDs X.K r2 H2 es vz ∧ Post X.K cl r2 H2 E (PV X.K Q) (makeA F a 0 ks.length c [] es h2) :=
    ⟨r, h, en, R, re, (Post.bind p').imp fun es r2 h2 H2 e2 R2 p2 vz q2 => ⟨r2, h2, es, R2, q2, p2⟩⟩
  refine PySem.W.callWith_KW0 (h₀ := X.base) I.ok.mod.kin Mk'.kp hall ?_ hpl
  refine thn (hkw.run pos pins s σ H _ I z2) fun ws s2 ⟨vz, H2, I2, rz, r2, h2, es, R2, q4, p2⟩ => ⟨I2.kIn, ?_⟩
  rw [hks]
  exact run_makeM (us := []) (vs := []) (ds := []) Mk' M hr b tk I2 R2 .nil .nil q4 rz p2
end
end Z
/-! text Z12 -/
/-! Z12: a written dict of ints: d.get(x, y). -/
namespace Z
open PySem PySem.Spec PyProof.Rows L2
def pairsB : List DictEntry → List (Int × Int) → Bool
  | [], [] => true
  | e :: es, (k, v) :: r => Value.isInt k e.key && (decide (e.hash = hashInt k) && (Value.isInt v e.val && pairsB es r))
  | _, _ => false
/-- a dict of the written part: its pairs -/
def dicB (K : PySem.W.Frag) (a : Addr) (kvs : List (Int × Int)) : Bool := match K.lookup a with
  | some ⟨.type "dict", none, .dict es _, sl⟩ => decide (sl = #[]) && (!(a == sysModules) && (pairsB es.toList kvs && decide ((kvs.map (·.1)).Nodup)))
  | _ => false
theorem isInt_eq {i : Int} {v : Value} (h : Value.isInt i v = true) : ∃ t, v = .int i t := Value.isInt_shape h
theorem pairsB_ok {P : Program} {w : World} : ∀ {es : List DictEntry} {kvs : List (Int × Int)}, pairsB es kvs = true →
    (∀ e ∈ es, ∃ k, (mixKind P w).is k e.key = true ∧ e.hash = (mixKind P w).hash k) ∧ ∃ vs : List (Key × Value), Pairs (mixKind P w) es vs ∧ vs.map (·.1) = kvs.map (fun p => Sum.inl p.1) ∧
      ∀ i : Int, match kvs.lookup i with
        | some v => ∃ t, valueAt vs (.inl i) = some (.int v t)
        | none => valueAt vs (.inl i) = none
  | [], [], _ => ⟨(fun _ h => nomatch h), [], .nil, rfl, fun i => rfl⟩
  | e :: es, (k, v) :: kvs, h => by
    obtain ⟨h1, h⟩ := He.ba h
    obtain ⟨h2, h⟩ := He.ba h
    obtain ⟨h3, h4⟩ := He.ba h
    obtain ⟨r1, vs, r2, r3, r4⟩ := pairsB_ok (P := P) (w := w) h4
    obtain ⟨t, ev⟩ := isInt_eq h3
    refine ⟨fun e' he => ?_, (.inl k, e.val) :: vs, .cons h1 rfl r2, by simp [r3], fun i => ?_⟩
    · rcases List.mem_cons.mp he with rfl | he
      · exact ⟨.inl k, h1, of_decide_eq_true h2⟩
      · exact r1 e' he
    · by_cases hi : i = k
      · subst hi
        rw [List.lookup_cons_self]
        refine ⟨t, ?_⟩
        unfold valueAt
        rw [List.find?_cons_of_pos (by simp)]
        rw [ev]
        rfl
      · have hb : (i == k) = false := beq_eq_false_iff_ne.mpr hi
        rw [List.lookup_cons, hb]
        have : valueAt ((Sum.inl k, e.val) :: vs) (Sum.inl i : Key) = valueAt vs (Sum.inl i) := by
          unfold valueAt
          rw [List.find?_cons_of_neg (by simp; exact fun z => hi z.symm)]
        rw [this]
        exact r4 i
  | [], _ :: _, h => nomatch h
  | _ :: _, [], h => nomatch h
theorem dicB_ok {P : Program} {w : World} {K : PySem.W.Frag} {a : Addr} {kvs : List (Int × Int)} (h : dicB K a kvs = true) : (a == sysModules) = false ∧ ∃ vs : List (Key × Value), (∀ hp : Heap, K.In hp → hp.DictOf (mixKind P w) a vs) ∧
    ∀ i : Int, match kvs.lookup i with
      | some v => ∃ t, valueAt vs (.inl i) = some (.int v t)
      | none => valueAt vs (.inl i) = none := by
  unfold dicB at h
  split at h
  · rename_i es n sl e
    obtain ⟨h1, h⟩ := He.ba h
    obtain ⟨h2, h⟩ := He.ba h
    obtain ⟨h3, h4⟩ := He.ba h
    obtain ⟨r1, vs, r2, r3, r4⟩ := pairsB_ok (P := P) (w := w) h3
    refine ⟨by simpa using h2, vs, fun hp X => ⟨_, es, n, X a _ e, ⟨rfl, rfl, of_decide_eq_true h1⟩, rfl, fun e' he => r1 e' (Array.mem_toList_iff.mpr he), r2, ?_⟩, r4⟩
    rw [r3]
    have := of_decide_eq_true h4
    rw [List.nodup_iff_pairwise_ne, List.pairwise_map] at this ⊢
    exact this.imp fun q z => q (Sum.inl.inj z)
  · cases h
def getC (kvs : List (Int × Int)) (x y : D) (h : Hd) : Out D := match x with
  | .int i => .ok (match kvs.lookup i with
    | some v => .int v
    | none => y) h
  | _ => .fail
def xGetC (kvs : List (Int × Int)) (m1 m2 : XE) : XE := fun en h => (m1 en h).bind fun x h1 => (m2 en h1).bind fun y h2 => getC kvs x y h2
section
variable {X : Cx} {cl : Str → Addr} {E : XK} {x : Str} {p0 apos cpos : Pos} {e f : Expr} {m1 m2 : XE} {kvs : List (Int × Int)} {a : Addr}
theorem em_getC (hg : Gl X x) (hm : X.mg x = some (.ref a)) (hd : dicB X.K a kvs = true) (hdb : (x == ("__debug__" : Str)) = false) (he : PEm X cl E e m1) (hf : PEm X cl E f m2) (m : M2 X (.Name x p0) "get" apos e f cpos) :
    PEm X cl E (.Call (.Attribute (.Name x p0) "get" apos) [e, f] [] cpos) (xGetC kvs m1 m2) := by
  refine ⟨fun pins s σ H Q I ⟨r, h, en, R, re, p⟩ => ?_⟩
  obtain ⟨hs, vs, dd, look⟩ := dicB_ok (P := X.prog) (w := X.w) hd
  have z : TDm X.K cl E m1 σ H fun y H2 => TDm X.K cl E m2 σ H2 fun z H3 => ∃ i : Int, y = .int i ∧ ((∃ v, kvs.lookup i = some v ∧ Q (.int v) H3) ∨ (kvs.lookup i = none ∧ Q z H3)) := by
    refine ⟨r, h, en, R, re, (Post.bind p).imp fun d1 r1 h1 H1 e1 R1 p1 y q1 => ?_⟩
    refine ⟨r1, h1, en, R1, re.mono (R.keep e1), (Post.bind p1).imp fun d2 r2 h2 H2 e2 R2 p2 z q2 => ?_⟩
    have q1' := q1.mono (R1.keep e2)
    cases d1 with
    | int i =>
      have := q1'.int_inv
      subst this
      unfold getC at p2
      dsimp only at p2
      refine ⟨i, rfl, ?_⟩
      cases hl : kvs.lookup i with
      | none =>
        rw [hl] at p2
        exact .inr ⟨rfl, Post.end' R2 p2 q2⟩
      | some v =>
        rw [hl] at p2
        exact .inl ⟨v, rfl, Post.end' R2 p2 .int⟩
    | _ => exact p2.elim
  refine wpAny_Call_method m.base m.few m.line PySem.F.plainAttrs_dict PySem.F.slot_dict_get PySem.F.type_dict_get (ld_glob I hg hm ?_ hdb)
  have D0 := dd s.heap I.kIn
  refine ⟨D0.typeIs, fun b q => by
    cases q
    obtain ⟨ob, _, _, h1, h2, _⟩ := D0
    exact ⟨ob, h1, h2.2.1⟩, ?_⟩
  rw [m.trees]
  refine Calls.callWith_builtin rfl (Calls.evalArgs_plain (Calls.spliced_cons (thn (he.run pins s σ H _ I z) fun iv s2 ⟨y, H2, I2, ry, q2⟩ =>
    Calls.spliced_cons (thn (hf.run pins s2 σ H2 _ I2 q2) fun fv s3 ⟨z, H3, I3, rz, i, ei, q3⟩ => Calls.spliced_nil ?_))))
  subst ei
  have D3 := dd s3.heap I3.kIn
  refine call_meetsIn PySem.F.slot_dict_get D3.typeIs PySem.F.entry_dict_get (PySem.F.args_dict_get_3 _ _ _) (meets_dict_get_default (mixKind X.prog X.w) a (kV_is (k := .inl i) ry) hs fv) ⟨_, D3.mapOf, ?_⟩
  have lk := look i
  rcases q3 with ⟨v, hl, q⟩ | ⟨hl, q⟩
  · rw [hl] at lk
    obtain ⟨t, e⟩ := lk
    rw [e]
    exact ⟨.int v, H3, I3.tok _, ⟨t, rfl⟩, q⟩
  · rw [hl] at lk
    have lk : valueAt vs (.inl i) = none := lk
    rw [lk]
    exact ⟨z, H3, I3.tok _, rz, q⟩
end
end Z
/-! text Z13 -/
set_option maxHeartbeats 4000000
/-! Z13: comprehensions with two clauses. -/
namespace Z
open PySem PySem.Spec PyProof.Rows L2
def comp2L (gd : List (Nat × MO)) (g : XG) (t : XT) (mi : XI) (g1 : XG) (t1 : XT) (m : XE) (ws1 : List Nat) (en : En) : List D → Hd → Out (List D)
  | [], h => if gdOk gd h then .ok [] h else .fail
  | d :: ds, h => if gdOk gd h then (match g d en h with
    | .nx en1 h1 => (match t en1 h1 with
      | .ok true h2 => (match mi en1 h2 with
        | .ok it h3 => (match compL it.gd g1 t1 m (wipeE en1 ws1) it.ds h3 with
          | .ok ys h4 => (match comp2L gd g t mi g1 t1 m ws1 en ds h4 with
            | .ok zs h5 => .ok (ys ++ zs) h5
            | _ => .fail)
          | _ => .fail)
        | _ => .fail)
      | .ok false h2 => comp2L gd g t mi g1 t1 m ws1 en ds h2
      | _ => .fail)
    | _ => .fail) else .fail
def xComp2 (mi : XI) (g : XG) (t : XT) (mi1 : XI) (g1 : XG) (t1 : XT) (m : XE) (own ws1 : List Nat) : XE := fun en h => (mi en h).bind fun it h1 => (comp2L it.gd g t mi1 g1 t1 m ws1 (wipeE en own) it.ds h1).bind mkLst
section
variable {X : Cx} {cl : Str → Addr} {E : XK} {elt tg iter tg1 iter1 : Expr} {ifs ifs1 : List Expr} {scope : Scope} {own : List (Str × Nat)} {pos : Pos} {mi mi1 : XI} {g g1 : XG} {t t1 : XT} {m : XE}
theorem comp2L_no {gd : List (Nat × MO)} {en : En} {ws1 : List Nat} {c : Str} {fs : List (Str × D)} {hx : Hd} : ∀ {ds : List D} {h : Hd}, comp2L gd g t mi g1 t1 m ws1 en ds h = .exc c fs hx → False
  | [], h, e => by
    simp only [comp2L] at e
    split at e <;> cases e
  | d :: ds, h, e => by
    simp only [comp2L] at e
    split at e
    · split at e
      · split at e
        · split at e
          · split at e
            · split at e <;> cases e
            · cases e
          · cases e
        · exact comp2L_no e
        · cases e
      · cases e
    · cases e
theorem lc2_read {K : PySem.W.Frag} {σ : L2.St} {H : Hp} {Q : VK} {r : List Addr} {h : Hd} {en : En} {ws ws1 : List Nat} {E : XK} (R : RelH K cl r h H) (e : RelE K r H en σ) (p : Post K cl r H E (PV K Q) (xComp2 mi g t mi1 g1 t1 m ws ws1 en h)) :
    tLc2 (TIm K cl E mi) (TGm K cl E00 ws g) (TTm K cl E00 t) (TIm K cl E00 mi1) (TGm K cl E00 ws1 g1) (TTm K cl E00 t1) (TDm K cl E00 m) ws ws1 σ H Q := by
  refine ⟨r, h, en, R, e, (Post.bind p).imp fun it r0 h0 H0 e0 R0 p0 J hJ L hL => ?_⟩
  have w0 : RelE K r0 H0 (wipeE en ws) (wipe σ ws) := (e.mono (R.keep e0)).wipe ws
  cases hc : comp2L it.gd g t mi1 g1 t1 m ws1 (wipeE en ws) it.ds h0 with
  | fail => rw [hc] at p0; exact p0.elim
  | exc c fs hx => exact (comp2L_no hc).elim
  | ok YS hF =>
    rw [hc] at p0
    have p0 : Post K cl r0 H0 E (PV K Q) (mkLst YS hF) := p0
    unfold mkLst at p0
    by_cases hz : YS.length ≤ sizeLine
    · rw [if_pos hz] at p0
      have nL : L ∉ r0 := R0.not_none hL
      refine ⟨fun i n H => n = it.ds.length - i ∧ i ≤ it.ds.length ∧ ∃ r h accd acc ys, Ext r0 H0 r H ∧ RelH K cl r h H ∧ H L = some (.lst acc) ∧ L ∉ r ∧ RelDs K r H accd acc ∧ RelE K r H (wipeE en ws) (wipe σ ws) ∧
        comp2L it.gd g t mi1 g1 t1 m ws1 (wipeE en ws) (it.ds.drop i) h = .ok ys hF ∧ accd ++ ys = YS, ⟨_, rfl, Nat.zero_le _, r0, h0, [], [], YS, ?_, ?_, upd_same, nL, .nil, ?_, by rw [List.drop_zero]; exact hc, rfl⟩, ?_⟩
      · exact ⟨⟨[], by simp⟩, fun a o q n => ⟨by rw [upd_ne (ne_of_none q hL)]; exact q, n⟩⟩
      · exact R0.new hL
      · exact w0.mono (R0.keep (Ext.new R0 hL))
      · rintro i n H ⟨rfl, hle, r, h, accd, acc, ys, e1, R1, hLa, nLr, m1, w1, hcl, hy⟩
        by_cases hi : i < it.ds.length
        · have hd : it.ds.drop i = it.ds[i] :: it.ds.drop (i + 1) := by rw [List.drop_eq_getElem_cons hi]
          rw [hd] at hcl
          simp only [comp2L] at hcl
          by_cases hgd : gdOk it.gd h
          · rw [if_pos hgd] at hcl
            obtain ⟨go, yl⟩ := (hJ r h H (R0.keep e1) R1 hgd i).2 it.ds[i] (List.getElem?_eq_getElem hi)
            refine .inr ⟨go, fun H' => ∃ r h accd acc ys, Ext r0 H0 r H' ∧ RelH K cl r h H' ∧ H' L = some (.lst acc) ∧ L ∉ r ∧ RelDs K r H' accd acc ∧ RelE K r H' (wipeE en ws) (wipe σ ws) ∧
              comp2L it.gd g t mi1 g1 t1 m ws1 (wipeE en ws) (it.ds.drop (i + 1)) h = .ok ys hF ∧ accd ++ ys = YS, fun H' z => ⟨_, by omega, rfl, hi, z⟩, fun x H' hyl => ?_⟩
            obtain ⟨e2, R2, q2⟩ := yl x H' hyl
            cases hg2 : g it.ds[i] (wipeE en ws) h with
            | nx en1 h1 =>
              rw [hg2] at hcl
              dsimp only at hcl
              refine ⟨r, h, wipeE en ws, it.ds[i], R2, w1.mono (R1.keep e2), q2, ?_⟩
              rw [hg2]
              intro r3 H3 σ3 e3 R3 q3 hw
              refine ⟨hw.trans wipe_idem, r3, h1, en1, R3, q3, ?_⟩
              cases ht2 : t en1 h1 with
              | ok b h2 =>
                rw [ht2] at hcl
                intro r4 H4 e4 R4
                have e14 : Ext r H r4 H4 := (e2.trans e3).trans e4
                obtain ⟨hL4, nL4⟩ := e14.fr L _ hLa nLr
                have k4 := R1.keep e14
                cases b with
                | false =>
                  dsimp only at hcl
                  exact iteF ⟨r4, h2, accd, acc, ys, e1.trans e14, R4, hL4, nL4, m1.mono k4, w1.mono k4, hcl, hy⟩
                | true =>
                  dsimp only at hcl
                  refine iteT ⟨r4, h2, en1, R4, q3.mono (R3.keep e4), ?_⟩
                  cases hm1 : mi1 en1 h2 with
                  | fail => rw [hm1] at hcl; cases hcl
                  | exc c fs hx => rw [hm1] at hcl; cases hcl
                  | ok it1 h3 =>
                    rw [hm1] at hcl
                    dsimp only at hcl
                    cases hin : compL it1.gd g1 t1 m (wipeE en1 ws1) it1.ds h3 with
                    | fail => rw [hin] at hcl; cases hcl
                    | exc c fs hx => rw [hin] at hcl; cases hcl
                    | ok YS1 hX =>
                    rw [hin] at hcl
                    dsimp only at hcl
                    cases hout : comp2L it.gd g t mi1 g1 t1 m ws1 (wipeE en ws) (it.ds.drop (i + 1)) hX with
                    | fail => rw [hout] at hcl; cases hcl
                    | exc c fs hx => rw [hout] at hcl; cases hcl
                    | ok ZS hF2 =>
                    rw [hout] at hcl
                    dsimp only at hcl
                    have hys : YS1 ++ ZS = ys ∧ hF2 = hF := by
                      injection hcl with z1 z2
                      exact ⟨z1, z2⟩
                    obtain ⟨rfl, rfl⟩ := hys
                    intro r5 H5 e5 R5 J1 hJ1
                    have e15 : Ext r H r5 H5 := e14.trans e5
                    obtain ⟨hL5, nL5⟩ := e15.fr L _ hLa nLr
                    have k5 := R1.keep e15
                    have w5 : RelE K r5 H5 (wipeE en1 ws1) (wipe σ3 ws1) := (q3.mono (R3.keep (e4.trans e5))).wipe ws1
                    refine ⟨fun j n H => n = it1.ds.length - j ∧ j ≤ it1.ds.length ∧ ∃ r h accd acc ys, Ext r0 H0 r H ∧ Keep K r5 H5 r H ∧ RelH K cl r h H ∧ H L = some (.lst acc) ∧ L ∉ r ∧ RelDs K r H accd acc ∧ RelE K r H (wipeE en ws) (wipe σ ws) ∧ RelE K r H (wipeE en1 ws1) (wipe σ3 ws1) ∧
                      compL it1.gd g1 t1 m (wipeE en1 ws1) (it1.ds.drop j) h = .ok ys hX ∧ accd ++ (ys ++ ZS) = YS, ⟨_, rfl, Nat.zero_le _, r5, h3, accd, acc, YS1, e1.trans e15, Keep.refl, R5, hL5, nL5, m1.mono k5, w1.mono k5, w5, by rw [List.drop_zero]; exact hin, hy⟩, ?_⟩
                    rintro j n H ⟨rfl, hle1, r, h, accd, acc, ys, eA, eB, R1, hLa, nLr, m1, w1, v1, hcl, hy⟩
                    by_cases hj : j < it1.ds.length
                    · have hd : it1.ds.drop j = it1.ds[j] :: it1.ds.drop (j + 1) := by rw [List.drop_eq_getElem_cons hj]
                      rw [hd] at hcl
                      simp only [compL] at hcl
                      by_cases hgd1 : gdOk it1.gd h
                      · rw [if_pos hgd1] at hcl
                        obtain ⟨go1, yl1⟩ := (hJ1 r h H eB R1 hgd1 j).2 it1.ds[j] (List.getElem?_eq_getElem hj)
                        refine .inr ⟨go1, fun H' => ∃ r h accd acc ys, Ext r0 H0 r H' ∧ Keep K r5 H5 r H' ∧ RelH K cl r h H' ∧ H' L = some (.lst acc) ∧ L ∉ r ∧ RelDs K r H' accd acc ∧ RelE K r H' (wipeE en ws) (wipe σ ws) ∧ RelE K r H' (wipeE en1 ws1) (wipe σ3 ws1) ∧
                          compL it1.gd g1 t1 m (wipeE en1 ws1) (it1.ds.drop (j + 1)) h = .ok ys hX ∧ accd ++ (ys ++ ZS) = YS, fun H' z => ⟨_, by omega, rfl, hj, z⟩, fun x H' hyl => ?_⟩
                        obtain ⟨e2, R2, q2⟩ := yl1 x H' hyl
                        cases hg3 : g1 it1.ds[j] (wipeE en1 ws1) h with
                        | nx en2 h1 =>
                          rw [hg3] at hcl
                          dsimp only at hcl
                          refine ⟨r, h, wipeE en1 ws1, it1.ds[j], R2, v1.mono (R1.keep e2), q2, ?_⟩
                          rw [hg3]
                          intro r3 H3 σ4 e3 R3 q3 hw
                          refine ⟨hw.trans wipe_idem, r3, h1, en2, R3, q3, ?_⟩
                          cases ht2 : t1 en2 h1 with
                          | ok b h2 =>
                            rw [ht2] at hcl
                            intro r4 H4 e4 R4
                            have e14 : Ext r H r4 H4 := (e2.trans e3).trans e4
                            obtain ⟨hL4, nL4⟩ := e14.fr L _ hLa nLr
                            have k4 := R1.keep e14
                            cases b with
                            | false =>
                              dsimp only at hcl
                              exact iteF ⟨r4, h2, accd, acc, ys, eA.trans e14, eB.trans k4, R4, hL4, nL4, m1.mono k4, w1.mono k4, v1.mono k4, hcl, hy⟩
                            | true =>
                              dsimp only at hcl
                              refine iteT ⟨r4, h2, en2, R4, q3.mono (R3.keep e4), ?_⟩
                              cases hm2 : m en2 h2 with
                              | ok y h3 =>
                                rw [hm2] at hcl
                                dsimp only at hcl
                                intro r6 H6 e6 R6 v q5
                                have e15 : Ext r H r6 H6 := e14.trans e6
                                obtain ⟨hL5, nL5⟩ := e15.fr L _ hLa nLr
                                have k5 := R1.keep e15
                                cases hcl2 : compL it1.gd g1 t1 m (wipeE en1 ws1) (it1.ds.drop (j + 1)) h3 with
                                | ok ys2 h4 =>
                                  rw [hcl2] at hcl
                                  dsimp only at hcl
                                  have hys : y :: ys2 = ys ∧ h4 = hX := by
                                    injection hcl with z1 z2
                                    exact ⟨z1, z2⟩
                                  obtain ⟨rfl, rfl⟩ := hys
                                  have kk : Keep K r6 H6 r6 (upd H6 L (.lst (acc ++ [v]))) := keep_other hL5
                                  refine ⟨acc, hL5, ?_, r6, h3, accd ++ [y], acc ++ [v], ys2, ?_, ?_, R6.other hL5 nL5, upd_same, nL5, ((m1.mono k5).append (.cons q5 .nil)).mono kk, (w1.mono k5).mono kk, (v1.mono k5).mono kk, hcl2, by rw [List.append_assoc]; exact hy⟩
                                  · have l1 := m1.length
                                    have : accd.length + (ys2.length + 1 + ZS.length) = YS.length := by rw [← hy, List.length_append, List.length_append, List.length_cons]
                                    omega
                                  · have e05 : Ext r0 H0 r6 H6 := eA.trans e15
                                    exact ⟨e05.pre, fun a o q n => ⟨by rw [upd_ne (ne_of_none q hL)]; exact (e05.fr a o q n).1, (e05.fr a o q n).2⟩⟩
                                  · exact eB.trans (k5.trans kk)
                                | fail => rw [hcl2] at hcl; cases hcl
                                | exc c fs hx => rw [hcl2] at hcl; cases hcl
                              | fail => rw [hm2] at hcl; cases hcl
                              | exc c fs hx => rw [hm2] at hcl; cases hcl
                          | fail => rw [ht2] at hcl; cases hcl
                          | exc c fs hx => rw [ht2] at hcl; cases hcl
                        | _ => rw [hg3] at hcl; cases hcl
                      · rw [if_neg hgd1] at hcl
                        cases hcl
                    · have ej : j = it1.ds.length := by omega
                      rw [List.drop_eq_nil_of_le (by omega)] at hcl
                      simp only [compL] at hcl
                      by_cases hgd1 : gdOk it1.gd h
                      · rw [if_pos hgd1] at hcl
                        have hys : [] = ys ∧ h = hX := by
                          injection hcl with z1 z2
                          exact ⟨z1, z2⟩
                        obtain ⟨rfl, rfl⟩ := hys
                        exact .inl ⟨(hJ1 r h H eB R1 hgd1 j).1 ej, r, h, accd, acc, ZS, eA, R1, hLa, nLr, m1, w1, hout, hy⟩
                      · rw [if_neg hgd1] at hcl
                        cases hcl
              | fail => rw [ht2] at hcl; cases hcl
              | exc c fs hx => rw [ht2] at hcl; cases hcl
            | _ => rw [hg2] at hcl; cases hcl
          · rw [if_neg hgd] at hcl
            cases hcl
        · have ei : i = it.ds.length := by omega
          rw [List.drop_eq_nil_of_le (by omega)] at hcl
          simp only [comp2L] at hcl
          by_cases hgd : gdOk it.gd h
          · rw [if_pos hgd] at hcl
            have hys : [] = ys ∧ h = hF := by
              injection hcl with z1 z2
              exact ⟨z1, z2⟩
            obtain ⟨rfl, rfl⟩ := hys
            rw [List.append_nil] at hy
            subst hy
            refine .inl ⟨(hJ r h H (R0.keep e1) R1 hgd i).1 ei, p0 (r ++ [L]) H ?_ (R1.adopt hLa nLr m1) _ (.ref (push_get R1))⟩
            obtain ⟨u, hu⟩ := e1.pre
            refine ⟨⟨u ++ [L], by rw [hu, List.append_assoc]⟩, fun a o q n => ?_⟩
            obtain ⟨z1, z2⟩ := e1.fr a o q n
            refine ⟨z1, fun z => ?_⟩
            rcases List.mem_append.mp z with z | z
            · exact z2 z
            · have : a = L := by simpa using z
              rw [this, hL] at q
              cases q
          · rw [if_neg hgd] at hcl
            cases hcl
    · rw [if_neg hz] at p0
      exact p0.elim
end
end Z
namespace Z
open PySem PySem.Spec PyProof.Rows L2
section
variable {X : Cx} {cl : Str → Addr} {E : XK} {elt tg iter tg1 iter1 : Expr} {ifs ifs1 : List Expr} {scope : Scope} {own : List (Str × Nat)} {pos : Pos} {mi mi1 : XI} {g g1 : XG} {t t1 : XT} {m : XE} {ws1 : List Nat}
theorem em_comp2 (hc : X.calm = true) (hN : X.N.Nodup) (hi : PIm X cl E tg iter mi) (ok : BlkOk X.N X.env.scope scope own) (hv : ∀ i ∈ ws1, i ∈ own.map (·.2))
    (hg : ∀ (s : Shared) (H : Hp) (C : Addr) (cl' : List (Str × Addr)) (fp : List Addr), PGm (X.blk s H scope (compEnvC scope cl' C X.env) fp) cl E00 (own.map (·.2)) tg g)
    (ht : ∀ (s : Shared) (H : Hp) (C : Addr) (cl' : List (Str × Addr)) (fp : List Addr), PTs (X.blk s H scope (compEnvC scope cl' C X.env) fp) ifs (TTm X.K cl E00 t))
    (hi1 : ∀ (s : Shared) (H : Hp) (C : Addr) (cl' : List (Str × Addr)) (fp : List Addr), PIm (X.blk s H scope (compEnvC scope cl' C X.env) fp) cl E00 tg1 iter1 mi1)
    (hg1 : ∀ (s : Shared) (H : Hp) (C : Addr) (cl' : List (Str × Addr)) (fp : List Addr), PGm (X.blk s H scope (compEnvC scope cl' C X.env) fp) cl E00 ws1 tg1 g1)
    (ht1 : ∀ (s : Shared) (H : Hp) (C : Addr) (cl' : List (Str × Addr)) (fp : List Addr), PTs (X.blk s H scope (compEnvC scope cl' C X.env) fp) ifs1 (TTm X.K cl E00 t1))
    (he : ∀ (s : Shared) (H : Hp) (C : Addr) (cl' : List (Str × Addr)) (fp : List Addr), PEm (X.blk s H scope (compEnvC scope cl' C X.env) fp) cl E00 elt m) (hs : ∀ x, foldedSetIterable iter X.env x = pure x) (hs1 : ∀ env x, foldedSetIterable iter1 env x = pure x) :
    PEm X cl E (.ListComp elt [⟨tg, iter, ifs, 0⟩, ⟨tg1, iter1, ifs1, 0⟩] scope pos) (xComp2 mi g t mi1 g1 t1 m (own.map (·.2)) ws1) :=
  (pe_lc2 hc hN hi ok hv hg ht hi1 hg1 ht1 he hs hs1).imp fun σ H Q ⟨r, h, en, R, e, p⟩ => lc2_read R e p
end
end Z
/-! text Z14 -/
/-! Z14: instances whose class says what len, a subscript, a call are. -/
namespace Z
open PySem PySem.Spec PyProof.Rows L2
def ownF (L : List (Str × Fn)) (x : D) (ds : List D) (h : Hd) : Out D := match x with
  | .ref i => match h[i]? with
    | some (.ins c _) => match L.lookup c with
      | some F => noExc (F (x :: ds) h)
      | none => .fail
    | _ => .fail
  | _ => .fail
def ixO (L : List (Str × Fn)) (x y : D) (h : Hd) : Out D := ownF L x [y] h
def lenO (L : List (Str × Fn)) (xs : List D) (h : Hd) : Out D := match xs with
  | [x] => (ownF L x [] h).bind fun d h1 => match d with
    | .int n => if 0 ≤ n ∧ n < 2 ^ 63 then .ok (.int n) h1 else .fail
    | _ => .fail
  | _ => .fail
def OwnOk (P : Program) (w : World) (K : PySem.W.Frag) (mg : Str → Option Value) (base : Heap) (cl : Str → Addr) (k : Nat) (m : Str) (n : Nat) (L : List (Str × Fn)) : Prop :=
  ∀ c F, L.lookup c = some F → ∃ f fd ps, PySem.W.findIn K (.ref (cl c)) m = some (some (.ref f)) ∧ PySem.W.isFn K (.ref f) = true ∧ PySem.W.fnIn K f = true ∧ FnM P w K mg base cl k f fd ps F ∧ Binds K fd ps [] ∧ ps.length = n
section
variable {X : Cx} {cl : Str → Addr} {E : XK} {k : Nat} {m : Str} {L : List (Str × Fn)}
theorem own_code {A : Around} {pins : List (Addr × Obj)} {s : Shared} {σ : L2.St} {H : Hp} {Q : VK} {v : V} {u : Value} {vs : List V} {us : List Value} {r : List Addr} {h : Hd} {x : D} {ds : List D} (hL : OwnOk X.prog X.w X.K X.mg X.base cl k m (us.length + 1) L) (hr : RoomG k A) (I : Inv X pins σ H s) (env : Env0 X.prog X.w X.K X.mg X.base A X.stack s H)
    (R : RelH X.K cl r h H) (q : RelD X.K r H x v) (rv : RelV v u) (qs : RelDs X.K r H ds vs) (rs : Vals vs us) (p : Post X.K cl r H E (PV X.K Q) (ownF L x ds h)) :
    ∃ (b C f : Addr) (ox : Obj) (od : Option Obj), u = .ref b ∧ PySem.W.InstAt s.heap b ox C od ∧ ox.data = .plain ∧ PySem.W.findIn X.K (.ref C) m = some (some (.ref f)) ∧ PySem.W.isFn X.K (.ref f) = true ∧ PySem.W.fnIn X.K f = true ∧
      codeAny (model X.prog X.w) A (.call (.ref f) ⟨.ref b :: us, []⟩) (fun rs s' => ∃ v, rs = .ok (.ret v) ∧ EP X pins σ Q v s') s := by
  cases x with
  | ref i =>
    obtain ⟨b, rfl, hb⟩ := q.ref_inv
    cases rv
    simp only [ownF] at p
    cases hi : h[i]? with
    | none => rw [hi] at p; exact p.elim
    | some mo =>
      rw [hi] at p
      cases mo with
      | ins c fs =>
        obtain ⟨dx, gs, hH, mF⟩ := R.inst hb hi
        dsimp only at p
        cases hl : L.lookup c with
        | none => rw [hl] at p; exact p.elim
        | some F =>
          rw [hl] at p
          obtain ⟨f, fd, ps, c1, c2, c3, M, bd, pn⟩ := hL c F hl
          obtain ⟨mA, O, _⟩ := ins_get I.hok hH
          obtain ⟨od, J, _⟩ := O.look
          refine ⟨b, cl c, f, _, od, rfl, J, rfl, c1, c2, c3, ?_⟩
          refine codeAny_mono (M.run A X.stack s H ⟨.ref b :: us, []⟩ (.ref b :: us) (.ref b :: vs) Q E00 hr env (by have := bd s (.ref b :: us) I.kIn (by simpa using pn.symm); simpa using this) (by simpa using pn.symm) (.cons rfl rs) ⟨r, h, _ :: ds, R, .cons (.ref hb) qs, Post.noExc p⟩) fun rs s' hq => ?_
          cases rs with
          | error er => exact (cx_false hq).elim
          | ok fl =>
            cases fl with
            | ret u => exact ⟨u, rfl, I.after hq⟩
            | next => exact hq.elim
            | brk => exact hq.elim
            | cont => exact hq.elim
      | _ => exact p.elim
  | _ => exact p.elim
theorem call_code {A : Around} {f : Value} {us : List Value} {Q : Value → Shared → Prop} {E' : Value → Shared → Prop} {s : Shared} (h : codeAny (model X.prog X.w) A (.call f ⟨us, []⟩) (fun rs s' => ∃ v, rs = .ok (.ret v) ∧ Q v s') s) : wpAny (model X.prog X.w) A (call f us) Q E' s := by
  refine wpAny_call (codeAny_mono h fun rs s' hq => ?_)
  obtain ⟨v, rfl, q⟩ := hq
  exact q
theorem own_run {pins : List (Addr × Obj)} {s : Shared} {σ : L2.St} {H : Hp} {Q : VK} {v : V} {u : Value} {vs : List V} {us : List Value} {r : List Addr} {h : Hd} {x : D} {ds : List D} (hL : OwnOk X.prog X.w X.K X.mg X.base cl k m (us.length + 1) L) (hr : RoomG (k + 1) X.A) (I : Inv X pins σ H s)
    (R : RelH X.K cl r h H) (q : RelD X.K r H x v) (rv : RelV v u) (qs : RelDs X.K r H ds vs) (rs : Vals vs us) (p : Post X.K cl r H E (PV X.K Q) (ownF L x ds h)) :
    ∃ (b C f : Addr) (ox : Obj) (od : Option Obj), u = .ref b ∧ PySem.W.InstAt s.heap b ox C od ∧ ox.data = .plain ∧ PySem.W.findIn X.K (.ref C) m = some (some (.ref f)) ∧ PySem.W.isFn X.K (.ref f) = true ∧ PySem.W.fnIn X.K f = true ∧
      wpAny (model X.prog X.w) X.A.in1 (call (.ref f) (.ref b :: us)) (EP X pins σ Q) X.xe s := by
  obtain ⟨b, C, f, ox, od, h1, h2, h3, h4, h5, h6, h7⟩ := own_code (A := X.A.in1) hL hr.in1 I I.env0.in1 R q rv qs rs p
  exact ⟨b, C, f, ox, od, h1, h2, h3, h4, h5, h6, call_code h7⟩
/-- len of an instance -/
theorem cr_lenO (hL : OwnOk X.prog X.w X.K X.mg X.base cl k "__len__" 1 L) (hr : RoomG (k + 1) X.A) : CallR X (.builtin "len") (fun vs H Q => ∃ r h xs, RelH X.K cl r h H ∧ RelDs X.K r H xs vs ∧ Post X.K cl r H E (PV X.K Q) (lenO L xs h)) := by
  intro pins s σ H vs us Q I rv ⟨r, h, xs, R, q, p⟩
  unfold lenO at p
  split at p
  · rename_i x
    cases q with
    | cons q q' =>
      cases q'
      cases rv with
      | cons rv rv' =>
        cases rv'
        have p2 : Post X.K cl r H E (PV X.K fun v H' => ∃ n : Int, v = .int n ∧ (0 ≤ n ∧ n < 2 ^ 63) ∧ Q (.int n) H') (ownF L x [] h) := (Post.bind p).imp fun d r1 h1 H1 e1 R1 p1 v q1 => by
          cases d with
          | int n =>
            have := q1.int_inv
            subst this
            dsimp only at p1
            by_cases hn : 0 ≤ n ∧ n < 2 ^ 63
            · rw [if_pos hn] at p1
              exact ⟨n, rfl, hn, Post.end' R1 p1 .int⟩
            · rw [if_neg hn] at p1
              exact p1.elim
          | _ => exact p1.elim
        obtain ⟨b, C, f, ox, od, rfl, J, hd, c1, c2, c3, ran⟩ := own_run (us := []) (vs := []) (ds := []) hL hr I R q rv .nil .nil p2
        refine Calls.call_function_entry kind_len plain_len entry_len (args_len1 _) ?_
        unfold Builtin.«len»
        refine wpAny_bind (m := oneArg "len" _) (wpAny_pure ?_)
        refine wpAny_bind (m := callSpecial? (.ref b) (Str.ofString "__len__")) (PySem.W.special_fn I.kIn J c1 (beq_iff_eq.mp c2) (wpAny_mono ran (fun v s' ⟨y, H', I', ry, n, ey, ⟨n0, n1⟩, q2⟩ => ?_) fun _ _ y => y))
        subst ey
        obtain ⟨t, rfl⟩ := ry
        refine wpAny_bind (wpAny_holding (wpAny_pure ?_))
        refine wpAny_bind (wpAny_letGo ?_)
        show wpAny _ _ (if n < 0 then _ else _) _ _ _
        rw [if_neg (by omega)]
        show wpAny _ _ (if n ≥ 2 ^ 63 then _ else _) _ _ _
        rw [if_neg (by omega)]
        exact wpAny_bind (wpAny_mkInt (wpAny_pure ⟨_, rfl, .int n, H', I'.tok _, ⟨_, rfl⟩, q2⟩))
  · exact p.elim
theorem cm_lenO : CallM X.K cl E (fun vs H Q => ∃ r h xs, RelH X.K cl r h H ∧ RelDs X.K r H xs vs ∧ Post X.K cl r H E (PV X.K Q) (lenO L xs h)) (lenO L) := fun r h H xs vs Q R q p => ⟨r, h, xs, R, q, p⟩
/-- a subscript of an instance -/
theorem sub_ownO {slice : Expr} (hL : OwnOk X.prog X.w X.K X.mg X.base cl k "__getitem__" 2 L) (hr : RoomG (k + 1) X.A) (hsl : ∀ v u, subscripted slice true v u = runValue (.builtin "lifetime.subscript" ⟨[v, u], []⟩)) (value : Expr) {pins : List (Addr × Obj)} {s : Shared} {σ : L2.St} {H : Hp} {vx vy : V} {v u : Value} {Q : VK}
    (I : Inv X pins σ H s) (rx : RelV vx v) (ry : RelV vy u) (q : ∃ r h x y, RelH X.K cl r h H ∧ RelD X.K r H x vx ∧ RelD X.K r H y vy ∧ Post X.K cl r H E (PV X.K Q) (ixO L x y h)) : wpAny (model X.prog X.w) X.A (subscriptTail value slice v u) (EP X pins σ Q) X.xe s := by
  obtain ⟨r, h, x, y, R, q1, q2, p⟩ := q
  obtain ⟨b, C, f, ox, od, rfl, J, hd, c1, c2, c3, ran⟩ := own_run (us := [u]) (vs := [vy]) (ds := [y]) hL hr I R q1 rx (.cons q2 .nil) (.cons ry .nil) p
  have hf := c3
  unfold PySem.W.fnIn at hf
  split at hf
  · rename_i e
    unfold subscriptTail getitemInPython
    refine wpAny_bind (wpAny_bind (wpAny_bind (J.type.here ((PySem.W.looks_findIn I.kIn c1).here ?_))))
    dsimp only
    refine wpAny_bind (wpAny_load (I.kIn _ _ e) (wpAny_pure ?_))
    dsimp only
    rw [hsl]
    refine wpAny_bind (wpAny_runValue (codeAny_builtin PySem.W.entry_sub ?_))
    unfold Builtin.«lifetime.subscript»
    refine wpAny_bind (PySem.W.special_fn I.kIn J c1 (beq_iff_eq.mp c2) (wpAny_mono ran (fun v s' z => ?_) fun _ _ z => z))
    refine wpAny_pure ?_
    show wpAny _ X.A (letTemporaryGo value (.ref b) v >>= fun _ => pure v) _ _ s'
    exact wpAny_bind (wpAny_letTemporaryGo (wpAny_pure z))
  · cases hf
theorem em_ixO {a b : Expr} {ma mb : XE} {pos : Pos} (hL : OwnOk X.prog X.w X.K X.mg X.base cl k "__getitem__" 2 L) (hr : RoomG (k + 1) X.A) (ha : PEm X cl E a ma) (hb : PEm X cl E b mb) (hsl : ∀ v u, subscripted b true v u = runValue (.builtin "lifetime.subscript" ⟨[v, u], []⟩)) :
    PEm X cl E (.Subscript a b pos) (xOp (ixO L) ma mb) := by
  refine ⟨fun pins s σ H Q I ⟨r, h, en, R, e, p⟩ => ?_⟩
  refine Subscript_ (binT (R := fun vx vy H => ∃ r h x y, RelH X.K cl r h H ∧ RelD X.K r H x vx ∧ RelD X.K r H y vy ∧ Post X.K cl r H E (PV X.K Q) (ixO L x y h)) ha hb I ?_ fun v u s2 x y H2 I2 rx ry q => sub_ownO hL hr hsl a I2 rx ry q)
  exact ⟨r, h, en, R, e, (Post.bind p).imp fun x r1 h1 H1 e1 R1 p1 v1 q1 =>
    ⟨r1, h1, en, R1, e.mono (R.keep e1), (Post.bind p1).imp fun y r2 h2 H2 e2 R2 p2 v2 q2 => ⟨r2, h2, x, y, R2, q1.mono (R1.keep e2), q2, p2⟩⟩⟩
/-- f(e), f an instance -/
def isRef : D → Bool
  | .ref _ => true
  | _ => false
def xCallO (L : List (Str × Fn)) (mf : XE) (ms : XA) : XE := fun en h => (mf en h).bind fun x h1 => if isRef x = true then (ms en h1).bind fun ds h2 => if ds.length = 1 then ownF L x ds h2 else .fail else .fail
theorem em_callO {fe e : Expr} {mf : XE} {ms : XA} {pos : Pos} (hL : OwnOk X.prog X.w X.K X.mg X.base cl k "__call__" 2 L) (hr : RoomG (k + 1) X.A) (hf : PEm X cl E fe mf) (ha : PAm X cl E [e] ms)
    (ht : eval (.Call fe [e] [] pos) X.env = (do callWith pos (← eval fe X.env) [] (backTo pos (starEach [e] X.env)) (backToKw pos (keywordEach [] X.env))))
    (he : starEach [e] X.env = [(false, eval e X.env)]) : PEm X cl E (.Call fe [e] [] pos) (xCallO L mf ms) := by
  refine ⟨fun pins s σ H Q I ⟨r, h, en, R, re, p⟩ => ?_⟩
  have z : TDm X.K cl E mf σ H fun v H1 => ∃ r1 h1 x, RelH X.K cl r1 h1 H1 ∧ RelE X.K r1 H1 en σ ∧ RelD X.K r1 H1 x v ∧ isRef x = true ∧ Post X.K cl r1 H1 E (PV X.K Q) ((ms en h1).bind fun ds h2 => if ds.length = 1 then ownF L x ds h2 else .fail) :=
    ⟨r, h, en, R, re, (Post.bind p).imp fun x r1 h1 H1 e1 R1 p1 v q1 => by
      by_cases hx : isRef x = true
      · rw [if_pos hx] at p1
        exact ⟨r1, h1, x, R1, re.mono (R.keep e1), q1, hx, p1⟩
      · rw [if_neg hx] at p1
        exact p1.elim⟩
  refine Call_ (thn (hf.run pins s σ H _ I z) fun u s1 ⟨y, H1, I1, ry, r1, h1, x, R1, re1, q1, hx, p1⟩ => ?_) ht
  have z2 : TAm X.K cl E ms σ H1 fun vs H2 => ∃ r2 h2 ds, RelH X.K cl r2 h2 H2 ∧ RelD X.K r2 H2 x y ∧ RelDs X.K r2 H2 ds vs ∧ Post X.K cl r2 H2 E (PV X.K Q) (if ds.length = 1 then ownF L x ds h2 else .fail) :=
    ⟨r1, h1, en, R1, re1, (Post.bind p1).imp fun ds r2 h2 H2 e2 R2 p2 vs q2 => ⟨r2, h2, ds, R2, q1.mono (R1.keep e2), q2, p2⟩⟩
  have key : ∀ (us : List Value) (s2 : Shared), (AP X pins σ (fun vs H2 => ∃ r2 h2 ds, RelH X.K cl r2 h2 H2 ∧ RelD X.K r2 H2 x y ∧ RelDs X.K r2 H2 ds vs ∧ Post X.K cl r2 H2 E (PV X.K Q) (if ds.length = 1 then ownF L x ds h2 else .fail)) us s2) →
      ∃ (b : Addr), u = .ref b ∧ (∃ C ox od, PySem.W.InstAt s2.heap b ox C od ∧ ox.data = .plain) ∧ wpAny (model X.prog X.w) X.A (call (.ref b) us) (EP X pins σ Q) X.xe s2 := by
    rintro us s2 ⟨vs, H2, I2, rs, r2, h2, ds, R2, q3, q4, p2⟩
    by_cases hd : ds.length = 1
    · rw [if_pos hd] at p2
      have ul : us.length = 1 := by rw [← rs.length, ← q4.length, hd]
      match us, ul, rs with
      | [u1], _, rs =>
        obtain ⟨b, C, f, ox, od, h1, h2, h3, h4, h5, h6, h7⟩ := own_code (A := X.A) (us := [u1]) hL (hr.mono (Nat.le_succ _)) I2 I2.env0 R2 q3 ry q4 rs p2
        refine ⟨b, h1, ⟨C, ox, od, h2, h3⟩, call_code (PySem.W.kco_code I2.kIn h2 h3 h4 h5 h6 h7)⟩
    · rw [if_neg hd] at p2
      exact p2.elim
  cases x with
  | ref i =>
    obtain ⟨b, rfl, hb⟩ := q1.ref_inv
    cases ry
    refine StX.callO_with (thn (ha.run pos pins s1 σ H1 _ I1 z2) fun us s2 ap => ?_) he rfl
    obtain ⟨b', e', h1, h2⟩ := key us s2 ap
    cases e'
    exact ⟨h1, h2⟩
  | _ => cases hx
end
end Z
/-! text Z15 -/
set_option maxHeartbeats 2000000
/-! Z15: name += e, for ints. -/
namespace Z
open PySem PySem.Spec PyProof.Rows L2
section
variable {X : Cx} {cl : Str → Addr} {E : XK} {k : Nat} {e : Expr} {m : XE} {pos : Pos}
def sAug (i : Nat) (f : Int → Int → Int) (m : XE) : XS := fun en h => match en[i]? with
  | some (some (.int x)) => (m en h).bindS fun y h1 => match y with
    | .int j => .nx (en.set i (some (.int (f x j)))) h1
    | _ => .fail
  | _ => .fail
def augAdd : Int → Int → Int := fun i j => i + j
def augSub : Int → Int → Int := fun i j => i - j
theorem sm_aug {i : Nat} {x : Str} {ti : Int → Int → Int} {op : Operator} {pos' : Pos} (hN : X.N.Nodup) (hi : X.N[i]? = some x) (hx : Loc X.env.scope x) (he : PEm X cl E e m) (ho : PIp X op (ipI ti)) (hf : X.fn x = true ∨ X.env.scope.names.lookup x = some .local) :
    PSm X cl E (.AugAssign (.Name x pos') op e pos) (sAug i ti m) :=
  (ps_aug hN hi hx he ho hf).imp fun N σ H ⟨r, h, en, R, e, p⟩ => by
    unfold sAug at p
    cases q : en[i]? with
    | none => rw [q] at p; exact p.elim
    | some o =>
      cases o with
      | none => rw [q] at p; exact p.elim
      | some d =>
        rw [q] at p
        obtain ⟨v, h1, h2⟩ := e.ob i d q
        cases d with
        | int a =>
          have := h2.int_inv
          subst this
          refine ⟨_, h1, r, h, en, R, e, (PostS.bindS p).imp fun y r1 hh1 H1 e1 R1 p1 u q1 => ?_⟩
          cases y with
          | int b =>
            have := q1.int_inv
            subst this
            exact ⟨_, _, rfl, rfl, p1 r1 H1 _ (Ext.refl _ _) R1 ((e.mono (R.keep e1)).set .int i)⟩
          | _ => exact p1.elim
        | _ => exact p.elim
end
end Z
/-! text Z16 -/
/-! Z16: a list extended by a tuple. -/
namespace Z
open PySem PySem.Spec PyProof.Rows L2
theorem extend_by_tuple (l : Addr) (items : Array Value) (n : Nat) (b : Addr) (items2 : Array Value) (n2 : Nat) (dd : Option Addr) (sl : Array (Option Value)) (hs0 : ¬(!items.isEmpty && Builtin.List.listTooLong (items.size + items2.size)) = true) (hs1 : items.size ≤ sizeLine) (hs2 : items.size + items2.size ≤ sizeLine + 1) :
    Meets (Builtin.«list.extend» ⟨[.ref l, .ref b], []⟩) (fun _ R s => s.heap.get? l = some { cls := .type "list", dict := none, data := .seq items n, slots := #[] } ∧ s.heap.get? b = some { cls := .type "tuple", dict := dd, data := .seq items2 n2, slots := sl } ∧ R (.ok (.ret Value.none)) { s with heap := s.heap.update l (Obj.mapSeq fun x => x ++ items2), toks := s.toks }) :=
  .of_wp fun prog w A R s h => by
    obtain ⟨hp, g, d, tk, os⟩ := s
    obtain ⟨hl, hb, h⟩ := h
    have f1 := PySem.AutoSeq1.idx_int
    have f2 := PySem.AutoSeq1.sub_tuple_tuple
    have f3 := PySem.AutoSeq1.sub_list_list
    have f4 := PySem.AutoSeq1.sub_tuple_list
    have f5 := PySem.AutoSeq1.sub_list_tuple
    have hz' : (items ++ items2).size ≤ sizeLine + 1 := by rw [Array.size_append]; exact hs2
    wp_walk using (wpAny_updateSeq hl rfl (hz := hs1) (_hz' := hz')), PySem.AutoSeq1.wpAny_loadPart' hl, PySem.AutoSeq1.wpAny_loadPart' hb
    exact ⟨_, rfl, h⟩
section
variable {X : Cx} {cl : Str → Addr} {E : XK} {K : PySem.W.Frag}
def rExtT (K : PySem.W.Frag) : V → List V → Hp → VK → Prop := fun x vs H Q => ∃ l b xs zs, x = .ref l ∧ vs = [.ref b] ∧ H l = some (.lst xs) ∧ SqT K H b zs ∧ xs.length + zs.length ≤ sizeLine ∧ Q .non (upd H l (.lst (xs ++ zs)))
theorem mt_extT : MtR X "list.extend" (rExtT X.K) := by
  intro pins s σ H x vs v us Q I rx rv h
  obtain ⟨l, b, xs, zs, rfl, rfl, hH, hB, hz, q⟩ := h
  cases rx
  obtain ⟨u, rfl, ru⟩ := rv.one
  cases ru
  obtain ⟨z, its, n, r, hl, e⟩ := I.lstM hH
  obtain ⟨its2, r2, ⟨⟨cls, dd, dat, sl⟩, e2, hc, n2, hd⟩, z2⟩ := I.tuple hB
  cases hc
  cases hd
  have hl2 := r2.length
  have hsz : its.toArray.size + its2.toArray.size ≤ sizeLine := by rw [List.size_toArray, List.size_toArray]; omega
  have hlong : ¬ (!its.toArray.isEmpty && Builtin.List.listTooLong (its.toArray.size + its2.toArray.size)) = true := by
    rw [notLongL hsz, Bool.and_false]
    exact Bool.false_ne_true
  refine call_meets F.slot_list_extend ⟨_, e, rfl⟩ F.entry_list_extend (F.args_list_extend_2 _ _)
    (extend_by_tuple l its.toArray n b its2.toArray n2 _ _ hlong (by rw [List.size_toArray]; omega) (by omega)) ⟨e, e2, ?_⟩
  refine ⟨.non, _, I.lset (its' := its ++ its2) hH e (by simp) (r.append r2) ?_, rfl, q⟩
  rw [List.length_append]
  omega
/-- extend by a list (tracked) or a tuple -/
def mExt (x : D) (xs : List D) (h : Hd) : Out D := match x, xs with
  | .ref n, [.tup es] => match h[n]? with
    | some (.lst ds) => if ds.length + es.length ≤ sizeLine then .ok .non (h.set n (.lst (ds ++ es))) else .fail
    | _ => .fail
  | x, xs => mExtend x xs h
abbrev rdExt (K : PySem.W.Frag) : V → List V → Hp → VK → Prop := fun x vs H Q => rExtend x vs H Q ∨ rExtT K x vs H Q
theorem mt_ext : MtR X "list.extend" (rdExt X.K) := MtR.or mt_extend mt_extT
theorem mm_ext : MtM2 K cl E (rdExt K) mExt := fun r h H x xs vx vs Q R qx q p => by
  unfold mExt at p
  split at p
  · rename_i n es
    obtain ⟨a, rfl, ha⟩ := qx.ref_inv
    obtain ⟨v, rfl, qv⟩ := q.one
    obtain ⟨b, zs, rfl, hb, m2⟩ := qv.tup_inv
    split at p
    · rename_i ds hn
      split at p
      · rename_i hl
        obtain ⟨ws, h1, m⟩ := R.lst ha hn
        obtain ⟨R2, E2⟩ := R.setLst ha (m.append m2)
        exact .inr ⟨a, b, ws, zs, rfl, rfl, h1, hb, by rw [← m.length, ← m2.length]; exact hl, p r _ E2 R2 _ .non⟩
      · exact p.elim
    · exact p.elim
  · exact .inl (mm_extend r h H _ _ vx vs Q R qx q p)
end
end Z
/-! text Z17 -/
/-! Z17: methods and instances called with keywords alone. -/
namespace Z
open PySem PySem.Spec PyProof.Rows L2
def methOfK (L : List (Str × MethE)) (m : Str) (nk : Nat) (mk : XA) (x : D) (en : En) (h : Hd) : Out D := match x with
  | .ref i => match h[i]? with
    | some (.ins c fs) => match L.lookup c with
      | some M => if fs.lookup m = none then (mk en h).bind fun es h2 => callA M.fn M.arr 1 nk [x] es h2 else .fail
      | none => .fail
    | _ => .fail
  | _ => .fail
def xMethK (L : List (Str × MethE)) (m : Str) (nk : Nat) (mo : XE) (mk : XA) : XE := fun en h => (mo en h).bind fun x h1 => methOfK L m nk mk x en h1
def MethOkK (P : Program) (w : World) (K : PySem.W.Frag) (mg : Str → Option Value) (base : Heap) (cl : Str → Addr) (k : Nat) (m : Str) (ks : List Str) (L : List (Str × MethE)) : Prop :=
  ∀ c M, L.lookup c = some M → Cls K (cl c) ∧ ∃ f fd ps, Meth K (cl c) m f ∧ FnM P w K mg base cl k f fd ps M.fn ∧ BindM K fd ps 1 ks M.arr
def ownK (L : List (Str × MethE)) (nk : Nat) (x : D) (es : List D) (h : Hd) : Out D := match x with
  | .ref i => match h[i]? with
    | some (.ins c _) => match L.lookup c with
      | some M => noExc (callA M.fn M.arr 1 nk [x] es h)
      | none => .fail
    | _ => .fail
  | _ => .fail
def xCallOK (L : List (Str × MethE)) (nk : Nat) (mf : XE) (mk : XA) : XE := fun en h => (mf en h).bind fun x h1 => if isRef x = true then (mk en h1).bind fun es h2 => ownK L nk x es h2 else .fail
def OwnOkK (P : Program) (w : World) (K : PySem.W.Frag) (mg : Str → Option Value) (base : Heap) (cl : Str → Addr) (k : Nat) (m : Str) (ks : List Str) (L : List (Str × MethE)) : Prop :=
  ∀ c M, L.lookup c = some M → ∃ f fd ps, PySem.W.findIn K (.ref (cl c)) m = some (some (.ref f)) ∧ PySem.W.isFn K (.ref f) = true ∧ PySem.W.fnIn K f = true ∧ FnM P w K mg base cl k f fd ps M.fn ∧ BindM K fd ps 1 ks M.arr
section
variable {X : Cx} {cl : Str → Addr} {E : XK} {k : Nat} {m : Str} {ks : List Str} {pos apos : Pos} {o fe : Expr} {kws : List Keyword} {mk : XA} {mo mf : XE} {L : List (Str × MethE)}
theorem em_methK {pl : Sem Bool} (ho : PEm X cl E o mo) (hL : MethOkK X.prog X.w X.K X.mg X.base cl k m ks L) (hr : RoomG k X.A) (tk : Tk X E) (hkw : PKm X cl E kws mk)
    (hall : (backToKw pos (keywordEach kws X.env)).all (·.1.isSome) = true) (hks : (backToKw pos (keywordEach kws X.env)).filterMap (·.1) = ks)
    (hpl : ((backTo pos (starEach [] X.env)).any (·.1) || (backToKw pos (keywordEach kws X.env)).any (·.1.isNone)) = false)
    (ht : eval (.Call (.Attribute o m apos) [] kws pos) X.env = (do
      let ov ← eval o X.env
      standAt apos.atName
      let (f, first) ← holding [ov] (getMethod ov m pl)
      callWith pos f first (backTo pos (starEach [] X.env)) (backToKw pos (keywordEach kws X.env)))) :
    PEm X cl E (.Call (.Attribute o m apos) [] kws pos) (xMethK L m ks.length mo mk) := by
  refine ⟨fun pins s σ H Q I ⟨r, h, en, R, re, p⟩ => ?_⟩
  have z : TDm X.K cl E mo σ H fun v H1 => ∃ r1 h1 d, RelH X.K cl r1 h1 H1 ∧ RelE X.K r1 H1 en σ ∧ RelD X.K r1 H1 d v ∧ Post X.K cl r1 H1 E (PV X.K Q) (methOfK L m ks.length mk d en h1) :=
    ⟨r, h, en, R, re, (Post.bind p).imp fun d r1 h1 H1 e1 R1 p1 v q1 => ⟨r1, h1, d, R1, re.mono (R.keep e1), q1, p1⟩⟩
  refine PySem.W.methodCall_KW (pl := pl) (thn (ho.run pins s σ H _ I z) fun u s1 ⟨v, H1, I1, rv, r1, h1, d, R1, re1, q1, p1⟩ => ?_) ht
  cases d with
  | ref i =>
    obtain ⟨b, rfl, hb⟩ := q1.ref_inv
    cases rv
    simp only [methOfK] at p1
    cases hi : h1[i]? with
    | none => rw [hi] at p1; exact p1.elim
    | some mo' =>
      rw [hi] at p1
      cases mo' with
      | ins c fs =>
        dsimp only at p1
        obtain ⟨dx, gs, hH, mF⟩ := R1.inst hb hi
        cases hl : L.lookup c with
        | none => rw [hl] at p1; exact p1.elim
        | some M =>
          rw [hl] at p1
          dsimp only at p1
          by_cases hf : fs.lookup m = none
          · rw [if_pos hf] at p1
            obtain ⟨c1, f, fd, ps, c2, M2, bd⟩ := hL c M hl
            refine getmeth_ok I1 hH c1 c2 (mF.lookup.2 hf) ?_
            refine PySem.W.callWith_KW0 (first := [.ref b]) (h₀ := X.base) I1.ok.mod.kin c2.kp hall ?_ hpl
            have z2 : TAm X.K cl E mk σ H1 fun vz H2 => ∃ r2 h2 es, RelH X.K cl r2 h2 H2 ∧ RelD X.K r2 H2 (.ref i) (.ref b) ∧ RelDs X.K r2 H2 es vz ∧ Post X.K cl r2 H2 E (PV X.K Q) (callA M.fn M.arr 1 ks.length [.ref i] es h2) :=
              ⟨r1, h1, en, R1, re1, (Post.bind p1).imp fun es r2 h2 H2 e2 R2 p2 vz q2 => ⟨r2, h2, es, R2, (RelD.ref hb).mono (R1.keep e2), q2, p2⟩⟩
            refine thn (hkw.run pos pins s1 σ H1 _ I1 z2) fun ws s2 ⟨vz, H2, I2, rz, r2, h2, es, R2, q3, q4, p2⟩ => ⟨I2.kIn, ?_⟩
            rw [hks]
            exact run_fnM (us := [.ref b]) (vs := [.ref b]) M2 hr bd tk I2 R2 (.cons q3 .nil) (.cons rfl .nil) q4 rz p2
          · rw [if_neg hf] at p1
            exact p1.elim
      | _ => exact p1.elim
  | _ => exact p1.elim
/-- the call's node where the callee is an instance, with keywords -/
theorem callO_kw {M : Model} {A : Around} {E' : Value → Shared → Prop} {s : Shared} {a : Addr} {Q : Value → Shared → Prop} {args : List (Bool × Sem Value)} {keywords : List (Option Str × Sem Value)} (hplain : (args.any (·.1) || keywords.any (·.1.isNone)) = false)
    (h : wpAny M A (evalArgs (.ref a) true args keywords) (fun z s₁ => (∃ C ox od, PySem.W.InstAt s₁.heap a ox C od ∧ ox.data = .plain) ∧ wpAny M A (call (.ref a) ([] ++ z.pos) z.kw) Q E' s₁) E' s) : wpAny M A (callWith pos (.ref a) [] args keywords) Q E' s := by
  unfold callWith
  refine wpAny_bind (wpAny_holding (wpAny_mono h (fun z s₁ h₁ => wpAny_bind (wpAny_standAt ?_)) fun _ _ y => y))
  obtain ⟨⟨C, ox, od, J, hd⟩, h₁⟩ := h₁
  have L := PySem.W.kco_keeper (M := M) J hd
  simp only [hplain]
  refine wpAny_bind (L.here ?_)
  have tail : ∀ {t : Sem Value}, wpAny M A t Q E' s₁ → wpAny M A (t >>= fun r => holding [r] point >>= fun _ => pure r) Q E' s₁ :=
    fun ht => wpAny_bind (wpAny_mono ht (fun r s₂ hr => wpAny_bind (wpAny_holding (wpAny_point (wpAny_pure hr)))) fun _ _ y => y)
  exact tail (wpAny_operateT h₁)
theorem em_callOK (hL : OwnOkK X.prog X.w X.K X.mg X.base cl k "__call__" ks L) (hr : RoomG (k + 1) X.A) (hf : PEm X cl E fe mf) (hkw : PKm X cl E kws mk)
    (hall : (backToKw pos (keywordEach kws X.env)).all (·.1.isSome) = true) (hks : (backToKw pos (keywordEach kws X.env)).filterMap (·.1) = ks)
    (hpl : ((backTo pos (starEach [] X.env)).any (·.1) || (backToKw pos (keywordEach kws X.env)).any (·.1.isNone)) = false)
    (ht : eval (.Call fe [] kws pos) X.env = (do callWith pos (← eval fe X.env) [] (backTo pos (starEach [] X.env)) (backToKw pos (keywordEach kws X.env)))) :
    PEm X cl E (.Call fe [] kws pos) (xCallOK L ks.length mf mk) := by
  refine ⟨fun pins s σ H Q I ⟨r, h, en, R, re, p⟩ => ?_⟩
  have z : TDm X.K cl E mf σ H fun v H1 => ∃ r1 h1 x, RelH X.K cl r1 h1 H1 ∧ RelE X.K r1 H1 en σ ∧ RelD X.K r1 H1 x v ∧ isRef x = true ∧ Post X.K cl r1 H1 E (PV X.K Q) ((mk en h1).bind fun es h2 => ownK L ks.length x es h2) :=
    ⟨r, h, en, R, re, (Post.bind p).imp fun x r1 h1 H1 e1 R1 p1 v q1 => by
      by_cases hx : isRef x = true
      · rw [if_pos hx] at p1
        exact ⟨r1, h1, x, R1, re.mono (R.keep e1), q1, hx, p1⟩
      · rw [if_neg hx] at p1
        exact p1.elim⟩
  rw [ht]
  refine wpAny_bind (thn (hf.run pins s σ H _ I z) fun u s1 ⟨y, H1, I1, ry, r1, h1, x, R1, re1, q1, hx, p1⟩ => ?_)
  cases x with
  | ref i =>
    obtain ⟨b, rfl, hb⟩ := q1.ref_inv
    cases ry
    have z2 : TAm X.K cl E mk σ H1 fun vz H2 => ∃ r2 h2 es, RelH X.K cl r2 h2 H2 ∧ RelD X.K r2 H2 (.ref i) (.ref b) ∧ RelDs X.K r2 H2 es vz ∧ Post X.K cl r2 H2 E (PV X.K Q) (ownK L ks.length (.ref i) es h2) :=
      ⟨r1, h1, en, R1, re1, (Post.bind p1).imp fun es r2 h2 H2 e2 R2 p2 vz q2 => ⟨r2, h2, es, R2, (RelD.ref hb).mono (R1.keep e2), q2, p2⟩⟩
    refine callO_kw hpl (evalArgs_kw2_nil hall ?_)
    refine thn (hkw.run pos pins s1 σ H1 _ I1 z2) fun ws s2 ⟨vz, H2, I2, rz, r2, h2, es, R2, q3, q4, p2⟩ => ?_
    rw [hks]
    obtain ⟨b', e', hb2⟩ := q3.ref_inv
    cases e'
    simp only [ownK] at p2
    cases hi : h2[i]? with
    | none => rw [hi] at p2; exact p2.elim
    | some mo' =>
      rw [hi] at p2
      cases mo' with
      | ins c fs =>
        dsimp only at p2
        obtain ⟨dx, gs, hH, mF⟩ := R2.inst hb2 hi
        cases hl : L.lookup c with
        | none => rw [hl] at p2; exact p2.elim
        | some M =>
          rw [hl] at p2
          dsimp only at p2
          obtain ⟨f, fd, ps, c1, c2, c3, M2, bd⟩ := hL c M hl
          obtain ⟨mA, O, _⟩ := ins_get I2.hok hH
          obtain ⟨od, J, _⟩ := O.look
          refine ⟨⟨cl c, _, od, J, rfl⟩, ?_⟩
          have p3 := Post.noExc (E' := E00) p2
          unfold callA at p3
          by_cases hn : [D.ref i].length = 1 ∧ es.length = ks.length
          · rw [if_pos hn] at p3
            have l2 : ws.length = ks.length := by rw [← rz.length, ← q4.length]; exact hn.2
            obtain ⟨zs, hb3, hz, hx3⟩ := bd.to s2 [.ref b] ws I2.kIn rfl l2
            obtain ⟨xs, ys, e1, q5, v5⟩ := hx3 r2 H2 [.ref i] es [.ref b] vz (.cons q3 .nil) (.cons rfl .nil) q4 rz
            rw [e1] at p3
            refine wpAny_call (PySem.W.kco_code I2.kIn J rfl c1 c2 c3 (codeAny_mono (M2.run X.A X.stack s2 H2 ⟨.ref b :: [], ks.zip ws⟩ zs ys Q E00 (hr.mono (Nat.le_succ _)) I2.env0 hb3 hz v5 ⟨r2, h2, xs, R2, q5, p3⟩) fun rs s' hq => ?_))
            cases rs with
            | error er => exact (cx_false hq).elim
            | ok fl =>
              cases fl with
              | ret u => exact I2.after hq
              | next => exact hq.elim
              | brk => exact hq.elim
              | cont => exact hq.elim
          · rw [if_neg hn] at p3
            exact p3.elim
      | _ => exact p2.elim
  | _ => cases hx
end
end Z
/-! text Z18 -/
/-! Z18: dict.update, range with a step, o[i] as one of several targets. -/
namespace Z
open PySem PySem.Spec PyProof.Rows L2
section
variable {X : Cx} {cl : Str → Addr} {E : XK} {K : PySem.W.Frag} {r : List Addr} {h : Hd} {H : Hp}
/-! ### dict.update -/
def rUpdate : V → List V → Hp → VK → Prop := fun x vs H Q => ∃ a b kvs ls, x = .ref a ∧ vs = [.ref b] ∧ a ≠ b ∧ H a = some (.dK kvs) ∧ H b = some (.dK ls) ∧ kvs.length + ls.length ≤ sizeLine ∧ Q .non (upd H a (.dK (mergeK kvs ls)))
theorem mt_update : MtR X "dict.update" rUpdate := by
  intro pins s σ H x vs v us Q I rx rv h
  obtain ⟨a, b, kvs, ls, rfl, rfl, ne, hA, hB, hz, q⟩ := h
  cases rx
  obtain ⟨u, rfl, ru⟩ := rv.one
  cases ru
  obtain ⟨z, hd, ws, rel, dd⟩ := dk_of I.hok hA
  obtain ⟨z2, hd2, ws2, rel2, dd2⟩ := dk_of I.hok hB
  refine call_meetsIn PySem.F.slot_dict_update dd.typeIs PySem.F.entry_dict_update (PySem.F.args_dict_update_2 _ _) (meets_dict_update (mixKind X.prog X.w) a b ne hd2) ⟨ws, ws2, dd, dd2, by rw [← rel.length, ← rel2.length]; exact hz, fun h' dd' _ hs => ?_⟩
  have he : ∃ q, h'.get? a = some q := let ⟨q, _, _, hq, _⟩ := dd'; ⟨q, hq⟩
  have hl : (mergeK kvs ls).length ≤ sizeLine := by have := length_mergeK ls kvs; omega
  exact ⟨.non, _, d_write I (by rw [hA]; exact True.intro) hs he (dk_new hl hd (rel2.merge rel) dd'), rfl, q⟩
def isDic (x : D) (h : Hd) : Bool := match x with
  | .ref n => match h[n]? with
    | some (.dic _) => true
    | _ => false
  | _ => false
def mUpdate (x : D) (xs : List D) (h : Hd) : Out D := match x, xs with
  | .ref n, [.ref k] => match h[n]?, h[k]? with
    | some (.dic kvs), some (.dic ls) => if n ≠ k ∧ kvs.length + ls.length ≤ sizeLine then .ok .non (h.set n (.dic (ls.foldl (fun a p => dput a p.1 p.2) kvs))) else .fail
    | _, _ => .fail
  | _, _ => .fail
theorem RelH.inj {n k : Nat} {a : Addr} (R : RelH K cl r h H) (e1 : r[n]? = some a) (e2 : r[k]? = some a) : n = k := by
  obtain ⟨l1, g1⟩ := List.getElem?_eq_some_iff.mp e1
  obtain ⟨l2, g2⟩ := List.getElem?_eq_some_iff.mp e2
  rcases Nat.lt_trichotomy n k with hl | he | hl
  · exact absurd (g1.trans g2.symm) (List.pairwise_iff_getElem.mp R.nd n k l1 l2 hl)
  · exact he
  · exact absurd (g2.trans g1.symm) (List.pairwise_iff_getElem.mp R.nd k n l2 l1 hl)
theorem mm_update : MtM2 K cl E rUpdate mUpdate := fun r h H x xs vx vs Q R qx q p => by
  unfold mUpdate at p
  split at p
  · rename_i n k
    obtain ⟨a, rfl, ha⟩ := qx.ref_inv
    obtain ⟨v, rfl, qv⟩ := q.one
    obtain ⟨b, rfl, hb⟩ := qv.ref_inv
    split at p
    · rename_i kvs ls hn hk
      split at p
      · rename_i hc
        obtain ⟨qs, h1, m⟩ := R.dic ha hn
        obtain ⟨ps, h2, m2⟩ := R.dic hb hk
        obtain ⟨R2, E2⟩ := R.setDic ha (rel_merge m2 m)
        refine ⟨a, b, qs, ps, rfl, rfl, fun e => ?_, h1, h2, by rw [← m.length, ← m2.length]; exact hc.2, p r _ E2 R2 _ .non⟩
        subst e
        exact hc.1 (R.inj ha hb)
      · exact p.elim
    · exact p.elim
  · exact p.elim
theorem isDic_ty {x : D} {v : V} (R : RelH K cl r h H) (q : RelD K r H x v) (e : isDic x h = true) : tyV K "dict" v H := by
  cases x with
  | ref n =>
    obtain ⟨a, rfl, ha⟩ := q.ref_inv
    unfold isDic at e
    dsimp only at e
    split at e
    · rename_i kvs hn
      obtain ⟨qs, h1, _⟩ := R.dic ha hn
      exact .inr (.inr (.inl ⟨rfl, .inl ⟨qs, h1⟩⟩))
    · cases e
  | _ => cases e
/-! ### range(a, b, c) -/
def intsStep (i c : Int) (n : Nat) : List D := (List.range n).map fun (k : Nat) => D.int (i + (k : Int) * c)
def rangeOf3 (ds : List D) (h : Hd) : Out Its := match ds with
  | [.int i, .int j, .int c] => if 0 ≤ i ∧ i < 2 ^ 30 ∧ 0 ≤ j ∧ j < 2 ^ 30 ∧ 0 < c ∧ c < 2 ^ 30 then .ok ⟨intsStep i c (if i < j then (j - i - 1) / c + 1 else 0).toNat, []⟩ h else .fail
  | _ => .fail
theorem itM_range3 {i c : Int} {n : Nat} : ItM K cl (Itc i c n) r H ⟨intsStep i c n, []⟩ := fun r2 h2 H2 e2 R2 gd k => by
  refine ⟨fun e => ?_, fun d hd => ?_⟩
  · show n ≤ k
    rw [e]; unfold intsStep; simp
  · have hd' : ((List.range n).map fun (k : Nat) => D.int (i + (k : Int) * c))[k]? = some d := hd
    rw [List.getElem?_map] at hd'
    by_cases hi : k < n
    · rw [List.getElem?_range hi] at hd'
      cases hd'
      refine ⟨hi, fun x H' ⟨e', q⟩ => ?_⟩
      subst e' q
      exact ⟨Ext.refl _ _, R2, .int⟩
    · rw [List.getElem?_eq_none (by simpa using hi)] at hd'
      cases hd'
theorem rgC_up {i j c : Int} (hi : 0 ≤ i) (hi2 : i < 2 ^ 30) (hj : 0 ≤ j) (hj2 : j < 2 ^ 30) (hc : 0 < c) (hc2 : c < 2 ^ 30) : RgC i j c (if i < j then (j - i - 1) / c + 1 else 0).toNat := by
  refine ⟨by omega, by omega, ?_, ?_⟩
  · have h0 : 0 ≤ Builtin.Range.rangeSize i j c ∧ Builtin.Range.rangeSize i j c < 2 ^ 31 := by
      unfold Builtin.Range.rangeSize
      rw [if_pos hc]
      split
      · have h1 := Int.ediv_nonneg (a := j - i - 1) (b := c) (by omega) (by omega)
        have h2 := Int.ediv_le_self (a := j - i - 1) c (by omega)
        omega
      · omega
    unfold Builtin.Range.small
    generalize Builtin.Range.rangeSize i j c = n at h0
    simp only [Builtin.Range.rangeFitsLong, Bool.and_eq_true, Bool.or_eq_true, decide_eq_true_eq, beq_iff_eq, show c > 0 from hc, if_true]
    omega
  · unfold Builtin.Range.rangeSize
    rw [if_pos hc]
    split
    · have := Int.ediv_nonneg (a := j - i - 1) (b := c) (by omega) (by omega)
      omega
    · rfl
section
variable {a b c : Expr} {pos : Pos}
theorem im_range3 {tg : Expr} {p0 : Pos} {ms : XA} (hg : Gl X "range") (hm : X.mg "range" = none) (ha : PAm X cl E [a, b, c] ms) (hs : starEach [a, b, c] X.env = (false, eval a X.env) :: starEach [b, c] X.env) (hpl : (backTo pos (starEach [b, c] X.env)).any (·.1) = false) :
    PIm X cl E tg (.Call (.Name "range" p0) [a, b, c] [] pos) (xIts rangeOf3 ms) :=
  (pi_range3 hg hm ha hs hpl).imp fun σ H R' ⟨r, h, en, R, q, p⟩ => ⟨r, h, en, R, q, (Post.bind p).imp fun ds r1 h1 H1 e1 R1 p1 vs q1 => by
    unfold rangeOf3 at p1
    split at p1
    · rename_i i j c
      cases q1 with
      | cons a1 b1 =>
        cases b1 with
        | cons a2 b2 =>
          cases b2 with
          | cons a3 b3 =>
            cases b3
            split at p1
            · rename_i hc
              rw [a1.int_inv, a2.int_inv, a3.int_inv]
              exact ⟨i, j, c, _, rfl, rgC_up hc.1 hc.2.1 hc.2.2.1 hc.2.2.2.1 hc.2.2.2.2.1 hc.2.2.2.2.2, p1 r1 H1 (Ext.refl _ _) R1 _ itM_range3⟩
            · exact p1.elim
    · exact p1.elim⟩
end
/-! ### a target o[i] -/
def gSubT (mo mi : XE) : XG := fun d en h => match mo en h with
  | .ok o h1 => match mi en h1 with
    | .ok i h2 => setIt o i d en h2
    | _ => .fail
  | _ => .fail
theorem set_only {o i d : D} {en : En} {h : Hd} : OnlyNx (setIt o i d en h) := by
  unfold setIt
  split
  · split
    · split
      · split <;> trivial
      · trivial
    · split <;> trivial
    · split <;> trivial
    · trivial
  · trivial
theorem good_sub {mo mi : XE} : GoodG (gSubT mo mi) := fun d en h => by
  unfold gSubT
  split
  · split
    · exact set_only
    · trivial
  · trivial
section
variable {o i : Expr} {pos : Pos} {mo mi : XE} {ws : List Nat}
theorem gm_sub (hu : X.A.units + 30 < cLine) (ho : PEm X cl E o mo) (hi : PEm X cl E i mi) (hp : PG X (.Subscript o i pos) (gSub (TDm X.K cl E mo) (TDm X.K cl E mi) (rdSet X.K X.w))) : PGm X cl E ws (.Subscript o i pos) (gSubT mo mi) :=
  hp.imp fun v σ H Q ⟨r, h, en, d, R, e, q, p⟩ => by
    have p2 : PostS X.K cl r H E { nx := fun σ' H' => wipe σ' ws = wipe σ ws → Q σ' H', rt := fun _ _ => False } ((mo en h).bindS fun o h1 => (mi en h1).bindS fun i h2 => setIt o i d en h2) := by
      unfold gSubT at p
      cases ho' : mo en h with
      | ok x h1 =>
        rw [ho'] at p
        dsimp only at p
        show PostS X.K cl r H E _ ((mi en h1).bindS fun i h2 => setIt x i d en h2)
        cases hi' : mi en h1 with
        | ok y h2 =>
          rw [hi'] at p
          exact p
        | _ => rw [hi'] at p; exact p.elim
      | _ => rw [ho'] at p; exact p.elim
    exact ⟨r, h, en, R, e, (PostS.bindS p2).imp fun o r2 h2 H2 e2 R2 p3 vo qo =>
      ⟨r2, h2, en, R2, e.mono (R.keep e2), (PostS.bindS p3).imp fun i r3 h3 H3 e3 R3 p4 vi qi => by
        have z := setIt_ok R3 ((e.mono (R.keep e2)).mono (R2.keep e3)) (qo.mono (R2.keep e3)) qi ((q.mono (R.keep e2)).mono (R2.keep e3)) rfl p4 (w := X.w)
        have e9 : (fun H' => wipe σ ws = wipe σ ws → Q σ H') = fun H' => Q σ H' := funext fun H' => propext ⟨fun f => f rfl, fun x _ => x⟩
        rw [← e9]
        exact z⟩⟩
end
end
end Z
/-! text Z19 -/
/-! Z19: a tuple taken once. -/
namespace Z
open PySem PySem.Spec PyProof.Rows L2
theorem tuple_mul1 (l : Addr) (items : Array Value) (n : Nat) (dd : Option Addr) (sl : Array (Option Value)) (u : Tok) (hi : items.isEmpty = false) :
    Meets (Builtin.«tuple.__mul__» ⟨[.ref l, .int 1 u], []⟩) (fun _ R s => s.heap.get? l = some { cls := .type "tuple", dict := dd, data := .seq items n, slots := sl } ∧ R (.ok (.ret (Value.ref l))) s) :=
  .of_wp fun prog w A R s h => by
    obtain ⟨hp, g, d, tk, os⟩ := s
    obtain ⟨hl, h⟩ := h
    have f1 := PySem.AutoSeq1.idx_int
    have f2 := PySem.AutoSeq1.sub_tuple_tuple
    have c0 : (decide ((1 : Int) < -(2 ^ 63)) || decide ((1 : Int) ≥ 2 ^ 63)) = false := by decide
    have c1 : (items.isEmpty || (1 : Int) == 1) = true := by rw [hi]; rfl
    wp_walk using PySem.AutoSeq1.wpAny_loadPart' hl
    exact ⟨_, rfl, h⟩
section
variable {X : Cx} {K : PySem.W.Frag} {cl : Str → Addr} {E : XK}
def rRep1 (K : PySem.W.Frag) : R2 := fun x y H Q => ∃ l xs, x = .ref l ∧ y = .int 1 ∧ SqT K H l xs ∧ xs ≠ [] ∧ Q (.ref l) H
theorem op_rep1 : OpR X (binaryOp .Mult) (rRep1 X.K) := by
  intro pins s σ H x y v u Q I rx ry h
  obtain ⟨l, xs, rfl, rfl, hT, hne, q⟩ := h
  cases rx
  obtain ⟨t, rfl⟩ := ry
  obtain ⟨its, r, ⟨⟨cls, dd, data, sl⟩, ho, hc, n, hd⟩, hs⟩ := I.tuple hT
  simp only at hc hd
  subst hc hd
  have hle : its.length = xs.length := r.length.symm
  have hi : its.toArray.isEmpty = false := by
    cases its with
    | nil => exact absurd (List.eq_nil_of_length_eq_zero hle.symm) hne
    | cons a b => rfl
  refine wpAny_binaryOp_repeat_ref (T := "tuple") (U := "int") (by decide) ⟨_, ho, rfl⟩ (fun s' => typeIs_int s' 1 t) noFill_tuple_mul F.fills_int_mul F.slot_int_rmul repeat_tuple F.slot_int_index.lookup
    (call_meets F.slot_int_rmul (typeIs_int s 1 t) F.entry_int_rmul (F.args_int_rmul_2 _ _) (int_rmul_tuple 1 t l its.toArray n dd sl)
      ⟨ho, rfl, ⟨_, ho, rfl⟩, call_meets F.slot_tuple_mul ⟨_, ho, rfl⟩ F.entry_tuple_mul (F.args_tuple_mul_2 _ _) (tuple_mul1 l its.toArray n dd sl t hi) ⟨ho, ?_⟩⟩)
  exact ⟨.ref l, H, I, rfl, q⟩
/-- (a,) * k: also once -/
def dMulT (x y : D) (h : Hd) : Out D := match x, y with
  | .tup xs, .int k => if k = 1 ∧ xs ≠ [] then .ok (.tup xs) h else dMul (.tup xs) (.int k) h
  | x, y => dMul x y h
abbrev rdMulT (K : PySem.W.Frag) : R2 := fun x y H Q => rRep1 K x y H Q ∨ rdMul K x y H Q
theorem opr_mulT : OpR X (binaryOp .Mult) (rdMulT X.K) := op_rep1.or opr_mul
theorem opm_mulT : OpM K cl E (rdMulT K) dMulT := fun r h H x y vx vy Q R qx qy p => by
  unfold dMulT at p
  split at p
  · rename_i xs k
    split at p
    · rename_i hk
      obtain ⟨rfl, hne⟩ := hk
      obtain ⟨a, vs, rfl, s1, m1⟩ := qx.tup_inv
      rw [qy.int_inv]
      refine .inl ⟨a, vs, rfl, rfl, s1, ?_, Post.end' R p (.tup s1 m1)⟩
      rintro rfl
      cases m1
      exact hne rfl
    · exact .inr (opm_mul r h H _ _ vx vy Q R qx qy p)
  · exact .inr (opm_mul r h H _ _ vx vy Q R qx qy p)
end
end Z
/-! text ZS2 -/
/-! ZS2: a key is added to a small set; the empty set; its members as a list. -/
namespace Zs
open PySem PySem.Spec PyProof.Rows L2
section
variable {P : Program} {w : World} {A : Around} {E : Value → Shared → Prop} {s : Shared} {a : Addr} {L : List (Addr × NestedKey)} {es : Array (Int × Value)} {ep : Nat} {t : SetTable}
theorem addH (R : SetN w s.heap a L es ep t) (tp : ∀ p ∈ L, IsK s.heap p.2 p.1) {x : Addr} {k : NestedKey} (hx : IsK s.heap k x) (hu : A.units + 20 < cLine) (few : L.length ≤ 3) {Q : Bool → Shared → Prop}
    (hQ : ∀ b h' L' es' ep' t', Heap.SameBut a s.heap h' → SetN w h' a L' es' ep' t' → (if k ∈ L.map (·.2) then L' = L else L'.Perm ((x, k) :: L)) → Q b { s with heap := h' }) :
    wpAny (model P w) A (setAddHashed a (.ref x) (k.hash w)) Q E s := by
  obtain ⟨o, ho, hex, hd⟩ := R.ob
  unfold setAddHashed
  refine wpAny_holding ?_
  rw [show (100000 : Nat) = 99999 + 1 from rfl, setAddHashedIn_succ]
  refine wpAny_bind (wpAny_setState_of ho hd R.fits ?_)
  dsimp only
  refine wp_if_neg (by simp [byScan, Value.scannable]) ?_
  try refine wpAny_bind (wpAny_pure ?_)
  refine wpAny_bind (srch0 R tp hx hu (fun hm => ?_) fun K hm hK hb => ?_)
  · dsimp only
    exact wpAny_pure (hQ false s.heap L es ep t (Heap.SameBut.refl a s.heap) R (by rw [if_pos hm]))
  dsimp only
  refine wpAny_bind (wpAny_setState_of ho hd R.fits ?_)
  dsimp only
  obtain ⟨q1, q2, q3, q4, q5, q6, q7, q8, q9⟩ := R.tab.put hK hb
  have hp1 : (t.put (way t.mask (k.hash w) K)).1.plain = true := by rw [q6]; exact R.plain
  generalize hpt : t.put (way t.mask (k.hash w) K) = pt at q1 q3 q4 q5 q6 q7 q8 q9 hp1 ⊢
  obtain ⟨t1, j⟩ := pt
  dsimp only at q1 q3 q4 q5 q6 q7 q8 q9 hp1 ⊢
  subst q1
  first
    | (refine wpAny_bind ?_; refine wp_if_pos hp1 ?_; refine hby_k k _ 8 s hx.is hx.dp hx.nm _ _ _ ?_)
    | refine wp_if_pos hp1 (wpAny_bind (hby_k k _ 8 s hx.is hx.dp hx.nm _ _ _ ?_))
  simp only [if_true]
  generalize hpp : SetTable.below t.place (way t.mask (k.hash w) K) = p at q2 q3
  have hin : (SetTable.insertAt es p (k.hash w, Value.ref x)).toList = (L.take p ++ (x, k) :: L.drop p).map fun p => (p.2.hash w, Value.ref p.1) := by
    rw [SetTable.toList_insertAt, R.rows, List.map_append, List.map_cons, List.map_take, List.map_drop]
  have pm := put_perm L p (x, k)
  have hlen : (L.take p ++ (x, k) :: L.drop p).length = L.length + 1 := pm.length_eq
  have hhs : (L.take p ++ (x, k) :: L.drop p).map (fun p => p.2.hash w) = (L.map fun p => p.2.hash w).take p ++ k.hash w :: (L.map fun p => p.2.hash w).drop p := by
    rw [List.map_append, List.map_cons, List.map_take, List.map_drop]
  rw [← hhs] at q3
  have nd1 : ((L.take p ++ (x, k) :: L.drop p).map (·.2)).Nodup := (pm.map (·.2)).nodup_iff.mpr (by rw [List.map_cons]; exact List.nodup_cons.mpr ⟨hm, R.nd⟩)
  have hes : (SetTable.insertAt es p (k.hash w, Value.ref x)).size = L.length + 1 := by
    have h := congrArg List.length hin
    rw [Array.length_toList, List.length_map, hlen] at h
    exact h
  generalize SetTable.insertAt es p (k.hash w, Value.ref x) = es1 at hin hes ⊢
  generalize L.take p ++ (x, k) :: L.drop p = L1 at pm hlen q3 nd1 hin
  refine wpAny_bind (wpAny_storeSet_of ho hd ?_ (by rw [hes, sizeLine_eq]; omega))
  have sb : Heap.SameBut a s.heap (s.heap.update a (Obj.putSet es1 t1)) := Heap.SameBut.update ..
  have ho1 := store_at (es' := es1) (t' := t1) ho hd
  generalize s.heap.update a (Obj.putSet es1 t1) = h1 at sb ho1 ⊢
  have h7 : t1.mask = 7 := q4.trans R.mask
  have nf : ¬ t1.tooFull = true := by
    unfold SetTable.tooFull
    rw [decide_eq_true_eq, q9, List.length_map, h7]
    omega
  first
    | refine wp_if_neg (by simp [nf]) ?_
    | (refine wpAny_bind ?_; refine wp_if_neg (by simp [nf]) ?_; refine wpAny_pure ?_)
  refine wpAny_pure (hQ true h1 L1 es1 (ep + 1) t1 sb ⟨⟨_, ho1, ⟨hex.1, hex.2.1, hex.2.2⟩, rfl⟩, hin, q3, nd1, hp1, by rw [q5]; exact R.led, h7, by rw [hlen]; omega⟩ (by rw [if_neg hm]; exact pm))
theorem SetN.typeIs (R : SetN w s.heap a L es ep t) : s.TypeIs (.ref a) "set" := by
  obtain ⟨o, ho, hex, hd⟩ := R.ob
  exact ⟨o, ho, hex.1⟩
/-- found.add(x) -/
theorem addN (R : SetN w s.heap a L es ep t) (tp : ∀ p ∈ L, IsK s.heap p.2 p.1) {x : Addr} {k : NestedKey} (hx : IsK s.heap k x) (hu : A.units + 30 < cLine) (few : L.length ≤ 3) {Q : Value → Shared → Prop}
    (hQ : ∀ h' tk L' es' ep' t', Heap.SameBut a s.heap h' → SetN w h' a L' es' ep' t' → (if k ∈ L.map (·.2) then L' = L else L'.Perm ((x, k) :: L)) → Q .none { s with heap := h', toks := tk }) :
    wpAny (model P w) A (call (.builtin "set.add") [.ref a, .ref x]) Q E s := by
  refine wpAny_call_entry F.slot_set_add R.typeIs F.entry_set_add ?_ (F.args_set_add_2 _ _)
  unfold Builtin.«set.add» Builtin.Frozenset.oneOther
  simp only [List.isEmpty_nil, bind_assoc]
  unfold Builtin.Frozenset.addrOf setAdd
  refine wpAny_bind (wpAny_pure ?_)
  try dsimp only
  refine wpAny_bind (wpAny_pure ?_)
  try dsimp only
  refine wpAny_bind (wpAny_holding (wpAny_bind (pyHash_key k _ _ _ _ hx.is (by have := hx.dp; show A.units + 1 + _ < _; omega) ?_)))
  refine addH (s := { s with toks := s.toks + k.draws }) R tp hx (by show A.units + 1 + _ < _; omega) few fun b h' L' es' ep' t' sb r e => ?_
  show wpAny _ _ (ret Value.none) _ _ _
  exact wpAny_pure ⟨_, rfl, hQ h' _ L' es' ep' t' sb r e⟩
theorem emptyN (h : Heap) : SetN w (h.push { cls := .type "set", dict := none, data := .set #[] 0 (.fresh 0 0 (!w.params.followText "set-order")) }) h.objs.size [] #[] 0 (.fresh 0 0 (!w.params.followText "set-order")) where
  ob := ⟨_, Heap.get?_push_size _ rfl, ⟨rfl, rfl, rfl⟩, rfl⟩
  rows := rfl
  tab := ⟨by exact List.Pairwise.nil, rfl, rfl, .inl rfl, (fun x hx => nomatch hx), (fun i k j h _ => by simp at h)⟩
  nd := List.nodup_nil
  plain := rfl
  led := by
    show _ ∨ (!w.params.followText "set-order") = true
    cases w.params.followText "set-order"
    · exact .inr rfl
    · exact .inl rfl
  mask := rfl
  few := Nat.zero_le _
end
/-- as a tracked thing -/
def SetO (w : World) (a : Addr) (L : List (Addr × NestedKey)) : HO := .ext fun h => ∃ es ep t, SetN w h a L es ep t
theorem setO_new {w : World} {P : Program} {H : Hp} {h : Heap} {a : Addr} {L : List (Addr × NestedKey)} {es : Array (Int × Value)} {ep : Nat} {t : SetTable} (R : SetN w h a L es ep t) : ObjOk P w H h a (SetO w a L) := by
  have ⟨o, ho, _⟩ := R.ob
  refine ⟨⟨es, ep, t, R⟩, ⟨o, ho⟩, fun h1 h2 p k => ?_⟩
  obtain ⟨es', ep', t', R'⟩ := p
  have ⟨o', ho', x⟩ := R'.ob
  exact ⟨es', ep', t', ⟨o', k o' ho', x⟩, R'.rows, R'.tab, R'.nd, R'.plain, R'.led, R'.mask, R'.few⟩
section
variable {X : Cx} {pins : List (Addr × Obj)} {σ : L2.St} {H : Hp} {s : Shared}
theorem setO_get {a : Addr} {L : List (Addr × NestedKey)} (I : Inv X pins σ H s) (e : H a = some (SetO X.w a L)) : ∃ es ep t, SetN X.w s.heap a L es ep t := (I.hok a _ e).1
theorem addO {E : Value → Shared → Prop} {D x : Addr} {k : NestedKey} {L : List (Addr × NestedKey)} {Q : Value → Shared → Prop} (I : Inv X pins σ H s) (hD : H D = some (SetO X.w D L)) (tp : ∀ p ∈ L, IsK s.heap p.2 p.1) (hx : IsK s.heap k x) (hu : X.A.units + 30 < cLine) (few : L.length ≤ 3)
    (h : ∀ L' s', (if k ∈ L.map (·.2) then L' = L else L'.Perm ((x, k) :: L)) → Inv X pins σ (upd H D (SetO X.w D L')) s' → Q .none s') : wpAny (model X.prog X.w) X.A (call (.builtin "set.add") [.ref D, .ref x]) Q E s := by
  obtain ⟨es, ep, t, R⟩ := setO_get I hD
  refine addN R tp hx hu few fun h' tk L' es' ep' t' sb R' e => h L' _ e ?_
  have ⟨o, ho, _⟩ := R'.ob
  exact I.write (e := D) (t' := tk) (by rw [hD]; trivial) (.inl rfl) (fun b u hb hu => (sb.2 b hb).trans hu) ⟨o, ho⟩ (setO_new R')
end
end Zs
/-! text Z20 -/
/-! Z20: sorted of lists of trees, max(.., default=..) of them, x in a list of trees. -/
namespace Z
open PySem PySem.Spec PyProof.Rows L2
section
variable {X : Cx} {cl : Str → Addr} {E : XK} {K : PySem.W.Frag} {r : List Addr} {h : Hd} {H : Hp}
/-! ### sorted -/
def rSortD (K : PySem.W.Frag) : List V → Hp → VK → Prop := fun vs H Q => ∃ (a : Addr) (bs : List (V × PyData)), vs = [.ref a] ∧ SqL K H a (bs.map (·.1)) ∧ (∀ b ∈ bs, Dp K H b.1 b.2) ∧ PySem.W.AllAlike (bs.map (·.2)) ∧ PySem.W.Sortable (bs.map (·.2)) ∧ (∀ b ∈ bs, b.2.depth ≤ 60) ∧
  ∀ p, H p = none → Q (.ref p) (upd H p (.lst ((bs.mergeSort (PySem.W.dataLe false (·.2))).map (·.1))))
theorem each_of {s : Shared} {σ : L2.St} {pins : List (Addr × Obj)} (I : Inv X pins σ H s) : ∀ (bs : List (V × PyData)) {us : List Value}, Vals (bs.map (·.1)) us → (∀ b ∈ bs, Dp X.K H b.1 b.2) → PySem.W.EachIs (fun u (b : V × PyData) => RelV b.1 u) us bs ∧ PySem.W.EachIs (fun u (b : V × PyData) => ∃ as, Reads s.heap u b.2 as) us bs
  | [], _, .nil, _ => ⟨.nil, .nil⟩
  | b :: bs, _, .cons q m, d => by
    obtain ⟨e1, e2⟩ := each_of I bs m fun c hc => d c (List.mem_cons_of_mem _ hc)
    exact ⟨.cons q e1, .cons (Dp.reads I b.2 b.1 _ (d b List.mem_cons_self) q) e2⟩
theorem vals_each : ∀ {us : List Value} {bs : List (V × PyData)}, PySem.W.EachIs (fun u (b : V × PyData) => RelV b.1 u) us bs → Vals (bs.map (·.1)) us
  | _, _, .nil => .nil
  | _, _, .cons q m => .cons q (vals_each m)
theorem cr_sortD (hu : X.A.units + 100 < cLine) : CallR X (.builtin "sorted") (rSortD X.K) := by
  intro pins s σ H vs us Q I rv q
  obtain ⟨a, bs, rfl, hs, hd, h1, h2, h3, q⟩ := q
  obtain ⟨u, rfl, ru⟩ := rv.one
  cases ru
  obtain ⟨its, r, hl, hz⟩ := I.list hs
  obtain ⟨e1, e2⟩ := each_of I bs r hd
  have hlen : (bs.map (·.1)).length = bs.length := List.length_map ..
  refine PySem.W.sorted_data hl.isList e1 e2 h1 h2 (by omega) (fun b hb => by have := h3 b hb; omega) fun out ho eo => ?_
  obtain ⟨c, hc⟩ := sortedAll_at s.heap its out.toArray
  refine ⟨.ref (s.heap.objs.size + 1), upd H (s.heap.objs.size + 1) (.lst ((bs.mergeSort (PySem.W.dataLe false (·.2))).map (·.1))), I.laid (t' := s.toks) (fun _ _ => sortedAll_old) (Nat.le_succ _) ⟨?_, out, c, vals_each eo, hc⟩, rfl, q _ (I.hok.fresh (Nat.le_succ _))⟩
  rw [List.length_map, List.length_mergeSort]
  omega
def alikeL (ps : List PyData) : Bool := (ps.all fun p => ps.all fun q => PySem.W.alike p q) && (ps.all fun p => decide (p.depth ≤ 60)) && ((ps.all fun p => match p with
  | .tuple (_ :: _) => true
  | _ => false) || ps.all fun p => match p with
  | .none => false
  | .tuple _ => false
  | _ => true)
theorem alikeL_ok {ps : List PyData} (e : alikeL ps = true) : PySem.W.AllAlike ps ∧ PySem.W.Sortable ps ∧ ∀ p ∈ ps, p.depth ≤ 60 := by
  unfold alikeL at e
  rw [Bool.and_eq_true, Bool.and_eq_true, Bool.or_eq_true] at e
  obtain ⟨⟨e1, e2⟩, e3⟩ := e
  refine ⟨fun p hp q hq => List.all_eq_true.mp (List.all_eq_true.mp e1 p hp) q hq, ?_, fun p hp => of_decide_eq_true (List.all_eq_true.mp e2 p hp)⟩
  rcases e3 with e3 | e3
  · refine .inl fun p hp => ?_
    have := List.all_eq_true.mp e3 p hp
    split at this
    · exact ⟨_, _, rfl⟩
    · cases this
  · refine .inr fun p hp => ?_
    have := List.all_eq_true.mp e3 p hp
    split at this
    · cases this
    · cases this
    · rename_i h1 h2
      exact ⟨h1, h2⟩
def sortT (bs : List (D × PyData)) : List D := (bs.mergeSort (PySem.W.dataLe false (·.2))).map (·.1)
def dSorted (xs : List D) (h : Hd) : Out D := match xs with
  | [x] => match lstOf x h with
    | some ds => match rfsW (rfR 8 h) ds with
      | some ps => if alikeL ps = true then mkLst (sortT (ds.zip ps)) h else .fail
      | none => .fail
    | none => .fail
  | _ => .fail
theorem trip_of : ∀ {ds : List D} {vs : List V} {ps : List PyData}, RelDs K r H ds vs → DpAll K H vs ps → ∃ ts : List (V × D × PyData), ts.map (·.1) = vs ∧ ts.map (fun t => (t.2.1, t.2.2)) = ds.zip ps ∧ ts.map (fun t => (t.1, t.2.2)) = vs.zip ps ∧ (vs.zip ps).map (·.1) = vs ∧ (vs.zip ps).map (·.2) = ps ∧ (∀ t ∈ ts, RelD K r H t.2.1 t.1) ∧ ∀ b ∈ vs.zip ps, Dp K H b.1 b.2
  | _, _, _, .nil, .nil => ⟨[], rfl, rfl, rfl, rfl, rfl, (fun _ h => nomatch h), (fun _ h => nomatch h)⟩
  | _, _, _, .cons (d := d) (v := v) a m, .cons (d := p) b n => by
    obtain ⟨ts, e1, e2, e3, e4, e5, e6, e7⟩ := trip_of m n
    refine ⟨(v, d, p) :: ts, by rw [List.map_cons, e1], by rw [List.map_cons, e2] <;> rfl, by rw [List.map_cons, e3] <;> rfl, by rw [List.zip_cons_cons, List.map_cons, e4], by rw [List.zip_cons_cons, List.map_cons, e5], fun t ht => ?_, fun t ht => ?_⟩
    · rcases List.mem_cons.mp ht with rfl | ht
      · exact a
      · exact e6 t ht
    · rcases List.mem_cons.mp ht with rfl | ht
      · exact b
      · exact e7 t ht
theorem rel_trip : ∀ (ts : List (V × D × PyData)), (∀ t ∈ ts, RelD K r H t.2.1 t.1) → RelDs K r H (ts.map (·.2.1)) (ts.map (·.1))
  | [], _ => .nil
  | t :: ts, h => .cons (h t List.mem_cons_self) (rel_trip ts fun u hu => h u (List.mem_cons_of_mem _ hu))
theorem sort_rel {ds : List D} {vs : List V} {ps : List PyData} (m : RelDs K r H ds vs) (n : DpAll K H vs ps) : RelDs K r H (sortT (ds.zip ps)) (((vs.zip ps).mergeSort (PySem.W.dataLe false (·.2))).map (·.1)) := by
  obtain ⟨ts, e1, e2, e3, e4, e5, e6, e7⟩ := trip_of m n
  have s1 : (ts.mergeSort (PySem.W.dataLe false (·.2.2))).map (fun t => (t.2.1, t.2.2)) = (ds.zip ps).mergeSort (PySem.W.dataLe false (·.2)) := by
    rw [List.map_mergeSort (s := PySem.W.dataLe false (fun b : D × PyData => b.2)) (fun a _ b _ => by rfl), e2]
  have s2 : (ts.mergeSort (PySem.W.dataLe false (·.2.2))).map (fun t => (t.1, t.2.2)) = (vs.zip ps).mergeSort (PySem.W.dataLe false (·.2)) := by
    rw [List.map_mergeSort (s := PySem.W.dataLe false (fun b : V × PyData => b.2)) (fun a _ b _ => by rfl), e3]
  unfold sortT
  rw [← s1, ← s2, List.map_map, List.map_map]
  exact rel_trip _ fun t ht => e6 t ((List.mergeSort_perm ts _).mem_iff.mp ht)
theorem cm_sorted : CallM K cl E (rSortD K) dSorted := fun r h H xs vs Q R q p => by
  unfold dSorted at p
  split at p
  · obtain ⟨v, rfl, qv⟩ := q.one
    split at p
    · rename_i ds e
      split at p
      · rename_i ps eps
        split at p
        · rename_i hc
          obtain ⟨a, ws, rfl, s, m⟩ := lstOf_rel R qv e
          have n := rfsW_ok R (rfR_ok R 8) m eps
          obtain ⟨h1, h2, h3⟩ := alikeL_ok hc
          obtain ⟨ts, e1, e2, e3, e4, e5, e6, e7⟩ := trip_of m n
          refine ⟨a, ws.zip ps, rfl, by rw [e4]; exact s, e7, by rw [e5]; exact h1, by rw [e5]; exact h2, fun b hb => h3 _ ?_, (post_lst R (sort_rel m n) p).2⟩
          rw [← e5]
          exact List.mem_map.mpr ⟨b, hb, rfl⟩
        · exact p.elim
      · exact p.elim
    · exact p.elim
  · exact p.elim
/-! ### x in a list of trees -/
def inDeep (x y : D) (h : Hd) : Option Bool := match rf h x, rf h y with
  | some d, some (.list ds) => if SeqAt.shaped d = true ∧ SeqAt.shaped (.list ds) = true then some (ds.any fun z => PyData.eqv z d) else none
  | _, _ => none
def dInX (x y : D) (h : Hd) : Out D := match inD x y h with
  | some b => .ok (.bl b) h
  | none => match inDeep x y h with
    | some b => .ok (.bl b) h
    | none => .fail
def dNotInX (x y : D) (h : Hd) : Out D := match inD x y h with
  | some b => .ok (.bl (!b)) h
  | none => match inDeep x y h with
    | some b => .ok (.bl (!b)) h
    | none => .fail
theorem inDeep_ok {x y : D} {u v : V} {b : Bool} (R : RelH K cl r h H) (qx : RelD K r H x u) (qy : RelD K r H y v) (e : inDeep x y h = some b) :
    ∃ d ds, Dp K H u d ∧ Dp K H v (.list ds) ∧ SeqAt.shaped d = true ∧ SeqAt.shaped (.list ds) = true ∧ b = ds.any fun z => PyData.eqv z d := by
  unfold inDeep at e
  split at e
  · rename_i d ds h1 h2
    split at e
    · rename_i hc
      cases e
      exact ⟨d, ds, rf_ok R qx h1, rf_ok R qy h2, hc.1, hc.2, rfl⟩
    · cases e
  · cases e
abbrev rdInX (K : PySem.W.Frag) (b : Bool) : R2 := fun x y H Q => rdIn K b x y H Q ∨ (if b = true then rNotInD K x y H Q else rInD K x y H Q)
theorem opr_inX (hu : X.A.units + 100 < cLine) : OpR X (compareOp .In) (rdInX X.K false) := OpR.or (opr_in (by omega)) (op_inD (by omega))
theorem opr_notInX (hu : X.A.units + 100 < cLine) : OpR X (compareOp .NotIn) (rdInX X.K true) := OpR.or (opr_notIn (by omega)) (op_notInD (by omega))
theorem opm_inX : OpM K cl E (rdInX K false) dInX := fun r h H x y vx vy Q R qx qy p => by
  unfold dInX at p
  split at p
  · rename_i b e
    exact .inl (opm_in r h H x y vx vy Q R qx qy (by unfold dIn; rw [e]; exact p))
  · split at p
    · rename_i b e
      obtain ⟨d, ds, a1, a2, a3, a4, rfl⟩ := inDeep_ok R qx qy e
      exact .inr ⟨d, ds, a1, a2, a3, a4, Post.end' R p .bl⟩
    · exact p.elim
theorem opm_notInX : OpM K cl E (rdInX K true) dNotInX := fun r h H x y vx vy Q R qx qy p => by
  unfold dNotInX at p
  split at p
  · rename_i b e
    exact .inl (opm_notIn r h H x y vx vy Q R qx qy (by unfold dNotIn; rw [e]; exact p))
  · split at p
    · rename_i b e
      obtain ⟨d, ds, a1, a2, a3, a4, rfl⟩ := inDeep_ok R qx qy e
      exact .inr ⟨d, ds, a1, a2, a3, a4, Post.end' R p .bl⟩
    · exact p.elim
/-! ### max(.., default=None) -/
def rMaxN (K : PySem.W.Frag) : List V → List V → Hp → VK → Prop := fun vs zs H Q => ∃ (a : Addr) (bs : List (V × PyData)), vs = [.ref a] ∧ zs = [.non] ∧ SqL K H a (bs.map (·.1)) ∧ (∀ b ∈ bs, Dp K H b.1 b.2) ∧ PySem.W.AlikeAll (bs.map (·.2)) ∧ PyData.depthAll (bs.map (·.2)) ≤ 60 ∧
  (bs = [] → Q .non H) ∧ ∀ y ys, bs.map (·.2) = y :: ys → ∀ b ∈ bs, b.2 = PySem.W.maxD y ys → Q b.1 H
theorem each_get {bs : List (V × PyData)} : ∀ {us : List Value} {R : Value → V × PyData → Prop}, PySem.W.EachIs R us bs → ∀ {i : Nat} {u : Value}, us[i]? = some u → ∃ b, bs[i]? = some b ∧ R u b := by
  intro us R e
  induction e with
  | nil => intro i u h; simp at h
  | cons q m ih =>
    intro i u h
    cases i with
    | zero => simp at h; subst h; exact ⟨_, rfl, q⟩
    | succ i => simp at h; obtain ⟨b, h1, h2⟩ := ih h; exact ⟨b, by simpa using h1, h2⟩
theorem crk_maxN (hu : X.A.units + 100 < cLine) (hh : X.A.handled = none) : CallRK X (.builtin "max") [Str.ofString "default"] (rMaxN X.K) := by
  intro pins s σ H xs zs us ws Q I rx rz q
  obtain ⟨a, bs, rfl, rfl, hs, hd, h1, h2, h3, h4⟩ := q
  obtain ⟨u, rfl, ru⟩ := rx.one
  obtain ⟨z, rfl, rz2⟩ := rz.one
  cases ru
  obtain ⟨its, rv, hl, hz⟩ := I.list hs
  obtain ⟨e1, e2⟩ := each_of I bs rv hd
  obtain ⟨as, hr⟩ := Dp.readsAll I (bs.map (·.2)) (bs.map (·.1)) its (by
    clear e1 e2 rv hl hz h1 h2 h3 h4 hs
    induction bs with
    | nil => exact .nil
    | cons b bs ih => exact .cons (hd b List.mem_cons_self) (ih fun c hc => hd c (List.mem_cons_of_mem _ hc))) rv
  refine PySem.W.max_list_default (vs := its.toArray) (xs := bs.map (·.2)) hh hl.isList hr h1 (by omega) (fun e h' tk k => ?_) fun y ys i v h' tk cs e hv r k => ?_
  · exact ⟨.non, H, I.kept k, rz2, h3 (by simpa using e)⟩
  · have hv' : its[i]? = some v := by simpa using hv
    obtain ⟨b, hb, q1⟩ := each_get e1 hv'
    obtain ⟨b', hb', as', q2⟩ := each_get e2 hv'
    obtain rfl : b = b' := Option.some.inj (hb.symm.trans hb')
    have hm := List.mem_of_getElem? hb
    exact ⟨b.1, H, I.kept k, q1, h4 y ys e b hm (PyProof.Rows.reads_det (fun c o q _ => k c o q) q2 r).1.symm⟩
/-- a tree without lists, back from what it reads as -/
def tD : PyData → D
  | .none => .non
  | .bool b => .bl b
  | .int i => .int i
  | .str s => .str s
  | .tuple ds => .tup (tDs ds)
  | _ => .non
where tDs : List PyData → List D
  | [] => []
  | d :: ds => tD d :: tDs ds
def dMaxN (x : D) (h : Hd) : Out D := match lstOf x h with
  | some ds => match rfsW (rfR 8 h) ds with
    | some [] => .ok .non h
    | some (y :: ys) => if ((y :: ys).all fun p => ((y :: ys).all fun q => PySem.W.alike p q) && decide (p.depth ≤ 60) && !decide (tD p = .non)) = true ∧ ds = (y :: ys).map tD then .ok (tD (PySem.W.maxD y ys)) h else .fail
    | none => .fail
  | none => .fail
def xMaxN (m : XE) : XE := fun en h => (m en h).bind dMaxN
theorem depthAll_of {ps : List PyData} {n : Nat} (h : ∀ p ∈ ps, p.depth ≤ n) : PyData.depthAll ps ≤ n := by
  induction ps with
  | nil => simp [PyData.depthAll]
  | cons p ps ih =>
    have h1 := h p List.mem_cons_self
    have h2 := ih fun q hq => h q (List.mem_cons_of_mem _ hq)
    simp only [PyData.depthAll]
    omega
theorem rel_zip : ∀ {ds : List D} {vs : List V} {ps : List PyData}, RelDs K r H ds vs → DpAll K H vs ps → ds = ps.map tD → ∀ b ∈ vs.zip ps, RelD K r H (tD b.2) b.1
  | _, _, _, .nil, .nil, _, _, h => nomatch h
  | _, _, _, .cons a m, .cons b n, e, c, h => by
    rw [List.map_cons] at e
    injection e with e1 e2
    rcases List.mem_cons.mp h with rfl | h
    · rw [← e1]; exact a
    · exact rel_zip m n e2 c h
theorem maxN_ok {x : D} {v : V} {Q : VK} (R : RelH K cl r h H) (qv : RelD K r H x v) (p : Post K cl r H E (PV K Q) (dMaxN x h)) : rMaxN K [v] [.non] H Q := by
  unfold dMaxN at p
  split at p
  · rename_i ds e
    obtain ⟨a, ws, rfl, s, m⟩ := lstOf_rel R qv e
    split at p
    · rename_i eps
      have n := rfsW_ok R (rfR_ok R 8) m eps
      cases n
      exact ⟨a, [], rfl, rfl, s, (fun _ h => nomatch h), ⟨(fun _ h => nomatch h), (fun _ h => nomatch h)⟩, by simp [PyData.depthAll], fun _ => Post.end' R p .non, (fun _ _ e => nomatch e)⟩
    · rename_i y ys eps
      split at p
      · rename_i hc
        obtain ⟨hc, hds⟩ := hc
        have n := rfsW_ok R (rfR_ok R 8) m eps
        obtain ⟨ts, e1, e2, e3, e4, e5, e6, e7⟩ := trip_of m n
        have al : ∀ q ∈ y :: ys, (∀ z ∈ y :: ys, PySem.W.alike q z = true) ∧ q.depth ≤ 60 ∧ tD q ≠ .non := fun q hq => by
          have := List.all_eq_true.mp hc q hq
          rw [Bool.and_eq_true, Bool.and_eq_true] at this
          refine ⟨List.all_eq_true.mp this.1.1, of_decide_eq_true this.1.2, fun z => ?_⟩
          rw [z] at this
          exact absurd this.2 (by decide)
        refine ⟨a, ws.zip (y :: ys), rfl, rfl, by rw [e4]; exact s, e7, by rw [e5]; exact ⟨fun q hq z hz => (al q hq).1 z hz, fun q hq z => (al q hq).2.2 (by rw [z]; rfl)⟩, by rw [e5]; exact depthAll_of fun q hq => (al q hq).2.1, fun z => ?_, fun y' ys' e b hb hbm => ?_⟩
        · rw [z] at e5; cases e5
        · rw [e5] at e
          injection e with h1 h2
          subst h1 h2
          refine Post.end' R p ?_
          rw [← hbm]
          exact rel_zip m n hds b hb
      · exact p.elim
    · exact p.elim
  · exact p.elim
theorem em_maxN {e : Expr} {m : XE} {p p2 p3 pos : Pos} {k : Nat} (hu : X.A.units + 100 < cLine) (hh : X.A.handled = none) (he : PEm X cl E e m) (hg : Gl X "max") (hm : X.mg "max" = none) (hst : starEach [e] X.env = (false, eval e X.env) :: starEach [] X.env) :
    PEm X cl E (.Call (.Name "max" p) [e] [⟨some "default", .Constant .none k p2, p3⟩] pos) (xMaxN m) :=
  PE.imp (pe_callBK (id := "max") (ks := [Str.ofString "default"]) (crk_maxN hu hh) hg hm (by decide +kernel) (pa_cons he pa_nil hst) (pk_cons pe_non pk_nil) (by decide) (by decide) (by rw [hst]; rfl) (by rw [hst]; rfl) (by rfl) (by rfl) (by rfl)) fun σ H Q ⟨r, h, en, R, re, p⟩ => by
    refine ⟨r, h, en, R, re, (Post.bind p).imp fun d r1 h1 H1 e1 R1 p1 v q1 => ?_⟩
    show rMaxN X.K [v] [V.non] H1 Q
    exact maxN_ok R1 q1 p1
end
end Z
/-! text ZS3 -/
set_option maxHeartbeats 4000000
/-! ZS3: {elt for .. in ..} over a small set of nested keys. -/
namespace Zs
open PySem PySem.Spec PyProof.Rows L2
mutual
def keyP : PyData → Option NestedKey
  | .int i => some (.num i)
  | .tuple ds => (keyPs ds).map .tup
  | _ => none
def keyPs : List PyData → Option (List NestedKey)
  | [] => some []
  | d :: ds => match keyP d, keyPs ds with
    | some k, some ks => some (k :: ks)
    | _, _ => none
end
mutual
theorem keyP_num : ∀ (p : PyData) (k : NestedKey), keyP p = some k → numK k = true ∧ k.depth = p.depth
  | .int i, k, e => by cases e; exact ⟨rfl, rfl⟩
  | .tuple ds, k, e => by
    rw [keyP] at e
    cases q : keyPs ds with
    | none => rw [q] at e; cases e
    | some ks =>
      rw [q] at e
      cases e
      obtain ⟨h1, h2⟩ := keyPs_num ds ks q
      exact ⟨by rw [numK]; exact h1, by simp only [NestedKey.depth, PyData.depth, h2]⟩
  | .none, _, e => by simp [keyP] at e
  | .bool _, _, e => by simp [keyP] at e
  | .str _, _, e => by simp [keyP] at e
  | .list _, _, e => by simp [keyP] at e
  | .dict _, _, e => by simp [keyP] at e
theorem keyPs_num : ∀ (ps : List PyData) (ks : List NestedKey), keyPs ps = some ks → numKs ks = true ∧ NestedKey.depthAll ks = PyData.depthAll ps
  | [], ks, e => by cases e; exact ⟨rfl, rfl⟩
  | p :: ps, ks, e => by
    rw [keyPs] at e
    cases q1 : keyP p with
    | none => rw [q1] at e; cases e
    | some k =>
      cases q2 : keyPs ps with
      | none => rw [q1, q2] at e; cases e
      | some ks2 =>
        rw [q1, q2] at e
        cases e
        obtain ⟨a1, a2⟩ := keyP_num p k q1
        obtain ⟨b1, b2⟩ := keyPs_num ps ks2 q2
        exact ⟨by rw [numKs, a1, b1]; rfl, by simp only [NestedKey.depthAll, PyData.depthAll, a2, b2]⟩
end
mutual
theorem keyP_is {h : Heap} : ∀ (p : PyData) (k : NestedKey) (v : Value) (as : List Addr), keyP p = some k → Reads h v p as → NestedIs h k v
  | .int i, k, v, as, e, r => by
    cases e
    cases r
    exact .int _ _
  | .tuple ds, k, v, as, e, r => by
    rw [keyP] at e
    cases q : keyPs ds with
    | none => rw [q] at e; cases e
    | some ks =>
      rw [q] at e
      cases e
      cases r with
      | tuple ho hc hd hr => exact .tup ho hc hd (by simpa using keyPs_is ds ks _ _ q hr)
  | .none, _, _, _, e, _ => by simp [keyP] at e
  | .bool _, _, _, _, e, _ => by simp [keyP] at e
  | .str _, _, _, _, e, _ => by simp [keyP] at e
  | .list _, _, _, _, e, _ => by simp [keyP] at e
  | .dict _, _, _, _, e, _ => by simp [keyP] at e
theorem keyPs_is {h : Heap} : ∀ (ps : List PyData) (ks : List NestedKey) (vs : List Value) (as : List Addr), keyPs ps = some ks → ReadsAll h vs ps as → NestedAll h ks vs
  | [], ks, vs, as, e, r => by
    cases e
    cases r
    exact .nil
  | p :: ps, ks, vs, as, e, r => by
    rw [keyPs] at e
    cases q1 : keyP p with
    | none => rw [q1] at e; cases e
    | some k =>
      cases q2 : keyPs ps with
      | none => rw [q1, q2] at e; cases e
      | some ks2 =>
        rw [q1, q2] at e
        cases e
        cases r with
        | cons r1 r2 => exact .cons (keyP_is p k _ _ q1 r1) (keyPs_is ps ks2 _ _ q2 r2)
end
mutual
theorem keyP_inj : ∀ (p q : PyData) (k : NestedKey), keyP p = some k → keyP q = some k → p = q
  | .int i, .int j, k, e, f => by cases e; cases f; rfl
  | .tuple ds, .tuple es, k, e, f => by
    rw [keyP] at e f
    cases q1 : keyPs ds with
    | none => rw [q1] at e; cases e
    | some ks =>
      cases q2 : keyPs es with
      | none => rw [q2] at f; cases f
      | some ls =>
        rw [q1] at e
        rw [q2] at f
        cases e
        cases f
        rw [keyPs_inj ds es ks q1 q2]
  | .int i, .tuple es, k, e, f => by
    cases e
    rw [keyP] at f
    cases q2 : keyPs es with
    | none => rw [q2] at f; cases f
    | some ls => rw [q2] at f; cases f
  | .tuple ds, .int j, k, e, f => by
    cases f
    rw [keyP] at e
    cases q2 : keyPs ds with
    | none => rw [q2] at e; cases e
    | some ls => rw [q2] at e; cases e
  | .none, _, _, e, _ => by simp [keyP] at e
  | .bool _, _, _, e, _ => by simp [keyP] at e
  | .str _, _, _, e, _ => by simp [keyP] at e
  | .list _, _, _, e, _ => by simp [keyP] at e
  | .dict _, _, _, e, _ => by simp [keyP] at e
  | .int _, .none, _, _, f => by simp [keyP] at f
  | .int _, .bool _, _, _, f => by simp [keyP] at f
  | .int _, .str _, _, _, f => by simp [keyP] at f
  | .int _, .list _, _, _, f => by simp [keyP] at f
  | .int _, .dict _, _, _, f => by simp [keyP] at f
  | .tuple _, .none, _, _, f => by simp [keyP] at f
  | .tuple _, .bool _, _, _, f => by simp [keyP] at f
  | .tuple _, .str _, _, _, f => by simp [keyP] at f
  | .tuple _, .list _, _, _, f => by simp [keyP] at f
  | .tuple _, .dict _, _, _, f => by simp [keyP] at f
theorem keyPs_inj : ∀ (ps qs : List PyData) (ks : List NestedKey), keyPs ps = some ks → keyPs qs = some ks → ps = qs
  | [], [], _, _, _ => rfl
  | [], q :: qs, ks, e, f => by
    cases e
    rw [keyPs] at f
    cases q1 : keyP q with
    | none => rw [q1] at f; cases f
    | some k => cases q2 : keyPs qs with
      | none => rw [q1, q2] at f; cases f
      | some l => rw [q1, q2] at f; cases f
  | q :: qs, [], ks, f, e => by
    cases e
    rw [keyPs] at f
    cases q1 : keyP q with
    | none => rw [q1] at f; cases f
    | some k => cases q2 : keyPs qs with
      | none => rw [q1, q2] at f; cases f
      | some l => rw [q1, q2] at f; cases f
  | p :: ps, q :: qs, ks, e, f => by
    rw [keyPs] at e f
    cases a1 : keyP p with
    | none => rw [a1] at e; cases e
    | some k =>
      cases a2 : keyPs ps with
      | none => rw [a1, a2] at e; cases e
      | some l =>
        cases b1 : keyP q with
        | none => rw [b1] at f; cases f
        | some k' =>
          cases b2 : keyPs qs with
          | none => rw [b1, b2] at f; cases f
          | some l' =>
            rw [a1, a2] at e
            rw [b1, b2] at f
            cases e
            cases f
            rw [keyP_inj p q k a1 b1, keyPs_inj ps qs l a2 b2]
end
/-- in the abstract heap, the tuple at x is the key k -/
def KeyAt (K : PySem.W.Frag) (H : Hp) (k : NestedKey) (x : Addr) : Prop := ∃ p, Dp K H (.ref x) p ∧ keyP p = some k ∧ p.depth ≤ 8
section
variable {X : Cx} {pins : List (Addr × Obj)} {σ : L2.St} {H : Hp} {s : Shared}
theorem KeyAt.isK {k : NestedKey} {x : Addr} (q : KeyAt X.K H k x) (I : Inv X pins σ H s) : IsK s.heap k x := by
  obtain ⟨p, d, e, l⟩ := q
  obtain ⟨as, r⟩ := Dp.reads I p _ _ d rfl
  obtain ⟨h1, h2⟩ := keyP_num p k e
  exact ⟨keyP_is p k _ as e r, by rw [h2]; exact l, h1⟩
/-- {elt for target in iter}: D the new set -/
def tSN (K : PySem.W.Frag) (w : World) (wi : TI) (g : TG) (te : TE) (vs : List Nat) : TE := fun σ H Q => wi σ H fun J H1 => ∀ D, H1 D = none → ∃ W : Nat → Nat → Hp → Prop, (∃ m, W 0 m (upd H1 D (SetO w D []))) ∧ ∀ i m H, W i m H →
  (J.stop i H ∧ Q (.ref D) H) ∨ (J.go i H ∧ ∃ Nx : Hp → Prop, (∀ H', Nx H' → ∃ m', m' < m ∧ W (i + 1) m' H') ∧ ∀ x H', J.yld i H x H' → g x (wipe σ vs) H' fun σ2 H2 => wipe σ2 vs = wipe σ vs ∧ te σ2 H2 fun y H4 =>
    ∃ (z : Addr) (k : NestedKey) (L : List (Addr × NestedKey)), y = .ref z ∧ KeyAt K H4 k z ∧ H4 D = some (SetO w D L) ∧ (∀ p ∈ L, KeyAt K H4 p.2 p.1) ∧ L.length ≤ 3 ∧ ∀ L', (if k ∈ L.map (·.2) then L' = L else L'.Perm ((z, k) :: L)) → Nx (upd H4 D (SetO w D L')))
theorem pe_sn {elt tg iter : Expr} {scope : Scope} {own : List (PySem.Str × Nat)} {pos : Pos} {wi : TI} {g : TG} {te : TE} (hu : X.A.units + 30 < cLine) (hc : X.calm = true) (hN : X.N.Nodup) (hi : PI X tg iter wi) (ok : BlkOk X.N X.env.scope scope own)
    (hg : ∀ (s : Shared) (H : Hp) (C : Addr) (cl : List (PySem.Str × Addr)) (fp : List Addr), PG (X.blk s H scope (compEnvC scope cl C X.env) fp) tg g)
    (he : ∀ (s : Shared) (H : Hp) (C : Addr) (cl : List (PySem.Str × Addr)) (fp : List Addr), PE (X.blk s H scope (compEnvC scope cl C X.env) fp) elt te) (hs : ∀ x, foldedSetIterable iter X.env x = pure x) :
    PE X (.SetComp elt [⟨tg, iter, [], 0⟩] scope pos) (tSN X.K X.w wi g te (own.map (·.2))) := by
  refine ⟨fun pins s σ H Q I h => ?_⟩
  have caps : ∀ y ∈ scope.names, y.2 = .free → ∃ c, X.env.cells.lookup y.1 = some c := fun y hy e => (ok.free y hy e).elim (fun k => I.ok.has _ (.inl k)) fun k => I.ok.has _ (.inr k)
  rw [PpSet.eval_SetComp]
  refine wpAny_comprehension_free rfl hs (closure_ok caps) ok.kind (fun y hy e => by rw [ok.uniq y hy, e]) (thn (hi.run pins s σ H _ I h) fun xv s1 hx => thn hx fun itv s2 h2 => ?_)
  obtain ⟨it, fp, tn, J, Hb, rfl, I2, T, t2, f2, q⟩ := h2
  refine PpSet.newSet_ok (newEnv_comp ?_)
  generalize hD : s2.heap.objs.size = D
  obtain ⟨W, ⟨m0, w0⟩, turn⟩ := q D (I2.hok.fresh (Nat.le_of_eq hD))
  generalize hob : ({ cls := .type "set", dict := none, data := .set #[] 0 (.fresh 0 0 (!X.w.params.followText "set-order")) } : Obj) = ob
  generalize hHD : upd Hb D (SetO X.w D []) = HD at w0
  generalize hs3 : ({ s2 with heap := s2.heap.push ob } : Shared) = s3
  have p3 : s3.heap = s2.heap.push ob := by rw [← hs3]
  have I3 : Inv X pins σ HD s3 := by
    rw [← hHD, ← hs3]
    refine I2.laid (t' := s2.toks) (fun b o e => Heap.get?_push_of_some _ e) (Nat.le_of_eq hD) ?_
    rw [← hD, ← hob]
    exact setO_new (emptyN s2.heap)
  have small : ∀ b ∈ fp, b < s2.heap.objs.size := fun b hb => (T.obj _ _ t2 b hb).elim fun o e => Heap.lt_size e.1
  have f3 : ∀ b ∈ fp, FpOk X pins HD b ∧ b < s3.heap.objs.size := fun b hb => by
    have lt := small b hb
    refine ⟨⟨?_, (f2 b hb).2⟩, ?_⟩
    · rw [← hHD, upd_ne (fun e => absurd lt (by rw [e, ← hD]; exact Nat.lt_irrefl _))]
      exact (f2 b hb).1
    · rw [p3, Heap.size_push]
      exact Nat.lt_succ_of_lt lt
  have t3 : tn 0 s3.heap := T.keep _ _ _ t2 fun b _ o e => by rw [p3]; exact Heap.get?_push_of_some _ e
  have I4 := block_start I3 ok hN f3
  generalize hcc : cellsFrom (s3.heap.objs.size + 1) scope.names (cloFrom X.env.cells scope.names []) = cc at I4
  have pg := hg s3 HD s3.heap.objs.size cc fp
  have pe := he s3 HD s3.heap.objs.size cc fp
  have pt : PTs (X.blk s3 HD scope (compEnvC scope cc s3.heap.objs.size X.env) fp) [] tYes := pts_nil
  have cL : (compEnvC scope cc s3.heap.objs.size X.env).locals = s3.heap.objs.size := rfl
  show codeAny _ _ (.compStart (.SetComp elt [⟨tg, iter, [], 0⟩] scope pos) 0 (.ref it) (.ref D) (compEnvC scope cc s3.heap.objs.size X.env)) (compPost (model X.prog X.w) X.A X.xe none (EP X pins σ Q) (.ref D) s3.heap.objs.size) { s3 with heap := pushCells (s3.heap.push { cls := .type "dict", data := .dict #[] }) scope.names }
  generalize compEnvC scope cc s3.heap.objs.size X.env = ce at I4 pg pt pe cL ⊢
  generalize hs4 : ({ s3 with heap := pushCells (s3.heap.push { cls := .type "dict", data := .dict #[] }) scope.names } : Shared) = s4 at I4 ⊢
  have t4 : tn 0 s4.heap := T.keep _ _ _ t3 fun b _ o e => by rw [← hs4]; exact pushCells_keeps _ _ _ _ (Heap.get?_push_of_some _ e)
  have held : ∀ {σ' : L2.St} {H' : Hp} {s' : Shared}, Inv (X.blk s3 HD scope ce fp) [] σ' H' s' → (∀ b ∈ fp, H' b = none) → ∀ b ∈ fp, FpOk (X.blk s3 HD scope ce fp) [] H' b := fun {σ' H' s'} I' hn b hb =>
    ⟨hn b hb, (I'.ok.exf b hb).1, I'.ok.exfs b hb, .inl hb, (fun x c e => (I'.ok.exf b hb).2 x c e), fun p hp => absurd (show p ∈ ([] : List (Addr × Obj)) ++ [] from hp) (by simp)⟩
  refine PpSet.codeAny_compStart_set ?_ (T.self X.A 0 _ _ _ t4 ?_)
  all_goals
    refine PpSet.compLoopS_any (fun n s' => ∃ i H', Inv (X.blk s3 HD scope ce fp) [] (wipe σ (own.map (·.2))) H' s' ∧ tn i s'.heap ∧ (∀ b ∈ fp, H' b = none) ∧ W i n H') ?_ m0 ⟨0, HD, I4, t4, fun b hb => (f3 b hb).1.1, w0⟩
    rintro n s5 ⟨i, H5, I5, t5, n5, w5⟩
    rcases turn i n H5 w5 with ⟨stop, qq⟩ | ⟨go, Nx, hNx, step⟩
    · refine thnF (T.done (X.blk s3 HD scope ce fp) rfl rfl rfl hc i [] s5 _ H5 (fun _ _ => False) I5 (held I5 n5) t5 stop) fun r s6 ⟨hr, I6⟩ => ?_
      subst hr
      have I7 : Inv X pins σ H5 s6 := I3.call' (ch := fp) I6.os I6.base I6.hok I6.bare fun b hb => ⟨(f3 b hb).1.2.2.2.1, (f3 b hb).1.2.1, (f3 b hb).1.2.2.2.2.1, (f3 b hb).1.2.2.2.2.2⟩
      have nC : H5 s3.heap.objs.size = none := by
        have z : H5 ce.locals = none := I6.free
        rwa [cL] at z
      obtain ⟨m, hn, _⟩ := I6.loc
      have hn : s6.heap.Ns ce.locals m := hn
      rw [cL] at hn
      obtain ⟨f0, f1, f2', f3', f4, f5⟩ := I3.fpOk (Nat.le_refl _) nC
      exact ⟨m, hn, fun h'' sb => ⟨.ref D, H5, I7.turned (t' := s6.toks) (fun b o hb e => (sb.2 b hb).trans e) f0 f1 f3' f4 f5, rfl, qq⟩⟩
    · refine thnF (T.item (X.blk s3 HD scope ce fp) rfl rfl rfl hc i [] s5 _ H5 (fun _ _ => False) I5 (held I5 n5) t5 go) fun r s6 ⟨u, hr, h6⟩ => ?_
      subst hr
      refine thnF h6 fun _ s7 ⟨x, H7, I7, r7, y7, t7, n7⟩ => ?_
      have J7 := I7.pinned (held I7 n7) (T.obj _ _ t7)
      refine thnF (pg.run _ s7 _ H7 x u _ J7 r7 (step x H7 y7)) fun _ s8 ⟨σ8, H8, I8, hw8, q8⟩ => ?_
      refine thnF (pt.run _ s8 σ8 H8 (fun b H9 => b = true ∧ te σ8 H9 _) I8 ⟨rfl, q8⟩) fun b s9 ⟨H9, I9, hb9, q9⟩ => ?_
      subst hb9
      simp only [if_true]
      refine thnF (pe.run _ s9 σ8 H9 _ I9 q9) fun z s10 ⟨yv, Ha, Ia, ra, za, k, L, ey, hk, hDa, hL, few, nx⟩ => ?_
      subst ey
      cases (show z = Value.ref za from ra)
      refine addO (X := X.blk s3 HD scope ce fp) Ia hDa (fun p hp => KeyAt.isK (X := X.blk s3 HD scope ce fp) (hL p hp) Ia) (KeyAt.isK (X := X.blk s3 HD scope ce fp) hk Ia) hu few fun L' s11 eL I11 => ?_
      obtain ⟨m', hm, w'⟩ := hNx _ (nx L' eL)
      have pin' : ∀ b ∈ fp, ∀ o, s7.heap.get? b = some o → s11.heap.get? b = some o ∧ upd Ha D (SetO X.w D L') b = none := fun b hb o e =>
        let y := I11.pin (b, o) (List.mem_append_right _ (List.mem_append_right _ (mem_pinsAt hb e)))
        ⟨y.1, y.2.1⟩
      refine ⟨m', hm, i + 1, _, (I11.unpinned (pins := [])).weak (by rw [← hw8, wipe_length]) (fun j v e => ?_), T.keep _ _ _ t7 fun b hb o e => (pin' b hb o e).1, fun b hb => ?_, w'⟩
      · rw [← hw8] at e
        exact (wipe_some e).1
      · obtain ⟨o, e, _⟩ := T.obj _ _ t7 b hb
        exact (pin' b hb o e).2
end
end Zs
/-! text ZS4 -/
/-! ZS4: sorted of a small set of nested keys; sorted({.. for ..}) as a function of data. -/
namespace Zs
open PySem PySem.Spec PyProof.Rows L2 Z
mutual
theorem eqv_key : ∀ (p q : PyData) (k l : NestedKey), keyP p = some k → keyP q = some l → PyData.eqv p q = true → p = q
  | .int i, .int j, _, _, _, _, e => by rw [PyData.eqv, beq_iff_eq] at e; rw [e]
  | .tuple xs, .tuple ys, k, l, a, b, e => by
    rw [PyData.eqv] at e
    rw [keyP] at a b
    cases q1 : keyPs xs with
    | none => rw [q1] at a; cases a
    | some ks => cases q2 : keyPs ys with
      | none => rw [q2] at b; cases b
      | some ls => rw [eqv_keys xs ys ks ls q1 q2 e]
  | .int _, .tuple _, _, _, _, _, e => by simp [PyData.eqv] at e
  | .tuple _, .int _, _, _, _, _, e => by simp [PyData.eqv] at e
  | .none, _, _, _, e, _, _ => by simp [keyP] at e
  | .bool _, _, _, _, e, _, _ => by simp [keyP] at e
  | .str _, _, _, _, e, _, _ => by simp [keyP] at e
  | .list _, _, _, _, e, _, _ => by simp [keyP] at e
  | .dict _, _, _, _, e, _, _ => by simp [keyP] at e
  | .int _, .none, _, _, _, f, _ => by simp [keyP] at f
  | .int _, .bool _, _, _, _, f, _ => by simp [keyP] at f
  | .int _, .str _, _, _, _, f, _ => by simp [keyP] at f
  | .int _, .list _, _, _, _, f, _ => by simp [keyP] at f
  | .int _, .dict _, _, _, _, f, _ => by simp [keyP] at f
  | .tuple _, .none, _, _, _, f, _ => by simp [keyP] at f
  | .tuple _, .bool _, _, _, _, f, _ => by simp [keyP] at f
  | .tuple _, .str _, _, _, _, f, _ => by simp [keyP] at f
  | .tuple _, .list _, _, _, _, f, _ => by simp [keyP] at f
  | .tuple _, .dict _, _, _, _, f, _ => by simp [keyP] at f
theorem eqv_keys : ∀ (ps qs : List PyData) (ks ls : List NestedKey), keyPs ps = some ks → keyPs qs = some ls → PyData.eqvAll ps qs = true → ps = qs
  | [], [], _, _, _, _, _ => rfl
  | [], _ :: _, _, _, _, _, e => by simp [PyData.eqvAll] at e
  | _ :: _, [], _, _, _, _, e => by simp [PyData.eqvAll] at e
  | p :: ps, q :: qs, ks, ls, a, b, e => by
    rw [PyData.eqvAll, Bool.and_eq_true] at e
    rw [keyPs] at a b
    cases a1 : keyP p with
    | none => rw [a1] at a; cases a
    | some k => cases a2 : keyPs ps with
      | none => rw [a1, a2] at a; cases a
      | some kk => cases b1 : keyP q with
        | none => rw [b1] at b; cases b
        | some l => cases b2 : keyPs qs with
          | none => rw [b1, b2] at b; cases b
          | some ll => rw [eqv_key p q k l a1 b1 e.1, eqv_keys ps qs kk ll a2 b2 e.2]
end
/-- of two keys that are alike and different, one is less -/
theorem lt_one {p q : PyData} {k l : NestedKey} (hp : keyP p = some k) (hq : keyP q = some l) (al : PySem.W.alike p q = true) (h1 : PySem.W.dataLt p q = false) (h2 : PySem.W.dataLt q p = false) : p = q := by
  have e : PySem.W.keyToks p = PySem.W.keyToks q := lex_total _ _ h1 h2
  cases v : PyData.eqv p q with
  | true => exact eqv_key p q k l hp hq v
  | false =>
    have z := (PySem.W.toks_eqv p q al).2 v [] [.inl 0]
    rw [e, List.append_nil, show PyProof.Rows.lexLt itemOrd (PySem.W.keyToks q) (PySem.W.keyToks q) = false from lex_irrefl _] at z
    have z2 := PySem.W.lex_pre (PySem.W.keyToks q) [] [.inl 0]
    rw [List.append_nil, z] at z2
    exact absurd z2 (by decide)
mutual
theorem key_as {h : Heap} : ∀ (p : PyData) (k : NestedKey) (v : Value) (as : List Addr), keyP p = some k → Reads h v p as → as = []
  | .int i, _, _, _, _, r => by cases r; rfl
  | .tuple ds, k, v, as, e, r => by
    rw [keyP] at e
    cases q : keyPs ds with
    | none => rw [q] at e; cases e
    | some ks => cases r with
      | tuple ho hc hd hr => exact keys_as ds ks _ _ q hr
  | .none, _, _, _, e, _ => by simp [keyP] at e
  | .bool _, _, _, _, e, _ => by simp [keyP] at e
  | .str _, _, _, _, e, _ => by simp [keyP] at e
  | .list _, _, _, _, e, _ => by simp [keyP] at e
  | .dict _, _, _, _, e, _ => by simp [keyP] at e
theorem keys_as {h : Heap} : ∀ (ps : List PyData) (ks : List NestedKey) (vs : List Value) (as : List Addr), keyPs ps = some ks → ReadsAll h vs ps as → as = []
  | [], _, _, _, _, r => by cases r; rfl
  | p :: ps, ks, vs, as, e, r => by
    rw [keyPs] at e
    cases q1 : keyP p with
    | none => rw [q1] at e; cases e
    | some k => cases q2 : keyPs ps with
      | none => rw [q1, q2] at e; cases e
      | some ks2 => cases r with
        | cons r1 r2 => rw [key_as p k _ _ q1 r1, keys_as ps ks2 _ _ q2 r2]; rfl
end
theorem sort_uniq {β : Type} (f : β → PyData) {l m : List β} (pm : l.Perm m) (al : PySem.W.AllAlike (m.map f)) (ky : ∀ b ∈ m, ∃ k, keyP (f b) = some k) (inj : ∀ b ∈ m, ∀ c ∈ m, f b = f c → b = c) :
    l.mergeSort (PySem.W.dataLe false f) = m.mergeSort (PySem.W.dataLe false f) := by
  have T : PySem.W.TotalLe (PySem.W.dataLe false f) := PySem.W.sortLe_total _ false _
  have tot : ∀ a b, (PySem.W.dataLe false f a b || PySem.W.dataLe false f b a) = true := fun a b => by
    rcases T.total a b with h | h
    · rw [h]; rfl
    · rw [h, Bool.or_true]
  refine List.Perm.eq_of_pairwise (le := fun a b => PySem.W.dataLe false f a b = true) (fun a b ha hb h1 h2 => ?_) (List.pairwise_mergeSort T.trans tot l) (List.pairwise_mergeSort T.trans tot m) (((List.mergeSort_perm l _).trans pm).trans (List.mergeSort_perm m _).symm)
  have ha : a ∈ m := pm.mem_iff.mp ((List.mergeSort_perm l _).mem_iff.mp ha)
  have hb : b ∈ m := (List.mergeSort_perm m _).mem_iff.mp hb
  rw [PySem.W.dataLe_eq] at h1 h2
  simp only [cond_false, Bool.not_eq_true'] at h1 h2
  obtain ⟨k, hk⟩ := ky a ha
  obtain ⟨l', hl⟩ := ky b hb
  exact inj a ha b hb (lt_one hk hl (al _ (List.mem_map.mpr ⟨a, ha, rfl⟩) _ (List.mem_map.mpr ⟨b, hb, rfl⟩)) h2 h1)
theorem perm_map {α β : Type} {f : α → β} {l l' : List β} (pm : l.Perm l') : ∀ m : List α, l' = m.map f → ∃ n : List α, n.Perm m ∧ l = n.map f := by
  induction pm with
  | nil => intro m e; have : m = [] := by simpa using e.symm
           subst this; exact ⟨[], .refl _, rfl⟩
  | cons x p ih =>
    intro m e
    cases m with
    | nil => cases e
    | cons y m =>
      rw [List.map_cons] at e
      injection e with e1 e2
      obtain ⟨n, h1, h2⟩ := ih m e2
      exact ⟨y :: n, h1.cons y, by rw [List.map_cons, e1, h2]⟩
  | swap x y l =>
    intro m e
    match m, e with
    | a :: b :: m, e =>
      simp only [List.map_cons, List.cons.injEq] at e
      obtain ⟨rfl, rfl, rfl⟩ := e
      exact ⟨b :: a :: m, .swap _ _ _, rfl⟩
  | trans p1 p2 ih1 ih2 =>
    intro m e
    obtain ⟨n, h1, h2⟩ := ih2 m e
    obtain ⟨n', h3, h4⟩ := ih1 n h2
    exact ⟨n', h3.trans h1, h4⟩
/-- sorted(s), s a small set of nested keys -/
def rSortSet (K : PySem.W.Frag) (w : World) : List V → Hp → VK → Prop := fun vs H Q => ∃ (a : Addr) (L L0 : List (Addr × NestedKey)) (bs : List (V × PyData)), vs = [.ref a] ∧ H a = some (SetO w a L) ∧ L.Perm L0 ∧ (bs.map (fun b => (b.1, keyP b.2)) = L0.map fun q => (V.ref q.1, some q.2)) ∧ (∀ b ∈ bs, Dp K H b.1 b.2) ∧
  PySem.W.AllAlike (bs.map (·.2)) ∧ PySem.W.Sortable (bs.map (·.2)) ∧ (∀ b ∈ bs, b.2.depth ≤ 60) ∧ ∀ p, H p = none → Q (.ref p) (upd H p (.lst ((bs.mergeSort (PySem.W.dataLe false (·.2))).map (·.1))))
def valOf (b : V × PyData) : Value := match b.1 with
  | .ref a => .ref a
  | _ => .none
section
variable {X : Cx}
theorem cr_sortSet (hu : X.A.units + 100 < cLine) (hh : X.A.handled = none) : CallR X (.builtin "sorted") (rSortSet X.K X.w) := by
  intro pins s σ H vs us Q I rv q
  obtain ⟨a, L, L0, bs, rfl, ha, pL, eL, hd, h1, h2, h3, q⟩ := q
  obtain ⟨u, rfl, ru⟩ := rv.one
  cases ru
  obtain ⟨es, ep, t, R⟩ := setO_get I ha
  obtain ⟨o, ho, hex, hdat⟩ := R.ob
  have hsz := R.size
  have few := R.few
  have hbr : ∀ b ∈ bs, ∃ z, b.1 = .ref z ∧ ∃ k, keyP b.2 = some k := fun b hb => by
    have : (b.1, keyP b.2) ∈ L0.map fun q => (V.ref q.1, some q.2) := by rw [← eL]; exact List.mem_map.mpr ⟨b, hb, rfl⟩
    obtain ⟨q, _, e⟩ := List.mem_map.mp this
    injection e with e1 e2
    exact ⟨q.1, e1.symm, q.2, e2.symm⟩
  have nd : (bs.map (·.2)).Nodup := by
    have n1 : (L0.map (·.2)).Nodup := (pL.map (·.2)).nodup_iff.mp R.nd
    have n2 : (bs.map fun b => keyP b.2).Nodup := by
      have e2 : (bs.map fun b => keyP b.2) = (L0.map (·.2)).map some := by
        have := congrArg (List.map Prod.snd) eL
        rw [List.map_map, List.map_map] at this
        rw [List.map_map]
        exact this
      rw [e2]
      exact List.pairwise_map.mpr (n1.imp fun hne e => hne (Option.some.inj e))
    refine List.pairwise_map.mpr ((List.pairwise_map.mp n2).imp fun hne e => hne (congrArg keyP e))
  have inj : ∀ b ∈ bs, ∀ c ∈ bs, b.2 = c.2 → b = c := by
    intro b hb c hc e
    obtain ⟨i, hi, ei⟩ := List.getElem_of_mem hb
    obtain ⟨j, hj, ej⟩ := List.getElem_of_mem hc
    have := List.pairwise_iff_getElem.mp nd
    rcases Nat.lt_trichotomy i j with z | z | z
    · exact absurd (by rw [List.getElem_map, List.getElem_map, ei, ej]; exact e) (this i j (by simpa using hi) (by simpa using hj) z)
    · subst z; rw [← ei, ← ej]
    · exact absurd (by rw [List.getElem_map, List.getElem_map, ei, ej]; exact e.symm) (this j i (by simpa using hj) (by simpa using hi) z)
  have hev : es.toList.map (·.2) = L.map fun q => Value.ref q.1 := by
    rw [R.rows, List.map_map]
    rfl
  have hbv : (L0.map fun q => Value.ref q.1) = bs.map valOf := by
    have := congrArg (List.map fun z : V × Option NestedKey => valOf (z.1, PyData.none)) eL
    rw [List.map_map, List.map_map] at this
    exact this.symm
  refine Calls.call_function_entry kind_sorted plain_sorted entry_sorted (args_sorted1 _) ?_
  unfold Builtin.«sorted»
  refine wpAny_bind (m := checkCount "sorted" 1 1 _) (wpAny_pure ?_)
  refine wpAny_bind (collect_set (A := X.A.in1) hh ⟨o, ho, hex.1, hdat⟩ R.fits (by unfold scanBound; omega) R.tab.ris R.led fun s1 vs k1 hz g1 o1 pm => ?_)
  rw [hev] at pm
  obtain ⟨n, pn, rfl⟩ := perm_map (pm.trans (pL.map _)) bs hbv
  have hlen : n.length ≤ 4 := by
    have e1 := congrArg List.length eL
    rw [List.length_map, List.length_map] at e1
    have e2 := pL.length_eq
    have e3 := pn.length_eq
    omega
  refine wpAny_bind (wpAny_newList ?_ (by rw [sizeLine_eq, List.length_map]; omega))
  have hoL : (s1.heap.push (seqObj "list" (n.map valOf).toArray 0)).get? s1.heap.objs.size = some (seqObj "list" (n.map valOf).toArray 0) := Heap.get?_push_size _ rfl
  have hnb : ∀ b ∈ n, b ∈ bs := fun b hb => pn.mem_iff.mp hb
  have e1 : PySem.W.EachIs (fun u (b : V × PyData) => RelV b.1 u) (n.map valOf) n := by
    clear pm hoL pn hlen
    induction n with
    | nil => exact .nil
    | cons b n ih =>
      refine .cons ?_ (ih fun c hc => hnb c (List.mem_cons_of_mem _ hc))
      obtain ⟨z, ez, _⟩ := hbr b (hnb b List.mem_cons_self)
      unfold valOf
      rw [ez]
      rfl
  have rd : ∀ b ∈ bs, Reads s.heap (valOf b) b.2 [] := fun b hb => by
    obtain ⟨z, ez, k, ek⟩ := hbr b hb
    obtain ⟨as, r⟩ := Dp.reads I b.2 b.1 (.ref z) (hd b hb) (by rw [ez]; rfl)
    rw [key_as b.2 k _ _ ek r] at r
    unfold valOf
    rw [ez]
    exact r
  have up : ∀ b ∈ n, ∃ as, Reads (s1.heap.push (seqObj "list" (n.map valOf).toArray 0)) (valOf b) b.2 as ∧ s1.heap.objs.size ∉ as := fun b hb =>
    ⟨[], PyProof.Rows.Reads.keeps (fun c o e => Heap.get?_push_of_some _ (k1 c o e)) (rd b (hnb b hb)), by simp⟩
  have e2 : ∀ m : List (V × PyData), (∀ b ∈ m, b ∈ n) → PySem.W.EachIs (fun u (b : V × PyData) => ∃ as, Reads (s1.heap.push (seqObj "list" (n.map valOf).toArray 0)) u b.2 as ∧ s1.heap.objs.size ∉ as) (m.map valOf) m := by
    intro m hm
    induction m with
    | nil => exact .nil
    | cons b m ih => exact .cons (up b (hm b List.mem_cons_self)) (ih fun c hc => hm c (List.mem_cons_of_mem _ hc))
  have al1 : PySem.W.AllAlike (n.map (·.2)) := fun d hd' d' hd2 => h1 d ((pn.map _).mem_iff.mp hd') d' ((pn.map _).mem_iff.mp hd2)
  have so1 : PySem.W.Sortable (n.map (·.2)) := h2.elim (fun z => .inl fun d hd' => z d ((pn.map _).mem_iff.mp hd')) fun z => .inr fun d hd' => z d ((pn.map _).mem_iff.mp hd')
  have uq : n.mergeSort (PySem.W.dataLe false (·.2)) = bs.mergeSort (PySem.W.dataLe false (·.2)) := sort_uniq (·.2) pn h1 (fun b hb => let ⟨_, _, k, ek⟩ := hbr b hb; ⟨k, ek⟩) inj
  refine wpAny_bind (wpAny_holding (PySem.W.list_sort_data (s := { s1 with heap := s1.heap.push (seqObj "list" (n.map valOf).toArray 0) }) (enc := fun b : V × PyData => b.2) hoL e1 (e2 n fun _ h => h) al1 so1 (by rw [sizeLine_eq]; omega) (fun b hb => by have := h3 b (hnb b hb); show X.A.units + 1 + 1 + _ < _; omega) fun out lo eo => ?_))
  obtain ⟨c, hc⟩ := sortedHeap_at (vs := n.map valOf) (out := out.toArray) hoL
  rw [uq] at eo
  have kk : ∀ b u, s.heap.get? b = some u → (sortedHeap (s1.heap.push (seqObj "list" (n.map valOf).toArray 0)) s1.heap.objs.size (n.map valOf) out.toArray).get? b = some u := fun b u e => by
    have q := k1 b u e
    have hlt := Heap.lt_size q
    rw [sortedHeap_old (Nat.ne_of_lt hlt) (by rw [size_push']; exact Nat.lt_succ_of_lt hlt)]
    exact Heap.get?_push_of_some _ q
  have hn := I.hok.fresh hz
  have lb : (bs.mergeSort (PySem.W.dataLe false (·.2))).length ≤ 4 := by rw [← uq, List.length_mergeSort]; exact hlen
  have J := I.call' (s' := { s1 with heap := sortedHeap (s1.heap.push (seqObj "list" (n.map valOf).toArray 0)) s1.heap.objs.size (n.map valOf) out.toArray }) (ch := []) o1 (Un.laid kk hz hn) (I.hok.laid (o := .lst ((bs.mergeSort (PySem.W.dataLe false (·.2))).map (·.1))) kk hz ⟨by rw [List.length_map, sizeLine_eq]; omega, out, c, vals_each eo, hc⟩) (by show AllBare s1.gens; rw [g1]; exact I.bare) (fun _ z => nomatch z)
  exact wpAny_pure ⟨_, rfl, .ref s1.heap.objs.size, _, J, rfl, q _ hn⟩
end
end Zs
/-! text Z21 -/
/-! Z21: sorted({elt for .. in ..}) over at most four nested keys, as a function of data. -/
namespace Z
open PySem PySem.Spec PyProof.Rows L2 Zs
def addP (acc : List PyData) (p : PyData) : List PyData := if (acc.any fun q => decide (keyP q = keyP p)) = true then acc else acc ++ [p]
def uniqP (ps : List PyData) : List PyData := ps.foldl addP []
def keyOk (p : PyData) : Bool := match p with
  | .tuple _ => (keyP p).isSome && decide (p.depth ≤ 8)
  | _ => false
def sortSet (ys : List D) (h : Hd) : Out D := match rfsW (rfR 8 h) ys with
  | some ps => if (ps.length ≤ 4 ∧ ys = ps.map tD) ∧ ps.all keyOk = true ∧ alikeL ps = true then mkLst (((uniqP ps).mergeSort (PySem.W.dataLe false id)).map tD) h else .fail
  | none => .fail
def xSortC (mi : XI) (g : XG) (m : XE) (own : List Nat) : XE := fun en h => (mi en h).bind fun it h1 => (compL it.gd g xYes m (wipeE en own) it.ds h1).bind sortSet
section
variable {K : PySem.W.Frag} {cl : Str → Addr} {r : List Addr} {h : Hd} {H : Hp}
theorem keepX {p : Addr} {φ : Heap → Prop} {o' : HO} (hp : H p = some (.ext φ)) : Keep K r H r (upd H p o') := by
  have ne : ∀ a o, H a = some o → (∀ f, o ≠ .ext f) → upd H p o' a = some o := fun a o e n => by
    rw [upd_ne]
    · exact e
    · rintro rfl
      rw [hp] at e
      cases e
      exact n _ rfl
  refine ⟨fun a vs s => ?_, fun a vs s => ?_, fun _ _ e => e⟩
  · rcases s with (s | ⟨o, s⟩) | s
    · exact .inl (.inl (ne _ _ s fun _ e => nomatch e))
    · exact .inl (.inr ⟨o, ne _ _ s fun _ e => nomatch e⟩)
    · exact .inr s
  · rcases s with ⟨o, s⟩ | s
    · exact .inl ⟨o, ne _ _ s fun _ e => nomatch e⟩
    · exact .inr s
theorem RelH.otherX {p : Addr} {φ : Heap → Prop} {o' : HO} (R : RelH K cl r h H) (hp : H p = some (.ext φ)) (np : p ∉ r) : RelH K cl r h (upd H p o') :=
  ⟨R.len, R.nd, fun n mo a h1 h2 => by
    obtain ⟨o, q1, q2⟩ := R.ob n mo a h1 h2
    exact ⟨o, by rw [upd_ne (fun e => np (by rw [← e]; exact List.mem_of_getElem? h2))]; exact q1, q2.mono (keepX hp)⟩⟩
mutual
theorem dp_key : ∀ (p : PyData) (k : NestedKey) (v : V), keyP p = some k → RelD K r H (tD p) v → Dp K H v p
  | .int i, _, _, _, q => by cases q; exact .int i
  | .tuple ds, k, v, e, q => by
    rw [keyP] at e
    cases q1 : keyPs ds with
    | none => rw [q1] at e; cases e
    | some ks =>
      rw [tD] at q
      cases q with
      | tup s m => exact .tup s (dp_keys ds ks _ q1 m)
  | .none, _, _, e, _ => by simp [keyP] at e
  | .bool _, _, _, e, _ => by simp [keyP] at e
  | .str _, _, _, e, _ => by simp [keyP] at e
  | .list _, _, _, e, _ => by simp [keyP] at e
  | .dict _, _, _, e, _ => by simp [keyP] at e
theorem dp_keys : ∀ (ps : List PyData) (ks : List NestedKey) (vs : List V), keyPs ps = some ks → RelDs K r H (tD.tDs ps) vs → DpAll K H vs ps
  | [], _, _, _, q => by cases q; exact .nil
  | p :: ps, ks, vs, e, q => by
    rw [keyPs] at e
    cases q1 : keyP p with
    | none => rw [q1] at e; cases e
    | some k => cases q2 : keyPs ps with
      | none => rw [q1, q2] at e; cases e
      | some ks2 =>
        rw [tD.tDs] at q
        cases q with
        | cons a b => exact .cons (dp_key p k _ q1 a) (dp_keys ps ks2 _ q2 b)
end
theorem keyOk_tup {p : PyData} (e : keyOk p = true) : ∃ ds k, p = .tuple ds ∧ keyP p = some k ∧ p.depth ≤ 8 := by
  unfold keyOk at e
  split at e
  · rename_i ds
    rw [Bool.and_eq_true] at e
    obtain ⟨k, hk⟩ := Option.isSome_iff_exists.mp e.1
    exact ⟨ds, k, rfl, hk, of_decide_eq_true e.2⟩
  · cases e
/-- what is in the set after some items -/
structure Got (K : PySem.W.Frag) (r : List Addr) (H : Hp) (ps : List PyData) (L : List (Addr × NestedKey)) (us : List (V × PyData)) : Prop where
  fst : us.map (·.2) = uniqP ps
  rel : ∀ b ∈ us, RelD K r H (tD b.2) b.1
  ks : ∃ L0, L.Perm L0 ∧ us.map (fun b => (b.1, keyP b.2)) = L0.map fun q => (V.ref q.1, some q.2)
theorem uniqP_sub : ∀ (ps acc : List PyData), (∀ q ∈ acc, q ∈ ps ∨ q ∈ acc) → ∀ q ∈ ps.foldl addP acc, q ∈ ps ∨ q ∈ acc
  | [], acc, _, q, h => .inr h
  | p :: ps, acc, _, q, h => by
    have := uniqP_sub ps (addP acc p) (fun q h => .inr h) q h
    rcases this with z | z
    · exact .inl (List.mem_cons_of_mem _ z)
    · unfold addP at z
      split at z
      · exact .inr z
      · rcases List.mem_append.mp z with z | z
        · exact .inr z
        · exact .inl (by rw [List.mem_singleton.mp z]; exact List.mem_cons_self)
theorem uniqP_mem {ps : List PyData} {q : PyData} (h : q ∈ uniqP ps) : q ∈ ps := (uniqP_sub ps [] (fun q h => .inr h) q h).elim id fun z => nomatch z
theorem uniqP_len (ps : List PyData) : (uniqP ps).length ≤ ps.length := by
  have : ∀ (ps acc : List PyData), (ps.foldl addP acc).length ≤ acc.length + ps.length := by
    intro ps
    induction ps with
    | nil => intro acc; simp
    | cons p ps ih =>
      intro acc
      have h1 := ih (addP acc p)
      have h2 : (addP acc p).length ≤ acc.length + 1 := by unfold addP; split <;> simp
      rw [List.foldl_cons, List.length_cons]
      omega
  have := this ps []
  unfold uniqP
  simpa using this
theorem Got.more {ps : List PyData} {L L' : List (Addr × NestedKey)} {us : List (V × PyData)} {p : PyData} {k : NestedKey} {z : Addr} (G : Got K r H ps L us) (hk : keyP p = some k) (q : RelD K r H (tD p) (.ref z))
    (e : if k ∈ L.map (·.2) then L' = L else L'.Perm ((z, k) :: L)) : ∃ us', Got K r H (ps ++ [p]) L' us' := by
  obtain ⟨L0, pm, eq⟩ := G.ks
  have key : (∃ b ∈ us, keyP b.2 = some k) ↔ k ∈ L.map (·.2) := by
    have e1 : us.map (fun b => keyP b.2) = L0.map fun q => some q.2 := by
      have := congrArg (List.map Prod.snd) eq
      rw [List.map_map, List.map_map] at this
      exact this
    have e2 : some k ∈ us.map (fun b => keyP b.2) ↔ ∃ b ∈ us, keyP b.2 = some k := List.mem_map
    rw [← e2, e1, (pm.map (·.2)).mem_iff]
    constructor
    · intro h
      obtain ⟨q, hq, e⟩ := List.mem_map.mp h
      exact List.mem_map.mpr ⟨q, hq, Option.some.inj e⟩
    · intro h
      obtain ⟨q, hq, e⟩ := List.mem_map.mp h
      exact List.mem_map.mpr ⟨q, hq, by rw [e]⟩
  have ha : ((uniqP ps).any fun q => decide (keyP q = keyP p)) = true ↔ k ∈ L.map (·.2) := by
    rw [← key, List.any_eq_true, ← G.fst, hk]
    constructor
    · rintro ⟨x, hx, e⟩
      obtain ⟨b, hb, rfl⟩ := List.mem_map.mp hx
      exact ⟨b, hb, of_decide_eq_true e⟩
    · rintro ⟨b, hb, e⟩
      exact ⟨b.2, List.mem_map.mpr ⟨b, hb, rfl⟩, decide_eq_true e⟩
  have fo : uniqP (ps ++ [p]) = addP (uniqP ps) p := by
    unfold uniqP
    rw [List.foldl_append]
    rfl
  by_cases hm : k ∈ L.map (·.2)
  · rw [if_pos hm] at e
    subst e
    exact ⟨us, by rw [fo, addP, if_pos (ha.mpr hm)]; exact G.fst, G.rel, L0, pm, eq⟩
  · rw [if_neg hm] at e
    refine ⟨us ++ [(.ref z, p)], ?_, fun b hb => ?_, L0 ++ [(z, k)], ?_, ?_⟩
    · rw [fo, addP, if_neg (fun h => hm (ha.mp h)), List.map_append, G.fst]
      rfl
    · rcases List.mem_append.mp hb with hb | hb
      · exact G.rel b hb
      · rw [List.mem_singleton.mp hb]
        exact q
    · exact e.trans ((pm.cons _).trans (List.perm_append_singleton _ _).symm)
    · rw [List.map_append, eq, List.map_append]
      show _ ++ [(V.ref z, keyP p)] = _ ++ [(V.ref z, some k)]
      rw [hk]
theorem Got.mono {ps : List PyData} {L : List (Addr × NestedKey)} {us : List (V × PyData)} {r' : List Addr} {H' : Hp} (G : Got K r H ps L us) (k : Keep K r H r' H') : Got K r' H' ps L us := ⟨G.fst, fun b hb => (G.rel b hb).mono k, G.ks⟩
theorem rel_sorted {us : List (V × PyData)} (q : ∀ b ∈ us, RelD K r H (tD b.2) b.1) : RelDs K r H ((((us.map (·.2)).mergeSort (PySem.W.dataLe false id))).map tD) ((us.mergeSort (PySem.W.dataLe false (·.2))).map (·.1)) := by
  have s1 : (us.mergeSort (PySem.W.dataLe false (·.2))).map (·.2) = (us.map (·.2)).mergeSort (PySem.W.dataLe false id) := List.map_mergeSort (s := PySem.W.dataLe false (id : PyData → PyData)) (fun a _ b _ => by rfl)
  rw [← s1, List.map_map]
  have : ∀ l : List (V × PyData), (∀ b ∈ l, b ∈ us) → RelDs K r H (l.map fun b => tD b.2) (l.map (·.1)) := by
    intro l
    induction l with
    | nil => intro _; exact .nil
    | cons b l ih => intro hl; exact .cons (q b (hl b List.mem_cons_self)) (ih fun c hc => hl c (List.mem_cons_of_mem _ hc))
  exact this _ fun b hb => (List.mergeSort_perm us _).mem_iff.mp hb
end
section
variable {X : Cx} {cl : Str → Addr} {E : XK} {elt tg iter : Expr} {scope : Scope} {own : List (Str × Nat)} {pos : Pos} {mi : XI} {g : XG} {m : XE}
theorem sn_read {K : PySem.W.Frag} {w : World} {σ : L2.St} {H : Hp} {Q : VK} {r : List Addr} {h : Hd} {en : En} {ws : List Nat} {E : XK} (R : RelH K cl r h H) (e : RelE K r H en σ) (p : Post K cl r H E (PV K Q) (xSortC mi g m ws en h)) :
    tSN K w (TIm K cl E mi) (TGm K cl E00 ws g) (TDm K cl E00 m) ws σ H fun v H1 => rSortSet K w [v] H1 Q := by
  refine ⟨r, h, en, R, e, (Post.bind p).imp fun it r0 h0 H0 e0 R0 p0 J hJ D hD => ?_⟩
  have w0 : RelE K r0 H0 (wipeE en ws) (wipe σ ws) := (e.mono (R.keep e0)).wipe ws
  cases hc : compL it.gd g xYes m (wipeE en ws) it.ds h0 with
  | fail => rw [hc] at p0; exact p0.elim
  | exc c fs hx => exact (compL_no hc).elim
  | ok YS hF =>
    rw [hc] at p0
    have p1 : Post K cl r0 H0 E (PV K Q) (sortSet YS hF) := p0
    clear p0
    unfold sortSet at p1
    split at p1
    · rename_i PS hps
      split at p1
      · rename_i hcond
        obtain ⟨⟨hl4, rfl⟩, hall, hal⟩ := hcond
        have kok : ∀ q ∈ PS, keyOk q = true := fun q hq => List.all_eq_true.mp hall q hq
        have nD : D ∉ r0 := R0.not_none hD
        refine ⟨fun i n H => n = it.ds.length - i ∧ i ≤ it.ds.length ∧ ∃ r h j L us ys, Ext r0 H0 r H ∧ RelH K cl r h H ∧ H D = some (SetO w D L) ∧ D ∉ r ∧ Got K r H (PS.take j) L us ∧ RelE K r H (wipeE en ws) (wipe σ ws) ∧
          compL it.gd g xYes m (wipeE en ws) (it.ds.drop i) h = .ok ys hF ∧ ys = (PS.drop j).map tD ∧ j ≤ PS.length, ⟨_, rfl, Nat.zero_le _, r0, h0, 0, [], [], PS.map tD, ?_, R0.new hD, upd_same, nD, ⟨rfl, fun _ h => (nomatch h), [], .refl _, rfl⟩, w0.mono (R0.keep (Ext.new R0 hD)), by rw [List.drop_zero]; exact hc, by rw [List.drop_zero], Nat.zero_le _⟩, ?_⟩
        · exact ⟨⟨[], by simp⟩, fun a o q n => ⟨by rw [upd_ne (ne_of_none q hD)]; exact q, n⟩⟩
        rintro i n H ⟨rfl, hle, r, h, j, L, us, ys, e1, R1, hDa, nDr, G1, w1, hcl, hy, hj⟩
        by_cases hi : i < it.ds.length
        · have hd : it.ds.drop i = it.ds[i] :: it.ds.drop (i + 1) := by rw [List.drop_eq_getElem_cons hi]
          rw [hd] at hcl
          simp only [compL] at hcl
          by_cases hgd : gdOk it.gd h
          · rw [if_pos hgd] at hcl
            obtain ⟨go, yl⟩ := (hJ r h H (R0.keep e1) R1 hgd i).2 it.ds[i] (List.getElem?_eq_getElem hi)
            refine .inr ⟨go, fun H' => ∃ r h j L us ys, Ext r0 H0 r H' ∧ RelH K cl r h H' ∧ H' D = some (SetO w D L) ∧ D ∉ r ∧ Got K r H' (PS.take j) L us ∧ RelE K r H' (wipeE en ws) (wipe σ ws) ∧
              compL it.gd g xYes m (wipeE en ws) (it.ds.drop (i + 1)) h = .ok ys hF ∧ ys = (PS.drop j).map tD ∧ j ≤ PS.length, fun H' z => ⟨_, by omega, rfl, hi, z⟩, fun x H' hyl => ?_⟩
            obtain ⟨e2, R2, q2⟩ := yl x H' hyl
            cases hg2 : g it.ds[i] (wipeE en ws) h with
            | nx en1 h1 =>
              rw [hg2] at hcl
              dsimp only [xYes] at hcl
              refine ⟨r, h, wipeE en ws, it.ds[i], R2, w1.mono (R1.keep e2), q2, ?_⟩
              rw [hg2]
              intro r3 H3 σ3 e3 R3 q3 hw
              refine ⟨hw.trans wipe_idem, r3, h1, en1, R3, q3, ?_⟩
              cases hm2 : m en1 h1 with
              | ok y h3 =>
                rw [hm2] at hcl
                dsimp only at hcl
                intro r5 H5 e5 R5 v q5
                have e15 : Ext r H r5 H5 := (e2.trans e3).trans e5
                obtain ⟨hD5, nD5⟩ := e15.fr D _ hDa nDr
                have k5 := R1.keep e15
                cases hcl2 : compL it.gd g xYes m (wipeE en ws) (it.ds.drop (i + 1)) h3 with
                | ok ys2 h4 =>
                  rw [hcl2] at hcl
                  dsimp only at hcl
                  have hys : y :: ys2 = ys ∧ h4 = hF := by
                    injection hcl with z1 z2
                    exact ⟨z1, z2⟩
                  obtain ⟨rfl, rfl⟩ := hys
                  have hjl : j < PS.length := by
                    rcases Nat.lt_or_ge j PS.length with z | z
                    · exact z
                    · rw [List.drop_of_length_le z] at hy
                      cases hy
                  have hdr : PS.drop j = PS[j] :: PS.drop (j + 1) := List.drop_eq_getElem_cons hjl
                  rw [hdr, List.map_cons] at hy
                  injection hy with hy1 hy2
                  subst hy1
                  obtain ⟨ds, k, et, hk, hdp⟩ := keyOk_tup (kok PS[j] (List.getElem_mem hjl))
                  obtain ⟨z, rfl⟩ : ∃ z, v = .ref z := by
                    rw [et] at q5
                    rw [tD] at q5
                    cases q5
                    exact ⟨_, rfl⟩
                  have G5 := G1.mono k5
                  have hLl : L.length ≤ j := by
                    obtain ⟨L0, pm, eq⟩ := G1.ks
                    have a1 := congrArg List.length eq
                    have a2 := congrArg List.length G1.fst
                    have a3 := uniqP_len (PS.take j)
                    rw [List.length_map, List.length_map] at a1
                    rw [List.length_map] at a2
                    rw [List.length_take] at a3
                    have a4 := pm.length_eq
                    omega
                  refine ⟨z, k, L, rfl, ⟨PS[j], dp_key _ _ _ hk q5, hk, hdp⟩, hD5, fun b hb => ?_, by omega, fun L' eL => ?_⟩
                  · obtain ⟨L0, pm, eq⟩ := G1.ks
                    have hb0 : (V.ref b.1, some b.2) ∈ us.map fun b => (b.1, keyP b.2) := by
                      rw [eq]
                      exact List.mem_map.mpr ⟨b, pm.mem_iff.mp hb, rfl⟩
                    obtain ⟨c, hc0, ec⟩ := List.mem_map.mp hb0
                    injection ec with ec1 ec2
                    have hcm : c.2 ∈ PS := by
                      have : c.2 ∈ uniqP (PS.take j) := by rw [← G1.fst]; exact List.mem_map.mpr ⟨c, hc0, rfl⟩
                      exact List.mem_of_mem_take (uniqP_mem this)
                    have rc := G5.rel c hc0
                    rw [ec1] at rc
                    obtain ⟨_, _, _, _, hd2⟩ := keyOk_tup (kok c.2 hcm)
                    exact ⟨c.2, dp_key _ _ _ ec2 rc, ec2, hd2⟩
                  · obtain ⟨us', G6⟩ := G5.more hk q5 eL
                    have kk : Keep K r5 H5 r5 (upd H5 D (SetO w D L')) := keepX hD5
                    refine ⟨r5, h3, j + 1, L', us', ys2, ?_, R5.otherX hD5 nD5, upd_same, nD5, ?_, (w1.mono k5).mono kk, hcl2, hy2, hjl⟩
                    · have e05 : Ext r0 H0 r5 H5 := e1.trans e15
                      exact ⟨e05.pre, fun a o q n => ⟨by rw [upd_ne (ne_of_none q hD)]; exact (e05.fr a o q n).1, (e05.fr a o q n).2⟩⟩
                    · rw [List.take_add_one, List.getElem?_eq_getElem hjl]
                      exact G6.mono kk
                | fail => rw [hcl2] at hcl; cases hcl
                | exc c fs hx => rw [hcl2] at hcl; cases hcl
              | fail => rw [hm2] at hcl; cases hcl
              | exc c fs hx => rw [hm2] at hcl; cases hcl
            | _ => rw [hg2] at hcl; cases hcl
          · rw [if_neg hgd] at hcl
            cases hcl
        · have ei : i = it.ds.length := by omega
          rw [List.drop_eq_nil_of_le (by omega)] at hcl
          simp only [compL] at hcl
          by_cases hgd : gdOk it.gd h
          · rw [if_pos hgd] at hcl
            have hys : [] = ys ∧ h = hF := by
              injection hcl with z1 z2
              exact ⟨z1, z2⟩
            obtain ⟨rfl, rfl⟩ := hys
            have hje : j = PS.length := by
              rcases Nat.lt_or_ge j PS.length with z | z
              · rw [List.drop_eq_getElem_cons z] at hy
                cases hy
              · omega
            rw [hje, List.take_length] at G1
            obtain ⟨L0, pm, eq⟩ := G1.ks
            obtain ⟨h1, h2, h3⟩ := alikeL_ok hal
            have sub : ∀ b ∈ us, b.2 ∈ PS := fun b hb => uniqP_mem (by rw [← G1.fst]; exact List.mem_map.mpr ⟨b, hb, rfl⟩)
            have subm : ∀ q ∈ us.map (·.2), q ∈ PS := fun q hq => by
              obtain ⟨b, hb, rfl⟩ := List.mem_map.mp hq
              exact sub b hb
            refine .inl ⟨(hJ r h H (R0.keep e1) R1 hgd i).1 ei, D, L, L0, us, rfl, hDa, pm, eq, fun b hb => ?_, fun x hx y hy => h1 x (subm x hx) y (subm y hy), h2.elim (fun z => .inl fun x hx => z x (subm x hx)) fun z => .inr fun x hx => z x (subm x hx), fun b hb => h3 _ (sub b hb), ?_⟩
            · obtain ⟨_, k, _, hk, _⟩ := keyOk_tup (kok b.2 (sub b hb))
              exact dp_key _ _ _ hk (G1.rel b hb)
            · have rs := rel_sorted G1.rel
              rw [G1.fst] at rs
              exact (post_lst R1 rs (Post.step e1 p1)).2
          · rw [if_neg hgd] at hcl
            cases hcl
      · exact p1.elim
    · exact p1.elim
theorem em_sortC {p0 spos : Pos} (hu : X.A.units + 100 < cLine) (hh : X.A.handled = none) (hc : X.calm = true) (hN : X.N.Nodup) (hg0 : Gl X "sorted") (hm0 : X.mg "sorted" = none) (hi : PIm X cl E tg iter mi) (ok : BlkOk X.N X.env.scope scope own)
    (hg : ∀ (s : Shared) (H : Hp) (C : Addr) (cl' : List (Str × Addr)) (fp : List Addr), PGm (X.blk s H scope (compEnvC scope cl' C X.env) fp) cl E00 (own.map (·.2)) tg g)
    (he : ∀ (s : Shared) (H : Hp) (C : Addr) (cl' : List (Str × Addr)) (fp : List Addr), PEm (X.blk s H scope (compEnvC scope cl' C X.env) fp) cl E00 elt m) (hs : ∀ x, foldedSetIterable iter X.env x = pure x) :
    PEm X cl E (.Call (.Name "sorted" p0) [.SetComp elt [⟨tg, iter, [], 0⟩] scope spos] [] pos) (xSortC mi g m (own.map (·.2))) :=
  (pe_callB (cr_sortSet hu hh) hg0 hm0 (by decide +kernel) (pa_cons (pe_sn (by omega) hc hN hi ok hg he hs) pa_nil)).imp fun σ H Q ⟨r, h, en, R, e, p⟩ => sn_read R e p
end
end Z
/-! text Z22 -/
/-! Z22: dicts with nested keys: d.get(k, x), d.items(), sorted(d). -/
namespace Z
open PySem PySem.Spec PyProof.Rows L2 Zs
section
variable {X : Cx} {cl : Str → Addr} {E : XK} {K : PySem.W.Frag} {r : List Addr} {h : Hd} {H : Hp}
/-- a method of a built-in type, the receiver known by what is told of it -/
def TyOk (X : Cx) (T : String) (ty : V → Hp → Prop) : Prop := ∀ (pins : List (Addr × Obj)) (σ : L2.St) (H : Hp) (s : Shared) (x : V) (v : Value), Inv X pins σ H s → RelV x v → ty x H → s.TypeIs v T ∧ ∀ a, v = .ref a → ∃ ob, s.heap.get? a = some ob ∧ ob.dict = none
theorem pe_bmG {T id : String} {name : Str} {o e : Expr} {es : List Expr} {apos cpos : Pos} {ty : V → Hp → Prop} {rr : V → List V → Hp → VK → Prop} {to : TE} {t : TA} (hT : TyOk X T ty) (pa : PlainAttrs T) (slot : Slot T name id) (hty : typeOf (.builtin id) = pure (.type "method_descriptor")) (hm : MtR X id rr) (ho : PE X o to) (ha : PA X (e :: es) t)
    (hbase : attributeBase o name X.env (eval o X.env) = eval o X.env)
    (hfew : ((backTo cpos (starEach (e :: es) X.env)).all (fun x => !x.1) && (backToKw cpos (keywordEach [] X.env)).all (fun x => x.1.isSome) && decide ((e :: es).length + ([] : List Keyword).length + (if ([] : List Keyword).isEmpty then 0 else 1) < 30)) = true)
    (hline : (apos.endLine == cpos.line) = true) (hs : starEach (e :: es) X.env = (false, eval e X.env) :: starEach es X.env) (hplain : (backTo cpos (starEach es X.env)).any (·.1) = false) :
    PE X (.Call (.Attribute o name apos) (e :: es) [] cpos) (fun σ H Q => to σ H fun x H1 => ty x H1 ∧ t σ H1 fun xs H2 => rr x xs H2 Q) := by
  refine ⟨fun pins s σ H Q I h => wpAny_Call_method_late hbase hfew hline rfl (thn (ho.run pins s σ H _ I h) fun v s1 ⟨x, H1, I1, r1, ty1, q1⟩ => ?_)⟩
  obtain ⟨h1, h2⟩ := hT pins σ H1 s1 x v I1 r1 ty1
  refine ⟨T, id, pa, slot, hty, h1, h2, ?_⟩
  have hA := ha.run cpos pins s1 σ H1 _ I1 q1
  rw [hs] at hA ⊢
  refine Calls.callWith_builtin (by show (false || (backTo cpos (starEach es X.env)).any (·.1)) = false; rw [hplain] <;> rfl) (Calls.evalArgs_plain ?_)
  exact thn hA fun us s2 ⟨vs, H2, I2, r2, q2⟩ => hm pins s2 σ H2 x vs v us Q I2 r1 r2 q2
/-! ### d.get(k, x) -/
def tyDic (K : PySem.W.Frag) : V → Hp → Prop := fun x H => tyV K "dict" x H ∨ ∃ a w xs, x = .ref a ∧ H a = some (DicN w a xs)
theorem tyDic_ok : TyOk X "dict" (tyDic X.K) := fun pins σ H s x v I rv e => by
  rcases e with e | ⟨a, w, xs, rfl, ha⟩
  · exact tyV_is I rv e
  · cases rv
    obtain ⟨⟨_, o, es, ho, hx, _⟩, _⟩ := I.hok a _ ha
    exact ⟨⟨o, ho, hx.1⟩, fun b e => by cases e; exact ⟨o, ho, hx.2.1⟩⟩
def rGet2 (K : PySem.W.Frag) : V → List V → Hp → VK → Prop := fun x vs H Q => (∃ a y z o, x = .ref a ∧ vs = [y, z] ∧ DGet H a y o ∧ Q (o.getD z) H) ∨
  ∃ a w r kvs xs b q k z, x = .ref a ∧ vs = [.ref b, z] ∧ H a = some (DicN w a xs) ∧ RelNs K r H kvs xs ∧ keyN k = some q ∧ q.depth ≤ 8 ∧ RelD K r H k (.ref b) ∧ (atKey xs q = none → Q z H) ∧ ∀ c u v, atKey xs q = some (c, u) → RelV v u → Q v H
theorem RelNs.val {kvs : List (D × D)} {xs : List (NestedKey × Addr × Value)} (m : RelNs K r H kvs xs) : ∀ {q : NestedKey} {c : Addr} {u : Value}, atKey xs q = some (c, u) → ∃ v, RelV v u := by
  induction m with
  | nil => intro q c u e; cases e
  | @cons k' d' q' b' v' u' ds xs e' l' a' c' u2 m ih =>
    intro q c u e
    unfold atKey at e ih
    by_cases hq : q' = q
    · rw [List.find?_cons_of_pos (by simpa using hq)] at e
      cases e
      exact ⟨v', u2⟩
    · rw [List.find?_cons_of_neg (by simpa using hq)] at e
      exact ih e
theorem mt_get2 (hu : X.A.units + 100 < cLine) : MtR X "dict.get" (rGet2 X.K) := by
  intro pins s σ H x vs v us Q I rx rv p
  rcases p with ⟨a, y, z, o, rfl, rfl, g, q⟩ | ⟨a, w, r, kvs, xs, b, q, k, z, rfl, rfl, ha, m, hk, hq, qk, p1, p2⟩
  · cases rx
    cases rv with
    | cons r1 rt => cases rt with
      | cons r2 rn =>
        cases rn
        exact d_get2 (by omega) I g r1 r2 fun w' s3 I3 rw' => ⟨_, H, I3, rw', q⟩
  · cases rx
    cases rv with
    | cons r1 rt => cases rt with
      | cons r2 rn =>
        cases rn
        cases r1
        obtain ⟨o, es, R, kk⟩ := dicN_at I ha m hk hq qk
        refine call_meetsIn F.slot_dict_get R.dict.typeIs F.entry_dict_get (F.args_dict_get_3 _ _ _) (meetsH_dict_get_default (nestedKind X.prog X.w) a b R.nm _) ⟨by show X.A.units + 1 + 8 < _; omega, q, xs, kk, R.dict, ?_⟩
        cases hat : atKey xs q with
        | none => exact ⟨z, H, I.tok _, r2, p1 hat⟩
        | some c =>
          obtain ⟨v, hv⟩ := m.val (c := c.1) (u := c.2) hat
          exact ⟨v, H, I.tok _, hv, p2 c.1 c.2 v hat hv⟩
def isDicX (x : D) (h : Hd) : Bool := match x with
  | .ref n => match h[n]? with
    | some (.dic _) => true
    | some (.dit _) => true
    | _ => false
  | _ => false
def mGet2 (x : D) (xs : List D) (h : Hd) : Out D := match x, xs with
  | .ref n, [y, z] => match h[n]? with
    | some (.dic kvs) => if (keyD y).isSome = true then .ok ((dlook kvs y).getD z) h else .fail
    | some (.dit kvs) => if isKeyN y = true then .ok ((dlook kvs y).getD z) h else .fail
    | _ => .fail
  | _, _ => .fail
theorem mm_get2 : MtM2 K cl E (rGet2 K) mGet2 := fun r h H x xs vx vs Q R qx q p => by
  unfold mGet2 at p
  split at p
  · rename_i n y z
    obtain ⟨a, rfl, ha⟩ := qx.ref_inv
    obtain ⟨v1, v2, rfl, q1, q2⟩ := q.two
    split at p
    · rename_i kvs hn
      split at p
      · rename_i hk
        obtain ⟨k, ek⟩ := Option.isSome_iff_exists.mp hk
        obtain ⟨qs, h1, m⟩ := R.dic ha hn
        refine .inl ⟨a, v1, v2, valV qs k, rfl, rfl, by rw [keyD_rel ek q1]; exact DGet.k h1, ?_⟩
        cases hd : dlook kvs y with
        | none =>
          rw [hd] at p
          rw [(m.look ek).2 hd]
          exact Post.end' R p q2
        | some d =>
          rw [hd] at p
          obtain ⟨v, h2, q3⟩ := (m.look ek).1 d hd
          rw [h2]
          exact Post.end' R p q3
      · exact p.elim
    · rename_i kvs hn
      split at p
      · rename_i hk
        obtain ⟨k, b, ek, dk, rfl⟩ := isKeyN_ok hk q1
        obtain ⟨w, xs, h1, m⟩ := R.dit ha hn
        refine .inr ⟨a, w, r, kvs, xs, b, k, y, v2, rfl, rfl, h1, m, ek, dk, q1, fun hat => ?_, fun c u v hat hv => ?_⟩
        · cases hd : dlook kvs y with
          | none => rw [hd] at p; exact Post.end' R p q2
          | some d =>
            obtain ⟨b', v, u, h2, _⟩ := (m.look ek).1 d hd
            rw [hat] at h2
            cases h2
        · cases hd : dlook kvs y with
          | none =>
            rw [(m.look ek).2 hd] at hat
            cases hat
          | some d =>
            rw [hd] at p
            obtain ⟨b', v', u', h2, q3, q4⟩ := (m.look ek).1 d hd
            rw [hat] at h2
            cases h2
            rw [hv.inj q4]
            exact Post.end' R p q3
      · exact p.elim
    · exact p.elim
  · exact p.elim
theorem isDicX_ty {x : D} {v : V} (R : RelH K cl r h H) (q : RelD K r H x v) (e : isDicX x h = true) : tyDic K v H := by
  unfold isDicX at e
  split at e
  · rename_i n
    obtain ⟨a, rfl, ha⟩ := q.ref_inv
    split at e
    · rename_i kvs hn
      obtain ⟨qs, h1, _⟩ := R.dic ha hn
      exact .inl (.inr (.inr (.inl ⟨rfl, .inl ⟨qs, h1⟩⟩)))
    · rename_i kvs hn
      obtain ⟨w, xs, h1, _⟩ := R.dit ha hn
      exact .inr ⟨a, w, xs, rfl, h1⟩
    · cases e
  · cases e
theorem em_bmG {T id : String} {o e : Expr} {es : List Expr} {name : Str} {apos cpos : Pos} {isT : D → Hd → Bool} {rd : V → List V → Hp → VK → Prop} {f : D → List D → Hd → Out D} {ty : V → Hp → Prop} {mo : XE} {ms : XA}
    (hp : PE X (.Call (.Attribute o name apos) (e :: es) [] cpos) (fun σ H Q => TDm X.K cl E mo σ H fun x H1 => ty x H1 ∧ TAm X.K cl E ms σ H1 fun xs H2 => rd x xs H2 Q)) (hf : MtM2 X.K cl E rd f) (hty : ∀ (r : List Addr) (h : Hd) (H : Hp) (x : D) (v : V), RelH X.K cl r h H → RelD X.K r H x v → isT x h = true → ty v H) :
    PEm X cl E (.Call (.Attribute o name apos) (e :: es) [] cpos) (xBm isT f mo ms) :=
  hp.imp fun σ H Q ⟨r, h, en, R, e, p⟩ =>
    ⟨r, h, en, R, e, (Post.bind p).imp fun x r1 h1 H1 e1 R1 p1 v1 q1 => by
      split at p1
      · rename_i ht
        exact ⟨hty _ _ _ _ _ R1 q1 ht, r1, h1, en, R1, e.mono (R.keep e1), (Post.bind p1).imp fun xs r2 h2 H2 e2 R2 p2 vs q2 => hf r2 h2 H2 x xs v1 vs Q R2 (q1.mono (R1.keep e2)) q2 p2⟩
      · exact p1.elim⟩
/-! ### d.items() -/
def ItN (d : Addr) (n : Nat) : It :=
  ⟨fun i H => ∃ w xs q b u v, H d = some (DicN w d xs) ∧ xs.length = n ∧ xs[i]? = some (q, b, u) ∧ RelV v u,
   fun i H x H' => ∃ b v T, x = .ref T ∧ H T = none ∧ H' = upd H T (.tup [.ref b, v]) ∧ ∀ w xs q b' u v', H d = some (DicN w d xs) → xs[i]? = some (q, b', u) → RelV v' u → b = b' ∧ v = v',
   fun i H => ∃ w xs, H d = some (DicN w d xs) ∧ xs.length = n ∧ n ≤ i⟩
theorem rows_raw {P : Program} {w w' : World} {H : Hp} {h : Heap} {d : Addr} {xs : List (NestedKey × Addr × Value)} (ok : HOk P w H h) (e : H d = some (DicN w' d xs)) : (d == sysModules) = false ∧ ∃ es, h.DictRaw d es xs.length ∧ es.size = xs.length ∧ ∀ i (hi : i < es.size), ∃ q b u, xs[i]? = some (q, b, u) ∧ es[i].key = .ref b ∧ es[i].val = u := by
  obtain ⟨⟨nm, o, es, ho, hx, hd, hr, hn⟩, _⟩ := ok d _ e
  have sz : es.size = xs.length := by
    have := congrArg List.length hr
    rwa [List.length_map, Array.length_toList] at this
  refine ⟨nm, es, ⟨o, ho, hx, hd⟩, sz, fun i hi => ?_⟩
  have hl : i < xs.length := by omega
  refine ⟨xs[i].1, xs[i].2.1, xs[i].2.2, List.getElem?_eq_getElem hl, ?_⟩
  have e1 : es.toList[i]? = some (entN w' xs[i]) := by rw [hr, List.getElem?_map, List.getElem?_eq_getElem hl]; rfl
  rw [Array.getElem?_toList, Array.getElem?_eq_getElem hi] at e1
  have e2 := Option.some.inj e1
  rw [e2]
  exact ⟨rfl, rfl⟩
theorem turn_itemsN {P : Program} {w : World} {K : PySem.W.Frag} {elts : List Expr} {kk : Nat} {tpos : Pos} (it d : Addr) (n : Nat) : Turn P w K (.Tuple elts kk tpos) (ItN d n) [it] it (fun i h => ∃ ok ov, IsItemIter h it d i n n ok ov) where
  mem := by simp
  obj := fun i h st b hb => by
    obtain rfl : b = it := by simpa using hb
    obtain ⟨ok, ov, e⟩ := st
    exact ⟨_, e, fun v z => nomatch z⟩
  keep := fun i h h' st k => let ⟨ok, ov, e⟩ := st; ⟨ok, ov, k it (by simp) _ e⟩
  item := by
    intro X hP hw hK hc i pins s σ H E I hf st hg
    subst hP hw hK
    obtain ⟨w', xs, q, b, u, v, hd, hl, hx, ru⟩ := hg
    obtain ⟨nm, es, hr, sz, rows⟩ := rows_raw I.hok hd
    obtain ⟨ok, ov, he⟩ := st
    have hi : i < es.size := by
      have := (List.getElem?_eq_some_iff.mp hx).1
      omega
    obtain ⟨q', b', u', hx', k1, k2⟩ := rows i hi
    rw [hx] at hx'
    cases hx'
    have hlt : it < s.heap.objs.size := Heap.lt_size he
    have en : es.size = n := sz.trans hl
    rw [hl] at hr
    rw [← en] at hr he
    refine wpAny_pyNext_items_item_raw he hr hi fun h' ho hT hz hk => ?_
    rw [k1, k2] at ho hT
    refine ⟨_, rfl, wpAny_letOwnedTupleGo_items (s := { s with heap := h' }) ho fun h'' he' sb => ?_⟩
    have hT2 : h''.get? s.heap.objs.size = some { cls := .type "tuple", data := .seq #[.ref b, u] } := (sb.2 _ (Nat.ne_of_gt hlt)).trans hT
    have new : ObjOk X.prog X.w (upd H s.heap.objs.size (.tup [.ref b, v])) h'' s.heap.objs.size (.tup [.ref b, v]) := ⟨by show 2 ≤ sizeLine; decide, [.ref b, u], .cons rfl (.cons ru .nil), ⟨_, hT2, rfl, _, rfl⟩⟩
    have I1 : Inv X pins σ (upd H s.heap.objs.size (.tup [.ref b, v])) { s with heap := h'' } :=
      I.turnedNew (t' := s.toks) (ch := [it]) (fun c ob hb e => (sb.2 c (by simpa using hb)).trans (hk c ob (by simpa using hb) e)) hf (Nat.le_refl _) new
    refine ⟨.ref s.heap.objs.size, _, I1, rfl, ⟨b, v, _, rfl, I.hok.fresh (Nat.le_refl _), rfl, fun w2 xs2 q2 b2 u2 v2 hd2 hx2 rv2 => ?_⟩, ⟨.ref b, u, by rw [en] at he'; exact he'⟩, fun c hb => ?_⟩
    · obtain ⟨nm2, es2, hr2, sz2, rows2⟩ := rows_raw I.hok hd2
      obtain ⟨o1, g1, g2, g3⟩ := id hr
      obtain ⟨o2, g4, g5, g6⟩ := hr2
      obtain rfl : o1 = o2 := Option.some.inj (g1.symm.trans g4)
      rw [g3] at g6
      injection g6 with g7 g8
      subst g7
      obtain ⟨q', b', u', hx', k1', k2'⟩ := rows2 i hi
      rw [hx2] at hx'
      cases hx'
      rw [k1] at k1'
      cases k1'
      rw [k2] at k2'
      subst k2'
      exact ⟨rfl, ru.inj rv2⟩
    · obtain rfl : c = it := by simpa using hb
      rw [upd_ne (Nat.ne_of_lt hlt)]
      exact (hf c (by simp)).1
  done := by
    intro X hP hw hK hc i pins s σ H E I hf st hg
    subst hP hw hK
    obtain ⟨w', xs, hd, hl, hi⟩ := hg
    obtain ⟨f0, f1, f2, f3, f4, f5⟩ := hf it (by simp)
    obtain ⟨nm, es, hr, sz, rows⟩ := rows_raw I.hok hd
    obtain ⟨ok, ov, he⟩ := st
    have en : es.size = n := sz.trans hl
    rw [hl] at hr
    rw [← en] at hr he
    exact wpAny_pyNext_items_end_raw (I.ok.hd hc) he hr (by omega) fun h' eb => ⟨rfl, I.turned (t' := s.toks) (fun b ob hb e => eb b ob hb e) f0 f1 f3 f4 f5⟩
  self := fun A i s Q E st h => let ⟨_, _, e⟩ := st; PySem.W.kcp_self e h
def iItemsN (td : TE) : TI := fun σ H R => td σ H fun x H1 => ∃ d w xs, x = .ref d ∧ H1 d = some (DicN w d xs) ∧ R (ItN d xs.length) H1
theorem pi_itemsN {e : Expr} {td : TE} {elts : List Expr} {kk : Nat} {tpos apos cpos : Pos} (he : PE X e td) (hbase : attributeBase e "items" X.env (eval e X.env) = eval e X.env) (hline : (apos.endLine == cpos.line) = true) :
    PI X (.Tuple elts kk tpos) (.Call (.Attribute e "items" apos) [] [] cpos) (iItemsN td) := by
  refine ⟨fun pins s σ H R I h => ?_⟩
  refine wpAny_Call_method (T := "dict") (id := "dict.items") hbase rfl hline F.plainAttrs_dict F.slot_dict_items F.type_dict_items (thn (he.run pins s σ H _ I h) fun u s1 ⟨x, H1, I1, rx, d, w, xs, ex, hd, q⟩ => ?_)
  subst ex
  obtain rfl : u = Value.ref d := rx
  obtain ⟨nm, es, hr, sz, rows⟩ := rows_raw I1.hok hd
  obtain ⟨o, ho, hx, hdt⟩ := id hr
  refine ⟨⟨o, ho, hx.1⟩, fun b e => by cases e; exact ⟨o, ho, hx.2.1⟩, ?_⟩
  have I2 : Inv X pins σ H1 { s1 with heap := s1.heap.push { cls := .type "dict_items", data := .fields #[.ref d] } } := I1.kept (t' := s1.toks) fun b ob q => Heap.get?_push_of_some _ q
  have fin : wpAny (model X.prog X.w) X.A (pyIter (.ref s1.heap.objs.size)) (PIE X pins σ (.Tuple elts kk tpos) R) X.xe { s1 with heap := s1.heap.push { cls := .type "dict_items", data := .fields #[.ref d] } } := by
    refine wpAny_pyIter_items_raw (d := d) (es := es) (ep := xs.length) ⟨_, Heap.get?_push_size _ rfl, rfl, rfl⟩ (hr.at fun o e => Heap.get?_push_of_some _ e) (pi_one (tk := s1.toks) I2 _ (turn_itemsN _ d xs.length) ⟨.none, .none, ?_⟩ q)
    rw [sz]
    exact Heap.get?_push_size _ rfl
  show wpAny _ _ (callWith cpos (.builtin "dict.items") [.ref d] [] []) _ X.xe s1
  exact method_meetsIn F.slot_dict_items F.entry_dict_items rfl (PySem.evalArgs_none ⟨rfl, ⟨o, ho, hx.1⟩, F.args_dict_items_1 _, _, meets_dict_items_raw d nm, ⟨es, _, hr⟩, fin⟩)
def itemsOf (d : D) (h : Hd) : Out Its := match d with
  | .ref n => match h[n]? with
    | some (.dit kvs) => .ok ⟨kvs.map fun p => .tup [p.1, p.2], [(n, .dit kvs)]⟩ h
    | _ => .fail
  | _ => .fail
def xItems (m : XE) : XI := fun en h => (m en h).bind itemsOf
theorem RelNs.get {kvs : List (D × D)} {xs : List (NestedKey × Addr × Value)} (m : RelNs K r H kvs xs) : ∀ {i : Nat} {p : D × D}, kvs[i]? = some p → ∃ q b u v, xs[i]? = some (q, b, u) ∧ RelD K r H p.1 (.ref b) ∧ RelD K r H p.2 v ∧ RelV v u := by
  induction m with
  | nil => intro i p e; simp at e
  | cons e' l' a' c' u2 m ih =>
    intro i p e
    cases i with
    | zero => simp at e; subst e; exact ⟨_, _, _, _, rfl, a', c', u2⟩
    | succ i => simp at e; obtain ⟨q, b, u, v, h1, h2⟩ := ih e; exact ⟨q, b, u, v, by simpa using h1, h2⟩
theorem itM_itemsN {a : Addr} {n : Nat} {kvs : List (D × D)} (q : r[n]? = some a) : ItM K cl (ItN a kvs.length) r H ⟨kvs.map fun p => .tup [p.1, p.2], [(n, .dit kvs)]⟩ := fun r2 h2 H2 e2 R2 gd i => by
  have q2 := e2.g _ _ q
  obtain ⟨w, xs, hv, m⟩ := R2.dit q2 (gd (n, .dit kvs) (by simp))
  have hl := m.length
  refine ⟨fun e => ⟨w, xs, hv, hl.symm, by rw [e, List.length_map]; exact Nat.le_refl _⟩, fun d hd => ?_⟩
  rw [List.getElem?_map] at hd
  obtain ⟨p, hp, rfl⟩ := Option.map_eq_some_iff.mp hd
  obtain ⟨k, b, u, v, g1, g2, g3, g4⟩ := m.get hp
  refine ⟨⟨w, xs, k, b, u, v, hv, hl.symm, g1, g4⟩, fun x H' ⟨b', v', T, f5, f6, f7, f8⟩ => ?_⟩
  subst f5 f7
  obtain ⟨rfl, rfl⟩ := f8 w xs k b u v hv g1 g4
  have E1 : Ext r2 H2 r2 (upd H2 T (.tup [.ref b', v'])) := Ext.new R2 f6
  exact ⟨E1, R2.new f6, .tup (SqT.of upd_same) (.cons (g2.mono (R2.keep E1)) (.cons (g3.mono (R2.keep E1)) .nil))⟩
theorem im_items {e : Expr} {mo : XE} {elts : List Expr} {kk : Nat} {tpos apos cpos : Pos} (he : PEm X cl E e mo) (hbase : attributeBase e "items" X.env (eval e X.env) = eval e X.env) (hline : (apos.endLine == cpos.line) = true) :
    PIm X cl E (.Tuple elts kk tpos) (.Call (.Attribute e "items" apos) [] [] cpos) (xItems mo) :=
  (pi_itemsN he hbase hline).imp fun σ H R' ⟨r, h, en, R, q, p⟩ => ⟨r, h, en, R, q, (Post.bind p).imp fun d r1 h1 H1 e1 R1 p1 v q1 => by
    unfold itemsOf at p1
    split at p1
    · rename_i n
      obtain ⟨a, rfl, ha⟩ := q1.ref_inv
      split at p1
      · rename_i kvs hn
        obtain ⟨w, xs, h1', m⟩ := R1.dit ha hn
        refine ⟨a, w, xs, rfl, h1', p1 r1 H1 (Ext.refl _ _) R1 _ ?_⟩
        rw [← m.length]
        exact itM_itemsN ha
      · exact p1.elim
    · exact p1.elim⟩
/-! ### sorted(d) -/
def rSortN (K : PySem.W.Frag) : List V → Hp → VK → Prop := fun vs H Q => ∃ (a : Addr) (w : World) (xs : List (NestedKey × Addr × Value)) (bs : List (V × PyData)), vs = [.ref a] ∧ H a = some (DicN w a xs) ∧ (bs.map (·.1) = xs.map fun x => V.ref x.2.1) ∧ (∀ b ∈ bs, Dp K H b.1 b.2 ∧ ∃ k, keyP b.2 = some k) ∧
  PySem.W.AllAlike (bs.map (·.2)) ∧ PySem.W.Sortable (bs.map (·.2)) ∧ (∀ b ∈ bs, b.2.depth ≤ 60) ∧ bs.length ≤ sizeLine ∧ ∀ p, H p = none → Q (.ref p) (upd H p (.lst ((bs.mergeSort (PySem.W.dataLe false (·.2))).map (·.1))))
theorem cr_sortN (hu : X.A.units + 100 < cLine) (hh : X.A.handled = none) : CallR X (.builtin "sorted") (rSortN X.K) := by
  intro pins s σ H vs us Q I rv q
  obtain ⟨a, w, xs, bs, rfl, ha, eb, hd, h1, h2, h3, hz, q⟩ := q
  obtain ⟨u, rfl, ru⟩ := rv.one
  cases ru
  obtain ⟨nm, es, hr, sz, rows⟩ := rows_raw I.hok ha
  have hbl : bs.length = xs.length := by
    have := congrArg List.length eb
    rwa [List.length_map, List.length_map] at this
  refine Calls.call_function_entry PyProof.Rows.kind_sorted PyProof.Rows.plain_sorted PyProof.Rows.entry_sorted (PyProof.Rows.args_sorted1 _) ?_
  unfold Builtin.«sorted»
  refine wpAny_bind (m := checkCount "sorted" 1 1 _) (wpAny_pure ?_)
  refine wpAny_bind (PySem.W.kdu_collect (A := X.A.in1) (KdlSrc.rawDict nm) hh hr (by omega) fun h' tk acc hk hacc => ?_)
  have hal : acc.toList.length = bs.length := by rw [Array.length_toList, hacc.1]; omega
  have at_ : ∀ (i : Nat) (b : V × PyData), bs[i]? = some b → ∃ z : Addr, b.1 = V.ref z ∧ acc.toList[i]? = some (Value.ref z) := fun i b hb => by
    have e1 : (bs.map (·.1))[i]? = some b.1 := by rw [List.getElem?_map, hb]; rfl
    rw [eb, List.getElem?_map] at e1
    obtain ⟨x, hx, ex⟩ := Option.map_eq_some_iff.mp e1
    have hi : i < acc.toList.length := by rw [hal]; exact (List.getElem?_eq_some_iff.mp hb).1
    obtain ⟨hi2, ev⟩ := hacc.2 i acc.toList[i] (by rw [← Array.getElem?_toList]; exact List.getElem?_eq_getElem hi)
    obtain ⟨q', b', u', hx', k1, k2⟩ := rows i hi2
    rw [hx] at hx'
    cases hx'
    refine ⟨b', ex.symm, ?_⟩
    rw [List.getElem?_eq_getElem hi, ev, k1]
  have each : ∀ {R : Value → V × PyData → Prop} (us : List Value) (cs : List (V × PyData)), us.length = cs.length → (∀ (i : Nat) (u : Value) (b : V × PyData), us[i]? = some u → cs[i]? = some b → R u b) → PySem.W.EachIs R us cs := by
    intro R us
    induction us with
    | nil => intro cs hl _; cases cs with
      | nil => exact .nil
      | cons _ _ => cases hl
    | cons u us ih => intro cs hl hr; cases cs with
      | nil => cases hl
      | cons c cs => exact .cons (hr 0 u c rfl rfl) (ih cs (by simpa using hl) fun i u b h1 h2 => hr (i + 1) u b (by simpa using h1) (by simpa using h2))
  have I1 : Inv X pins σ H { s with heap := h', toks := tk } := I.kept hk
  refine wpAny_bind (wpAny_newList ?_ (by omega))
  have hoL : (h'.push (seqObj "list" acc.toList.toArray 0)).get? h'.objs.size = some (seqObj "list" acc.toList.toArray 0) := Heap.get?_push_size _ rfl
  have rd : ∀ b ∈ bs, ∀ z, b.1 = .ref z → Reads h' (.ref z) b.2 [] := fun b hb z ez => by
    obtain ⟨hdp, k, ek⟩ := hd b hb
    obtain ⟨as, rr⟩ := Dp.reads I1 b.2 b.1 (.ref z) hdp (by rw [ez]; rfl)
    rw [key_as b.2 k _ _ ek rr] at rr
    exact rr
  have e1 : PySem.W.EachIs (fun u (b : V × PyData) => RelV b.1 u) acc.toList bs := each _ _ hal fun i u b g1 g2 => by
    obtain ⟨z, ez, ea⟩ := at_ i b g2
    rw [ea] at g1
    cases g1
    rw [ez]
    rfl
  have e2 : PySem.W.EachIs (fun u (b : V × PyData) => ∃ as, Reads (h'.push (seqObj "list" acc.toList.toArray 0)) u b.2 as ∧ h'.objs.size ∉ as) acc.toList bs := each _ _ hal fun i u b g1 g2 => by
    obtain ⟨z, ez, ea⟩ := at_ i b g2
    rw [ea] at g1
    cases g1
    exact ⟨[], PyProof.Rows.Reads.keeps (fun c o e => Heap.get?_push_of_some _ e) (rd b (List.mem_of_getElem? g2) z ez), by simp⟩
  refine wpAny_bind (wpAny_holding (PySem.W.list_sort_data (s := { s with heap := h'.push (seqObj "list" acc.toList.toArray 0), toks := tk }) (enc := fun b : V × PyData => b.2) hoL e1 e2 h1 h2 hz (fun b hb => by have := h3 b hb; show X.A.units + 1 + 1 + _ < _; omega) fun out lo eo => ?_))
  obtain ⟨c, hc⟩ := sortedHeap_at (vs := acc.toList) (out := out.toArray) hoL
  have hn := I1.hok.fresh (Nat.le_refl _)
  have hn' : H h'.objs.size = none := hn
  refine wpAny_pure ⟨_, rfl, .ref h'.objs.size, upd H h'.objs.size (.lst ((bs.mergeSort (PySem.W.dataLe false (·.2))).map (·.1))), I1.laid (t' := tk) (fun b u e => ?_) (Nat.le_refl _) ⟨by rw [List.length_map, List.length_mergeSort]; exact hz, out, c, vals_each eo, hc⟩, rfl, q _ hn'⟩
  have hlt := Heap.lt_size e
  rw [sortedHeap_old (Nat.ne_of_lt hlt) (by rw [size_push']; exact Nat.lt_succ_of_lt hlt)]
  exact Heap.get?_push_of_some _ e
def dSortedX (xs : List D) (h : Hd) : Out D := match xs with
  | [.ref n] => match h[n]? with
    | some (.dit kvs) => match rfsW (rfR 8 h) (kvs.map (·.1)) with
      | some ps => if alikeL ps = true ∧ (ps.all fun p => (keyP p).isSome) = true then mkLst (sortT ((kvs.map (·.1)).zip ps)) h else .fail
      | none => .fail
    | _ => dSorted [.ref n] h
  | xs => dSorted xs h
theorem RelNs.keys {kvs : List (D × D)} {xs : List (NestedKey × Addr × Value)} (m : RelNs K r H kvs xs) : RelDs K r H (kvs.map (·.1)) (xs.map fun x => V.ref x.2.1) := by
  induction m with
  | nil => exact .nil
  | cons e' l' a' c' u2 m ih => exact .cons a' ih
abbrev rdSortX (K : PySem.W.Frag) : List V → Hp → VK → Prop := fun vs H Q => rSortD K vs H Q ∨ rSortN K vs H Q
theorem cr_sortX (hu : X.A.units + 100 < cLine) (hh : X.A.handled = none) : CallR X (.builtin "sorted") (rdSortX X.K) := CallR.or (cr_sortD hu) (cr_sortN hu hh)
theorem cm_sortX : CallM K cl E (rdSortX K) dSortedX := fun r h H xs vs Q R q p => by
  unfold dSortedX at p
  split at p
  · rename_i n
    split at p
    · rename_i kvs hn
      obtain ⟨v, rfl, qv⟩ := q.one
      obtain ⟨a, rfl, ha⟩ := qv.ref_inv
      obtain ⟨w, xs, h1, m⟩ := R.dit ha hn
      split at p
      · rename_i ps eps
        split at p
        · rename_i hc
          have mk := m.keys
          have n := rfsW_ok R (rfR_ok R 8) mk eps
          obtain ⟨g1, g2, g3⟩ := alikeL_ok hc.1
          obtain ⟨ts, e1, e2, e3, e4, e5, e6, e7⟩ := trip_of mk n
          have mem : ∀ b ∈ (xs.map fun x => V.ref x.2.1).zip ps, b.2 ∈ ps := fun b hb => by
            have : b.2 ∈ ((xs.map fun x => V.ref x.2.1).zip ps).map (·.2) := List.mem_map.mpr ⟨b, hb, rfl⟩
            rwa [e5] at this
          have pl := post_lst R (sort_rel mk n) p
          refine .inr ⟨a, w, xs, (xs.map fun x => V.ref x.2.1).zip ps, rfl, h1, e4, fun b hb => ⟨e7 b hb, Option.isSome_iff_exists.mp (List.all_eq_true.mp hc.2 _ (mem b hb))⟩, by rw [e5]; exact g1, by rw [e5]; exact g2, fun b hb => g3 _ (mem b hb), ?_, pl.2⟩
          have := pl.1
          rwa [List.length_map, List.length_mergeSort] at this
        · exact p.elim
      · exact p.elim
    · exact .inl (cm_sorted r h H _ vs Q R q p)
  · exact .inl (cm_sorted r h H _ vs Q R q p)
end
end Z
/-! text T0 -/
set_option maxHeartbeats 2000000
/-! T0: the translator from the program's text to functions of data. -/
namespace Z
open PySem PySem.Spec PyProof.Rows L2

/-! ### what is known of names -/
structure FnS where
  F : Fn
  bind : Nat → List Str → Option Arr
structure Ga where
  N : List Str
  sc : Scope
  fn : Str → Bool
  fns : List (Str × FnS)
  csts : List (Str × D)
  free : List Str
  dit : List Nat
  W : Nat
  at_ : List (Str × AttrT) := []
  sto : List (Str × List Str) := []
  mth : List (Str × List (Str × MethE)) := []
  mks : List (Str × FnS) := []
  dcs : List (Str × List (Int × Int)) := []
  ins : List Str := []
  own : List (Str × Nat × List (Str × Fn)) := []
  mtk : List (Str × List Str × List (Str × MethE)) := []
  owk : List (Str × List Str × List (Str × MethE)) := []
def idx (N : List Str) (x : Str) : Option Nat := N.findIdx? fun y => decide (y = x)
def gl (Γ : Ga) (x : Str) : Bool := decide (Γ.sc.names.lookup x = some .globalImplicit)
def vis (Γ : Ga) (x : Str) : Bool := decide (Γ.sc.names.lookup x = some .local ∨ Γ.sc.names.lookup x = some .cell ∨ Γ.sc.names.lookup x = some .free)
def okn (x : Str) : Bool := !(x == ("__debug__" : Str)) && !(x == ("__classdict__" : Str)) && !(x == ("__name__" : Str))
def isSt : Expr → Bool
  | .Starred _ _ => true
  | _ => false
def gd {α : Type} (b : Bool) (x : Option α) : Option α := if b = true then x else none
/-! ### tables -/
def opOf : Operator → Option (D → D → Hd → Out D)
  | .Add => some dAdd
  | .Sub => some dSub
  | .Mult => some dMul
  | .FloorDiv => some dDiv
  | .Mod => some dMod
  | .Pow => some dPow
  | _ => none
def cmpOf : CmpOp → Option (D → D → Hd → Out D)
  | .Eq => some dEq
  | .NotEq => some dNe
  | .Lt => some dLt
  | .LtE => some dLe
  | .Gt => some dGt
  | .GtE => some dGe
  | .Is => some dIs
  | .IsNot => some dIsNot
  | .In => some dInX
  | .NotIn => some dNotInX
def bfTab : List (Str × (List D → Hd → Out D)) := [("len", dLen), ("tuple", dTuple), ("list", dList), ("int", dInt), ("all", dAll), ("any", dAny), ("sum", dSum), ("max", dMax), ("min", dMin), ("abs", dAbs), ("repr", dRepr), ("str", dStr), ("sorted", dSortedX)]
def mtTab : List (Str × (D → Hd → Bool) × (D → List D → Hd → Out D)) := [("append", isLst, mAppend), ("extend", isLst, mExt), ("update", isDic, mUpdate)]
def mtTab0 : List (Str × (D → Hd → Bool) × (D → List D → Hd → Out D)) := [("pop", isLst, mPop)]
def tyTab : List (Str × String) := [("int", "int"), ("bool", "bool"), ("str", "str"), ("tuple", "tuple"), ("list", "list"), ("dict", "dict")]
/-- what the translation does not tell -/
def sFail : XS := fun _ _ => .fail
/-! ### the translator, one step -/
structure Tr where
  E : Ga → Expr → Option XE
  T : Ga → Expr → Option XT
  G : Ga → List Nat → Expr → Option XG
  S : Ga → Stmt → Option XS
section
variable (t : Tr) (Γ : Ga)
def nameT (x : Str) : Option XE := gd (okn x) (if vis Γ x = true then (idx Γ.N x).map xVar else if gl Γ x = true then (Γ.csts.lookup x).map xC else none)
def constT : Const → Option XE
  | .int i => some (xC (.int i))
  | .str s => some (xC (.str s))
  | .bool b => some (xC (.bl b))
  | .none => some (xC .non)
  | _ => none
def argsT : List Expr → Option XA
  | [] => some xNil
  | .Starred e _ :: es => (t.E Γ e).bind fun m => (argsT es).map fun ms => xStar m ms
  | e :: es => (t.E Γ e).bind fun m => (argsT es).map fun ms => xCons m ms
def kwsT : List Keyword → Option XA
  | [] => some xNil
  | ⟨some _, e, _⟩ :: ks => (t.E Γ e).bind fun m => (kwsT ks).map fun ms => xCons m ms
  | _ => none
def andT : List Expr → Option XE
  | [] => none
  | [a] => t.E Γ a
  | a :: b :: r => (t.E Γ a).bind fun m => (andT (b :: r)).map fun ms => xAndV m ms
def orT : List Expr → Option XE
  | [] => none
  | [a] => t.E Γ a
  | a :: b :: r => (t.E Γ a).bind fun m => (orT (b :: r)).map fun ms => xOrV m ms
def andTT : List Expr → Option XT
  | [] => none
  | [a] => t.T Γ a
  | a :: b :: r => (t.T Γ a).bind fun m => (andTT (b :: r)).map fun ms => xAnd m ms
def orTT : List Expr → Option XT
  | [] => none
  | [a] => t.T Γ a
  | a :: b :: r => (t.T Γ a).bind fun m => (orTT (b :: r)).map fun ms => xOr m ms
def pairsT : List (Option Expr) → List Expr → Option XPs
  | [], [] => some pNil
  | some k :: ks, v :: vs => (t.E Γ k).bind fun mk => (t.E Γ v).bind fun mv => (pairsT ks vs).map fun m => pCons mk mv m
  | _, _ => none
def optT : Option Expr → Option XO
  | none => some oNone
  | some e => (t.E Γ e).map oSome
def kwNames (ks : List Keyword) : List Str := ks.filterMap (·.arg)
/-- f(..) by a name -/
def isiT : List Expr → Option XE
  | [e, .Name y _] => gd (okn y && gl Γ y && decide (y ∈ Γ.free)) ((tyTab.lookup y).bind fun T => (t.E Γ e).map fun m => xIsi T m)
  | _ => none
def bltT (x : Str) (es : List Expr) : Option XE := if x = ("isinstance" : Str) then isiT t Γ es else gd (!es.isEmpty) ((bfTab.lookup x).bind fun f => (argsT t Γ es).map fun ms => xCall f ms)
def fnT (s : FnS) (es : List Expr) (kws : List Keyword) : Option XE := (s.bind es.length (kwNames kws)).bind fun a => (argsT t Γ es).bind fun ms => match kws with
  | [] => some (xFn s.F a es.length ms)
  | kw :: r => (kwsT t Γ (kw :: r)).map fun mk => xFnK s.F a es.length (kwNames (kw :: r)).length ms mk
def mkT (x : Str) (s : FnS) (es : List Expr) (kws : List Keyword) : Option XE := (s.bind es.length (kwNames kws)).bind fun a => (argsT t Γ es).bind fun ms => match kws with
  | [] => some (xMake s.F a es.length x ms)
  | kw :: r => (kwsT t Γ (kw :: r)).map fun mk => xMakeK s.F a es.length (kwNames (kw :: r)).length x ms mk
def plainIx : Expr → Bool
  | .Slice _ _ _ _ => false
  | _ => true
/-- a name that stands for an instance -/
def insE (m : Str) (n : Nat) (e : Expr) : Option (List (Str × Fn)) := match e with
  | .Name x _ => if x ∈ Γ.ins then ((Γ.own.lookup m).bind fun p => gd (decide (p.1 = n)) (some p.2)) else none
  | _ => none
def oneE (f : Expr → Option XE) : List Expr → Option XE
  | [e] => f e
  | _ => none
def lenT (x : Str) (es : List Expr) (kws : List Keyword) : Option XE := oneE (fun e => gd (decide (x = ("len" : Str)) && kws.isEmpty && gl Γ x && decide (x ∈ Γ.free) && !isSt e) ((insE Γ "__len__" 1 e).bind fun L => (argsT t Γ [e]).map fun ms => xCall (lenO L) ms)) es
def ownCallT (x : Str) (p : Pos) (es : List Expr) (kws : List Keyword) : Option XE := oneE (fun e => gd (okn x && vis Γ x && kws.isEmpty && !isSt e) ((insE Γ "__call__" 2 (.Name x p)).bind fun L => (t.E Γ (.Name x p)).bind fun mf => (argsT t Γ [e]).map fun ms => xCallO L mf ms)) es
def subT (a b : Expr) : Option XE := gd (plainIx b) ((insE Γ "__getitem__" 2 a).bind fun L => (t.E Γ a).bind fun ma => (t.E Γ b).map fun mb => xOp (ixO L) ma mb)
def abB : Expr → Bool
  | .Call (.Name _ _) [] [] _ => false
  | _ => true
/-- o.m(..) -/
def methT (o : Expr) (m : Str) (apos : Pos) (es : List Expr) (kws : List Keyword) (cpos : Pos) : Option XE := gd (abB o && kws.isEmpty && (apos.endLine == cpos.line) && (es.all fun e => !isSt e) && decide (es.length < 30)) (match Γ.mth.lookup m with
  | some L => (t.E Γ o).bind fun mo => (argsT t Γ es).map fun ms => xMeth L m mo ms
  | none => match es with
  | [] => (mtTab0.lookup m).bind fun p => (t.E Γ o).map fun mo => xBm p.1 p.2 mo xNil
  | es => if m = ("get" : Str) then gd (decide (es.length = 2)) ((t.E Γ o).bind fun mo => (argsT t Γ es).map fun ms => xBm isDicX mGet2 mo ms) else (mtTab.lookup m).bind fun p => (t.E Γ o).bind fun mo => (argsT t Γ es).map fun ms => xBm p.1 p.2 mo ms)
/-- o.m(k = v, ..) -/
def methKT (o : Expr) (m : Str) (apos : Pos) (es : List Expr) (kws : List Keyword) (cpos : Pos) : Option XE := gd (abB o && es.isEmpty && !kws.isEmpty && (apos.endLine == cpos.line) && decide (kws.length < 28)) ((Γ.mtk.lookup m).bind fun q => gd (decide (q.1 = kwNames kws)) ((t.E Γ o).bind fun mo => (kwsT t Γ kws).map fun mk => xMethK q.2 m (kwNames kws).length mo mk))
/-- x(k = v, ..), x an instance -/
def ownCallKT (x : Str) (p : Pos) (es : List Expr) (kws : List Keyword) : Option XE := gd (okn x && vis Γ x && es.isEmpty) ((Γ.owk.lookup ("__call__" : Str)).bind fun q => gd (decide (q.1 = kwNames kws)) ((t.E Γ (.Name x p)).bind fun mf => (kwsT t Γ kws).map fun mk => xCallOK q.2 (kwNames kws).length mf mk))
def blkOwn (N : List Str) (sc : Scope) : List (Str × Nat) := sc.names.filterMap fun y => if y.2 = .local ∨ y.2 = .cell then (idx N y.1).map fun i => (y.1, i) else none
def blkB (N : List Str) (sc scope : Scope) : Bool := decide (scope.kind = .function) && (scope.names.all fun y => decide (scope.names.lookup y.1 = some y.2)) &&
  (scope.names.all fun y => decide (y.2 = .free → sc.names.lookup y.1 = some .cell ∨ sc.names.lookup y.1 = some .free)) && (scope.names.all fun y => decide (y.2 = .local ∨ y.2 = .cell → y.1 ∈ (blkOwn N scope).map (·.1) ∨ y.1 ∉ N))
def blkG (scope : Scope) : Ga := { Γ with sc := relS scope Γ.sc, fn := fun x => scope.names.lookup x == some .cell }
def isSet : Expr → Bool
  | .Set _ _ _ => true
  | _ => false
def isTp : Expr → Bool
  | .Tuple _ _ _ => true
  | _ => false
/-- what a for, a comprehension walks -/
def iterT (tg e : Expr) : Option XI := match e with
  | .Call (.Name x p0) es [] pos => if x = ("range" : Str) then gd (gl Γ x && decide (x ∈ Γ.free)) (match es with
    | [a] => gd (!isSt a) ((argsT t Γ [a]).map fun ms => xIts rangeOf1 ms)
    | [a, b] => gd (!isSt a && !isSt b) ((argsT t Γ [a, b]).map fun ms => xIts rangeOf2 ms)
    | [a, b, c] => gd (!isSt a && !isSt b && !isSt c) ((argsT t Γ [a, b, c]).map fun ms => xIts rangeOf3 ms)
    | _ => none) else if x = ("enumerate" : Str) then gd (isTp tg && gl Γ x && decide (x ∈ Γ.free)) (match es with
    | [a] => gd (!isSt a) ((argsT t Γ [a]).map fun ms => xIts enumOf ms)
    | _ => none) else (t.E Γ (.Call (.Name x p0) es [] pos)).map xIter
  | .Call (.Attribute o m apos) [] [] cpos => if m = ("items" : Str) then gd (isTp tg && abB o && (apos.endLine == cpos.line)) ((t.E Γ o).map xItems) else (t.E Γ (.Call (.Attribute o m apos) [] [] cpos)).map xIter
  | .Set _ _ _ => none
  | e => (t.E Γ e).map xIter
def ifsT (Γ : Ga) : List Expr → Option XT
  | [] => some xYes
  | [c] => t.T Γ c
  | _ => none
def compT (elt tg it : Expr) (ifs : List Expr) (scope : Scope) : Option XE := gd (blkB Γ.N Γ.sc scope) ((iterT t Γ tg it).bind fun mi => (t.G (blkG Γ scope) ((blkOwn Γ.N scope).map (·.2)) tg).bind fun g =>
  (ifsT t (blkG Γ scope) ifs).bind fun tt => (t.E (blkG Γ scope) elt).map fun m => xComp mi g tt m ((blkOwn Γ.N scope).map (·.2)))
/-- {elt for tg in it}, sorted at once -/
def setCT (elt tg it : Expr) (scope : Scope) : Option XE := gd (blkB Γ.N Γ.sc scope) ((iterT t Γ tg it).bind fun mi => (t.G (blkG Γ scope) ((blkOwn Γ.N scope).map (·.2)) tg).bind fun g =>
  (t.E (blkG Γ scope) elt).map fun m => xSortC mi g m ((blkOwn Γ.N scope).map (·.2)))
def bltX (x : Str) (es : List Expr) (kws : List Keyword) : Option XE := match kws with
  | [] => (match es with
    | [.SetComp elt [⟨tg, it, [], 0⟩] scope _] => gd (decide (x = ("sorted" : Str))) (setCT t Γ elt tg it scope)
    | es => bltT t Γ x es)
  | [⟨some d, .Constant .none _ _, _⟩] => oneE (fun e => gd (decide (x = ("max" : Str)) && decide (d = ("default" : Str))) ((t.E Γ e).map xMaxN)) es
  | _ => none
def callT (x : Str) (es : List Expr) (kws : List Keyword) : Option XE := gd (okn x && gl Γ x && es.all fun e => !isSt e) (match Γ.fns.lookup x with
  | some s => fnT t Γ s es kws
  | none => match Γ.mks.lookup x with
  | some s => mkT t Γ x s es kws
  | none => gd (decide (x ∈ Γ.free)) (bltX t Γ x es kws))
def tgN : Expr → List Str
  | .Name x _ => [x]
  | .Tuple es _ _ => es.filterMap fun e => match e with
    | .Name x _ => some x
    | _ => none
  | _ => []
def comp2T (elt tg it : Expr) (ifs : List Expr) (tg1 it1 : Expr) (ifs1 : List Expr) (scope : Scope) : Option XE :=
  let ws1 := (tgN tg1).filterMap (idx Γ.N)
  gd (blkB Γ.N Γ.sc scope && ws1.all fun i => decide (i ∈ (blkOwn Γ.N scope).map (·.2))) ((iterT t Γ tg it).bind fun mi => (t.G (blkG Γ scope) ((blkOwn Γ.N scope).map (·.2)) tg).bind fun g =>
  (ifsT t (blkG Γ scope) ifs).bind fun tt => (iterT t (blkG Γ scope) tg1 it1).bind fun mi1 => (t.G (blkG Γ scope) ws1 tg1).bind fun g1 => (ifsT t (blkG Γ scope) ifs1).bind fun tt1 =>
  (t.E (blkG Γ scope) elt).map fun m => xComp2 mi g tt mi1 g1 tt1 m ((blkOwn Γ.N scope).map (·.2)) ws1)
/-- x.get(a, b), x a written dict -/
def getT (o : Expr) (m : Str) (es : List Expr) : Option XE := match o, es with
  | .Name x _, [a, b] => gd (decide (m = ("get" : Str)) && okn x && gl Γ x) ((Γ.dcs.lookup x).bind fun kvs => (t.E Γ a).bind fun ma => (t.E Γ b).map fun mb => xGetC kvs ma mb)
  | _, _ => none
def isDc (o : Expr) : Bool := match o with
  | .Name x _ => (Γ.dcs.lookup x).isSome
  | _ => false
def stepE : Expr → Option XE
  | .Name x _ => nameT Γ x
  | .Constant c _ _ => constT c
  | .UnaryOp .USub a _ => (t.E Γ a).map (xUn dNeg)
  | .UnaryOp .Not a _ => (t.E Γ a).map xNotV
  | .BinOp (.Tuple [x] k p) .Mult b _ => (t.E Γ (.Tuple [x] k p)).bind fun ma => (t.E Γ b).map fun mb => xOp dMulT ma mb
  | .BinOp a op b _ => (opOf op).bind fun f => (t.E Γ a).bind fun ma => (t.E Γ b).map fun mb => xOp f ma mb
  | .BoolOp .And vs _ => andT t Γ vs
  | .BoolOp .Or vs _ => orT t Γ vs
  | .Compare a [op] [b] _ => gd (!behindInMarks op b) ((cmpOf op).bind fun f => (t.E Γ a).bind fun ma => (t.E Γ b).map fun mb => xOp f ma mb)
  | .Compare a [op, op'] [b, c] _ => gd (!behindInMarks op b && !behindInMarks op' c) ((cmpOf op).bind fun f => (cmpOf op').bind fun g => (t.E Γ a).bind fun ma => (t.E Γ b).bind fun mb => (t.E Γ c).map fun mc => xChain f g ma mb mc)
  | .IfExp c a b _ => (t.T Γ c).bind fun tc => (t.E Γ a).bind fun ma => (t.E Γ b).map fun mb => xIf tc ma mb
  | .Tuple es _ _ => (argsT t Γ es).map xTup
  | .List es _ => (argsT t Γ es).map xLst
  | .Dict [] [] p => some (if p.line ∈ Γ.dit then xDit0 else xDic0)
  | .Dict (k :: ks) (v :: vs) _ => gd ((k :: ks).all (·.isSome) && decide ((k :: ks).length = (v :: vs).length) && decide ((k :: ks).length ≤ 15)) ((pairsT t Γ (k :: ks) (v :: vs)).map xDisp)
  | .Subscript a (.Slice none none (some (.UnaryOp .USub (.Constant (.int 1) _ _) _)) _) _ => (t.E Γ a).map xRev
  | .Subscript a (.Slice lo hi none _) _ => (t.E Γ a).bind fun ma => (optT t Γ lo).bind fun ml => (optT t Γ hi).map fun mh => xSl ma ml mh
  | .Subscript a b _ => if (insE Γ "__getitem__" 2 a).isSome = true then subT t Γ a b else gd (plainIx b) ((t.E Γ a).bind fun ma => (t.E Γ b).map fun mb => xOp dIx ma mb)
  | .Attribute o g _ => gd (abB o) ((Γ.at_.lookup g).bind fun T => (t.E Γ o).map fun mo => xAttr T g mo)
  | .Call (.Name x p) es kws _ => if x ∈ Γ.ins then (if kws.isEmpty = true then ownCallT t Γ x p es kws else ownCallKT t Γ x p es kws) else if ((lenT t Γ x es kws).isSome = true) then lenT t Γ x es kws else callT t Γ x es kws
  | .Call (.Attribute o m apos) es kws cpos => if isDc Γ o = true then gd (kws.isEmpty && (apos.endLine == cpos.line) && (es.all fun e => !isSt e)) (getT t Γ o m es) else if kws.isEmpty = true then methT t Γ o m apos es kws cpos else methKT t Γ o m apos es kws cpos
  | .ListComp elt [⟨tg, it, ifs, 0⟩] scope _ => compT t Γ elt tg it ifs scope
  | .ListComp elt [⟨tg, it, ifs, 0⟩, ⟨tg1, it1, ifs1, 0⟩] scope _ => comp2T t Γ elt tg it ifs tg1 it1 ifs1 scope
  | _ => none
def stepT : Expr → Option XT
  | .UnaryOp .Not a _ => (t.T Γ a).map xNot
  | .BoolOp .And vs _ => andTT t Γ vs
  | .BoolOp .Or vs _ => orTT t Γ vs
  | .IfExp _ _ _ _ => none
  | .Compare a [op] [b] _ => gd (!behindInMarks op b) ((cmpOf op).bind fun f => (t.E Γ a).bind fun ma => (t.E Γ b).map fun mb => xTrue (xOp f ma mb))
  | .Compare a [op, op'] [b, c] _ => gd (!behindInMarks op b && !behindInMarks op' c) ((cmpOf op).bind fun f => (cmpOf op').bind fun g => (t.E Γ a).bind fun ma => (t.E Γ b).bind fun mb => (t.E Γ c).map fun mc => xTrue (xChain f g ma mb mc))
  | .Compare _ _ _ _ => none
  | e => (t.E Γ e).map xTrue
def rowT (ws : List Nat) : List Expr → Option XGs
  | [] => some gsNil
  | .Starred e _ :: es => gd (!isSt e) ((t.G Γ ws e).bind fun g => (rowT ws es).map fun gs => gsCons g gs)
  | e :: es => (t.G Γ ws e).bind fun g => (rowT ws es).map fun gs => gsCons g gs
def starAt (es : List Expr) : Option Nat := es.findIdx? isSt
def stepG (ws : List Nat) : Expr → Option XG
  | .Name x _ => gd (decide (Γ.sc.names.lookup x = some .local ∨ Γ.sc.names.lookup x = some .cell) && (Γ.fn x || decide (Γ.sc.names.lookup x = some .local))) ((idx Γ.N x).bind fun i => gd (decide (i ∈ ws)) (some (gNm i)))
  | .Tuple es _ _ => (rowT t Γ ws es).map fun gs => match starAt es with
    | none => gRow es.length gs
    | some i => gStar es.length i gs
  | .Subscript o i _ => gd (plainIx i) ((t.E Γ o).bind fun mo => (t.E Γ i).map fun mi => gSubT mo mi)
  | _ => none
def isCp : Expr → Bool
  | .ListComp _ _ _ _ => true
  | .SetComp _ _ _ _ => true
  | .DictComp _ _ _ _ _ => true
  | _ => false
def blockT : List Stmt → Option XS
  | [] => some sNext
  | [s] => t.S Γ s
  | s :: r => (t.S Γ s).bind fun m => (blockT r).map fun ms => sSeq m ms
def allW (Γ : Ga) : List Nat := List.range Γ.N.length
/-- names of a store side by side; some none: not side by side -/
def parT (ts vs : List Expr) : Option (Option (List Str)) :=
  if !(ts.length == 2 || ts.length == 3) || vs.length != ts.length then some none else
  if vs.any isSt = true then some none else
  let names := ts.filterMap fun e => match e with
    | .Name id pos => if Γ.sc.names.lookup id == some .local && pos.line == ((ts.head?.map (·.pos.line)).getD 0) then some id else none
    | _ => none
  if names.length != ts.length || names.eraseDups.length != names.length then some none else
  if vs.all (foldedForSure 8) = true then some none else if vs.all (constantsAlone 8) = true then none else some (some names)
/-- a store that lets the old value go late -/
def swB (s : Scope) (ep : Pos) (x : Str) (p : Pos) : Bool := Γ.sc.names.lookup x == some .local && p.line == ep.line && !(s.names.any fun (n, k) => n == x && (k == .local || k == .cell))
def parS (names : List Str) (ts vs : List Expr) : Option XS := match ts, vs with
  | [.Name x _, .Name y _], [a, b] => gd (decide (names = [x, y] ∧ Γ.sc.names.lookup x = some .local ∧ Γ.sc.names.lookup y = some .local))
    ((idx Γ.N x).bind fun i => (idx Γ.N y).bind fun j => gd (decide (i ≠ j)) ((argsT t Γ [a, b]).map fun ms => sPar [i, j] ms))
  | [.Name x _, .Name y _, .Name z _], [a, b, c] => gd (decide (names = [x, y, z] ∧ Γ.sc.names.lookup x = some .local ∧ Γ.sc.names.lookup y = some .local ∧ Γ.sc.names.lookup z = some .local))
    ((idx Γ.N x).bind fun i => (idx Γ.N y).bind fun j => (idx Γ.N z).bind fun l => gd (decide (i ≠ j ∧ i ≠ l ∧ j ≠ l)) ((argsT t Γ [a, b, c]).map fun ms => sPar [i, j, l] ms))
  | _, _ => none
/-- name = value -/
def setT (x : Str) (p : Pos) (e : Expr) : Option XS := match e with
  | .ListComp elt [⟨tg, it, ifs, 0⟩] scope pos => (idx Γ.N x).bind fun i => (compT t Γ elt tg it ifs scope).bind fun m => if swB Γ scope pos x p = true then some (sAsg m (gNm i)) else (t.G Γ (allW Γ) (.Name x p)).map fun g => sAsg m g
  | e => gd (!isCp e) ((t.E Γ e).bind fun m => (t.G Γ (allW Γ) (.Name x p)).map fun g => sAsg m g)
/-- a, b = value -/
def unT (ts : List Expr) (k : Nat) (pt : Pos) (e : Expr) : Option XS := match e with
  | .Tuple vs k2 p2 => (parT Γ ts vs).bind fun o => match o with
    | some names => parS t Γ names ts vs
    | none => (t.E Γ (.Tuple vs k2 p2)).bind fun m => (t.G Γ (allW Γ) (.Tuple ts k pt)).map fun g => sAsg m g
  | e => (t.E Γ e).bind fun m => (t.G Γ (allW Γ) (.Tuple ts k pt)).map fun g => sAsg m g
def augO : Operator → Option (Int → Int → Int)
  | .Add => some augAdd
  | .Sub => some augSub
  | _ => none
def stepS : Stmt → Option XS
  | .Expr e _ => gd (!isCp e) ((t.E Γ e).map sDrop)
  | .Return none _ => some sRetN
  | .Return (some e) _ => (t.E Γ e).map sRet
  | .Pass _ => some sNext
  | .Break _ => some sBreak
  | .Continue _ => some sCont
  | .If c a b _ => (t.T Γ c).bind fun tc => (blockT t Γ a).bind fun ma => (blockT t Γ b).map fun mb => sIf tc ma mb
  | .While c b [] _ => (t.T Γ c).bind fun tc => (blockT t Γ b).map fun mb => whileL tc mb Γ.W
  | .For tg it b [] _ => (iterT t Γ tg it).bind fun mi => (t.G Γ (allW Γ) tg).bind fun g => (blockT t Γ b).map fun mb => sFor mi g mb
  | .Assign [.Name x p] e _ => setT t Γ x p e
  | .Assign [.Subscript o i _] e _ => gd (!isCp e && plainIx i) ((t.E Γ e).bind fun mv => (t.E Γ o).bind fun mo => (t.E Γ i).map fun mi => sSub mo mi mv)
  | .Assign [.Tuple ts k pt] e _ => unT t Γ ts k pt e
  | .Assign [.Attribute o g _] e _ => gd (!isCp e) ((Γ.sto.lookup g).bind fun cs => (t.E Γ e).bind fun mv => (t.E Γ o).map fun mo => sFld cs g mo mv)
  | .Raise _ _ _ => some sFail
  | .AugAssign (.Name x _) op e _ => gd (decide (Γ.sc.names.lookup x = some .local)) ((idx Γ.N x).bind fun i => (augO op).bind fun f => (t.E Γ e).map fun m => sAug i f m)
  | _ => none
end
def tr0 : Tr := ⟨fun _ _ => none, fun _ _ => none, fun _ _ _ => none, fun _ _ => none⟩
def tr : Nat → Tr
  | 0 => tr0
  | n + 1 => ⟨stepE (tr n), stepT (tr n), stepG (tr n), stepS (tr n)⟩
end Z
/-! text T1 -/
/-! T1: the translator is right, tables and expressions. -/
namespace Z
open PySem PySem.Spec PyProof.Rows L2

structure OkG (cl : Str → Addr) (k : Nat) (Γ : Ga) (X : Cx) (E : XK) : Prop where
  N : X.N = Γ.N
  nd : Γ.N.Nodup
  sc : X.env.scope = Γ.sc
  kind : Γ.sc.kind = .function
  fn : ∀ x, Γ.fn x = true → X.fn x = true
  calm : X.calm = true
  hp : PassesOwn (model X.prog X.w) X.A X.env X.xe
  tk : Tk X E
  room : RoomG k X.A
  fns : ∀ x s, Γ.fns.lookup x = some s → ∃ f fd ps, X.mg x = some (.ref f) ∧ PySem.W.keepIn X.K (.ref f) = true ∧ FnM X.prog X.w X.K X.mg X.base cl k f fd ps s.F ∧ ∀ n ks a, s.bind n ks = some a → BindM X.K fd ps n ks a
  csts : ∀ x d, Γ.csts.lookup x = some d → ∃ v u, X.mg x = some u ∧ RelV v u ∧ ∀ r H, RelD X.K r H d v
  free : ∀ x, x ∈ Γ.free → X.mg x = none
  at_ : ∀ f T, Γ.at_.lookup f = some T → ∃ j, j + 1 ≤ k ∧ AttrOk X.prog X.w X.K X.mg X.base cl j f T
  sto : ∀ f cs, Γ.sto.lookup f = some cs → ∀ c ∈ cs, Cls X.K (cl c) ∧ NoAttr X.K (cl c) f
  mth : ∀ m L, Γ.mth.lookup m = some L → MethOk X.prog X.w X.K X.mg X.base cl k m L
  mks : ∀ x s, Γ.mks.lookup x = some s → ∃ f fd ps j, j + 1 ≤ k ∧ X.mg x = some (.ref (cl x)) ∧ Mk X.K (cl x) f ∧ FnM X.prog X.w X.K X.mg X.base cl j f fd ps s.F ∧ ∀ n ks a, s.bind n ks = some a → BindM X.K fd ps (n + 1) ks a
  dcs : ∀ x kvs, Γ.dcs.lookup x = some kvs → ∃ a, X.mg x = some (.ref a) ∧ dicB X.K a kvs = true
  own : ∀ m p, Γ.own.lookup m = some p → ∃ j, j + 1 ≤ k ∧ OwnOk X.prog X.w X.K X.mg X.base cl j m p.1 p.2
  mtk : ∀ m p, Γ.mtk.lookup m = some p → MethOkK X.prog X.w X.K X.mg X.base cl k m p.1 p.2
  owk : ∀ m p, Γ.owk.lookup m = some p → ∃ j, j + 1 ≤ k ∧ OwnOkK X.prog X.w X.K X.mg X.base cl j m p.1 p.2
structure Sound (t : Tr) : Prop where
  E : ∀ {cl k Γ X E}, OkG cl k Γ X E → ∀ {e m}, t.E Γ e = some m → PEm X cl E e m
  T : ∀ {cl k Γ X E}, OkG cl k Γ X E → ∀ {e m}, t.T Γ e = some m → PTm X cl E e m
  G : ∀ {cl k Γ X E}, OkG cl k Γ X E → ∀ {ws e g}, t.G Γ ws e = some g → PGm X cl E ws e g ∧ GoodG g
  S : ∀ {cl k Γ X E}, OkG cl k Γ X E → ∀ {s m}, t.S Γ s = some m → PSm X cl E s m
/-! ### helpers -/
theorem gd_inv {α : Type} {b : Bool} {x : Option α} {a : α} (h : gd b x = some a) : b = true ∧ x = some a := by
  unfold gd at h
  split at h
  · exact ⟨by assumption, h⟩
  · cases h
theorem bd_inv {α β : Type} {x : Option α} {f : α → Option β} {b : β} (h : x.bind f = some b) : ∃ a, x = some a ∧ f a = some b := Option.bind_eq_some_iff.mp h
theorem mp_inv {α β : Type} {x : Option α} {f : α → β} {b : β} (h : x.map f = some b) : ∃ a, x = some a ∧ f a = b := Option.map_eq_some_iff.mp h
theorem lookup_in {α : Type} {x : Str} {a : α} : ∀ {l : List (Str × α)}, l.lookup x = some a → (x, a) ∈ l
  | [], h => by cases h
  | (y, b) :: r, h => by
    rw [List.lookup_cons] at h
    by_cases e : x = y
    · subst e
      rw [beq_self_eq_true] at h
      cases h
      exact List.mem_cons_self
    · rw [beq_eq_false_iff_ne.mpr e] at h
      exact List.mem_cons_of_mem _ (lookup_in h)
theorem st_cons {e : Expr} {es : List Expr} {env : Env} (h : isSt e = false) : starEach (e :: es) env = (false, eval e env) :: starEach es env := by
  cases e <;> first | rfl | cases h
theorem st_any {pos : Pos} {env : Env} : ∀ {es : List Expr}, (es.all fun e => !isSt e) = true → (backTo pos (starEach es env)).any (·.1) = false
  | [], _ => rfl
  | e :: es, h => by
    rw [List.all_cons, Bool.and_eq_true] at h
    rw [st_cons (by simpa using h.1)]
    show (false || (backTo pos (starEach es env)).any (·.1)) = false
    rw [st_any h.2]
    rfl
theorem st_all {pos : Pos} {env : Env} : ∀ {es : List Expr}, (es.all fun e => !isSt e) = true → (backTo pos (starEach es env)).all (fun x => !x.1) = true
  | [], _ => rfl
  | e :: es, h => by
    rw [List.all_cons, Bool.and_eq_true] at h
    rw [st_cons (by simpa using h.1)]
    show (true && (backTo pos (starEach es env)).all (fun x => !x.1)) = true
    rw [st_all h.2]
    rfl
theorem idx_get {N : List Str} {x : Str} {i : Nat} (h : idx N x = some i) : N[i]? = some x := by
  obtain ⟨hl, h1, _⟩ := List.findIdx?_eq_some_iff_getElem.mp h
  rw [List.getElem?_eq_getElem hl]
  exact congrArg some (of_decide_eq_true h1)
section
variable {cl : Str → Addr} {k : Nat} {Γ : Ga} {X : Cx} {E : XK}
theorem OkG.gl (O : OkG cl k Γ X E) {x : Str} (h : gl Γ x = true) : Gl X x := by
  show X.env.scope.names.lookup x = _
  rw [O.sc]
  exact of_decide_eq_true h
theorem OkG.vis (O : OkG cl k Γ X E) {x : Str} (h : vis Γ x = true) : Vis X.env.scope x := by
  unfold Vis
  rw [O.sc]
  exact of_decide_eq_true h
theorem OkG.idx (O : OkG cl k Γ X E) {x : Str} {i : Nat} (h : idx Γ.N x = some i) : X.N[i]? = some x := by
  rw [O.N]
  exact idx_get h
theorem OkG.units (O : OkG cl k Γ X E) : X.A.units + 200 < cLine := by have := O.room.room.un; omega
theorem okn1 {x : Str} (h : okn x = true) : (x == ("__debug__" : Str)) = false ∧ (x == ("__classdict__" : Str)) = false ∧ x ≠ "__name__" := by
  simp only [okn, Bool.and_eq_true, Bool.not_eq_true'] at h
  exact ⟨h.1.1, h.1.2, fun e => by rw [e] at h; exact absurd h.2 (by decide)⟩
theorem opOf_ok {op : Operator} {f : D → D → Hd → Out D} (h : opOf op = some f) : ∃ rd, OpR X (binaryOp op) rd ∧ OpM X.K cl E rd f := by
  cases op <;> first | cases h | skip
  · exact ⟨_, opr_add, opm_add⟩
  · exact ⟨_, op_sub, opm_sub⟩
  · exact ⟨_, opr_mul, opm_mul⟩
  · exact ⟨_, op_mod, opm_mod⟩
  · exact ⟨_, op_pow, opm_pow⟩
  · exact ⟨_, op_fdiv, opm_div⟩
theorem cmpOf_ok (O : OkG cl k Γ X E) {op : CmpOp} {f : D → D → Hd → Out D} (h : cmpOf op = some f) : ∃ rd, OpR X (compareOp op) rd ∧ OpM X.K cl E rd f := by
  have hu := O.units
  cases op <;> cases h
  · exact ⟨_, opr_eq (by omega), opm_eq⟩
  · exact ⟨_, opr_ne (by omega), opm_ne⟩
  · exact ⟨_, op_lt, opm_cmp _⟩
  · exact ⟨_, op_le, opm_cmp _⟩
  · exact ⟨_, op_gt, opm_cmp _⟩
  · exact ⟨_, op_ge, opm_cmp _⟩
  · exact ⟨_, opr_is, opm_is⟩
  · exact ⟨_, opr_isNot, opm_isNot⟩
  · exact ⟨_, opr_inX (by omega), opm_inX⟩
  · exact ⟨_, opr_notInX (by omega), opm_notInX⟩
/-- what stands behind a builtin's name -/
def BfOk (X : Cx) (cl : Str → Addr) (E : XK) (p : Str × (List D → Hd → Out D)) : Prop :=
  (∃ id rd, CallR X (.builtin id) rd ∧ CallM X.K cl E rd p.2 ∧ bootBuiltins p.1 = some (.builtin id)) ∨ ∃ T rd, CallR X (.type T) rd ∧ CallM X.K cl E rd p.2 ∧ bootBuiltins p.1 = some (.type T)
theorem bfTab_ok (O : OkG cl k Γ X E) : ∀ p ∈ bfTab, BfOk X cl E p := by
  have hu := O.units
  intro p hp
  simp only [bfTab, List.mem_cons, List.not_mem_nil, or_false] at hp
  rcases hp with rfl | rfl | rfl | rfl | rfl | rfl | rfl | rfl | rfl | rfl | rfl | rfl | rfl
  · exact .inl ⟨_, _, cr_len, cm_len, by decide +kernel⟩
  · exact .inr ⟨_, _, call_tuple_of, cm_tuple, by decide +kernel⟩
  · exact .inr ⟨_, _, call_list_of, cm_list, by decide +kernel⟩
  · exact .inr ⟨_, _, cr_int call_int_str, cm_int, by decide +kernel⟩
  · exact .inl ⟨_, _, cr_all O.calm, cm_all, by decide +kernel⟩
  · exact .inl ⟨_, _, cr_any O.calm, cm_any, by decide +kernel⟩
  · exact .inl ⟨_, _, cr_sum O.calm, cm_sum, by decide +kernel⟩
  · exact .inl ⟨_, _, call_max2 O.calm, cm_max, by decide +kernel⟩
  · exact .inl ⟨_, _, call_min2 O.calm, cm_min, by decide +kernel⟩
  · exact .inl ⟨_, _, call_abs, cm_abs, by decide +kernel⟩
  · exact .inl ⟨_, _, call_repr O.room.gd (by omega), cm_repr, by decide +kernel⟩
  · exact .inr ⟨_, _, call_str_int, cm_str, by decide +kernel⟩
  · exact .inl ⟨_, _, cr_sortX (by omega) O.room.room.hd, cm_sortX, by decide +kernel⟩
end
end Z
/-! text T2 -/
/-! T2: the translator is right, expressions. -/
namespace Z
open PySem PySem.Spec PyProof.Rows L2
section
variable {cl : Str → Addr} {k : Nat} {Γ : Ga} {X : Cx} {E : XK} {t : Tr}
theorem name_ok (O : OkG cl k Γ X E) {x : Str} {p : Pos} {m : XE} (h : nameT Γ x = some m) : PEm X cl E (.Name x p) m := by
  obtain ⟨hn, h⟩ := gd_inv h
  obtain ⟨n1, n2, n3⟩ := okn1 hn
  split at h
  · rename_i hv
    obtain ⟨i, hi, rfl⟩ := mp_inv h
    exact em_var (O.idx hi) (O.vis hv) n1 n2
  · split at h
    · rename_i hg
      obtain ⟨d, hd, rfl⟩ := mp_inv h
      obtain ⟨v, u, h1, h2, h3⟩ := O.csts x d hd
      exact em_c (pe_glob (O.gl hg) h1 h2 n1) h3
    · cases h
theorem const_ok {c : Const} {j : Nat} {p : Pos} {m : XE} (h : constT c = some m) : PEm X cl E (.Constant c j p) m := by
  cases c <;> cases h
  · exact em_c pe_non fun _ _ => .non
  · exact em_c pe_bl fun _ _ => .bl
  · exact em_c pe_int fun _ _ => .int
  · exact em_c pe_str fun _ _ => .str
theorem args_ok (S : Sound t) (O : OkG cl k Γ X E) : ∀ {es : List Expr} {ms : XA}, argsT t Γ es = some ms → PAm X cl E es ms
  | [], _, h => by cases h; exact am_nil
  | e :: es, ms, h => by
    by_cases hs : isSt e = true
    · cases e <;> first | cases hs | skip
      obtain ⟨m, h1, h⟩ := bd_inv h
      obtain ⟨mr, h2, rfl⟩ := mp_inv h
      exact am_star (S.E O h1) (args_ok S O h2) rfl
    · have hs : isSt e = false := by simpa using hs
      have h' : ((t.E Γ e).bind fun m => (argsT t Γ es).map fun ms => xCons m ms) = some ms := by
        cases e <;> first | exact h | cases hs
      obtain ⟨m, h1, h⟩ := bd_inv h'
      obtain ⟨mr, h2, rfl⟩ := mp_inv h
      exact am_cons (S.E O h1) (args_ok S O h2) (st_cons hs)
theorem kws_ok (S : Sound t) (O : OkG cl k Γ X E) : ∀ {ks : List Keyword} {ms : XA}, kwsT t Γ ks = some ms → PKm X cl E ks ms ∧ (∀ pos, (backToKw pos (keywordEach ks X.env)).all (·.1.isSome) = true) ∧ (∀ pos, (backToKw pos (keywordEach ks X.env)).filterMap (·.1) = kwNames ks) ∧
    (∀ pos, (backToKw pos (keywordEach ks X.env)).any (·.1.isNone) = false)
  | [], _, h => by cases h; exact ⟨km_nil, fun _ => rfl, fun _ => rfl, fun _ => rfl⟩
  | ⟨none, e, p⟩ :: ks, ms, h => by cases h
  | ⟨some n, e, p⟩ :: ks, ms, h => by
    obtain ⟨m, h1, h⟩ := bd_inv h
    obtain ⟨mr, h2, rfl⟩ := mp_inv h
    obtain ⟨q1, q2, q3, q4⟩ := kws_ok S O h2
    refine ⟨km_cons (S.E O h1) q1, fun pos => ?_, fun pos => ?_, fun pos => ?_⟩
    · show (true && (backToKw pos (keywordEach ks X.env)).all (·.1.isSome)) = true
      rw [q2] <;> rfl
    · show n :: (backToKw pos (keywordEach ks X.env)).filterMap (·.1) = n :: kwNames ks
      rw [q3]
    · show (false || (backToKw pos (keywordEach ks X.env)).any (·.1.isNone)) = false
      rw [q4] <;> rfl
theorem and_ok (S : Sound t) (O : OkG cl k Γ X E) {pos : Pos} : ∀ {es : List Expr} {m : XE}, andT t Γ es = some m → PEm X cl E (.BoolOp .And es pos) m
  | [], _, h => by cases h
  | [a], _, h => em_one (S.E O h)
  | a :: b :: r, _, h => by
    obtain ⟨m, h1, h⟩ := bd_inv h
    obtain ⟨mr, h2, rfl⟩ := mp_inv h
    exact em_and (S.E O h1) (and_ok S O h2)
theorem or_ok (S : Sound t) (O : OkG cl k Γ X E) {pos : Pos} : ∀ {es : List Expr} {m : XE}, orT t Γ es = some m → PEm X cl E (.BoolOp .Or es pos) m
  | [], _, h => by cases h
  | [a], _, h => em_one (S.E O h)
  | a :: b :: r, _, h => by
    obtain ⟨m, h1, h⟩ := bd_inv h
    obtain ⟨mr, h2, rfl⟩ := mp_inv h
    exact em_or (S.E O h1) (or_ok S O h2)
theorem andT_ok (S : Sound t) (O : OkG cl k Γ X E) {pos : Pos} : ∀ {es : List Expr} {m : XT}, andTT t Γ es = some m → PWm X cl E (.BoolOp .And es pos) m
  | [], _, h => by cases h
  | [a], _, h => wm_and1 (S.T O h)
  | a :: b :: r, _, h => by
    obtain ⟨m, h1, h⟩ := bd_inv h
    obtain ⟨mr, h2, rfl⟩ := mp_inv h
    exact wm_and (S.T O h1) (andT_ok S O h2)
theorem orT_ok (S : Sound t) (O : OkG cl k Γ X E) {pos : Pos} : ∀ {es : List Expr} {m : XT}, orTT t Γ es = some m → PWm X cl E (.BoolOp .Or es pos) m
  | [], _, h => by cases h
  | [a], _, h => wm_or1 (S.T O h)
  | a :: b :: r, _, h => by
    obtain ⟨m, h1, h⟩ := bd_inv h
    obtain ⟨mr, h2, rfl⟩ := mp_inv h
    exact wm_or (S.T O h1) (orT_ok S O h2)
theorem pairs_ok (S : Sound t) (O : OkG cl k Γ X E) {pos : Pos} : ∀ {ks : List (Option Expr)} {vs : List Expr} {m : XPs}, pairsT t Γ ks vs = some m → PPm X cl E pos ks vs m
  | [], [], _, h => by cases h; exact pm_nil
  | [], _ :: _, _, h => by cases h
  | none :: _, [], _, h => by cases h
  | some _ :: _, [], _, h => by cases h
  | none :: _, _ :: _, _, h => by cases h
  | some a :: ks, v :: vs, _, h => by
    obtain ⟨mk, h1, h⟩ := bd_inv h
    obtain ⟨mv, h2, h⟩ := bd_inv h
    obtain ⟨m, h3, rfl⟩ := mp_inv h
    exact pm_cons (S.E O h1) (S.E O h2) (pairs_ok S O h3)
theorem opt_ok (S : Sound t) (O : OkG cl k Γ X E) : ∀ {o : Option Expr} {m : XO}, optT t Γ o = some m → POm X cl E o m
  | none, _, h => by cases h; exact om_none
  | some e, _, h => by
    obtain ⟨m, h1, rfl⟩ := mp_inv h
    exact om_some (S.E O h1)
theorem fn_ok (S : Sound t) (O : OkG cl k Γ X E) {x : Str} {s : FnS} {es : List Expr} {kws : List Keyword} {p pos : Pos} {m : XE} (hs : Γ.fns.lookup x = some s) (g : Gl X x) (n1 : (x == ("__debug__" : Str)) = false) (hst : (es.all fun e => !isSt e) = true)
    (h0 : fnT t Γ s es kws = some m) : PEm X cl E (.Call (.Name x p) es kws pos) m := by
  obtain ⟨f, fd, ps, h1, h2, h3, h4⟩ := O.fns x s hs
  obtain ⟨a, ha, h5⟩ := bd_inv h0
  obtain ⟨ms, hm, h6⟩ := bd_inv h5
  have bd := h4 _ _ _ ha
  have hr : RoomG k X.A := O.room
  cases kws with
  | nil =>
    cases h6
    cases es with
    | nil =>
      cases hm
      exact em_call0 h3 hr O.tk g h1 h2 bd n1
    | cons e es =>
      rw [List.all_cons, Bool.and_eq_true] at hst
      exact em_call h3 hr O.tk g h1 h2 (args_ok S O hm) bd n1 (st_cons (by simpa using hst.1)) (st_any hst.2)
  | cons kw r =>
    obtain ⟨mk, hmk, rfl⟩ := mp_inv h6
    obtain ⟨q1, q2, q3, q4⟩ := kws_ok S O hmk
    cases es with
    | nil =>
      cases hm
      exact em_callK0 h3 hr O.tk g h1 h2 q1 bd (q2 _) (q3 _) n1 (by rw [q4] <;> rfl)
    | cons e es =>
      have hst' := hst
      rw [List.all_cons, Bool.and_eq_true] at hst
      exact em_callK h3 hr O.tk g h1 h2 (args_ok S O hm) q1 bd (q2 _) (q3 _) n1 (st_cons (by simpa using hst.1)) (by rw [st_any hst', q4] <;> rfl)
theorem mk_ok (S : Sound t) (O : OkG cl k Γ X E) {x : Str} {s : FnS} {es : List Expr} {kws : List Keyword} {p pos : Pos} {m : XE} (hs : Γ.mks.lookup x = some s) (g : Gl X x) (n1 : (x == ("__debug__" : Str)) = false) (hst : (es.all fun e => !isSt e) = true)
    (h0 : mkT t Γ x s es kws = some m) : PEm X cl E (.Call (.Name x p) es kws pos) m := by
  obtain ⟨f, fd, ps, j, hj, h1, h2, h3, h4⟩ := O.mks x s hs
  obtain ⟨a, ha, h5⟩ := bd_inv h0
  obtain ⟨ms, hm, h6⟩ := bd_inv h5
  have bd := h4 _ _ _ ha
  have hr : RoomG (j + 1) X.A := O.room.mono hj
  cases kws with
  | nil =>
    cases h6
    cases es with
    | nil =>
      cases hm
      exact em_make0 h2 h3 hr O.tk g h1 bd n1
    | cons e es =>
      rw [List.all_cons, Bool.and_eq_true] at hst
      exact em_make h2 h3 hr O.tk g h1 (args_ok S O hm) bd n1 (st_cons (by simpa using hst.1)) (st_any hst.2)
  | cons kw r =>
    obtain ⟨mk, hmk, rfl⟩ := mp_inv h6
    obtain ⟨q1, q2, q3, q4⟩ := kws_ok S O hmk
    cases es with
    | nil =>
      cases hm
      exact em_makeK0 h2 h3 hr O.tk g h1 q1 bd (q2 _) (q3 _) n1 (by rw [q4] <;> rfl)
    | cons e es =>
      have hst' := hst
      rw [List.all_cons, Bool.and_eq_true] at hst
      exact em_makeK h2 h3 hr O.tk g h1 (args_ok S O hm) q1 bd (q2 _) (q3 _) n1 (st_cons (by simpa using hst.1)) (by rw [st_any hst', q4] <;> rfl)
theorem isi_ok (S : Sound t) (O : OkG cl k Γ X E) {es : List Expr} {p pos : Pos} {m : XE} (hg : gl Γ "isinstance" = true) (hm : X.mg "isinstance" = none) (hst : (es.all fun e => !isSt e) = true) (h0 : isiT t Γ es = some m) : PEm X cl E (.Call (.Name "isinstance" p) es [] pos) m := by
  unfold isiT at h0
  split at h0
  · rename_i e y q
    rw [List.all_cons, Bool.and_eq_true] at hst
    obtain ⟨hy, h1⟩ := gd_inv h0
    simp only [Bool.and_eq_true] at hy
    obtain ⟨T, hT, h2⟩ := bd_inv h1
    obtain ⟨m', h3, rfl⟩ := mp_inv h2
    obtain ⟨y1, y2, y3⟩ := okn1 hy.1.1
    have tb : bootBuiltins y = some (.type T) := by
      have := lookup_in hT
      simp only [tyTab, List.mem_cons, Prod.mk.injEq, List.not_mem_nil, or_false] at this
      rcases this with ⟨rfl, rfl⟩ | ⟨rfl, rfl⟩ | ⟨rfl, rfl⟩ | ⟨rfl, rfl⟩ | ⟨rfl, rfl⟩ | ⟨rfl, rfl⟩ <;> decide +kernel
    exact em_isi (S.E O h3) (O.gl hg) hm (O.gl hy.1.2) (O.free y (of_decide_eq_true hy.2)) tb y3 y1 (st_cons (by simpa using hst.1)) rfl (st_any hst.2) (by decide +kernel)
  · cases h0
theorem blt_ok (S : Sound t) (O : OkG cl k Γ X E) {x : Str} {es : List Expr} {p pos : Pos} {m : XE} (n1 : (x == ("__debug__" : Str)) = false) (n3 : x ≠ "__name__") (hg : gl Γ x = true) (hm : X.mg x = none) (hst : (es.all fun e => !isSt e) = true) (h1 : bltT t Γ x es = some m) : PEm X cl E (.Call (.Name x p) es [] pos) m := by
  unfold bltT at h1
  by_cases hx : x = ("isinstance" : Str)
  · rw [if_pos hx] at h1
    subst hx
    exact isi_ok S O hg hm hst h1
  · rw [if_neg hx] at h1
    obtain ⟨he, h2⟩ := gd_inv h1
    obtain ⟨f, hf, h3⟩ := bd_inv h2
    obtain ⟨ms, h4, rfl⟩ := mp_inv h3
    cases es with
    | nil => cases he
    | cons e es =>
      rw [List.all_cons, Bool.and_eq_true] at hst
      rcases bfTab_ok O _ (lookup_in hf) with ⟨id, rd, c1, c2, c3⟩ | ⟨T, rd, c1, c2, c3⟩
      · exact em_callB c1 c2 (O.gl hg) hm c3 (args_ok S O h4) n3 n1 (st_cons (by simpa using hst.1)) (st_any hst.2)
      · exact em_callTy c1 c2 (O.gl hg) hm c3 (args_ok S O h4) n3 n1 (st_cons (by simpa using hst.1)) (st_any hst.2)
end
end Z
/-! text T3 -/
/-! T3: the translator is right, methods, comprehensions, all expressions, tests. -/
namespace Z
open PySem PySem.Spec PyProof.Rows L2
section
variable {cl : Str → Addr} {k : Nat} {Γ : Ga} {X : Cx} {E : XK} {t : Tr}
def MtOk (X : Cx) (cl : Str → Addr) (E : XK) (p : Str × (D → Hd → Bool) × (D → List D → Hd → Out D)) : Prop := ∃ T id rd, PlainAttrs T ∧ Slot T p.1 id ∧ typeOf (.builtin id) = pure (.type "method_descriptor") ∧ MtR X id rd ∧ MtM2 X.K cl E rd p.2.2 ∧
  ∀ (r : List Addr) (h : Hd) (H : Hp) (x : D) (v : V), RelH X.K cl r h H → RelD X.K r H x v → p.2.1 x h = true → tyV X.K T v H
theorem mtTab_ok : ∀ p ∈ mtTab, MtOk X cl E p := by
  intro p hp
  simp only [mtTab, List.mem_cons, List.not_mem_nil, or_false] at hp
  rcases hp with rfl | rfl | rfl
  · exact ⟨_, _, _, PySem.F.plainAttrs_list, PySem.F.slot_list_append, PySem.F.type_list_append, mt_append, mm_append, fun _ _ _ _ _ => isLst_ty⟩
  · exact ⟨_, _, _, PySem.F.plainAttrs_list, PySem.F.slot_list_extend, PySem.F.type_list_extend, mt_ext, mm_ext, fun _ _ _ _ _ => isLst_ty⟩
  · exact ⟨_, _, _, PySem.F.plainAttrs_dict, PySem.F.slot_dict_update, PySem.F.type_dict_update, mt_update, mm_update, fun _ _ _ _ _ => isDic_ty⟩
theorem mtTab0_ok : ∀ p ∈ mtTab0, MtOk X cl E p := by
  intro p hp
  simp only [mtTab0, List.mem_cons, List.not_mem_nil, or_false] at hp
  subst hp
  exact ⟨_, _, _, PySem.F.plainAttrs_list, PySem.F.slot_list_pop, PySem.F.type_list_pop, mt_pop, mm_pop, fun _ _ _ _ _ => isLst_ty⟩
theorem ab_ok {o : Expr} {a : Str} {env : Env} {w : Sem Value} (h : abB o = true) : attributeBase o a env w = w := by
  unfold attributeBase
  split
  · cases h
  · rfl
theorem meth_ok (S : Sound t) (O : OkG cl k Γ X E) {o : Expr} {n : Str} {apos cpos : Pos} {es : List Expr} {kws : List Keyword} {m : XE} (h : methT t Γ o n apos es kws cpos = some m) : PEm X cl E (.Call (.Attribute o n apos) es kws cpos) m := by
  obtain ⟨hc, h0⟩ := gd_inv h
  simp only [Bool.and_eq_true, decide_eq_true_eq] at hc
  obtain ⟨⟨⟨⟨ha, hk⟩, hl⟩, hst⟩, h30⟩ := hc
  cases kws with
  | cons _ _ => cases hk
  | nil =>
    cases hmt : Γ.mth.lookup n with
    | some L =>
      rw [hmt] at h0
      obtain ⟨mo, h2, h3⟩ := bd_inv h0
      obtain ⟨ms, h4, rfl⟩ := mp_inv h3
      have hb := ab_ok (o := o) (a := n) (env := X.env) (w := eval o X.env) ha
      have few : methodCallForm es.length (backTo cpos (starEach es X.env)) (backToKw cpos (keywordEach [] X.env)) = true := by
        unfold methodCallForm
        rw [st_all hst, Bool.true_and, Bool.and_eq_true]
        exact ⟨rfl, decide_eq_true (show es.length + 0 < 30 by omega)⟩
      have ht : eval (.Call (.Attribute o n apos) es [] cpos) X.env = (do
          let ov ← eval o X.env
          standAt apos.atName
          let (f, first) ← holding [ov] (getMethod ov n (do return (← importBound o X.env).getD true))
          callWith cpos f first (backTo cpos (starEach es X.env)) (backToKw cpos (keywordEach [] X.env))) := by
        show (do
          let ov ← attributeBase o n X.env (eval o X.env)
          standAt apos.atName
          methodCall o n apos cpos X.env ov (es.length + 0) (backTo cpos (starEach es X.env)) (backToKw cpos (keywordEach [] X.env))) = _
        rw [hb]
        unfold methodCall methodCallPos calleeOf
        rw [Nat.add_zero, few, hl]
        rfl
      cases es with
      | nil =>
        cases h4
        exact em_meth0 (S.E O h2) (O.mth n L hmt) O.room O.tk ht
      | cons e es =>
        rw [List.all_cons, Bool.and_eq_true] at hst
        exact em_meth (S.E O h2) (O.mth n L hmt) O.room O.tk (args_ok S O h4) (st_cons (by simpa using hst.1)) (st_any hst.2) ht
    | none =>
    rw [hmt] at h0
    cases es with
    | nil =>
      obtain ⟨q, hq, h1⟩ := bd_inv h0
      obtain ⟨mo, h2, rfl⟩ := mp_inv h1
      obtain ⟨T, id, rd, c1, c2, c3, c4, c5, c6⟩ := mtTab0_ok (X := X) (cl := cl) (E := E) _ (lookup_in hq)
      exact em_bm0 (id := id) (pe_bm0 c1 c2 c3 c4 (S.E O h2) (ab_ok ha) hl) c5 c6
    | cons e es =>
      dsimp only at h0
      have hst' := hst
      rw [List.all_cons, Bool.and_eq_true] at hst
      have few : ((backTo cpos (starEach (e :: es) X.env)).all (fun x => !x.1) && (backToKw cpos (keywordEach [] X.env)).all (fun x => x.1.isSome) && decide ((e :: es).length + ([] : List Keyword).length + (if ([] : List Keyword).isEmpty then 0 else 1) < 30)) = true := by
        rw [st_all hst', Bool.true_and, Bool.and_eq_true]
        exact ⟨rfl, by simpa using h30⟩
      split at h0
      · rename_i hx
        subst hx
        obtain ⟨_, h1⟩ := gd_inv h0
        obtain ⟨mo, h2, h3⟩ := bd_inv h1
        obtain ⟨ms, h4, rfl⟩ := mp_inv h3
        have hu := O.units
        exact em_bmG (T := "dict") (id := "dict.get") (pe_bmG tyDic_ok PySem.F.plainAttrs_dict PySem.F.slot_dict_get PySem.F.type_dict_get (mt_get2 (by omega)) (S.E O h2) (args_ok S O h4) (ab_ok ha) few hl (st_cons (by simpa using hst.1)) (st_any hst.2)) mm_get2 fun _ _ _ _ _ => isDicX_ty
      obtain ⟨q, hq, h1⟩ := bd_inv h0
      obtain ⟨mo, h2, h3⟩ := bd_inv h1
      obtain ⟨ms, h4, rfl⟩ := mp_inv h3
      obtain ⟨T, id, rd, c1, c2, c3, c4, c5, c6⟩ := mtTab_ok (X := X) (cl := cl) (E := E) _ (lookup_in hq)
      exact em_bm (id := id) (pe_bm c1 c2 c3 c4 (S.E O h2) (args_ok S O h4) (ab_ok ha) few hl (st_cons (by simpa using hst.1)) (st_any hst.2)) c5 c6
/-! ### comprehensions -/
theorem fold_ok {e : Expr} {env : Env} (h : isSet e = false) : ∀ x, foldedSetIterable e env x = pure x := fun x => by
  unfold foldedSetIterable
  split
  · cases h
  · rfl
theorem iter_set {tg e : Expr} {m : XI} (h : iterT t Γ tg e = some m) : isSet e = false := by
  cases e <;> first | rfl | cases h
theorem iter_ok (S : Sound t) (O : OkG cl k Γ X E) {tg e : Expr} {m : XI} (h : iterT t Γ tg e = some m) : PIm X cl E tg e m := by
  unfold iterT at h
  split at h
  · rename_i x p0 es pos
    split at h
    · rename_i hx
      obtain ⟨hc, h0⟩ := gd_inv h
      simp only [Bool.and_eq_true] at hc
      have hm := O.free x (of_decide_eq_true hc.2)
      have g := O.gl hc.1
      rw [hx] at hm g ⊢
      split at h0
      · rename_i a
        obtain ⟨h1, h2⟩ := gd_inv h0
        obtain ⟨ms, h3, rfl⟩ := mp_inv h2
        exact im_range1 g hm (args_ok S O h3) (st_cons (by simpa using h1))
      · rename_i a b
        obtain ⟨h1, h2⟩ := gd_inv h0
        rw [Bool.and_eq_true] at h1
        obtain ⟨ms, h3, rfl⟩ := mp_inv h2
        have hb : starEach [b] X.env = [(false, eval b X.env)] := st_cons (by simpa using h1.2)
        exact im_range2 g hm (args_ok S O h3) (by rw [st_cons (by simpa using h1.1), hb]) hb
      · rename_i a b c
        obtain ⟨h1, h2⟩ := gd_inv h0
        rw [Bool.and_eq_true, Bool.and_eq_true] at h1
        obtain ⟨ms, h3, rfl⟩ := mp_inv h2
        exact im_range3 g hm (args_ok S O h3) (st_cons (by simpa using h1.1.1)) (st_any (by simp [h1.1.2, h1.2]))
      · cases h0
    · split at h
      · rename_i hx
        obtain ⟨hc, h0⟩ := gd_inv h
        simp only [Bool.and_eq_true] at hc
        have hm := O.free x (of_decide_eq_true hc.2)
        have g := O.gl hc.1.2
        rw [hx] at hm g ⊢
        cases tg with
        | Tuple elts kk tpos =>
          split at h0
          · rename_i a
            obtain ⟨h1, h2⟩ := gd_inv h0
            obtain ⟨ms, h3, rfl⟩ := mp_inv h2
            exact im_enum g hm (args_ok S O h3) (st_cons (by simpa using h1))
          · cases h0
        | _ => cases hc.1.1
      · obtain ⟨m', h1, rfl⟩ := mp_inv h
        exact im_iter (S.E O h1)
  · split at h
    · rename_i hx
      subst hx
      obtain ⟨hc, h0⟩ := gd_inv h
      simp only [Bool.and_eq_true] at hc
      obtain ⟨m', h1, rfl⟩ := mp_inv h0
      cases tg with
      | Tuple elts kk tpos => exact im_items (S.E O h1) (ab_ok hc.1.2) hc.2
      | _ => cases hc.1.1
    · obtain ⟨m', h1, rfl⟩ := mp_inv h
      exact im_iter (S.E O h1)
  · cases h
  · obtain ⟨m', h1, rfl⟩ := mp_inv h
    exact im_iter (S.E O h1)
theorem blk_is {N : List Str} {sc scope : Scope} (h : blkB N sc scope = true) : BlkOk N sc scope (blkOwn N scope) := by
  simp only [blkB, Bool.and_eq_true, List.all_eq_true, decide_eq_true_eq] at h
  obtain ⟨⟨⟨h1, h2⟩, h3⟩, h4⟩ := h
  refine ⟨h1, h2, fun p hp => ?_, h3, h4⟩
  unfold blkOwn at hp
  obtain ⟨y, hy, e⟩ := List.mem_filterMap.mp hp
  split at e
  · obtain ⟨i, hi, rfl⟩ := mp_inv e
    exact idx_get hi
  · cases e
theorem OkG.blk (O : OkG cl k Γ X E) {scope : Scope} (h : blkB Γ.N Γ.sc scope = true) (s : Shared) (H : Hp) (C : Addr) (cl' : List (Str × Addr)) (fp : List Addr) : OkG cl k (blkG Γ scope) (X.blk s H scope (compEnvC scope cl' C X.env) fp) E00 := by
  have b := blk_is h
  refine ⟨O.N, O.nd, ?_, ?_, fun x hx => hx, O.calm, PassesOwn.never, ?_, O.room, O.fns, O.csts, O.free, O.at_, O.sto, O.mth, O.mks, O.dcs, O.own, O.mtk, O.owk⟩
  · show relS scope X.env.scope = relS scope Γ.sc
    rw [O.sc]
  · exact b.kind
  · rintro u s' ⟨a, B, sI, pins, σ, H, cls, d, e, I, nb, up, sky, na, os, ag, w⟩
    exact w.elim
theorem ifs_ok (S : Sound t) (O : OkG cl k Γ X E) {ifs : List Expr} {m : XT} (h : ifsT t Γ ifs = some m) : PTs X ifs (TTm X.K cl E m) := by
  unfold ifsT at h
  split at h
  · cases h; exact tts_nil
  · exact tts_one (S.T O h)
  · cases h
theorem comp_ok (S : Sound t) (O : OkG cl k Γ X E) {elt tg it : Expr} {ifs : List Expr} {scope : Scope} {pos : Pos} {m : XE} (h : compT t Γ elt tg it ifs scope = some m) :
    PEm X cl E (.ListComp elt [⟨tg, it, ifs, 0⟩] scope pos) m := by
  obtain ⟨hb, h0⟩ := gd_inv h
  obtain ⟨mi, h1, h2⟩ := bd_inv h0
  obtain ⟨g, h3, h4⟩ := bd_inv h2
  obtain ⟨tt, h5, h6⟩ := bd_inv h4
  obtain ⟨me, h7, rfl⟩ := mp_inv h6
  have b := blk_is hb
  refine em_comp O.calm (by rw [O.N]; exact O.nd) (iter_ok S O h1) (own := blkOwn Γ.N scope) (by rw [O.N, O.sc]; exact b) (fun s H C cl' fp => (S.G (O.blk hb s H C cl' fp) h3).1) (fun s H C cl' fp => ifs_ok S (O.blk hb s H C cl' fp) h5) (fun s H C cl' fp => S.E (O.blk hb s H C cl' fp) h7) (fold_ok (iter_set h1))
theorem setC_ok (S : Sound t) (O : OkG cl k Γ X E) {elt tg it : Expr} {scope : Scope} {p pos spos : Pos} {m : XE} (hg : gl Γ "sorted" = true) (hm : X.mg "sorted" = none) (h : setCT t Γ elt tg it scope = some m) :
    PEm X cl E (.Call (.Name "sorted" p) [.SetComp elt [⟨tg, it, [], 0⟩] scope spos] [] pos) m := by
  obtain ⟨hb, h0⟩ := gd_inv h
  obtain ⟨mi, h1, h2⟩ := bd_inv h0
  obtain ⟨g, h3, h4⟩ := bd_inv h2
  obtain ⟨me, h7, rfl⟩ := mp_inv h4
  have b := blk_is hb
  have hu := O.units
  exact em_sortC (by omega) O.room.room.hd O.calm (by rw [O.N]; exact O.nd) (O.gl hg) hm (iter_ok S O h1) (own := blkOwn Γ.N scope) (by rw [O.N, O.sc]; exact b) (fun s H C cl' fp => (S.G (O.blk hb s H C cl' fp) h3).1) (fun s H C cl' fp => S.E (O.blk hb s H C cl' fp) h7) (fold_ok (iter_set h1))
theorem bltX_ok (S : Sound t) (O : OkG cl k Γ X E) {x : Str} {es : List Expr} {kws : List Keyword} {p pos : Pos} {m : XE} (n1 : (x == ("__debug__" : Str)) = false) (n3 : x ≠ "__name__") (hg : gl Γ x = true) (hm : X.mg x = none) (hst : (es.all fun e => !isSt e) = true) (h1 : bltX t Γ x es kws = some m) : PEm X cl E (.Call (.Name x p) es kws pos) m := by
  unfold bltX at h1
  split at h1
  · split at h1
    · obtain ⟨hx, h2⟩ := gd_inv h1
      obtain rfl := of_decide_eq_true hx
      exact setC_ok S O hg hm h2
    · exact blt_ok S O n1 n3 hg hm hst h1
  · rename_i d kk p2 p3
    cases es with
    | nil => cases h1
    | cons e es => cases es with
      | cons _ _ => cases h1
      | nil =>
        obtain ⟨hx, h2⟩ := gd_inv (show gd _ _ = some m from h1)
        rw [Bool.and_eq_true] at hx
        obtain rfl := of_decide_eq_true hx.1
        obtain rfl := of_decide_eq_true hx.2
        obtain ⟨me, h3, rfl⟩ := mp_inv h2
        rw [List.all_cons, Bool.and_eq_true] at hst
        have hu := O.units
        exact em_maxN (by omega) O.room.room.hd (S.E O h3) (O.gl hg) hm (st_cons (by simpa using hst.1))
  · cases h1
theorem call_ok (S : Sound t) (O : OkG cl k Γ X E) {x : Str} {es : List Expr} {kws : List Keyword} {p pos : Pos} {m : XE} (h : callT t Γ x es kws = some m) : PEm X cl E (.Call (.Name x p) es kws pos) m := by
  obtain ⟨hc, h0⟩ := gd_inv h
  simp only [Bool.and_eq_true] at hc
  obtain ⟨⟨hn, hg⟩, hst⟩ := hc
  obtain ⟨n1, n2, n3⟩ := okn1 hn
  cases hl : Γ.fns.lookup x with
  | some s =>
    rw [hl] at h0
    exact fn_ok S O hl (O.gl hg) n1 hst h0
  | none =>
    rw [hl] at h0
    cases hl2 : Γ.mks.lookup x with
    | some s =>
      rw [hl2] at h0
      exact mk_ok S O hl2 (O.gl hg) n1 hst h0
    | none =>
    rw [hl2] at h0
    obtain ⟨hc, h1⟩ := gd_inv h0
    exact bltX_ok S O n1 n3 hg (O.free x (of_decide_eq_true hc)) hst h1
theorem comp2_ok (S : Sound t) (O : OkG cl k Γ X E) {elt tg it tg1 it1 : Expr} {ifs ifs1 : List Expr} {scope : Scope} {pos : Pos} {m : XE} (h : comp2T t Γ elt tg it ifs tg1 it1 ifs1 scope = some m) :
    PEm X cl E (.ListComp elt [⟨tg, it, ifs, 0⟩, ⟨tg1, it1, ifs1, 0⟩] scope pos) m := by
  obtain ⟨hb0, h0⟩ := gd_inv h
  obtain ⟨hb, hv⟩ := Bool.and_eq_true_iff.mp hb0
  obtain ⟨mi, h1, h2⟩ := bd_inv h0
  obtain ⟨g, h3, h4⟩ := bd_inv h2
  obtain ⟨tt, h5, h6⟩ := bd_inv h4
  obtain ⟨mi1, h7, h8⟩ := bd_inv h6
  obtain ⟨g1, h9, h10⟩ := bd_inv h8
  obtain ⟨tt1, h11, h12⟩ := bd_inv h10
  obtain ⟨me, h13, rfl⟩ := mp_inv h12
  have b := blk_is hb
  exact em_comp2 O.calm (by rw [O.N]; exact O.nd) (iter_ok S O h1) (own := blkOwn Γ.N scope) (by rw [O.N, O.sc]; exact b) (fun i hi => of_decide_eq_true (List.all_eq_true.mp hv i hi)) (fun s H C cl' fp => (S.G (O.blk hb s H C cl' fp) h3).1) (fun s H C cl' fp => ifs_ok S (O.blk hb s H C cl' fp) h5)
    (fun s H C cl' fp => iter_ok S (O.blk hb s H C cl' fp) h7) (fun s H C cl' fp => (S.G (O.blk hb s H C cl' fp) h9).1) (fun s H C cl' fp => ifs_ok S (O.blk hb s H C cl' fp) h11) (fun s H C cl' fp => S.E (O.blk hb s H C cl' fp) h13) (fold_ok (iter_set h1)) (fun _ => fold_ok (iter_set h7))
theorem get_ok (S : Sound t) (O : OkG cl k Γ X E) {o : Expr} {n : Str} {apos cpos : Pos} {es : List Expr} {kws : List Keyword} {m : XE} (h : gd (kws.isEmpty && (apos.endLine == cpos.line) && (es.all fun e => !isSt e)) (getT t Γ o n es) = some m) : PEm X cl E (.Call (.Attribute o n apos) es kws cpos) m := by
  obtain ⟨hc, h0⟩ := gd_inv h
  simp only [Bool.and_eq_true] at hc
  obtain ⟨⟨hk, hl⟩, hst⟩ := hc
  cases kws with
  | cons _ _ => cases hk
  | nil =>
    unfold getT at h0
    split at h0
    · rename_i x p a b
      obtain ⟨hc, h1⟩ := gd_inv h0
      simp only [Bool.and_eq_true, decide_eq_true_eq] at hc
      obtain ⟨⟨hm, hn⟩, hg⟩ := hc
      subst hm
      obtain ⟨n1, n2, n3⟩ := okn1 hn
      obtain ⟨kvs, h2, h3⟩ := bd_inv h1
      obtain ⟨ma, h4, h5⟩ := bd_inv h3
      obtain ⟨mb, h6, rfl⟩ := mp_inv h5
      obtain ⟨ad, q1, q2⟩ := O.dcs x kvs h2
      have hst0 := hst
      rw [List.all_cons, List.all_cons, Bool.and_eq_true, Bool.and_eq_true] at hst
      have tre : backTo cpos (starEach [a, b] X.env) = [(false, eval a X.env), (false, eval b X.env)] := by
        rw [st_cons (by simpa using hst.1), st_cons (by simpa using hst.2.1)]
        rfl
      refine em_getC (O.gl hg) q1 q2 n1 (S.E O h4) (S.E O h6) ⟨rfl, ?_, hl, tre⟩
      rw [tre]
      rfl
    · cases h0
theorem ins_ok (O : OkG cl k Γ X E) {m : Str} {n : Nat} {e : Expr} {L : List (Str × Fn)} (h : insE Γ m n e = some L) : ∃ j, j + 1 ≤ k ∧ OwnOk X.prog X.w X.K X.mg X.base cl j m n L := by
  unfold insE at h
  split at h
  · split at h
    · obtain ⟨p, h1, h2⟩ := bd_inv h
      obtain ⟨h3, h4⟩ := gd_inv h2
      cases h4
      rw [← of_decide_eq_true h3]
      exact O.own _ _ h1
    · cases h
  · cases h
theorem one_inv {f : Expr → Option XE} {es : List Expr} {m : XE} (h : oneE f es = some m) : ∃ e, es = [e] ∧ f e = some m := by
  unfold oneE at h
  split at h
  · exact ⟨_, rfl, h⟩
  · cases h
theorem len_ok (S : Sound t) (O : OkG cl k Γ X E) {x : Str} {es : List Expr} {kws : List Keyword} {p pos : Pos} {m : XE} (h : lenT t Γ x es kws = some m) : PEm X cl E (.Call (.Name x p) es kws pos) m := by
  obtain ⟨e, rfl, h⟩ := one_inv h
  obtain ⟨hc, h1⟩ := gd_inv h
  simp only [Bool.and_eq_true, decide_eq_true_eq] at hc
  obtain ⟨⟨⟨⟨hx, hk⟩, hg⟩, hf⟩, hs⟩ := hc
  cases kws with
  | cons _ _ => cases hk
  | nil =>
    subst hx
    obtain ⟨L, h2, h3⟩ := bd_inv h1
    obtain ⟨ms, h4, rfl⟩ := mp_inv h3
    obtain ⟨j, hj, ok⟩ := ins_ok O h2
    exact em_callB (cr_lenO ok (O.room.mono hj)) cm_lenO (O.gl hg) (O.free _ hf) (by decide +kernel) (args_ok S O h4) (by decide) (by decide) (st_cons (by simpa using hs)) rfl
theorem ownCall_ok (S : Sound t) (O : OkG cl k Γ X E) {x : Str} {es : List Expr} {kws : List Keyword} {p pos : Pos} {m : XE} (h : ownCallT t Γ x p es kws = some m) : PEm X cl E (.Call (.Name x p) es kws pos) m := by
  obtain ⟨e, rfl, h⟩ := one_inv h
  obtain ⟨hc, h1⟩ := gd_inv h
  simp only [Bool.and_eq_true] at hc
  obtain ⟨⟨_, hk⟩, hs⟩ := hc
  cases kws with
  | cons _ _ => cases hk
  | nil =>
    obtain ⟨L, h2, h3⟩ := bd_inv h1
    obtain ⟨mf, h4, h5⟩ := bd_inv h3
    obtain ⟨ms, h6, rfl⟩ := mp_inv h5
    obtain ⟨j, hj, ok⟩ := ins_ok O h2
    exact em_callO ok (O.room.mono hj) (S.E O h4) (args_ok S O h6) rfl (st_cons (by simpa using hs))
theorem ownCallK_ok (S : Sound t) (O : OkG cl k Γ X E) {x : Str} {es : List Expr} {kws : List Keyword} {p pos : Pos} {m : XE} (h : ownCallKT t Γ x p es kws = some m) : PEm X cl E (.Call (.Name x p) es kws pos) m := by
  obtain ⟨hc, h1⟩ := gd_inv h
  simp only [Bool.and_eq_true] at hc
  obtain ⟨_, hes⟩ := hc
  cases es with
  | cons _ _ => cases hes
  | nil =>
    obtain ⟨q, h2, h3⟩ := bd_inv h1
    obtain ⟨hq, h4⟩ := gd_inv h3
    obtain ⟨mf, h5, h6⟩ := bd_inv h4
    obtain ⟨mk, h7, rfl⟩ := mp_inv h6
    obtain ⟨j, hj, ok⟩ := O.owk _ q h2
    obtain ⟨k1, k2, k3, k4⟩ := kws_ok S O h7
    rw [← of_decide_eq_true hq]
    exact em_callOK ok (O.room.mono hj) (S.E O h5) k1 (k2 pos) ((k3 pos).trans (of_decide_eq_true hq).symm) (by rw [k4 pos]; rfl) rfl
theorem methK_ok (S : Sound t) (O : OkG cl k Γ X E) {o : Expr} {n : Str} {apos cpos : Pos} {es : List Expr} {kws : List Keyword} {m : XE} (h : methKT t Γ o n apos es kws cpos = some m) : PEm X cl E (.Call (.Attribute o n apos) es kws cpos) m := by
  obtain ⟨hc, h1⟩ := gd_inv h
  simp only [Bool.and_eq_true] at hc
  obtain ⟨⟨⟨⟨ha, hes⟩, hk⟩, hl⟩, h28⟩ := hc
  have h28 := of_decide_eq_true h28
  cases es with
  | cons _ _ => cases hes
  | nil =>
    obtain ⟨q, h2, h3⟩ := bd_inv h1
    obtain ⟨hq, h4⟩ := gd_inv h3
    obtain ⟨mo, h5, h6⟩ := bd_inv h4
    obtain ⟨mk, h7, rfl⟩ := mp_inv h6
    obtain ⟨k1, k2, k3, k4⟩ := kws_ok S O h7
    have hb := ab_ok (o := o) (a := n) (env := X.env) (w := eval o X.env) ha
    have few : methodCallForm (0 + kws.length) (backTo cpos (starEach [] X.env)) (backToKw cpos (keywordEach kws X.env)) = true := by
      unfold methodCallForm
      rw [k2 cpos]
      show (true && true && decide (0 + kws.length + _ < 30)) = true
      rw [Bool.and_eq_true]
      refine ⟨rfl, decide_eq_true ?_⟩
      split <;> omega
    have ht : eval (.Call (.Attribute o n apos) [] kws cpos) X.env = (do
        let ov ← eval o X.env
        standAt apos.atName
        let (f, first) ← holding [ov] (getMethod ov n (do return (← importBound o X.env).getD true))
        callWith cpos f first (backTo cpos (starEach [] X.env)) (backToKw cpos (keywordEach kws X.env))) := by
      show (do
        let ov ← attributeBase o n X.env (eval o X.env)
        standAt apos.atName
        methodCall o n apos cpos X.env ov (0 + kws.length) (backTo cpos (starEach [] X.env)) (backToKw cpos (keywordEach kws X.env))) = _
      rw [hb]
      unfold methodCall methodCallPos calleeOf
      rw [few, hl]
      rfl
    rw [← of_decide_eq_true hq]
    exact em_methK (S.E O h5) (O.mtk n q h2) O.room O.tk k1 (k2 cpos) ((k3 cpos).trans (of_decide_eq_true hq).symm) (by rw [k4 cpos]; rfl) ht
theorem sub_ok (S : Sound t) (O : OkG cl k Γ X E) {a b : Expr} {pos : Pos} {m : XE} (h : subT t Γ a b = some m) : PEm X cl E (.Subscript a b pos) m := by
  obtain ⟨hp, h1⟩ := gd_inv h
  obtain ⟨L, h2, h3⟩ := bd_inv h1
  obtain ⟨ma, h4, h5⟩ := bd_inv h3
  obtain ⟨mb, h6, rfl⟩ := mp_inv h5
  obtain ⟨j, hj, ok⟩ := ins_ok O h2
  exact em_ixO ok (O.room.mono hj) (S.E O h4) (S.E O h6) fun v u => by cases b <;> first | rfl | cases hp
/-! ### all expressions -/
theorem plain_ok {b : Expr} (h : plainIx b = true) : PlainIx b := fun o i => by
  cases b <;> first | rfl | cases h
theorem stepE_ok (S : Sound t) (O : OkG cl k Γ X E) {e : Expr} {m : XE} (h : stepE t Γ e = some m) : PEm X cl E e m := by
  have hu := O.units
  unfold stepE at h
  split at h
  · exact name_ok O h
  · exact const_ok h
  · obtain ⟨ma, h1, rfl⟩ := mp_inv h
    exact em_un un_neg unm_neg (S.E O h1)
  · obtain ⟨ma, h1, rfl⟩ := mp_inv h
    exact em_not (S.E O h1)
  · obtain ⟨ma, h3, h4⟩ := bd_inv h
    obtain ⟨mb, h5, rfl⟩ := mp_inv h4
    exact em_op opr_mulT opm_mulT (S.E O h3) (S.E O h5)
  · obtain ⟨f, h1, h2⟩ := bd_inv h
    obtain ⟨ma, h3, h4⟩ := bd_inv h2
    obtain ⟨mb, h5, rfl⟩ := mp_inv h4
    obtain ⟨rd, o1, o2⟩ := opOf_ok h1
    exact em_op o1 o2 (S.E O h3) (S.E O h5)
  · exact and_ok S O h
  · exact or_ok S O h
  · obtain ⟨hb, h0⟩ := gd_inv h
    obtain ⟨f, h1, h2⟩ := bd_inv h0
    obtain ⟨ma, h3, h4⟩ := bd_inv h2
    obtain ⟨mb, h5, rfl⟩ := mp_inv h4
    obtain ⟨rd, o1, o2⟩ := cmpOf_ok O h1
    exact em_cmp o1 o2 (S.E O h3) (S.E O h5) (by simpa using hb)
  · obtain ⟨hb, h0⟩ := gd_inv h
    rw [Bool.and_eq_true] at hb
    obtain ⟨f, h1, h2⟩ := bd_inv h0
    obtain ⟨g, h1', h2'⟩ := bd_inv h2
    obtain ⟨ma, h3, h4⟩ := bd_inv h2'
    obtain ⟨mb, h5, h6⟩ := bd_inv h4
    obtain ⟨mc, h7, rfl⟩ := mp_inv h6
    obtain ⟨rd, o1, o2⟩ := cmpOf_ok O h1
    obtain ⟨rd', o1', o2'⟩ := cmpOf_ok O h1'
    exact em_chain o1 o1' o2 o2' (S.E O h3) (S.E O h5) (S.E O h7) (by simpa [lastMarks] using hb.2)
  · obtain ⟨tc, h1, h2⟩ := bd_inv h
    obtain ⟨ma, h3, h4⟩ := bd_inv h2
    obtain ⟨mb, h5, rfl⟩ := mp_inv h4
    exact em_if (S.T O h1) (S.E O h3) (S.E O h5)
  · obtain ⟨ms, h1, rfl⟩ := mp_inv h
    exact em_tup (args_ok S O h1)
  · obtain ⟨ms, h1, rfl⟩ := mp_inv h
    exact em_lst (args_ok S O h1)
  · split at h <;> cases h
    · exact em_dit0
    · exact em_dic0
  · obtain ⟨hb, h0⟩ := gd_inv h
    simp only [Bool.and_eq_true, decide_eq_true_eq] at hb
    obtain ⟨m', h1, rfl⟩ := mp_inv h0
    exact em_dict (pairs_ok S O h1) hb.1.1 hb.1.2 hb.2
  · obtain ⟨ma, h1, rfl⟩ := mp_inv h
    exact em_rev (S.E O h1)
  · obtain ⟨ma, h1, h2⟩ := bd_inv h
    obtain ⟨ml, h3, h4⟩ := bd_inv h2
    obtain ⟨mh, h5, rfl⟩ := mp_inv h4
    exact em_slice (S.E O h1) (opt_ok S O h3) (opt_ok S O h5)
  · split at h
    · exact sub_ok S O h
    obtain ⟨hp, h0⟩ := gd_inv h
    obtain ⟨ma, h1, h2⟩ := bd_inv h0
    obtain ⟨mb, h3, rfl⟩ := mp_inv h2
    exact em_ix (ixr (by omega)) opm_ix (S.E O h1) (S.E O h3) (plain_ok hp)
  · obtain ⟨ha, h0⟩ := gd_inv h
    obtain ⟨T, hT, h1⟩ := bd_inv h0
    obtain ⟨mo, h2, rfl⟩ := mp_inv h1
    obtain ⟨j, hj, aT⟩ := O.at_ _ _ hT
    exact em_attr (S.E O h2) aT (O.room.mono hj) O.tk (ab_ok ha)
  · split at h
    · split at h
      · exact ownCall_ok S O h
      · exact ownCallK_ok S O h
    · split at h
      · exact len_ok S O h
      · exact call_ok S O h
  · split at h
    · exact get_ok S O h
    · split at h
      · exact meth_ok S O h
      · exact methK_ok S O h
  · exact comp_ok S O h
  · exact comp2_ok S O h
  · cases h
theorem stepT_ok (S : Sound t) (O : OkG cl k Γ X E) {e : Expr} {m : XT} (h : stepT t Γ e = some m) : PTm X cl E e m := by
  unfold stepT at h
  split at h
  · obtain ⟨ma, h1, rfl⟩ := mp_inv h
    exact tm_not (S.T O h1)
  · exact (andT_ok S O h).pt
  · exact (orT_ok S O h).pt
  · cases h
  · obtain ⟨hb, h0⟩ := gd_inv h
    obtain ⟨f, h1, h2⟩ := bd_inv h0
    obtain ⟨ma, h3, h4⟩ := bd_inv h2
    obtain ⟨mb, h5, rfl⟩ := mp_inv h4
    obtain ⟨rd, o1, o2⟩ := cmpOf_ok O h1
    exact tm_cmp o1 o2 (S.E O h3) (S.E O h5) (by simpa using hb)
  · obtain ⟨hb, h0⟩ := gd_inv h
    rw [Bool.and_eq_true] at hb
    obtain ⟨f, h1, h2⟩ := bd_inv h0
    obtain ⟨g, h1', h2'⟩ := bd_inv h2
    obtain ⟨ma, h3, h4⟩ := bd_inv h2'
    obtain ⟨mb, h5, h6⟩ := bd_inv h4
    obtain ⟨mc, h7, rfl⟩ := mp_inv h6
    obtain ⟨rd, o1, o2⟩ := cmpOf_ok O h1
    obtain ⟨rd', o1', o2'⟩ := cmpOf_ok O h1'
    exact tm_chain o1 o1' o2 o2' (S.E O h3) (S.E O h5) (S.E O h7) (by simpa [lastMarks] using hb.2)
  · cases h
  · rename_i n1 n2 n3 n4 n5 n6 n7
    obtain ⟨ma, h1, rfl⟩ := mp_inv h
    refine tm_val (S.E O h1) fun whole => ?_
    cases e with
    | UnaryOp op a p => cases op <;> first | rfl | exact (n1 _ _ rfl).elim
    | BoolOp op a p => cases op <;> first | exact (n2 _ _ rfl).elim | exact (n3 _ _ rfl).elim
    | IfExp a b c p => exact (n4 _ _ _ _ rfl).elim
    | Compare a b c p => exact (n7 _ _ _ _ rfl).elim
    | _ => rfl
end
end Z
/-! text T4 -/
/-! T4: the translator is right, targets, statements; the rule of a def. -/
namespace Z
open PySem PySem.Spec PyProof.Rows L2
section
variable {cl : Str → Addr} {k : Nat} {Γ : Ga} {X : Cx} {E : XK} {t : Tr}
theorem as_len {env : Env} : ∀ {es : List Expr}, (assignEach es env).length = es.length
  | [] => rfl
  | e :: es => by
    have : (assignEach (e :: es) env).length = (assignEach es env).length + 1 := by cases e <;> rfl
    rw [this, as_len, List.length_cons]
theorem as_cons {e : Expr} {es : List Expr} {env : Env} (h : isSt e = false) : assignEach (e :: es) env = (false, assign e env) :: assignEach es env := by
  cases e <;> first | rfl | cases h
theorem as_star {env : Env} : ∀ {es : List Expr}, (assignEach es env).findIdx? (·.1) = starAt es
  | [] => rfl
  | e :: es => by
    unfold starAt
    rw [List.findIdx?_cons]
    by_cases h : isSt e = true
    · cases e <;> first | cases h | skip
      show List.findIdx? (·.1) ((true, _) :: assignEach es env) = _
      rw [List.findIdx?_cons]
      rfl
    · have h : isSt e = false := by simpa using h
      rw [as_cons h, h, List.findIdx?_cons]
      have := as_star (env := env) (es := es)
      unfold starAt at this
      rw [← this] <;> rfl
theorem row_ok (S : Sound t) (O : OkG cl k Γ X E) {ws : List Nat} : ∀ {es : List Expr} {gs : XGs}, rowT t Γ ws es = some gs → PGsm X cl E ws es gs ∧ GoodGs gs
  | [], _, h => by cases h; exact ⟨gsm_nil, good_nil⟩
  | e :: es, gs, h => by
    by_cases hs : isSt e = true
    · cases e <;> first | cases hs | skip
      rename_i e p
      obtain ⟨h0, h1⟩ := gd_inv h
      have hn : isSt e = false := by simpa using h0
      obtain ⟨g, h2, h3⟩ := bd_inv h1
      obtain ⟨gr, h4, rfl⟩ := mp_inv h3
      obtain ⟨p1, g1⟩ := S.G O h2
      obtain ⟨p2, g2⟩ := row_ok S O h4
      refine ⟨?_, good_cons g1 g2⟩
      have q := gsm_cons p1 g1 p2 (by rw [as_cons hn] <;> rfl)
      have e1 : (assignEach (.Starred e p :: es) X.env).map (·.2) = (assignEach (e :: es) X.env).map (·.2) := by rw [as_cons hn] <;> rfl
      exact ⟨fun pins s σ H vs us Q I r z => by rw [e1]; exact q.run pins s σ H vs us Q I r z⟩
    · have hn : isSt e = false := by simpa using hs
      have h' : ((t.G Γ ws e).bind fun g => (rowT t Γ ws es).map fun gs => gsCons g gs) = some gs := by
        cases e <;> first | exact h | cases hn
      obtain ⟨g, h2, h3⟩ := bd_inv h'
      obtain ⟨gr, h4, rfl⟩ := mp_inv h3
      obtain ⟨p1, g1⟩ := S.G O h2
      obtain ⟨p2, g2⟩ := row_ok S O h4
      exact ⟨gsm_cons p1 g1 p2 (by rw [as_cons hn] <;> rfl), good_cons g1 g2⟩
theorem stepG_ok (S : Sound t) (O : OkG cl k Γ X E) {ws : List Nat} {e : Expr} {g : XG} (h : stepG t Γ ws e = some g) : PGm X cl E ws e g ∧ GoodG g := by
  unfold stepG at h
  split at h
  · rename_i x p
    obtain ⟨hc, h0⟩ := gd_inv h
    simp only [Bool.and_eq_true, Bool.or_eq_true, decide_eq_true_eq] at hc
    obtain ⟨i, hi, h1⟩ := bd_inv h0
    obtain ⟨hw, h2⟩ := gd_inv h1
    cases h2
    refine ⟨gm_name (by rw [O.N]; exact O.nd) (O.idx hi) ?_ ?_ (of_decide_eq_true hw), good_nm i⟩
    · unfold L2.Loc
      rw [O.sc]
      exact hc.1
    · rw [O.sc]
      exact hc.2.imp (O.fn _) id
  · rename_i es k' p
    obtain ⟨gs, h1, h2⟩ := mp_inv h
    obtain ⟨p1, g1⟩ := row_ok S O h1
    cases hs : starAt es with
    | none =>
      rw [hs] at h2
      subst h2
      exact ⟨gm_row O.calm as_len (as_star.trans hs) p1, good_row g1⟩
    | some i =>
      rw [hs] at h2
      subst h2
      exact ⟨gm_star O.calm as_len (as_star.trans hs) p1, good_star g1⟩
  · rename_i o i p
    obtain ⟨hp, h0⟩ := gd_inv h
    obtain ⟨mo, h1, h2⟩ := bd_inv h0
    obtain ⟨mi, h3, rfl⟩ := mp_inv h2
    have hu := O.units
    refine ⟨gm_sub (by omega) (S.E O h1) (S.E O h3) (pg_sub (S.E O h1) (S.E O h3) (pset (by omega)) ?_), good_sub⟩
    intro v
    cases i <;> first | rfl | cases hp
  · cases h
/-! ### statements -/
theorem cp_ok {e : Expr} {t' : Option Expr} {n : Nat} {env : Env} (h : isCp e = false) : swapsWith e t' n env = pure false := by
  unfold swapsWith
  cases e <;> first | rfl | cases h
theorem block_ok (S : Sound t) (O : OkG cl k Γ X E) : ∀ {b : List Stmt} {m : XS}, blockT t Γ b = some m → PSsm X cl E b m
  | [], _, h => by cases h; exact ssm_nil
  | [s], _, h => ssm_one (S.S O h)
  | s :: s2 :: r, _, h => by
    obtain ⟨m, h1, h2⟩ := bd_inv h
    obtain ⟨mr, h3, rfl⟩ := mp_inv h2
    exact ssm_cons (S.S O h1) (block_ok S O h3)
theorem par_ok (O : OkG cl k Γ X E) {ts vs : List Expr} {k1 k2 : Nat} {p1 p2 : Pos} {o : Option (List Str)} (h : parT Γ ts vs = some o) : swappedStores [.Tuple ts k1 p1] (.Tuple vs k2 p2) X.env = pure o := by
  have hb : X.env.blockKind = .function := by
    unfold Env.blockKind
    rw [O.sc, O.kind]
    rfl
  have hk : ∀ x, X.env.kindOf x = Γ.sc.names.lookup x := fun x => by
    show X.env.scope.names.lookup x = _
    rw [O.sc]
  unfold swappedStores
  unfold parT at h
  simp only [hb, hk, show (ScopeKind.function != ScopeKind.function) = false from rfl, Bool.or_false]
  split at h
  · rename_i c1
    cases h
    exact if_pos c1
  · rename_i c1
    refine (if_neg c1).trans ?_
    split at h
    · rename_i c2
      cases h
      exact if_pos c2
    · rename_i c2
      refine (if_neg c2).trans ?_
      dsimp only at h
      split at h
      · rename_i c3
        cases h
        exact if_pos c3
      · rename_i c3
        refine (if_neg c3).trans ?_
        split at h
        · rename_i c4
          cases h
          exact if_pos c4
        · rename_i c4
          refine (if_neg c4).trans ?_
          split at h
          · cases h
          · rename_i c5
            cases h
            exact if_neg c5
theorem OkG.bk (O : OkG cl k Γ X E) : X.env.blockKind = .function := by
  unfold Env.blockKind
  rw [O.sc, O.kind]
  rfl
theorem OkG.ko (O : OkG cl k Γ X E) (x : Str) : X.env.kindOf x = Γ.sc.names.lookup x := by
  show X.env.scope.names.lookup x = _
  rw [O.sc]
theorem sw_ok (O : OkG cl k Γ X E) {elt : Expr} {gs : List Comprehension} {s : Scope} {pos : Pos} {x : Str} {p : Pos} {n : Nat} : swapsWith (.ListComp elt gs s pos) (some (.Name x p)) n X.env = pure (swB Γ s pos x p) := by
  unfold swapsWith swB
  simp only [O.bk, O.ko, show (ScopeKind.function == ScopeKind.function) = true from rfl, Bool.true_and]
  rfl
theorem swS_ok {tg e : Expr} {n : Nat} {env : Env} (h : isCp e = false) : swapsWithSole [tg] e n env = pure false := cp_ok h
theorem swU_ok {ts : List Expr} {k : Nat} {p : Pos} {e : Expr} {n : Nat} {env : Env} : swapsWithSole [.Tuple ts k p] e n env = pure false := by
  have : swapsWith e (some (.Tuple ts k p)) n env = pure false := by
    unfold swapsWith
    cases e <;> rfl
  exact this
theorem nopar {tg e : Expr} {env : Env} (h : ∀ ts k p, tg ≠ .Tuple ts k p) (h2 : ∀ ts p, tg ≠ .List ts p) : swappedStores [tg] e env = pure none := by
  unfold swappedStores
  cases tg <;> first | exact (h _ _ _ rfl).elim | exact (h2 _ _ rfl).elim | rfl
theorem nopar2 {tg e : Expr} {env : Env} (h : ∀ ts k p, e ≠ .Tuple ts k p) : swappedStores [tg] e env = pure none := by
  unfold swappedStores
  cases e <;> first | exact (h _ _ _ rfl).elim | (cases tg <;> rfl)
theorem parS_ok (S : Sound t) (O : OkG cl k Γ X E) {names : List Str} {ts vs : List Expr} {k1 k2 : Nat} {p1 p2 pos : Pos} {m : XS} (hw : swappedStores [.Tuple ts k1 p1] (.Tuple vs k2 p2) X.env = pure (some names)) (h : parS t Γ names ts vs = some m) :
    PSm X cl E (.Assign [.Tuple ts k1 p1] (.Tuple vs k2 p2) pos) m := by
  have hN : X.N.Nodup := by rw [O.N]; exact O.nd
  have L : ∀ x, Γ.sc.names.lookup x = some .local → X.env.scope.names.lookup x = some .local := fun x hx => by rw [O.sc]; exact hx
  unfold parS at h
  split at h
  · obtain ⟨hc, h1⟩ := gd_inv h
    obtain ⟨e1, e2, e3⟩ := of_decide_eq_true hc
    obtain ⟨i, hi, h2⟩ := bd_inv h1
    obtain ⟨j, hj, h3⟩ := bd_inv h2
    obtain ⟨hij, h4⟩ := gd_inv h3
    obtain ⟨ms, h5, rfl⟩ := mp_inv h4
    subst e1
    exact sm_par2 O.calm hN (O.idx hi) (O.idx hj) (of_decide_eq_true hij) (L _ e2) (L _ e3) (args_ok S O h5) hw rfl
  · obtain ⟨hc, h1⟩ := gd_inv h
    obtain ⟨e1, e2, e3, e4⟩ := of_decide_eq_true hc
    obtain ⟨i, hi, h2⟩ := bd_inv h1
    obtain ⟨j, hj, h3⟩ := bd_inv h2
    obtain ⟨l, hl, h4⟩ := bd_inv h3
    obtain ⟨hij, h5⟩ := gd_inv h4
    obtain ⟨ms, h6, rfl⟩ := mp_inv h5
    obtain ⟨d1, d2, d3⟩ := of_decide_eq_true hij
    subst e1
    exact sm_par3 O.calm hN (O.idx hi) (O.idx hj) (O.idx hl) d1 d2 d3 (L _ e2) (L _ e3) (L _ e4) (args_ok S O h6) hw rfl
  · cases h
theorem as_one {tg : Expr} {env : Env} (h : isSt tg = false) : (assignEach [tg] env).map (·.2) = [assign tg env] := by
  rw [as_cons h]
  rfl
theorem set_ok (S : Sound t) (O : OkG cl k Γ X E) {x : Str} {p pos : Pos} {e : Expr} {m : XS} (h : setT t Γ x p e = some m) : PSm X cl E (.Assign [.Name x p] e pos) m := by
  unfold setT at h
  split at h
  · rename_i elt tg it ifs scope cpos
    obtain ⟨i, hi, h1⟩ := bd_inv h
    obtain ⟨mc, hm, h2⟩ := bd_inv h1
    by_cases hsw : swB Γ scope cpos x p = true
    · rw [if_pos hsw] at h2
      cases h2
      have hl : Γ.sc.names.lookup x = some .local := by
        unfold swB at hsw
        simp only [Bool.and_eq_true, beq_iff_eq] at hsw
        exact hsw.1.1
      obtain ⟨hb, g0⟩ := gd_inv hm
      obtain ⟨mi, g1, g2⟩ := bd_inv g0
      obtain ⟨g, g3, g4⟩ := bd_inv g2
      obtain ⟨tt, g5, g6⟩ := bd_inv g4
      obtain ⟨me, g7, rfl⟩ := mp_inv g6
      have b := blk_is hb
      exact sm_setComp O.calm (by rw [O.N]; exact O.nd) (O.idx hi) (by rw [O.sc]; exact hl) (by rw [sw_ok O, hsw]) (iter_ok S O g1) (own := blkOwn Γ.N scope) (by rw [O.N, O.sc]; exact b) (fun s H C cl' fp => (S.G (O.blk hb s H C cl' fp) g3).1)
        (fun s H C cl' fp => ifs_ok S (O.blk hb s H C cl' fp) g5) (fun s H C cl' fp => S.E (O.blk hb s H C cl' fp) g7) (fold_ok (iter_set g1))
    · rw [if_neg hsw] at h2
      obtain ⟨g, hg, rfl⟩ := mp_inv h2
      obtain ⟨g1, g2⟩ := S.G O hg
      exact sm_asg (comp_ok S O hm) g1 g2 (show swapsWith (.ListComp elt [⟨tg, it, ifs, 0⟩] scope cpos) (some (.Name x p)) pos.line X.env = pure false from by rw [sw_ok O, Bool.eq_false_iff.mpr hsw]) (nopar (fun _ _ _ => by intro z; cases z) (fun _ _ => by intro z; cases z)) rfl
  · obtain ⟨hc, h1⟩ := gd_inv h
    have hc : isCp e = false := by simpa using hc
    obtain ⟨me, h2, h3⟩ := bd_inv h1
    obtain ⟨g, hg, rfl⟩ := mp_inv h3
    obtain ⟨g1, g2⟩ := S.G O hg
    exact sm_asg (S.E O h2) g1 g2 (swS_ok hc) (nopar (fun _ _ _ => by intro z; cases z) (fun _ _ => by intro z; cases z)) rfl
theorem un_ok (S : Sound t) (O : OkG cl k Γ X E) {ts : List Expr} {k1 : Nat} {p1 pos : Pos} {e : Expr} {m : XS} (h : unT t Γ ts k1 p1 e = some m) : PSm X cl E (.Assign [.Tuple ts k1 p1] e pos) m := by
  have h1 := h
  unfold unT at h1
  split at h1
  · obtain ⟨o, ho, h2⟩ := bd_inv h1
    cases o with
    | some names => exact parS_ok S O (par_ok O ho) h2
    | none =>
      obtain ⟨me, h3, h4⟩ := bd_inv h2
      obtain ⟨g, hg, rfl⟩ := mp_inv h4
      obtain ⟨g1, g2⟩ := S.G O hg
      exact sm_asg (S.E O h3) g1 g2 swU_ok (par_ok O ho) rfl
  · rename_i hn
    obtain ⟨me, h3, h4⟩ := bd_inv h1
    obtain ⟨g, hg, rfl⟩ := mp_inv h4
    obtain ⟨g1, g2⟩ := S.G O hg
    exact sm_asg (S.E O h3) g1 g2 swU_ok (nopar2 hn) rfl
theorem stepS_ok (S : Sound t) (O : OkG cl k Γ X E) {s : Stmt} {m : XS} (h : stepS t Γ s = some m) : PSm X cl E s m := by
  have hu := O.units
  unfold stepS at h
  split at h
  · obtain ⟨hc, h1⟩ := gd_inv h
    obtain ⟨me, h2, rfl⟩ := mp_inv h1
    exact sm_expr (S.E O h2) (cp_ok (by simpa using hc))
  · cases h; exact sm_retN
  · obtain ⟨me, h2, rfl⟩ := mp_inv h
    exact sm_ret (S.E O h2)
  · cases h; exact sm_pass
  · cases h; exact sm_break
  · cases h; exact sm_cont
  · obtain ⟨tc, h1, h2⟩ := bd_inv h
    obtain ⟨ma, h3, h4⟩ := bd_inv h2
    obtain ⟨mb, h5, rfl⟩ := mp_inv h4
    exact sm_if (S.T O h1) (block_ok S O h3) (block_ok S O h5)
  · obtain ⟨tc, h1, h2⟩ := bd_inv h
    obtain ⟨mb, h5, rfl⟩ := mp_inv h2
    exact sm_while _ O.hp (S.T O h1) (block_ok S O h5)
  · obtain ⟨mi, h1, h2⟩ := bd_inv h
    obtain ⟨g, h3, h4⟩ := bd_inv h2
    obtain ⟨mb, h5, rfl⟩ := mp_inv h4
    obtain ⟨g1, g2⟩ := S.G O h3
    exact sm_for O.hp O.calm (iter_ok S O h1) g1 g2 (block_ok S O h5) (fold_ok (iter_set h1))
  · exact set_ok S O h
  · rename_i o i q e q'
    obtain ⟨hc, h1⟩ := gd_inv h
    rw [Bool.and_eq_true] at hc
    have hcp : isCp e = false := by simpa using hc.1
    obtain ⟨mv, h2, h3⟩ := bd_inv h1
    obtain ⟨mo, h4, h5⟩ := bd_inv h3
    obtain ⟨mi, h6, rfl⟩ := mp_inv h5
    refine sm_sub (by omega) (S.E O h4) (S.E O h6) (S.E O h2) (ps_asg (S.E O h2) (pg_sub (S.E O h4) (S.E O h6) (pset (by omega)) ?_) (swS_ok hcp) (nopar (fun _ _ _ => by intro z; cases z) (fun _ _ => by intro z; cases z)) rfl)
    have hp := hc.2
    intro v
    cases i <;> first | rfl | cases hp
  · exact un_ok S O h
  · rename_i o g q e q'
    obtain ⟨hc, h1⟩ := gd_inv h
    have hcp : isCp e = false := by simpa using hc
    obtain ⟨cs, hcs, h2⟩ := bd_inv h1
    obtain ⟨mv, h3, h4⟩ := bd_inv h2
    obtain ⟨mo, h5, rfl⟩ := mp_inv h4
    exact sm_fld (S.E O h5) (S.E O h3) (O.sto _ _ hcs) (cp_ok hcp)
  · cases h
    exact ⟨fun pins s σ H N I ⟨r, h, en, R, re, p⟩ => p.elim⟩
  · rename_i x q op e q'
    obtain ⟨hc, h1⟩ := gd_inv h
    have hl : Γ.sc.names.lookup x = some .local := of_decide_eq_true hc
    obtain ⟨i, hi, h2⟩ := bd_inv h1
    obtain ⟨f, hf, h3⟩ := bd_inv h2
    obtain ⟨me, h4, rfl⟩ := mp_inv h3
    have ho : PIp X op (ipI f) := by
      cases op <;> first | (cases hf; exact ip_add) | (cases hf; exact ip_sub) | cases hf
    refine sm_aug (by rw [O.N]; exact O.nd) (O.idx hi) ?_ (S.E O h4) ho ?_
    · unfold L2.Loc
      rw [O.sc]
      exact .inl hl
    · rw [O.sc]
      exact .inr hl
  · cases h
theorem sound0 : Sound tr0 := ⟨(by intro _ _ _ _ _ _ _ _ h; cases h), (by intro _ _ _ _ _ _ _ _ h; cases h), (by intro _ _ _ _ _ _ _ _ _ h; cases h), (by intro _ _ _ _ _ _ _ _ h; cases h)⟩
theorem sound : ∀ n, Sound (tr n)
  | 0 => sound0
  | n + 1 => ⟨by intro _ _ _ _ _ O _ _ h; exact stepE_ok (sound n) O h, by intro _ _ _ _ _ O _ _ h; exact stepT_ok (sound n) O h, by intro _ _ _ _ _ O _ _ _ h; exact stepG_ok (sound n) O h, by intro _ _ _ _ _ O _ _ h; exact stepS_ok (sound n) O h⟩
end
end Z
/-! text T5 -/
/-! T5: the rule of a def over tables, the law's end. -/
namespace Z
open PySem PySem.Spec PyProof.Rows L2
section
variable {P : Program} {w : World} {K : PySem.W.Frag} {mg : Str → Option Value} {base : Heap} {cl : Str → Addr} {k : Nat}
/-- an entry of the table of defs -/
structure Ent (P : Program) (w : World) (K : PySem.W.Frag) (mg : Str → Option Value) (base : Heap) (cl : Str → Addr) (k : Nat) (p : Str × FnS) : Prop where
  ex : ∃ f fd ps, mg p.1 = some (.ref f) ∧ PySem.W.keepIn K (.ref f) = true ∧ FnM P w K mg base cl k f fd ps p.2.F ∧ ∀ n ks a, p.2.bind n ks = some a → BindM K fd ps n ks a
abbrev Tab (P : Program) (w : World) (K : PySem.W.Frag) (mg : Str → Option Value) (base : Heap) (cl : Str → Addr) (k : Nat) (l : List (Str × FnS)) : Prop := ∀ p ∈ l, Ent P w K mg base cl k p
theorem Ent.mono {j : Nat} {p : Str × FnS} (h : Ent P w K mg base cl j p) (hj : j ≤ k) : Ent P w K mg base cl k p := by
  obtain ⟨f, fd, ps, h1, h2, h3, h4⟩ := h.ex
  exact ⟨f, fd, ps, h1, h2, h3.mono hj, h4⟩
theorem Tab.mono {j : Nat} {l : List (Str × FnS)} (h : Tab P w K mg base cl j l) (hj : j ≤ k) : Tab P w K mg base cl k l := fun p hp => (h p hp).mono hj
theorem tab_nil : Tab P w K mg base cl k [] := fun _ h => nomatch h
theorem tab_cons {p : Str × FnS} {l : List (Str × FnS)} (h : Ent P w K mg base cl k p) (t : Tab P w K mg base cl k l) : Tab P w K mg base cl k (p :: l) := fun q hq => by
  rcases List.mem_cons.mp hq with rfl | hq
  · exact h
  · exact t q hq
/-- a constant of the module -/
def Con (K : PySem.W.Frag) (mg : Str → Option Value) (p : Str × D) : Prop := ∃ v u, mg p.1 = some u ∧ RelV v u ∧ ∀ r H, RelD K r H p.2 v
abbrev Cons (K : PySem.W.Frag) (mg : Str → Option Value) (l : List (Str × D)) : Prop := ∀ p ∈ l, Con K mg p
abbrev Frees (mg : Str → Option Value) (l : List Str) : Prop := ∀ x, x ∈ l → mg x = none
/-- what the tables of a def promise -/
structure Tabs (P : Program) (w : World) (K : PySem.W.Frag) (mg : Str → Option Value) (base : Heap) (cl : Str → Addr) (k : Nat) (Γ : Ga) : Prop where
  fns : Tab P w K mg base cl k Γ.fns
  at_ : ∀ f T, Γ.at_.lookup f = some T → ∃ j, j + 1 ≤ k ∧ AttrOk P w K mg base cl j f T
  sto : ∀ f cs, Γ.sto.lookup f = some cs → ∀ c ∈ cs, Cls K (cl c) ∧ NoAttr K (cl c) f
  mth : ∀ m L, Γ.mth.lookup m = some L → MethOk P w K mg base cl k m L
  mks : ∀ x s, Γ.mks.lookup x = some s → ∃ f fd ps j, j + 1 ≤ k ∧ mg x = some (.ref (cl x)) ∧ Mk K (cl x) f ∧ FnM P w K mg base cl j f fd ps s.F ∧ ∀ n ks a, s.bind n ks = some a → BindM K fd ps (n + 1) ks a
  dcs : ∀ x kvs, Γ.dcs.lookup x = some kvs → ∃ a, mg x = some (.ref a) ∧ dicB K a kvs = true
  own : ∀ m p, Γ.own.lookup m = some p → ∃ j, j + 1 ≤ k ∧ OwnOk P w K mg base cl j m p.1 p.2
  mtk : ∀ m p, Γ.mtk.lookup m = some p → MethOkK P w K mg base cl k m p.1 p.2
  owk : ∀ m p, Γ.owk.lookup m = some p → ∃ j, j + 1 ≤ k ∧ OwnOkK P w K mg base cl j m p.1 p.2
theorem Tab.plain {Γ : Ga} (T : Tab P w K mg base cl k Γ.fns) (h1 : Γ.at_ = []) (h2 : Γ.sto = []) (h3 : Γ.mth = []) (h4 : Γ.mks = []) (h5 : Γ.dcs = []) (h6 : Γ.own = []) (h7 : Γ.mtk = []) (h8 : Γ.owk = []) : Tabs P w K mg base cl k Γ :=
  ⟨T, fun f T h => (by rw [h1] at h; cases h), fun f T h => (by rw [h2] at h; cases h), fun f T h => (by rw [h3] at h; cases h), fun f T h => (by rw [h4] at h; cases h), fun f T h => (by rw [h5] at h; cases h), fun f T h => (by rw [h6] at h; cases h), fun f T h => (by rw [h7] at h; cases h), fun f T h => (by rw [h8] at h; cases h)⟩
theorem def_tr {n : Nat} {x qual : Str} {params : Arguments} {body : List Stmt} {scope : Scope} {dvs : List V} {kws : List (Str × V)} {f : Addr} {fd : FuncData} {ps : List Str} {Γ : Ga} {m : XS} (Fd : FunD K x qual params body scope dvs kws f fd)
    (T : Tabs P w K mg base cl k Γ) (C : Cons K mg Γ.csts) (Fr : Frees mg Γ.free) (S : FnScope Γ.N ps scope) (hs : Γ.sc = scope) (hf : Γ.fn = fun _ => true) (hb : blockT (tr n) Γ body = some m) :
    FnM P w K mg base cl (k + 1) f fd ps (bodyFn Γ.N.length ps.length m) := by
  refine fnM_of Fd S fun cdv A outer s H E hr => ?_
  have O : OkG cl k Γ (CxB P w K mg base Γ.N qual scope f cdv A outer s H E) E := by
    refine ⟨rfl, S.nd, hs.symm, by rw [hs]; exact S.kind, fun _ _ => rfl, rfl, passes_of (K := fun e s'' => L2.CX P w outer H s E e s'') (E₁ := fun e s'' => L2.CX P w outer H s E e s'') rfl, takes_of rfl rfl rfl (E₁ := fun e s'' => L2.CX P w outer H s E e s'') rfl, hr, fun x s hx => ?_, fun x d hx => C _ (lookup_in hx), Fr, T.at_, T.sto, T.mth, T.mks, T.dcs, T.own, T.mtk, T.owk⟩
    exact (T.fns _ (lookup_in hx)).ex
  exact block_ok (sound n) O hb
/-- binding by a rule that holds of the written values -/
theorem bindM_plain {x qual : Str} {params : Arguments} {body : List Stmt} {scope : Scope} {kws : List (Str × V)} {f : Addr} {fd : FuncData} {ps ks : List Str} {n : Nat} (Fd : FunD K x qual params body scope [] kws f fd) (π : List Nat)
    (hπ : π.length = ps.length) (hπ2 : ∀ i ∈ π, i < n + ks.length)
    (h : ∀ (kV doc pm : Value) (an : Option Addr) (cdv ct : Value) (us ws : List Value), us.length = n → ws.length = ks.length → bindArgs (PySem.W.fnOf x qual params body scope .none kV doc pm an cdv ct) ⟨us, ks.zip ws⟩ = pure (ps.zip (π.filterMap fun i => (us ++ ws)[i]?))) :
    BindM K fd ps n ks (π.map .inl) := by
  obtain ⟨oc, od, dV, kV, doc, pm, an, cdv, ct, osl, rfl, lk, hcd, hD, hK⟩ := Fd.ex
  rcases hD with ⟨_, rfl⟩ | ⟨e, _⟩
  · refine ⟨fun s us ws KI h1 h2 => ⟨_, .of_eq (h kV doc pm an cdv ct us ws h1 h2), ?_, fun r H ds es vs vz q1 v1 q2 v2 => ?_⟩⟩
    · have : ∀ (l : List Nat), (∀ i ∈ l, i < n + ks.length) → (l.filterMap fun i => (us ++ ws)[i]?).length = l.length := by
        intro l
        induction l with
        | nil => intro _; rfl
        | cons i l ih =>
          intro hl
          have hi : i < (us ++ ws).length := by rw [List.length_append, h1, h2]; exact hl i List.mem_cons_self
          rw [List.filterMap_cons, List.getElem?_eq_getElem hi]
          show _ + 1 = _ + 1
          rw [ih fun j hj => hl j (List.mem_cons_of_mem _ hj)]
      rw [this π hπ2, hπ]
    · have q := q1.append q2
      have v := v1.append v2
      have lv : (vs ++ vz).length = n + ks.length := by rw [v.length, List.length_append, h1, h2]
      have : ∀ (l : List Nat), (∀ i ∈ l, i < n + ks.length) → ∃ xs ys, arrD (l.map .inl) (ds ++ es) = some xs ∧ RelDs K r H xs ys ∧ Vals ys (l.filterMap fun i => (us ++ ws)[i]?) := by
        intro l
        induction l with
        | nil => intro _; exact ⟨[], [], rfl, .nil, .nil⟩
        | cons i l ih =>
          intro hl
          obtain ⟨xs, ys, e1, e2, e3⟩ := ih fun j hj => hl j (List.mem_cons_of_mem _ hj)
          have hi : i < (ds ++ es).length := by rw [q.length, lv]; exact hl i List.mem_cons_self
          have hd := List.getElem?_eq_getElem hi
          obtain ⟨v', hv', qv⟩ := q.get hd
          obtain ⟨u', hu', rv⟩ := v.get hv'
          refine ⟨_ :: xs, v' :: ys, ?_, .cons qv e2, ?_⟩
          · unfold arrD at e1 ⊢
            rw [List.map_cons, List.mapM_cons, e1]
            show ((ds ++ es)[i]?.bind fun x => some (x :: xs)) = _
            rw [hd]
            rfl
          · rw [List.filterMap_cons, hu']
            exact .cons rv e3
      exact this π hπ2
  · exact absurd rfl e
end
end Z
/-! text T6 -/
/-! T6: the end of a law over functions of data. -/
namespace Z
open PySem PySem.Spec PyProof.Rows L2
/-- the law's function of data says True of every script of so many numbers -/
def Keeps (n : Nat) (F : Fn) : Prop := ∀ ns : List Int, ns.length ≤ n → ∃ h', F [.fl (ns.map D.int)] [] = .ok (.bl true) h'
theorem rel_ints {K : PySem.W.Frag} {r : List Addr} {G : Hp} : ∀ ns : List Int, RelDs K r G (ns.map D.int) (ns.map V.int)
  | [] => .nil
  | _ :: ns => .cons .int (rel_ints ns)
theorem endM {P : Program} {w : World} {K : PySem.W.Frag} {mg mb : Str → Option Value} {cl : Str → Addr} {k : Nat} {fa sc : Addr} {fd : FuncData} {x : Str} {F : Fn} {sE : Shared} {us : List Value} {ns : List Int}
    (KE : K.In sE.heap) (g1 : sE.heap.Ns mainGlobals mg) (g2 : sE.heap.Ns builtinsNs mb) (g3 : ∀ y : Str, y ≠ "__name__" → mb y = bootBuiltins y) (g4 : sE.heap.NoLimit) (g5 : sE.gens = #[])
    (hsc : sE.heap.get? sc = some { cls := .type "list", data := .seq us.toArray }) (hns : IntsAre us ns) (hz : ns.length ≤ sizeLine) (hk : RoomG k callerA) (hB : ∀ (s : Shared) (u : Value), BindsTo s fd ⟨[u], []⟩ [(x, u)])
    (hM : ∀ bs : Heap, K.In bs → bs.Ns mainGlobals mg → FnM P w K mg bs cl k fa fd [x] F) (hF : ∃ h', F [.fl (ns.map D.int)] [] = .ok (.bl true) h') :
    codeAny (model P w) callerA (.call (.ref fa) ⟨[.ref sc], []⟩) (fun o s' => o = .ok (.ret (.bool true)) ∧ OldK sE.heap s'.heap ∧ s'.os = sE.os ∧ AllBare s'.gens) sE := by
  have rvI := vals_ints hns
  have lnI := hns.length
  have main : ∀ G : Hp, Only G → Fz K G sc (ns.map V.int) → HOk P w G sE.heap → (∀ b, G b ≠ none → b = sc) → (G sc ≠ none → K.lookup sc = none) →
      codeAny (model P w) callerA (.call (.ref fa) ⟨[.ref sc], []⟩) (fun o s' => o = .ok (.ret (.bool true)) ∧ OldK sE.heap s'.heap ∧ s'.os = sE.os ∧ AllBare s'.gens) sE := by
    intro G hOnly hFz hOk hAt hNK
    have toB : ∀ {b : Addr} {ob : Obj}, sE.heap.get? b = some ob → G b = none → (hidT sE.heap G).get? b = some ob := fun h1 h2 => hidT_get h1 h2
    have dictFree : ∀ {b : Addr} {ob : Obj} {es : Array DictEntry} {ep : Nat}, sE.heap.get? b = some ob → ob.data = .dict es ep → G b = none := fun {b ob es ep} h1 h2 => by
      cases hG : G b with
      | none => rfl
      | some u =>
        have hb : b = sc := hAt b (by rw [hG]; exact fun z => nomatch z)
        rw [hb, hsc] at h1
        cases h1
        have h3 : Data.seq us.toArray _ = Data.dict es ep := h2
        exact nomatch h3
    have nsB : ∀ {b : Addr} {m : Str → Option Value}, sE.heap.Ns b m → (hidT sE.heap G).Ns b m := fun {b m} ⟨ob, es, ep, h1, h2, h3⟩ => ⟨ob, es, ep, toB h1 (dictFree h1 h2), h2, h3⟩
    have inB : K.In (hidT sE.heap G) := fun b ob h1 => toB (KE b ob h1) (by
      cases hG : G b with
      | none => rfl
      | some u =>
        have hb : b = sc := hAt b (by rw [hG]; exact fun z => nomatch z)
        rw [hb] at hG h1
        rw [hNK (by rw [hG]; exact fun z => nomatch z)] at h1
        exact nomatch h1)
    have mod : Mod K mg (hidT sE.heap G) := ⟨inB, nsB g1, ⟨mb, nsB g2, g3⟩, g4.elim fun mc z => ⟨mc, nsB z.1, z.2⟩⟩
    have env : Env0 P w K mg (hidT sE.heap G) callerA [] sE G := ⟨rfl, mod, fun b ob h1 => of_hidT h1, Nat.le_of_eq (hidT_size _ _), trivial, fun b hb => (List.not_mem_nil hb).elim, hOk, .of_eq g5⟩
    have R0 : RelH K cl [] [] G := ⟨rfl, List.nodup_nil, fun n a mo h1 h2 => by cases h1⟩
    obtain ⟨hE, hFv⟩ := hF
    have prom : spD K cl F [.ref sc] G (fun v _ => v = .bl true) (fun _ _ _ => False) := by
      refine ⟨[], [], [.fl (ns.map D.int)], R0, .cons (.fl hFz (rel_ints ns)) .nil, ?_⟩
      rw [hFv]
      exact fun r' G' _ _ v q => q.bl_inv
    have ran := (hM _ inB (nsB g1)).run callerA [] sE G ⟨[.ref sc], []⟩ [.ref sc] [.ref sc] _ _ hk env (hB sE (.ref sc)) rfl (.cons rfl .nil) prom
    refine codeAny_mono ran fun o s' hq => ?_
    cases o with
    | error er => exact (cx_false hq).elim
    | ok fl =>
      cases fl with
      | ret u =>
        obtain ⟨v, G', os', bare', un', ok', rel', val'⟩ := hq
        cases (show v = .bl true from val')
        cases (show u = Value.bool true from rel')
        refine ⟨rfl, OldK.of_keep fun b ob h1 => ?_, os', bare'⟩
        cases hG : G b with
        | none => exact un'.keep b ob h1 hG (fun z => (List.not_mem_nil z).elim) (List.not_mem_nil)
        | some u =>
          rcases hOnly b with z | ⟨o2, xs, z⟩
          · rw [hG] at z
            exact nomatch z
          · obtain ⟨e1, _⟩ := hOk b _ z
            obtain ⟨e2, _⟩ := ok' b _ (un'.frzs b o2 _ z)
            rw [h1] at e1
            cases e1
            exact e2
      | next => exact hq.elim
      | brk => exact hq.elim
      | cont => exact hq.elim
  cases hK : K.lookup sc with
  | some ob =>
    have h1 := KE sc ob hK
    rw [hsc] at h1
    cases h1
    exact main (fun _ => none) (fun _ => Or.inl rfl) (.inr ⟨_, us.toArray, _, hK, rfl, rfl, rfl, by rw [List.size_toArray, lnI]; exact hz, by simpa using rvI⟩) (fun b u z => nomatch (show (none : Option HO) = some u from z)) (fun b z => absurd rfl z) (fun z => absurd rfl z)
  | none =>
    refine main (fun b => if b = sc then some (.frz { cls := .type "list", data := .seq us.toArray } (.lst (ns.map V.int))) else none) (fun b => ?_) (.inl ⟨{ cls := .type "list", data := .seq us.toArray }, if_pos rfl⟩) (fun b u z => ?_) (fun b z => ?_) (fun _ => hK)
    · by_cases hb : b = sc
      · exact Or.inr ⟨_, _, if_pos hb⟩
      · exact Or.inl (if_neg hb)
    · by_cases hb : b = sc
      · have z2 := (if_pos hb).symm.trans z
        cases z2
        rw [hb]
        exact ⟨hsc, by rw [List.length_map]; exact hz, us, _, rvI, hsc⟩
      · exact nomatch ((if_neg hb).symm.trans z)
    · by_cases hb : b = sc
      · exact hb
      · exact absurd (if_neg hb) z
/-- a law over its function of data -/
theorem walkM {l : PySem.W.OpenLaw} {n k : Nat} {q : Program} {loose : List Str} {XP : (Str → Option Value) → Heap → Prop} {YP : World → Heap → Prop} {d : DefRec} {x : Str} {F : Fn}
    (hn : l.most = some n) (hn2 : n ≤ sizeLine) (hdf : d.params.defaults = []) (hk : RoomG k callerA)
    (W : ∀ (w : World) (mg : Str → Option Value) (fa : Addr) (h : Heap), YP w h → h.Ns mainGlobals mg → mg d.name = some (.ref fa) →
      ∃ (K : PySem.W.Frag) (cl : Str → Addr) (fd : FuncData), K.In h ∧ (∀ (s : Shared) (u : Value), BindsTo s fd ⟨[u], []⟩ [(x, u)]) ∧ ∀ bs : Heap, K.In bs → bs.Ns mainGlobals mg → FnM l.prog w K mg bs cl k fa fd [x] F)
    (hF : Keeps n F) : PySem.W.WalkO q loose XP YP l.row.toRowW d [] (fun f vs => PySem.call f vs) := by
  refine Att.attach_call hn hdf fun w s0 sE mg mb fa o pm cd doc sc us ns G Y ho hd hcd hmg hobj hints hlen hg => ?_
  obtain ⟨K, cl, fd, KE, hB, hM⟩ := W w mg fa _ Y G.T.g hmg
  exact endM KE G.T.g G.T.b G.T.builtins G.T.nolimit hg hobj hints (Nat.le_trans hlen hn2) hk hB hM (hF ns hlen)
end Z
/-! text T7 -/
/-! T7: what is read off the heap behind the top. -/
namespace Z
open PySem PySem.Spec PyProof.Rows L2
/-- where a def stands: a global's name, a class's method, a class's property -/
inductive At where
  | glo (x : Str)
  | meth (c m : Str)
  | prop (c m : Str)
def propFn (K : PySem.W.Frag) (p : Addr) : Addr := match PySem.W.recIn K p "property" with
  | some (.ref g :: _) => g
  | _ => 0
def At.ad (K : PySem.W.Frag) : At → Addr
  | .glo x => He.ga K x
  | .meth c m => He.ma K (He.ga K c) m
  | .prop c m => propFn K (He.ma K (He.ga K c) m)
/-- facts: those of the kit, tables of the module, properties and constants of classes -/
inductive Fc where
  | fa (f : He.Fa)
  | tup (x : Str) (vs : List He.Dv)
  | prop (c f : Str)
  | con (c f : Str) (v : He.Dv)
  | dic (x : Str) (kvs : List (Int × Int))
def propB (K : PySem.W.Frag) (c f : Str) : Bool := He.eqO (PySem.W.findIn K (.ref (He.ga K c)) f) (some (some (.ref (He.ma K (He.ga K c) f)))) && (decide (PySem.W.specialIn K (.ref (He.ma K (He.ga K c) f)) "__get__" = some (some (.builtin "property.__get__"))) &&
  (decide (PySem.W.takesIn K (.ref (He.ma K (He.ga K c) f)) = some true) && (match PySem.W.recIn K (He.ma K (He.ga K c) f) "property" with
    | some (.ref _ :: _) => true
    | _ => false)))
theorem propB_ok {K : PySem.W.Frag} {c f : Str} (h : propB K c f = true) : PropOf K (He.ga K c) f (He.ma K (He.ga K c) f) (At.ad K (.prop c f)) := by
  obtain ⟨h1, h⟩ := He.ba h
  obtain ⟨h2, h⟩ := He.ba h
  obtain ⟨h3, h4⟩ := He.ba h
  refine ⟨He.eqO_ok h1, of_decide_eq_true h2, of_decide_eq_true h3, ?_⟩
  show ∃ rest, PySem.W.recIn K (He.ma K (He.ga K c) f) "property" = some (.ref (propFn K (He.ma K (He.ga K c) f)) :: rest)
  unfold propFn
  split at h4
  · rename_i g rest e
    rw [e]
    exact ⟨_, rfl⟩
  · cases h4
def conB (K : PySem.W.Frag) (c f : Str) (v : He.Dv) : Bool := match PySem.W.findIn K (.ref (He.ga K c)) f with
  | some (some u) => He.relB (v.v K) u && (decide (PySem.W.specialIn K u "__get__" = some none) && !(PySem.W.copiedNames.contains f))
  | _ => false
theorem conB_ok {K : PySem.W.Frag} {c f : Str} {v : He.Dv} (h : conB K c f v = true) : ∃ u, L2.Con K (He.ga K c) f (v.v K) u := by
  unfold conB at h
  split at h
  · rename_i u e
    obtain ⟨h1, h⟩ := He.ba h
    obtain ⟨h2, h3⟩ := He.ba h
    exact ⟨u, e, He.relB_ok h1, of_decide_eq_true h2, by simpa using h3⟩
  · cases h
def Fc.ok (K : PySem.W.Frag) : Fc → Bool
  | .fa f => f.ok K
  | .tup x vs => He.tupB K x vs
  | .prop c f => propB K c f
  | .con c f v => conB K c f v
  | .dic x kvs => dicB K (He.ga K x) kvs
/-- one def -/
structure DefZ where
  at_ : At
  name : Str
  qual : Str
  params : Arguments
  body : List Stmt
  scope : Scope
  dfl : List He.Dv := []
  kwd : List (Str × He.Dv) := []
def fnZ (K : PySem.W.Frag) (a : Addr) : He.FnW := match K.lookup a with
  | some ⟨_, _, .func fd, _⟩ => some (fd.name, fd.qualname, fd.params, fd.body, fd.scope, fd.globals, fd.closure, fd.builtins)
  | _ => none
def DefZ.val (d : DefZ) : He.FnW := some (d.name, d.qual, d.params, .stmts d.body, d.scope, mainGlobals, [], builtinsNs)
def DefZ.dvs (K : PySem.W.Frag) (d : DefZ) : List V := d.dfl.map (He.Dv.v K)
def DefZ.kws (K : PySem.W.Frag) (d : DefZ) : List (Str × V) := d.kwd.map fun q => (q.1, q.2.v K)
def DefZ.ok (K : PySem.W.Frag) (d : DefZ) : Bool := PySem.W.keepIn K (.ref (d.at_.ad K)) && (match K.lookup (d.at_.ad K) with
  | some ⟨_, _, .func fd, _⟩ => PySem.W.codeIn K fd.code d.qual && (He.dflB K fd.defaults (d.dvs K) && He.kwdB K fd.kwdefaults (d.kws K))
  | _ => false)
theorem DefZ.funD {K : PySem.W.Frag} {d : DefZ} (e : fnZ K (d.at_.ad K) = d.val) (c : d.ok K = true) : ∃ fd, FunD K d.name d.qual d.params d.body d.scope (d.dvs K) (d.kws K) (d.at_.ad K) fd := by
  obtain ⟨kp, c2⟩ := He.ba c
  unfold fnZ at e
  cases q : K.lookup (d.at_.ad K) with
  | none =>
    rw [q] at c2
    cases c2
  | some o =>
    obtain ⟨oc, od, dt, osl⟩ := o
    rw [q] at c2 e
    cases dt with
    | func fd =>
      obtain ⟨n1, n2, n3, n4, n5, n6, n7, n8, n9, n10, n11, n12, n13, n14, n15⟩ := fd
      have e2 : (some (n1, n2, n3, n4, n5, n6, n7, n15) : He.FnW) = some (d.name, d.qual, d.params, .stmts d.body, d.scope, mainGlobals, [], builtinsNs) := e
      simp only [Option.some.injEq, Prod.mk.injEq] at e2
      obtain ⟨h1, h2, h3, h4, h5, h6, h7, h8⟩ := e2
      subst h1 h2 h3 h4 h5 h6 h7 h8
      obtain ⟨k1, k2⟩ := He.ba (show (PySem.W.codeIn K n13 d.qual && (He.dflB K n8 (d.dvs K) && He.kwdB K n9 (d.kws K))) = true from c2)
      obtain ⟨k3, k4⟩ := He.ba k2
      exact ⟨_, ⟨oc, od, n8, n9, n10, n11, n12, n13, n14, osl, rfl, q, k1, He.dflB_ok k3, He.kwdB_ok k4⟩, kp⟩
    | _ => cases c2
def frontD (g : Addr → Option Obj) : Nat → List Addr → List Addr
  | 0, as => as
  | n + 1, as => as ++ frontD g n (as.flatMap fun a => match g a with
    | some o => He.refsD o
    | none => [])
abbrev AlZ : Type := Bool × List He.FnW
def obsZ (fc : List Fc) (fn : List DefZ) (K : PySem.W.Frag) : AlZ := ((fc.all fun f => f.ok K) && fn.all fun d => d.ok K, fn.map fun d => fnZ K (d.at_.ad K))
def valZ (fn : List DefZ) : AlZ := (true, fn.map DefZ.val)
def SaysZ (fc : List Fc) (fn : List DefZ) (K : PySem.W.Frag) : Prop := obsZ fc fn K = valZ fn
def obsZG (n : Nat) (fc : List Fc) (fn : List DefZ) (g : Addr → Option Obj) : AlZ := obsZ fc fn (He.frG g (frontD g n [mainGlobals]))
def hookZ (n : Nat) (fc : List Fc) (fn : List DefZ) : PySem.W.Hook where
  α := AlZ
  obs := fun s => obsZG n fc fn s.heap.get?
  val := fun _ => valZ fn
  says := fun _ h => ∃ K : PySem.W.Frag, K.In h ∧ SaysZ fc fn K
  of := fun _ _ e => ⟨_, He.frG_in, e⟩
  keeps := fun _ _ _ z k => z.elim fun K q => ⟨K, PySem.W.Frag.In.keeps q.1 k, q.2⟩
theorem obsZ_eq {n : Nat} {fc : List Fc} {fn : List DefZ} {g : Addr → Option Obj} {s : Shared} (h : ∀ a, g a = s.heap.get? a) : obsZG n fc fn g = (hookZ n fc fn).obs s := by
  obtain rfl : g = s.heap.get? := funext h
  rfl
section
variable {fc : List Fc} {fn : List DefZ} {K : PySem.W.Frag}
theorem SaysZ.fact (c : SaysZ fc fn K) (i : Nat) {f : Fc} (h : fc[i]? = some f) : f.ok K = true :=
  List.all_eq_true.mp (Bool.and_eq_true_iff.mp (congrArg Prod.fst c)).1 f (List.mem_of_getElem? h)
theorem SaysZ.def_ (c : SaysZ fc fn K) (i : Nat) {d : DefZ} (h : fn[i]? = some d) : ∃ fd, FunD K d.name d.qual d.params d.body d.scope (d.dvs K) (d.kws K) (d.at_.ad K) fd := by
  have okd : d.ok K = true := List.all_eq_true.mp (Bool.and_eq_true_iff.mp (congrArg Prod.fst c)).2 d (List.mem_of_getElem? h)
  have e : (fn.map fun d => fnZ K (d.at_.ad K))[i]? = (fn.map DefZ.val)[i]? := by rw [show (fn.map fun d => fnZ K (d.at_.ad K)) = fn.map DefZ.val from congrArg Prod.snd c]
  rw [List.getElem?_map, List.getElem?_map, h] at e
  exact DefZ.funD (Option.some.inj e) okd
variable {h : Heap} {mg : Str → Option Value}
theorem con_int (X : K.In h) (G : h.Ns mainGlobals mg) {x : Str} {i : Int} (q : (Fc.fa (.int x i)).ok K = true) : Con K mg (x, .int i) := by
  obtain ⟨t, e⟩ := He.int_ok X G q
  exact ⟨.int i, _, e, ⟨t, rfl⟩, fun _ _ => .int⟩
theorem con_str (X : K.In h) (G : h.Ns mainGlobals mg) {x z : Str} (q : (Fc.fa (.str x z)).ok K = true) : Con K mg (x, .str z) := by
  obtain ⟨t, e⟩ := He.str_ok X G q
  exact ⟨.str z, _, e, ⟨t, rfl⟩, fun _ _ => .str⟩
theorem rel_strs {r : List Addr} {H : Hp} : ∀ zs : List Str, RelDs K r H (zs.map D.str) (zs.map V.str)
  | [] => .nil
  | _ :: zs => .cons .str (rel_strs zs)
theorem con_tup (X : K.In h) (G : h.Ns mainGlobals mg) {x : Str} {zs : List Str} (g : (Fc.fa (.glo x)).ok K = true) (q : (Fc.tup x (zs.map .str)).ok K = true) : Con K mg (x, .tup (zs.map .str)) := by
  refine ⟨.ref (He.ga K x), _, He.glo_ok X G g, rfl, fun r H => .tup (He.tupB_ok q H) ?_⟩
  have e : (zs.map He.Dv.str).map (He.Dv.v K) = zs.map V.str := by rw [List.map_map]; rfl
  rw [e]
  exact rel_strs zs
theorem cons_nil : Cons K mg [] := fun _ h => nomatch h
theorem cons_cons {p : Str × D} {l : List (Str × D)} (a : Con K mg p) (b : Cons K mg l) : Cons K mg (p :: l) := fun q hq => by
  rcases List.mem_cons.mp hq with rfl | hq
  · exact a
  · exact b q hq
theorem frees_nil : Frees mg [] := fun _ h => nomatch h
theorem frees_cons {x : Str} {l : List Str} (a : mg x = none) (b : Frees mg l) : Frees mg (x :: l) := fun q hq => by
  rcases List.mem_cons.mp hq with rfl | hq
  · exact a
  · exact b q hq
end
/-- bindings by cases -/
def bindOf (l : List (Nat × List Str × Arr)) (n : Nat) (ks : List Str) : Option Arr := (l.find? fun p => decide (p.1 = n ∧ p.2.1 = ks)).map (·.2.2)
theorem bindOf_in {l : List (Nat × List Str × Arr)} {n : Nat} {ks : List Str} {a : Arr} (h : bindOf l n ks = some a) : (n, ks, a) ∈ l := by
  obtain ⟨p, hp, rfl⟩ := Option.map_eq_some_iff.mp h
  have hm := List.mem_of_find?_eq_some hp
  have hq := List.find?_some hp
  simp only [decide_eq_true_eq] at hq
  obtain ⟨p1, p2, p3⟩ := p
  obtain ⟨rfl, rfl⟩ := hq
  exact hm
def BindsL (K : PySem.W.Frag) (fd : FuncData) (ps : List Str) (l : List (Nat × List Str × Arr)) : Prop := ∀ p ∈ l, BindM K fd ps p.1 p.2.1 p.2.2
theorem binds_nil {K : PySem.W.Frag} {fd : FuncData} {ps : List Str} : BindsL K fd ps [] := fun _ h => nomatch h
theorem binds_cons {K : PySem.W.Frag} {fd : FuncData} {ps : List Str} {p : Nat × List Str × Arr} {l : List (Nat × List Str × Arr)} (a : BindM K fd ps p.1 p.2.1 p.2.2) (b : BindsL K fd ps l) : BindsL K fd ps (p :: l) := fun q hq => by
  rcases List.mem_cons.mp hq with rfl | hq
  · exact a
  · exact b q hq
/-- an entry, from a def -/
theorem ent_of {P : Program} {w : World} {K : PySem.W.Frag} {mg : Str → Option Value} {base : Heap} {cl : Str → Addr} {k : Nat} {x : Str} {f : Addr} {fd : FuncData} {ps : List Str} {F : Fn} {l : List (Nat × List Str × Arr)}
    (g : mg x = some (.ref f)) (kp : PySem.W.keepIn K (.ref f) = true) (M : FnM P w K mg base cl k f fd ps F) (B : BindsL K fd ps l) : Ent P w K mg base cl k (x, ⟨F, bindOf l⟩) :=
  ⟨f, fd, ps, g, kp, M, fun _ _ _ h => B _ (bindOf_in h)⟩
end Z
/-! text T8 -/
/-! T8: tables of classes, put together piece by piece. -/
namespace Z
open PySem PySem.Spec PyProof.Rows L2
section
variable {P : Program} {w : World} {K : PySem.W.Frag} {mg : Str → Option Value} {base : Heap} {cl : Str → Addr} {k j : Nat} {f c : Str}
def FldsL (K : PySem.W.Frag) (cl : Str → Addr) (f : Str) (l : List Str) : Prop := ∀ c ∈ l, Cls K (cl c) ∧ NoAttr K (cl c) f
theorem flds_nil : FldsL K cl f [] := fun _ h => nomatch h
theorem flds_cons {l : List Str} (a : Cls K (cl c)) (n : NoAttr K (cl c) f) (b : FldsL K cl f l) : FldsL K cl f (c :: l) := fun x hx => by
  rcases List.mem_cons.mp hx with rfl | hx
  · exact ⟨a, n⟩
  · exact b x hx
theorem look_cons {α : Type} {Q : Str → α → Prop} {x : Str} {a : α} {l : List (Str × α)} (h : Q x a) (b : ∀ c y, l.lookup c = some y → Q c y) : ∀ c y, ((x, a) :: l).lookup c = some y → Q c y := fun c y e => by
  rw [List.lookup_cons] at e
  by_cases z : c = x
  · subst z
    rw [beq_self_eq_true] at e
    cases e
    exact h
  · rw [beq_eq_false_iff_ne.mpr z] at e
    exact b c y e
def PropsL (P : Program) (w : World) (K : PySem.W.Frag) (mg : Str → Option Value) (base : Heap) (cl : Str → Addr) (k : Nat) (f : Str) (l : List (Str × Fn)) : Prop :=
  ∀ c F, l.lookup c = some F → Cls K (cl c) ∧ ∃ p g fd, PropOf K (cl c) f p g ∧ FnM P w K mg base cl k g fd ["self"] F ∧ Binds K fd ["self"] []
theorem props_nil : PropsL P w K mg base cl k f [] := fun _ _ h => nomatch h
theorem props_cons {F : Fn} {l : List (Str × Fn)} {p g : Addr} {fd : FuncData} (a : Cls K (cl c)) (pp : PropOf K (cl c) f p g) (M : FnM P w K mg base cl j g fd ["self"] F) (hj : j ≤ k) (bd : Binds K fd ["self"] []) (b : PropsL P w K mg base cl k f l) : PropsL P w K mg base cl k f ((c, F) :: l) :=
  look_cons ⟨a, p, g, fd, pp, M.mono hj, bd⟩ b
def ConsL (K : PySem.W.Frag) (cl : Str → Addr) (f : Str) (l : List (Str × D)) : Prop := ∀ c d, l.lookup c = some d → Cls K (cl c) ∧ ∃ v u, L2.Con K (cl c) f v u ∧ ∀ r H, RelD K r H d v
theorem consl_nil : ConsL K cl f [] := fun _ _ h => nomatch h
theorem consl_cons {d : D} {v : V} {l : List (Str × D)} (a : Cls K (cl c)) (h : ∃ u, L2.Con K (cl c) f v u) (r : ∀ r H, RelD K r H d v) (b : ConsL K cl f l) : ConsL K cl f ((c, d) :: l) :=
  look_cons ⟨a, h.elim fun u q => ⟨v, u, q, r⟩⟩ b
theorem attr_ok {T : AttrT} (a : FldsL K cl f T.flds) (b : PropsL P w K mg base cl k f T.props) (c : ConsL K cl f T.cons) : AttrOk P w K mg base cl k f T := ⟨a, b, c⟩
def AtsL (P : Program) (w : World) (K : PySem.W.Frag) (mg : Str → Option Value) (base : Heap) (cl : Str → Addr) (k : Nat) (l : List (Str × AttrT)) : Prop := ∀ p ∈ l, ∃ j, j + 1 ≤ k ∧ AttrOk P w K mg base cl j p.1 p.2
theorem ats_nil : AtsL P w K mg base cl k [] := fun _ h => nomatch h
theorem ats_cons {p : Str × AttrT} {l : List (Str × AttrT)} (a : AttrOk P w K mg base cl j p.1 p.2) (hj : j + 1 ≤ k) (b : AtsL P w K mg base cl k l) : AtsL P w K mg base cl k (p :: l) := fun q hq => by
  rcases List.mem_cons.mp hq with rfl | hq
  · exact ⟨j, hj, a⟩
  · exact b q hq
theorem AtsL.mono {l : List (Str × AttrT)} (a : AtsL P w K mg base cl j l) (h : j ≤ k) : AtsL P w K mg base cl k l := fun p hp => by
  obtain ⟨i, hi, q⟩ := a p hp
  exact ⟨i, Nat.le_trans hi h, q⟩
theorem meths_nil : MethOk P w K mg base cl k f [] := fun _ _ h => nomatch h
theorem meths_cons {M : MethE} {l : List (Str × MethE)} {g : Addr} {fd : FuncData} {ps : List Str} (a : Cls K (cl c)) (m : Meth K (cl c) f g) (F : FnM P w K mg base cl j g fd ps M.fn) (hj : j ≤ k) (b : BindM K fd ps (M.n + 1) [] M.arr) (r : MethOk P w K mg base cl k f l) : MethOk P w K mg base cl k f ((c, M) :: l) :=
  look_cons (Q := fun (c : Str) (M : MethE) => Cls K (cl c) ∧ ∃ g fd ps, Meth K (cl c) f g ∧ FnM P w K mg base cl k g fd ps M.fn ∧ BindM K fd ps (M.n + 1) [] M.arr) ⟨a, g, fd, ps, m, F.mono hj, b⟩ r
theorem MethOk.mono {l : List (Str × MethE)} (a : MethOk P w K mg base cl j f l) (h : j ≤ k) : MethOk P w K mg base cl k f l := fun c M e => by
  obtain ⟨h1, g, fd, ps, h2, h3, h4⟩ := a c M e
  exact ⟨h1, g, fd, ps, h2, h3.mono h, h4⟩
def MtsL (P : Program) (w : World) (K : PySem.W.Frag) (mg : Str → Option Value) (base : Heap) (cl : Str → Addr) (k : Nat) (l : List (Str × List (Str × MethE))) : Prop := ∀ p ∈ l, MethOk P w K mg base cl k p.1 p.2
theorem mts_nil : MtsL P w K mg base cl k [] := fun _ h => nomatch h
theorem mts_cons {p : Str × List (Str × MethE)} {l : List (Str × List (Str × MethE))} (a : MethOk P w K mg base cl k p.1 p.2) (b : MtsL P w K mg base cl k l) : MtsL P w K mg base cl k (p :: l) := fun q hq => by
  rcases List.mem_cons.mp hq with rfl | hq
  · exact a
  · exact b q hq
theorem MtsL.mono {l : List (Str × List (Str × MethE))} (a : MtsL P w K mg base cl j l) (h : j ≤ k) : MtsL P w K mg base cl k l := fun p hp => (a p hp).mono h
def MksL (P : Program) (w : World) (K : PySem.W.Frag) (mg : Str → Option Value) (base : Heap) (cl : Str → Addr) (k : Nat) (l : List (Str × FnS)) : Prop :=
  ∀ p ∈ l, ∃ f fd ps j, j + 1 ≤ k ∧ mg p.1 = some (.ref (cl p.1)) ∧ Mk K (cl p.1) f ∧ FnM P w K mg base cl j f fd ps p.2.F ∧ ∀ n ks a, p.2.bind n ks = some a → BindM K fd ps (n + 1) ks a
theorem mks_nil : MksL P w K mg base cl k [] := fun _ h => nomatch h
/-- bindings of a making: the object is not written -/
def BindsM (K : PySem.W.Frag) (fd : FuncData) (ps : List Str) (l : List (Nat × List Str × Arr)) : Prop := ∀ p ∈ l, BindM K fd ps (p.1 + 1) p.2.1 p.2.2
theorem bindsM_nil {fd : FuncData} {ps : List Str} : BindsM K fd ps [] := fun _ h => nomatch h
theorem bindsM_cons {fd : FuncData} {ps : List Str} {p : Nat × List Str × Arr} {l : List (Nat × List Str × Arr)} (a : BindM K fd ps (p.1 + 1) p.2.1 p.2.2) (b : BindsM K fd ps l) : BindsM K fd ps (p :: l) := fun q hq => by
  rcases List.mem_cons.mp hq with rfl | hq
  · exact a
  · exact b q hq
theorem mks_cons {x : Str} {F : Fn} {bl : List (Nat × List Str × Arr)} {l : List (Str × FnS)} {g : Addr} {fd : FuncData} {ps : List Str} (hm : mg x = some (.ref (cl x))) (m : Mk K (cl x) g) (M : FnM P w K mg base cl j g fd ps F) (hj : j + 1 ≤ k) (B : BindsM K fd ps bl) (b : MksL P w K mg base cl k l) : MksL P w K mg base cl k ((x, ⟨F, bindOf bl⟩) :: l) := fun q hq => by
  rcases List.mem_cons.mp hq with rfl | hq
  · exact ⟨g, fd, ps, j, hj, hm, m, M, fun _ _ _ h => B _ (bindOf_in h)⟩
  · exact b q hq
theorem MksL.mono {l : List (Str × FnS)} (a : MksL P w K mg base cl j l) (h : j ≤ k) : MksL P w K mg base cl k l := fun p hp => by
  obtain ⟨f, fd, ps, i, hi, q⟩ := a p hp
  exact ⟨f, fd, ps, i, Nat.le_trans hi h, q⟩
def StoL (K : PySem.W.Frag) (cl : Str → Addr) (l : List (Str × List Str)) : Prop := ∀ p ∈ l, FldsL K cl p.1 p.2
theorem sto_nil : StoL K cl [] := fun _ h => nomatch h
theorem sto_cons {p : Str × List Str} {l : List (Str × List Str)} (a : FldsL K cl p.1 p.2) (b : StoL K cl l) : StoL K cl (p :: l) := fun q hq => by
  rcases List.mem_cons.mp hq with rfl | hq
  · exact a
  · exact b q hq
def DcsL (K : PySem.W.Frag) (mg : Str → Option Value) (l : List (Str × List (Int × Int))) : Prop := ∀ p ∈ l, ∃ a, mg p.1 = some (.ref a) ∧ dicB K a p.2 = true
theorem dcs_nil : DcsL K mg [] := fun _ h => nomatch h
theorem dcs_cons {p : Str × List (Int × Int)} {l : List (Str × List (Int × Int))} {a : Addr} (h : mg p.1 = some (.ref a)) (q : dicB K a p.2 = true) (b : DcsL K mg l) : DcsL K mg (p :: l) := fun z hz => by
  rcases List.mem_cons.mp hz with rfl | hz
  · exact ⟨a, h, q⟩
  · exact b z hz
theorem owns_nil {m : Str} {n : Nat} : OwnOk P w K mg base cl k m n [] := fun _ _ h => nomatch h
theorem owns_cons {m : Str} {n : Nat} {F : Fn} {l : List (Str × Fn)} {g : Addr} {fd : FuncData} {ps : List Str} (a : Meth K (cl c) m g) (fi : PySem.W.fnIn K g = true) (M : FnM P w K mg base cl j g fd ps F) (hj : j ≤ k) (bd : Binds K fd ps []) (hn : ps.length = n) (b : OwnOk P w K mg base cl k m n l) : OwnOk P w K mg base cl k m n ((c, F) :: l) :=
  look_cons (Q := fun (c : Str) (F : Fn) => ∃ f fd ps, PySem.W.findIn K (.ref (cl c)) m = some (some (.ref f)) ∧ PySem.W.isFn K (.ref f) = true ∧ PySem.W.fnIn K f = true ∧ FnM P w K mg base cl k f fd ps F ∧ Binds K fd ps [] ∧ ps.length = n) ⟨g, fd, ps, a.at_, a.fn, fi, M.mono hj, bd, hn⟩ b
theorem fn_in {x qual : Str} {params : Arguments} {body : List Stmt} {scope : Scope} {dvs : List V} {kws : List (Str × V)} {g : Addr} {fd : FuncData} (F : FunD K x qual params body scope dvs kws g fd) : PySem.W.fnIn K g = true := by
  obtain ⟨oc, od, dV, kV, doc, pm, an, cdv, ct, osl, rfl, lk, _⟩ := F.ex
  unfold PySem.W.fnIn
  rw [lk]
def OwsL (P : Program) (w : World) (K : PySem.W.Frag) (mg : Str → Option Value) (base : Heap) (cl : Str → Addr) (k : Nat) (l : List (Str × Nat × List (Str × Fn))) : Prop := ∀ p ∈ l, ∃ j, j + 1 ≤ k ∧ OwnOk P w K mg base cl j p.1 p.2.1 p.2.2
theorem ows_nil : OwsL P w K mg base cl k [] := fun _ h => nomatch h
theorem ows_cons {p : Str × Nat × List (Str × Fn)} {l : List (Str × Nat × List (Str × Fn))} (a : OwnOk P w K mg base cl j p.1 p.2.1 p.2.2) (hj : j + 1 ≤ k) (b : OwsL P w K mg base cl k l) : OwsL P w K mg base cl k (p :: l) := fun q hq => by
  rcases List.mem_cons.mp hq with rfl | hq
  · exact ⟨j, hj, a⟩
  · exact b q hq
theorem OwsL.mono {l : List (Str × Nat × List (Str × Fn))} (a : OwsL P w K mg base cl j l) (h : j ≤ k) : OwsL P w K mg base cl k l := fun p hp => by
  obtain ⟨i, hi, q⟩ := a p hp
  exact ⟨i, Nat.le_trans hi h, q⟩
theorem methsK_nil {ks : List Str} : MethOkK P w K mg base cl k f ks [] := fun _ _ h => nomatch h
theorem methsK_cons {ks : List Str} {M : MethE} {l : List (Str × MethE)} {g : Addr} {fd : FuncData} {ps : List Str} (a : Cls K (cl c)) (m : Meth K (cl c) f g) (F : FnM P w K mg base cl j g fd ps M.fn) (hj : j ≤ k) (b : BindM K fd ps 1 ks M.arr) (r : MethOkK P w K mg base cl k f ks l) : MethOkK P w K mg base cl k f ks ((c, M) :: l) :=
  look_cons (Q := fun (c : Str) (M : MethE) => Cls K (cl c) ∧ ∃ g fd ps, Meth K (cl c) f g ∧ FnM P w K mg base cl k g fd ps M.fn ∧ BindM K fd ps 1 ks M.arr) ⟨a, g, fd, ps, m, F.mono hj, b⟩ r
theorem MethOkK.mono {ks : List Str} {l : List (Str × MethE)} (a : MethOkK P w K mg base cl j f ks l) (h : j ≤ k) : MethOkK P w K mg base cl k f ks l := fun c M e => by
  obtain ⟨h1, g, fd, ps, h2, h3, h4⟩ := a c M e
  exact ⟨h1, g, fd, ps, h2, h3.mono h, h4⟩
def MtkL (P : Program) (w : World) (K : PySem.W.Frag) (mg : Str → Option Value) (base : Heap) (cl : Str → Addr) (k : Nat) (l : List (Str × List Str × List (Str × MethE))) : Prop := ∀ p ∈ l, MethOkK P w K mg base cl k p.1 p.2.1 p.2.2
theorem mtk_nil : MtkL P w K mg base cl k [] := fun _ h => nomatch h
theorem mtk_cons {p : Str × List Str × List (Str × MethE)} {l : List (Str × List Str × List (Str × MethE))} (a : MethOkK P w K mg base cl k p.1 p.2.1 p.2.2) (b : MtkL P w K mg base cl k l) : MtkL P w K mg base cl k (p :: l) := fun q hq => by
  rcases List.mem_cons.mp hq with rfl | hq
  · exact a
  · exact b q hq
theorem MtkL.mono {l : List (Str × List Str × List (Str × MethE))} (a : MtkL P w K mg base cl j l) (h : j ≤ k) : MtkL P w K mg base cl k l := fun p hp => (a p hp).mono h
theorem ownsK_nil {m : Str} {ks : List Str} : OwnOkK P w K mg base cl k m ks [] := fun _ _ h => nomatch h
theorem ownsK_cons {m : Str} {ks : List Str} {M : MethE} {l : List (Str × MethE)} {g : Addr} {fd : FuncData} {ps : List Str} (a : Meth K (cl c) m g) (fi : PySem.W.fnIn K g = true) (F : FnM P w K mg base cl j g fd ps M.fn) (hj : j ≤ k) (bd : BindM K fd ps 1 ks M.arr) (b : OwnOkK P w K mg base cl k m ks l) : OwnOkK P w K mg base cl k m ks ((c, M) :: l) :=
  look_cons (Q := fun (c : Str) (M : MethE) => ∃ f fd ps, PySem.W.findIn K (.ref (cl c)) m = some (some (.ref f)) ∧ PySem.W.isFn K (.ref f) = true ∧ PySem.W.fnIn K f = true ∧ FnM P w K mg base cl k f fd ps M.fn ∧ BindM K fd ps 1 ks M.arr) ⟨g, fd, ps, a.at_, a.fn, fi, F.mono hj, bd⟩ b
def OwkL (P : Program) (w : World) (K : PySem.W.Frag) (mg : Str → Option Value) (base : Heap) (cl : Str → Addr) (k : Nat) (l : List (Str × List Str × List (Str × MethE))) : Prop := ∀ p ∈ l, ∃ j, j + 1 ≤ k ∧ OwnOkK P w K mg base cl j p.1 p.2.1 p.2.2
theorem owk_nil : OwkL P w K mg base cl k [] := fun _ h => nomatch h
theorem owk_cons {p : Str × List Str × List (Str × MethE)} {l : List (Str × List Str × List (Str × MethE))} (a : OwnOkK P w K mg base cl j p.1 p.2.1 p.2.2) (hj : j + 1 ≤ k) (b : OwkL P w K mg base cl k l) : OwkL P w K mg base cl k (p :: l) := fun q hq => by
  rcases List.mem_cons.mp hq with rfl | hq
  · exact ⟨j, hj, a⟩
  · exact b q hq
theorem OwkL.mono {l : List (Str × List Str × List (Str × MethE))} (a : OwkL P w K mg base cl j l) (h : j ≤ k) : OwkL P w K mg base cl k l := fun p hp => by
  obtain ⟨i, hi, q⟩ := a p hp
  exact ⟨i, Nat.le_trans hi h, q⟩
theorem tabs_of {Γ : Ga} (T : Tab P w K mg base cl k Γ.fns) (A : AtsL P w K mg base cl k Γ.at_) (S : StoL K cl Γ.sto) (M : MtsL P w K mg base cl k Γ.mth) (N : MksL P w K mg base cl k Γ.mks) (Dc : DcsL K mg Γ.dcs) (O : OwsL P w K mg base cl k Γ.own) (Mk2 : MtkL P w K mg base cl k Γ.mtk := by exact mtk_nil) (Ok2 : OwkL P w K mg base cl k Γ.owk := by exact owk_nil) : Tabs P w K mg base cl k Γ :=
  ⟨T, fun _ _ h => A _ (lookup_in h), fun _ _ h => S _ (lookup_in h), fun _ _ h => M _ (lookup_in h), fun _ _ h => N _ (lookup_in h), fun _ _ h => Dc _ (lookup_in h), fun _ _ h => O _ (lookup_in h), fun _ _ h => Mk2 _ (lookup_in h), fun _ _ h => Ok2 _ (lookup_in h)⟩
end
end Z
/-! text DL -/
set_option maxHeartbeats 0
namespace Lw
open PySem PySem.Spec PyProof.Rows L2 Z
abbrev WW : Nat := 1000000
def Z_copy_count : List Str := ["Ring"]
def Z_faults_withstood : List Str := ["Ring"]
def Z_piece_lengths : List Str := ["Ring"]
def Z_recipes_given : List Str := ["Ring"]
def Z_row_list : List Str := ["Ring"]
def T_copy_count : AttrT := ⟨["Ring"], [], []⟩
def T_faults_withstood : AttrT := ⟨["Ring"], [], []⟩
def T_piece_lengths : AttrT := ⟨["Ring"], [], []⟩
def T_recipes_given : AttrT := ⟨["Ring"], [], []⟩
def T_row_list : AttrT := ⟨["Ring"], [], []⟩
def B_is_whole : XS := (sRet (xOp dEq (xOp dIx (xVar 0) (xC (.int 0))) (xOp dIx (xVar 0) (xC (.int 2)))))
@[irreducible] def F_is_whole : Fn := bodyFn 1 1 B_is_whole
theorem E_is_whole : F_is_whole = bodyFn 1 1 B_is_whole := by unfold F_is_whole; rfl
def B_store_at : XS := (sSeq (sAsg (xCall dTuple (xCons (xSl (xVar 0) (oSome (xVar 1)) (oSome (xOp dAdd (xVar 1) (xVar 2)))) xNil)) (gNm 3))
  (sRet (xTup (xCons (xOp dIx (xVar 3) (xC (.int 0))) (xCons (xSl (xVar 3) (oSome (xC (.int 1))) (oSome (xUn dNeg (xC (.int 1))))) (xCons (xOp dIx (xVar 3) (xUn dNeg (xC (.int 1)))) xNil))))))
@[irreducible] def F_store_at : Fn := bodyFn 4 3 B_store_at
theorem E_store_at : F_store_at = bodyFn 4 3 B_store_at := by unfold F_store_at; rfl
def B_Ring_size : XS := (sRet (xCall dLen (xCons (xAttr T_recipes_given "recipes_given" (xVar 0)) xNil)))
@[irreducible] def F_Ring_size : Fn := bodyFn 1 1 B_Ring_size
theorem E_Ring_size : F_Ring_size = bodyFn 1 1 B_Ring_size := by unfold F_Ring_size; rfl
def T_size : AttrT := ⟨[], [("Ring", F_Ring_size)], []⟩
def B_stores_of : XS := (sSeq (sAsg (xOp dAdd (xAttr T_size "size" (xVar 0)) (xC (.int 2))) (gNm 3))
  (sSeq (sAsg (xOp dMul (xOp dMul (xC (.int 4)) (xVar 3)) (xVar 2)) (gNm 4))
  (sRet (xTup (xCons (xFn F_store_at [.inl 0, .inl 1, .inl 2] 3 (xCons (xVar 1) (xCons (xVar 4) (xCons (xVar 3) xNil)))) (xCons (xFn F_store_at [.inl 0, .inl 1, .inl 2] 3 (xCons (xVar 1) (xCons (xOp dAdd (xVar 4) (xVar 3)) (xCons (xVar 3) xNil)))) xNil))))))
@[irreducible] def F_stores_of : Fn := bodyFn 5 3 B_stores_of
theorem E_stores_of : F_stores_of = bodyFn 5 3 B_stores_of := by unfold F_stores_of; rfl
def B_held : XS := (sSeq (sAsg (xComp (xIter (xFn F_stores_of [.inl 0, .inl 1, .inl 2] 3 (xCons (xVar 0) (xCons (xVar 1) (xCons (xVar 2) xNil))))) (gNm 4) (xTrue (xFn F_is_whole [.inl 0] 1 (xCons (xVar 4) xNil))) (xVar 4) [4]) (gNm 3))
  (sRet (xCall dTuple (xCons (xSortC (xIter (xVar 3)) (gRow 3 (gsCons (gNm 5) (gsCons (gNm 6) (gsCons (gNm 7) gsNil)))) (xTup (xCons (xVar 5) (xCons (xVar 6) xNil))) [5, 6, 7]) xNil))))
@[irreducible] def F_held : Fn := bodyFn 8 3 B_held
theorem E_held : F_held = bodyFn 8 3 B_held := by unfold F_held; rfl
def B__law_due : XS := (sSeq (sPar [3, 4] (xCons (xLst xNil) (xCons (xOp dMul (xOp dMul (xC (.int 4)) (xOp dAdd (xVar 1) (xC (.int 2)))) (xVar 2)) xNil)))
  (sSeq (sFor (xIter (xTup (xCons (xVar 4) (xCons (xOp dAdd (xOp dAdd (xVar 4) (xVar 1)) (xC (.int 2))) xNil)))) (gNm 5) (sSeq (sAsg (xTup (xCons (xOp dIx (xVar 0) (xVar 5)) (xCons (xSl (xVar 0) (oSome (xOp dAdd (xVar 5) (xC (.int 1)))) (oSome (xOp dAdd (xOp dAdd (xVar 5) (xVar 1)) (xC (.int 1))))) xNil))) (gNm 6))
  (sIf (xAnd (xTrue (xOp dEq (xOp dIx (xVar 0) (xVar 5)) (xOp dIx (xVar 0) (xOp dAdd (xOp dAdd (xVar 5) (xVar 1)) (xC (.int 1)))))) (xTrue (xOp dNotInX (xVar 6) (xVar 3)))) (sDrop (xBm isLst mAppend (xVar 3) (xCons (xVar 6) xNil))) sNext)))
  (sRet (xCall dTuple (xCons (xCall dSortedX (xCons (xVar 3) xNil)) xNil)))))
@[irreducible] def F__law_due : Fn := bodyFn 7 3 B__law_due
theorem E__law_due : F__law_due = bodyFn 7 3 B__law_due := by unfold F__law_due; rfl
def B__law_draw : XS := (sSeq (sPar [2, 3] (xCons (xOp dAdd (xOp dIx (xVar 0) (xC (.str "drawn"))) (xC (.int 1))) (xCons (xOp dIx (xVar 0) (xC (.str "mixed"))) xNil)))
  (sSeq (sSub (xVar 0) (xC (.str "drawn")) (xVar 2))
  (sSeq (sIf (xTrue (xOp dNe (xOp dIx (xVar 0) (xC (.str "cells"))) (xLst xNil))) (sSeq (sAsg (xBm isLst mPop (xOp dIx (xVar 0) (xC (.str "cells"))) xNil) (gNm 4))
  (sSeq (sIf (xTrue (xOp dGe (xVar 4) (xOp dPow (xC (.int 10)) (xC (.int 18))))) (sSeq (sDrop (xBm isLst mAppend (xOp dIx (xVar 0) (xC (.str "cells"))) (xCons (xOp dDiv (xVar 4) (xVar 1)) xNil)))
  (sRet (xOp dMod (xVar 4) (xVar 1)))) sNext)
  (sAsg (xOp dAdd (xVar 3) (xVar 4)) (gNm 3)))) sNext)
  (sSeq (sAsg (xOp dMod (xOp dMul (xOp dAdd (xOp dAdd (xOp dMod (xVar 3) (xC (.int 2147483629))) (xOp dMul (xOp dMul (xC (.int 86243)) (xVar 2)) (xVar 2))) (xC (.int 31))) (xC (.int 48271))) (xC (.int 2147483647))) (gNm 3))
  (sSeq (sAsg (xOp dMod (xOp dAdd (xOp dAdd (xOp dMul (xVar 3) (xVar 3)) (xOp dMul (xC (.int 69621)) (xVar 2))) (xC (.int 7))) (xC (.int 2147483563))) (gNm 3))
  (sRet (xOp dMod (xOp dDiv (xOp dMod (xOp dMul (xVar 3) (xC (.int 40692))) (xC (.int 2147483587))) (xC (.int 32))) (xVar 1))))))))
@[irreducible] def F__law_draw : Fn := bodyFn 5 2 B__law_draw
theorem E__law_draw : F__law_draw = bodyFn 5 2 B__law_draw := by unfold F__law_draw; rfl
def B__law_pick : XS := (sRet (xOp dIx (xVar 1) (xFn F__law_draw [.inl 0, .inl 1] 2 (xCons (xVar 0) (xCons (xCall dLen (xCons (xVar 1) xNil)) xNil)))))
@[irreducible] def F__law_pick : Fn := bodyFn 2 2 B__law_pick
theorem E__law_pick : F__law_pick = bodyFn 2 2 B__law_pick := by unfold F__law_pick; rfl
def B__law_store : XS := (sSeq (sIf (xAnd (xTrue (xOp dNe (xVar 2) (xLst xNil))) (xTrue (xOp dEq (xFn F__law_draw [.inl 0, .inl 1] 2 (xCons (xVar 0) (xCons (xC (.int 4)) xNil))) (xC (.int 0))))) (sRet (xFn F__law_pick [.inl 0, .inl 1] 2 (xCons (xVar 0) (xCons (xVar 2) xNil)))) sNext)
  (sSeq (sAsg (xFn F__law_pick [.inl 0, .inl 1] 2 (xCons (xVar 0) (xCons (xLst (xCons (xC (.int 0)) (xCons (xC (.int 1)) (xCons (xC (.int 2)) (xCons (xC (.int 999998)) (xCons (xC (.int 999999)) (xCons (xFn F__law_draw [.inl 0, .inl 1] 2 (xCons (xVar 0) (xCons (xC (.int 1000000)) xNil))) xNil))))))) xNil))) (gNm 3))
  (sSeq (sAsg (xCall dTuple (xCons (xComp (xIts rangeOf1 (xCons (xVar 1) xNil)) (gNm 6) xYes (xFn F__law_pick [.inl 0, .inl 1] 2 (xCons (xVar 0) (xCons (xLst (xCons (xC (.int 0)) (xCons (xC (.int 0)) (xCons (xC (.int 1)) (xCons (xC (.int 7)) (xCons (xC (.int 999999)) (xCons (xVar 3) xNil))))))) xNil))) [6]) xNil)) (gNm 4))
  (sSeq (sAsg (xOp dIx (xLst (xCons (xVar 3) (xCons (xVar 3) (xCons (xOp dMod (xOp dAdd (xVar 3) (xC (.int 1))) (xC (.int 1000000))) (xCons (xFn F__law_draw [.inl 0, .inl 1] 2 (xCons (xVar 0) (xCons (xC (.int 3)) xNil))) xNil))))) (xFn F__law_draw [.inl 0, .inl 1] 2 (xCons (xVar 0) (xCons (xC (.int 4)) xNil)))) (gNm 5))
  (sRet (xOp dAdd (xOp dAdd (xTup (xCons (xVar 3) xNil)) (xVar 4)) (xTup (xCons (xVar 5) xNil))))))))
@[irreducible] def F__law_store : Fn := bodyFn 7 3 B__law_store
theorem E__law_store : F__law_store = bodyFn 7 3 B__law_store := by unfold F__law_store; rfl
def B__law_memory : XS := (sSeq (sPar [3, 4] (xCons (xLst xNil) (xCons (xLst xNil) xNil)))
  (sSeq (sFor (xIts rangeOf1 (xCons (xOp dMul (xC (.int 4)) (xVar 2)) xNil)) (gNm 5) (sSeq (sDrop (xBm isLst mAppend (xVar 3) (xCons (xFn F__law_store [.inl 0, .inl 1, .inl 2] 3 (xCons (xVar 0) (xCons (xVar 1) (xCons (xVar 3) xNil)))) xNil)))
  (sDrop (xBm isLst mExt (xVar 4) (xCons (xOp dIx (xVar 3) (xUn dNeg (xC (.int 1)))) xNil)))))
  (sRet (xCall dTuple (xCons (xVar 4) xNil)))))
@[irreducible] def F__law_memory : Fn := bodyFn 6 3 B__law_memory
theorem E__law_memory : F__law_memory = bodyFn 6 3 B__law_memory := by unfold F__law_memory; rfl
def B_vote_rows : XS := (sSeq (sAsg (xLst (xCons (xTup (xCons (xC (.str "move")) (xCons (xC (.int 24)) (xCons (xVar 5) (xCons (xVar 3) (xCons (xVar 2) xNil)))))) (xCons (xTup (xCons (xC (.str "load")) (xCons (xC (.int 25)) (xCons (xVar 3) xNil)))) (xCons (xTup (xCons (xC (.str "load")) (xCons (xC (.int 26)) (xCons (xOp dSub (xOp dAdd (xVar 3) (xVar 2)) (xC (.int 1))) xNil)))) xNil)))) (gNm 6))
  (sSeq (sDrop (xBm isLst mExt (xVar 6) (xCons (xLst (xCons (xTup (xCons (xC (.str "same")) (xCons (xC (.int 26)) (xCons (xC (.int 25)) (xCons (xC (.int 26)) xNil))))) (xCons (xTup (xCons (xC (.str "load")) (xCons (xC (.int 27)) (xCons (xVar 4) xNil)))) (xCons (xTup (xCons (xC (.str "less")) (xCons (xC (.int 27)) (xCons (xC (.int 27)) (xCons (xC (.int 25)) xNil))))) (xCons (xTup (xCons (xC (.str "set")) (xCons (xC (.int 28)) (xCons (xC (.int 0)) xNil)))) xNil))))) xNil)))
  (sSeq (sFor (xIter (xVar 0)) (gNm 7) (sDrop (xBm isLst mExt (xVar 6) (xCons (xLst (xCons (xTup (xCons (xC (.str "alike")) (xCons (xC (.int 29)) (xCons (xVar 3) (xCons (xVar 7) (xCons (xVar 2) xNil)))))) (xCons (xTup (xCons (xC (.str "add")) (xCons (xC (.int 28)) (xCons (xC (.int 28)) (xCons (xC (.int 29)) xNil))))) xNil))) xNil))))
  (sSeq (sDrop (xBm isLst mExt (xVar 6) (xCons (xLst (xCons (xTup (xCons (xC (.str "set")) (xCons (xC (.int 29)) (xCons (xVar 1) xNil)))) (xCons (xTup (xCons (xC (.str "less")) (xCons (xC (.int 28)) (xCons (xC (.int 29)) (xCons (xC (.int 28)) xNil))))) (xCons (xTup (xCons (xC (.str "mul")) (xCons (xC (.int 26)) (xCons (xC (.int 26)) (xCons (xC (.int 27)) xNil))))) (xCons (xTup (xCons (xC (.str "mul")) (xCons (xC (.int 26)) (xCons (xC (.int 26)) (xCons (xC (.int 28)) xNil))))) xNil))))) xNil)))
  (sRet (xLst (xStar (xVar 6) (xCons (xTup (xCons (xC (.str "move")) (xCons (xC (.int 26)) (xCons (xVar 3) (xCons (xVar 4) (xCons (xVar 2) xNil)))))) xNil))))))))
@[irreducible] def F_vote_rows : Fn := bodyFn 8 6 B_vote_rows
theorem E_vote_rows : F_vote_rows = bodyFn 8 6 B_vote_rows := by unfold F_vote_rows; rfl
def B_store_addresses : XS := (sSeq (sAsg (xOp dAdd (xVar 0) (xC (.int 2))) (gNm 2))
  (sSeq (sAsg (xOp dMul (xOp dMul (xC (.int 4)) (xVar 2)) (xVar 1)) (gNm 3))
  (sRet (xTup (xCons (xVar 3) (xCons (xOp dAdd (xVar 3) (xVar 2)) (xCons (xOp dAdd (xVar 3) (xOp dMul (xC (.int 2)) (xVar 2))) (xCons (xOp dAdd (xVar 3) (xOp dMul (xC (.int 3)) (xVar 2))) xNil))))))))
@[irreducible] def F_store_addresses : Fn := bodyFn 4 2 B_store_addresses
theorem E_store_addresses : F_store_addresses = bodyFn 4 2 B_store_addresses := by unfold F_store_addresses; rfl
def B_piece_q : XS := (sSeq (sAsg (xComp (xIter (xTup (xCons (xC (.int 0)) (xCons (xC (.int 2)) (xCons (xC (.int 3)) xNil))))) (gNm 11) xYes (xOp dIx (xFn F_store_addresses [.inl 0, .inl 1] 2 (xCons (xVar 0) (xCons (xVar 3) xNil))) (xVar 11)) [11]) (gRow 3 (gsCons (gNm 4) (gsCons (gNm 5) (gsCons (gNm 6) gsNil)))))
  (sSeq (sAsg (xOp dAdd (xVar 0) (xC (.int 2))) (gNm 7))
  (sSeq (sAsg (xComp (xIts rangeOf1 (xCons (xVar 2) xNil)) (gNm 12) xYes (xOp dIx (xFn F_store_addresses [.inl 0, .inl 1] 2 (xCons (xVar 0) (xCons (xVar 12) xNil))) (xC (.int 1))) [12]) (gNm 8))
  (sSeq (sAsg (xLst (xCons (xTup (xCons (xC (.str "set")) (xCons (xC (.int 24)) (xCons (xC (.int 1)) xNil)))) (xCons (xTup (xCons (xC (.str "move")) (xCons (xC (.int 24)) (xCons (xVar 4) (xCons (xVar 6) (xCons (xVar 7) xNil)))))) xNil))) (gNm 9))
  (sSeq (sFor (xIter (xVar 8)) (gNm 10) (sDrop (xBm isLst mExt (xVar 9) (xCons (xFn F_vote_rows [.inl 0, .inl 1, .inl 2, .inl 3, .inl 4, .inl 5] 6 (xCons (xVar 8) (xCons (xVar 1) (xCons (xVar 7) (xCons (xVar 5) (xCons (xVar 6) (xCons (xVar 10) xNil))))))) xNil))))
  (sRet (xLst (xStar (xVar 9) (xCons (xTup (xCons (xC (.str "move")) (xCons (xC (.int 24)) (xCons (xVar 6) (xCons (xVar 4) (xCons (xVar 7) xNil)))))) xNil)))))))))
@[irreducible] def F_piece_q : Fn := bodyFn 13 4 B_piece_q
theorem E_piece_q : F_piece_q = bodyFn 13 4 B_piece_q := by unfold F_piece_q; rfl
def B_counting_rows : XS := (sSeq (sAsg (xLst (xCons (xTup (xCons (xC (.str "load")) (xCons (xC (.int 24)) (xCons (xVar 0) xNil)))) (xCons (xTup (xCons (xC (.str "load")) (xCons (xC (.int 25)) (xCons (xOp dAdd (xVar 0) (xC (.int 1))) xNil)))) (xCons (xTup (xCons (xC (.str "set")) (xCons (xC (.int 26)) (xCons (xC (.int 0)) xNil)))) (xCons (xTup (xCons (xC (.str "same")) (xCons (xC (.int 25)) (xCons (xC (.int 25)) (xCons (xC (.int 26)) xNil))))) xNil))))) (gNm 2))
  (sRet (xLst (xStar (xVar 2) (xCons (xTup (xCons (xC (.str "add")) (xCons (xC (.int 24)) (xCons (xC (.int 24)) (xCons (xC (.int 25)) xNil))))) (xCons (xTup (xCons (xC (.str "store")) (xCons (xC (.int 24)) (xCons (xVar 1) xNil)))) xNil))))))
@[irreducible] def F_counting_rows : Fn := bodyFn 3 2 B_counting_rows
theorem E_counting_rows : F_counting_rows = bodyFn 3 2 B_counting_rows := by unfold F_counting_rows; rfl
def B_choosing_rows : XS := (sSeq (sAsg (xLst (xCons (xTup (xCons (xC (.str "load")) (xCons (xC (.int 24)) (xCons (xOp dAdd (xOp dAdd (xVar 1) (xC (.int 1))) (xVar 0)) xNil)))) (xCons (xTup (xCons (xC (.str "load")) (xCons (xC (.int 25)) (xCons (xOp dAdd (xVar 1) (xC (.int 1))) xNil)))) xNil))) (gNm 4))
  (sRet (xLst (xStar (xVar 4) (xCons (xTup (xCons (xC (.str "choose")) (xCons (xC (.int 24)) (xCons (xC (.int 25)) (xCons (xC (.int 24)) (xCons (xVar 3) xNil)))))) (xCons (xTup (xCons (xC (.str "store")) (xCons (xC (.int 24)) (xCons (xOp dAdd (xOp dAdd (xVar 2) (xC (.int 1))) (xVar 0)) xNil)))) xNil))))))
@[irreducible] def F_choosing_rows : Fn := bodyFn 5 4 B_choosing_rows
theorem E_choosing_rows : F_choosing_rows = bodyFn 5 4 B_choosing_rows := by unfold F_choosing_rows; rfl
def B_placed_row : XS := (sRet (xIf (xTrue (xOp dEq (xOp dIx (xVar 0) (xC (.int 0))) (xC (.str "load")))) (xTup (xCons (xC (.str "load")) (xCons (xOp dIx (xVar 0) (xC (.int 1))) (xCons (xOp dAdd (xOp dAdd (xVar 1) (xC (.int 1))) (xOp dIx (xVar 0) (xC (.int 2)))) xNil)))) (xVar 0)))
@[irreducible] def F_placed_row : Fn := bodyFn 2 2 B_placed_row
theorem E_placed_row : F_placed_row = bodyFn 2 2 B_placed_row := by unfold F_placed_row; rfl
def B_piece_p : XS := (sSeq (sAsg (xCall dLen (xCons (xVar 0) xNil)) (gNm 2))
  (sSeq (sAsg (xSl (xFn F_store_addresses [.inl 0, .inl 1] 2 (xCons (xVar 2) (xCons (xVar 1) xNil))) oNone (oSome (xC (.int 2)))) (gRow 2 (gsCons (gNm 3) (gsCons (gNm 4) gsNil))))
  (sSeq (sAsg (xLst (xCons (xTup (xCons (xC (.str "set")) (xCons (xC (.int 24)) (xCons (xC (.int 999999)) xNil)))) (xCons (xTup (xCons (xC (.str "store")) (xCons (xC (.int 24)) (xCons (xOp dAdd (xOp dAdd (xVar 4) (xVar 2)) (xC (.int 1))) xNil)))) (xStar (xFn F_counting_rows [.inl 0, .inl 1] 2 (xCons (xVar 3) (xCons (xVar 4) xNil))) xNil)))) (gNm 5))
  (sSeq (sFor (xIts enumOf (xCons (xVar 0) xNil)) (gRow 2 (gsCons (gNm 6) (gsCons (gRow 2 (gsCons (gNm 7) (gsCons (gNm 8) gsNil))) gsNil))) (sSeq (sDrop (xBm isLst mExt (xVar 5) (xCons (xComp (xIter (xVar 7)) (gNm 9) xYes (xFn F_placed_row [.inl 0, .inl 1] 2 (xCons (xVar 9) (xCons (xVar 3) xNil))) [9]) xNil)))
  (sDrop (xBm isLst mExt (xVar 5) (xCons (xFn F_choosing_rows [.inl 0, .inl 1, .inl 2, .inl 3] 4 (xCons (xVar 6) (xCons (xVar 3) (xCons (xVar 4) (xCons (xVar 8) xNil))))) xNil)))))
  (sRet (xLst (xStar (xVar 5) (xStar (xFn F_counting_rows [.inl 0, .inl 1] 2 (xCons (xVar 3) (xCons (xOp dAdd (xOp dAdd (xVar 4) (xVar 2)) (xC (.int 1))) xNil))) xNil))))))))
@[irreducible] def F_piece_p : Fn := bodyFn 10 2 B_piece_p
theorem E_piece_p : F_piece_p = bodyFn 10 2 B_piece_p := by unfold F_piece_p; rfl
def B_enough_copies : XS := (sRet (xGetC [(0, 1), (1, 3)] (xVar 0) (xOp dMul (xOp dAdd (xVar 0) (xC (.int 1))) (xOp dAdd (xVar 0) (xC (.int 1))))))
@[irreducible] def F_enough_copies : Fn := bodyFn 1 1 B_enough_copies
theorem E_enough_copies : F_enough_copies = bodyFn 1 1 B_enough_copies := by unfold F_enough_copies; rfl
def B_is_number : XS := (sRet (xAndV (xIsi "int" (xVar 0)) (xAndV (xNotV (xIsi "bool" (xVar 0))) (xChain dLe dLe (xVar 1) (xVar 0) (xVar 2)))))
@[irreducible] def F_is_number : Fn := bodyFn 3 3 B_is_number
theorem E_is_number : F_is_number = bodyFn 3 3 B_is_number := by unfold F_is_number; rfl
def B_is_integer : XS := (sRet (xAndV (xIsi "int" (xVar 0)) (xNotV (xIsi "bool" (xVar 0)))))
@[irreducible] def F_is_integer : Fn := bodyFn 1 1 B_is_integer
theorem E_is_integer : F_is_integer = bodyFn 1 1 B_is_integer := by unfold F_is_integer; rfl
def B_is_number_below : XS := (sRet (xAndV (xFn F_is_integer [.inl 0] 1 (xCons (xVar 0) xNil)) (xChain dLe dLt (xC (.int 0)) (xVar 0) (xVar 1))))
@[irreducible] def F_is_number_below : Fn := bodyFn 2 2 B_is_number_below
theorem E_is_number_below : F_is_number_below = bodyFn 2 2 B_is_number_below := by unfold F_is_number_below; rfl
def B_is_register : XS := (sRet (xFn F_is_number_below [.inl 0, .inl 1] 2 (xCons (xVar 0) (xCons (xC (.int 24)) xNil))))
@[irreducible] def F_is_register : Fn := bodyFn 1 1 B_is_register
theorem E_is_register : F_is_register = bodyFn 1 1 B_is_register := by unfold F_is_register; rfl
def B_many_sources : XS := (sSeq (sIf (xTrue (xOp dInX (xVar 0) (xTup (xCons (xC (.str "set")) (xCons (xC (.str "load")) xNil))))) (sRet (xC (.int 0))) sNext)
  (sSeq (sIf (xTrue (xOp dEq (xVar 0) (xC (.str "choose")))) (sRet (xC (.int 3))) sNext)
  (sRet (xIf (xTrue (xOp dInX (xVar 0) (xC (.tup [.str "add", .str "sub", .str "mul", .str "div", .str "mod", .str "less", .str "same"])))) (xC (.int 2)) (xC .non)))))
@[irreducible] def F_many_sources : Fn := bodyFn 1 1 B_many_sources
theorem E_many_sources : F_many_sources = bodyFn 1 1 B_many_sources := by unfold F_many_sources; rfl
def B_is_word : XS := (sRet (xAndV (xFn F_is_integer [.inl 0] 1 (xCons (xVar 0) xNil)) (xChain dLe dLe (xC (.int 0)) (xVar 0) (xC (.int 999999)))))
@[irreducible] def F_is_word : Fn := bodyFn 1 1 B_is_word
theorem E_is_word : F_is_word = bodyFn 1 1 B_is_word := by unfold F_is_word; rfl
def B_is_recipe_row : XS := (sSeq (sIf (xOr (xNot (xTrue (xIsi "tuple" (xVar 0)))) (xOr (xTrue (xOp dLt (xCall dLen (xCons (xVar 0) xNil)) (xC (.int 2)))) (xOr (xNot (xTrue (xIsi "str" (xOp dIx (xVar 0) (xC (.int 0)))))) (xNot (xTrue (xFn F_is_register [.inl 0] 1 (xCons (xOp dIx (xVar 0) (xC (.int 1))) xNil))))))) (sRet (xC (.bl false))) sNext)
  (sSeq (sAsg (xVar 0) (gStar 3 2 (gsCons (gNm 3) (gsCons (gNm 4) (gsCons (gNm 5) gsNil)))))
  (sSeq (sIf (xTrue (xOp dInX (xVar 3) (xTup (xCons (xC (.str "set")) (xCons (xC (.str "load")) xNil))))) (sSeq (sIf (xTrue (xOp dNe (xCall dLen (xCons (xVar 5) xNil)) (xC (.int 1)))) (sRet (xC (.bl false))) sNext)
  (sRet (xIf (xTrue (xOp dEq (xVar 3) (xC (.str "set")))) (xFn F_is_word [.inl 0] 1 (xCons (xOp dIx (xVar 5) (xC (.int 0))) xNil)) (xFn F_is_number_below [.inl 0, .inl 1] 2 (xCons (xOp dIx (xVar 5) (xC (.int 0))) (xCons (xVar 1) xNil)))))) sNext)
  (sRet (xAndV (xOp dEq (xCall dLen (xCons (xVar 5) xNil)) (xFn F_many_sources [.inl 0] 1 (xCons (xVar 3) xNil))) (xCall dAll (xCons (xComp (xIter (xVar 5)) (gNm 6) xYes (xAndV (xFn F_is_register [.inl 0] 1 (xCons (xVar 6) xNil)) (xOp dInX (xVar 6) (xVar 2))) [6]) xNil)))))))
@[irreducible] def F_is_recipe_row : Fn := bodyFn 7 3 B_is_recipe_row
theorem E_is_recipe_row : F_is_recipe_row = bodyFn 7 3 B_is_recipe_row := by unfold F_is_recipe_row; rfl
def B_is_recipe : XS := (sSeq (sIf (xOr (xNot (xTrue (xIsi "tuple" (xVar 0)))) (xOr (xTrue (xOp dNe (xCall dLen (xCons (xVar 0) xNil)) (xC (.int 2)))) (xNot (xTrue (xIsi "tuple" (xOp dIx (xVar 0) (xC (.int 0)))))))) (sRet (xC (.bl false))) sNext)
  (sSeq (sAsg (xVar 0) (gRow 2 (gsCons (gNm 2) (gsCons (gNm 3) gsNil))))
  (sSeq (sAsg xDic0 (gNm 4))
  (sSeq (sFor (xIter (xVar 2)) (gNm 5) (sSeq (sIf (xNot (xTrue (xFn F_is_recipe_row [.inl 0, .inl 1, .inl 2] 3 (xCons (xVar 5) (xCons (xVar 1) (xCons (xVar 4) xNil)))))) (sRet (xC (.bl false))) sNext)
  (sSub (xVar 4) (xOp dIx (xVar 5) (xC (.int 1))) (xC (.bl true)))))
  (sRet (xAndV (xFn F_is_register [.inl 0] 1 (xCons (xVar 3) xNil)) (xOp dInX (xVar 3) (xVar 4))))))))
@[irreducible] def F_is_recipe : Fn := bodyFn 6 2 B_is_recipe
theorem E_is_recipe : F_is_recipe = bodyFn 6 2 B_is_recipe := by unfold F_is_recipe; rfl
def B_is_recipes : XS := (sRet (xAndV (xIsi "tuple" (xVar 0)) (xAndV (xOp dNe (xVar 0) (xTup xNil)) (xCall dAll (xCons (xComp (xIter (xVar 0)) (gNm 1) xYes (xFn F_is_recipe [.inl 0, .inl 1] 2 (xCons (xVar 1) (xCons (xCall dLen (xCons (xVar 0) xNil)) xNil))) [1]) xNil)))))
@[irreducible] def F_is_recipes : Fn := bodyFn 2 1 B_is_recipes
theorem E_is_recipes : F_is_recipes = bodyFn 2 1 B_is_recipes := by unfold F_is_recipes; rfl
def B_Ring___init__ : XS := (sSeq (sIf (xNot (xTrue (xFn F_is_recipes [.inl 0] 1 (xCons (xVar 1) xNil)))) sFail sNext)
  (sSeq (sIf (xNot (xTrue (xFn F_is_number [.inl 0, .inl 1, .inl 2] 3 (xCons (xVar 2) (xCons (xC (.int 0)) (xCons (xC (.int 3)) xNil)))))) sFail sNext)
  (sSeq (sIf (xAnd (xTrue (xOp dIsNot (xVar 3) (xC .non))) (xNot (xTrue (xFn F_is_number [.inl 0, .inl 1, .inl 2] 3 (xCons (xVar 3) (xCons (xC (.int 1)) (xCons (xC (.int 16)) xNil))))))) sFail sNext)
  (sSeq (sFld Z_recipes_given "recipes_given" (xVar 0) (xVar 1))
  (sSeq (sFld Z_faults_withstood "faults_withstood" (xVar 0) (xVar 2))
  (sSeq (sFld Z_copy_count "copy_count" (xVar 0) (xIf (xTrue (xOp dIs (xVar 3) (xC .non))) (xFn F_enough_copies [.inl 0] 1 (xCons (xVar 2) xNil)) (xVar 3)))
  (sSeq (sAsg (xComp (xIts rangeOf1 (xCons (xAttr T_copy_count "copy_count" (xVar 0)) xNil)) (gNm 6) xYes (xFn F_piece_p [.inl 0, .inl 1] 2 (xCons (xVar 1) (xCons (xVar 6) xNil))) [6]) (gNm 4))
  (sSeq (sAsg (xComp (xIts rangeOf1 (xCons (xAttr T_copy_count "copy_count" (xVar 0)) xNil)) (gNm 6) xYes (xFn F_piece_q [.inl 0, .inl 1, .inl 2, .inl 3] 4 (xCons (xCall dLen (xCons (xVar 1) xNil)) (xCons (xVar 2) (xCons (xAttr T_copy_count "copy_count" (xVar 0)) (xCons (xVar 6) xNil))))) [6]) (gNm 5))
  (sSeq (sFld Z_piece_lengths "piece_lengths" (xVar 0) (xTup (xCons (xCall dLen (xCons (xOp dIx (xVar 4) (xC (.int 0))) xNil)) (xCons (xCall dLen (xCons (xOp dIx (xVar 5) (xC (.int 0))) xNil)) xNil))))
  (sFld Z_row_list "row_list" (xVar 0) (xCall dTuple (xCons (xComp2 (xIter (xOp dAdd (xVar 4) (xVar 5))) (gNm 7) xYes (xIter (xVar 7)) (gNm 8) xYes (xVar 8) [7, 8] [8]) xNil))))))))))))
@[irreducible] def F_Ring___init__ : Fn := bodyFn 9 4 B_Ring___init__
theorem E_Ring___init__ : F_Ring___init__ = bodyFn 9 4 B_Ring___init__ := by unfold F_Ring___init__; rfl
def B__law_plain_recipes : XS := (sRet (xCall dTuple (xCons (xComp (xIts rangeOf1 (xCons (xVar 0) xNil)) (gNm 1) xYes (xTup (xCons (xTup (xCons (xTup (xCons (xC (.str "load")) (xCons (xC (.int 0)) (xCons (xVar 1) xNil)))) xNil)) (xCons (xC (.int 0)) xNil))) [1]) xNil)))
@[irreducible] def F__law_plain_recipes : Fn := bodyFn 2 1 B__law_plain_recipes
theorem E__law_plain_recipes : F__law_plain_recipes = bodyFn 2 1 B__law_plain_recipes := by unfold F__law_plain_recipes; rfl
def B__law_deck : XS := (sSeq (sPar [1, 2] (xCons (xCall dList (xCons (xSl (xVar 0) oNone (oSome (xC (.int 63)))) xNil)) (xCons (xC (.int 28019)) xNil)))
  (sSeq (sFor (xIter (xVar 1)) (gNm 3) (sAsg (xOp dMod (xOp dAdd (xOp dAdd (xOp dMul (xVar 2) (xC (.int 40692))) (xOp dMod (xVar 3) (xC (.int 2147483629)))) (xC (.int 13))) (xC (.int 2147483587))) (gNm 2)))
  (sRet (xDisp (pCons (xC (.str "cells")) (xRev (xVar 1)) (pCons (xC (.str "mixed")) (xVar 2) (pCons (xC (.str "drawn")) (xC (.int 0)) pNil)))))))
@[irreducible] def F__law_deck : Fn := bodyFn 4 1 B__law_deck
theorem E__law_deck : F__law_deck = bodyFn 4 1 B__law_deck := by unfold F__law_deck; rfl
def B_law : XS := (sSeq (sAsg (xFn F__law_deck [.inl 0] 1 (xCons (xVar 0) xNil)) (gNm 1))
  (sSeq (sFor (xIts rangeOf1 (xCons (xC (.int 6)) xNil)) (gNm 2) (sSeq (sPar [3, 4] (xCons (xOp dAdd (xC (.int 1)) (xFn F__law_draw [.inl 0, .inl 1] 2 (xCons (xVar 1) (xCons (xC (.int 4)) xNil)))) (xCons (xOp dAdd (xC (.int 1)) (xFn F__law_draw [.inl 0, .inl 1] 2 (xCons (xVar 1) (xCons (xC (.int 16)) xNil)))) xNil)))
  (sSeq (sAsg (xMakeK F_Ring___init__ [.inl 0, .inl 1, .inl 2, .inl 3] 1 2 "Ring" (xCons (xFn F__law_plain_recipes [.inl 0] 1 (xCons (xVar 3) xNil)) xNil) (xCons (xFn F__law_draw [.inl 0, .inl 1] 2 (xCons (xVar 1) (xCons (xC (.int 4)) xNil))) (xCons (xVar 4) xNil))) (gNm 5))
  (sSeq (sAsg (xFn F__law_memory [.inl 0, .inl 1, .inl 2] 3 (xCons (xVar 1) (xCons (xVar 3) (xCons (xVar 4) xNil)))) (gNm 6))
  (sSeq (sAsg (xCall dRepr (xCons (xVar 6) xNil)) (gNm 7))
  (sSeq (sFor (xIts rangeOf1 (xCons (xVar 4) xNil)) (gNm 8) (sSeq (sAsg (xCall dRepr (xCons (xFn F__law_due [.inl 0, .inl 1, .inl 2] 3 (xCons (xVar 6) (xCons (xVar 3) (xCons (xVar 8) xNil)))) xNil)) (gNm 9))
  (sIf (xOr (xTrue (xOp dNe (xCall dRepr (xCons (xFn F_held [.inl 0, .inl 1, .inl 2] 3 (xCons (xVar 5) (xCons (xVar 6) (xCons (xVar 8) xNil)))) xNil)) (xVar 9))) (xTrue (xOp dNe (xCall dRepr (xCons (xFnK F_held [.inl 2, .inl 1, .inl 0] 0 3 xNil (xCons (xVar 8) (xCons (xVar 6) (xCons (xVar 5) xNil)))) xNil)) (xVar 9)))) (sRet (xC (.bl false))) sNext)))
  (sIf (xTrue (xOp dNe (xCall dRepr (xCons (xVar 6) xNil)) (xVar 7))) (sRet (xC (.bl false))) sNext)))))))
  (sRet (xC (.bl true)))))
@[irreducible] def F_law : Fn := bodyFn 10 1 B_law
theorem E_law : F_law = bodyFn 10 1 B_law := by unfold F_law; rfl
end Lw
/-! text HL -/
namespace Lw
open PySem PySem.Spec PyProof.Rows L2 Z
def top (i : Nat) : Stmt := PySem.Challenge.pw_struckring_k28_what_copies_hold.main.body.getD i (.Pass ⟨0, 0, 0, 0⟩)
def d_is_whole : Z.DefZ := ⟨.glo "is_whole", "is_whole", "is_whole", defArgs (top 4), defBody (top 4), defScope (top 4), [], []⟩
def d_store_at : Z.DefZ := ⟨.glo "store_at", "store_at", "store_at", defArgs (top 3), defBody (top 3), defScope (top 3), [], []⟩
def d_Ring_size : Z.DefZ := ⟨.prop "Ring" "size", "size", "Ring.size", defArgs (inClass (top 56) 5), defBody (inClass (top 56) 5), defScope (inClass (top 56) 5), [], []⟩
def d_stores_of : Z.DefZ := ⟨.glo "stores_of", "stores_of", "stores_of", defArgs (top 5), defBody (top 5), defScope (top 5), [], []⟩
def d_held : Z.DefZ := ⟨.glo "held", "held", "held", defArgs (top 6), defBody (top 6), defScope (top 6), [], []⟩
def d__law_due : Z.DefZ := ⟨.glo "_law_due", "_law_due", "_law_due", defArgs (top 65), defBody (top 65), defScope (top 65), [], []⟩
def d__law_draw : Z.DefZ := ⟨.glo "_law_draw", "_law_draw", "_law_draw", defArgs (top 60), defBody (top 60), defScope (top 60), [], []⟩
def d__law_pick : Z.DefZ := ⟨.glo "_law_pick", "_law_pick", "_law_pick", defArgs (top 61), defBody (top 61), defScope (top 61), [], []⟩
def d__law_store : Z.DefZ := ⟨.glo "_law_store", "_law_store", "_law_store", defArgs (top 63), defBody (top 63), defScope (top 63), [], []⟩
def d__law_memory : Z.DefZ := ⟨.glo "_law_memory", "_law_memory", "_law_memory", defArgs (top 64), defBody (top 64), defScope (top 64), [], []⟩
def d_vote_rows : Z.DefZ := ⟨.glo "vote_rows", "vote_rows", "vote_rows", defArgs (top 54), defBody (top 54), defScope (top 54), [], []⟩
def d_store_addresses : Z.DefZ := ⟨.glo "store_addresses", "store_addresses", "store_addresses", defArgs (top 49), defBody (top 49), defScope (top 49), [], []⟩
def d_piece_q : Z.DefZ := ⟨.glo "piece_q", "piece_q", "piece_q", defArgs (top 55), defBody (top 55), defScope (top 55), [], []⟩
def d_counting_rows : Z.DefZ := ⟨.glo "counting_rows", "counting_rows", "counting_rows", defArgs (top 50), defBody (top 50), defScope (top 50), [], []⟩
def d_choosing_rows : Z.DefZ := ⟨.glo "choosing_rows", "choosing_rows", "choosing_rows", defArgs (top 52), defBody (top 52), defScope (top 52), [], []⟩
def d_placed_row : Z.DefZ := ⟨.glo "placed_row", "placed_row", "placed_row", defArgs (top 51), defBody (top 51), defScope (top 51), [], []⟩
def d_piece_p : Z.DefZ := ⟨.glo "piece_p", "piece_p", "piece_p", defArgs (top 53), defBody (top 53), defScope (top 53), [], []⟩
def d_enough_copies : Z.DefZ := ⟨.glo "enough_copies", "enough_copies", "enough_copies", defArgs (top 48), defBody (top 48), defScope (top 48), [], []⟩
def d_is_number : Z.DefZ := ⟨.glo "is_number", "is_number", "is_number", defArgs (top 47), defBody (top 47), defScope (top 47), [], []⟩
def d_is_integer : Z.DefZ := ⟨.glo "is_integer", "is_integer", "is_integer", defArgs (top 16), defBody (top 16), defScope (top 16), [], []⟩
def d_is_number_below : Z.DefZ := ⟨.glo "is_number_below", "is_number_below", "is_number_below", defArgs (top 27), defBody (top 27), defScope (top 27), [], []⟩
def d_is_register : Z.DefZ := ⟨.glo "is_register", "is_register", "is_register", defArgs (top 28), defBody (top 28), defScope (top 28), [], []⟩
def d_many_sources : Z.DefZ := ⟨.glo "many_sources", "many_sources", "many_sources", defArgs (top 29), defBody (top 29), defScope (top 29), [], []⟩
def d_is_word : Z.DefZ := ⟨.glo "is_word", "is_word", "is_word", defArgs (top 17), defBody (top 17), defScope (top 17), [], []⟩
def d_is_recipe_row : Z.DefZ := ⟨.glo "is_recipe_row", "is_recipe_row", "is_recipe_row", defArgs (top 30), defBody (top 30), defScope (top 30), [], []⟩
def d_is_recipe : Z.DefZ := ⟨.glo "is_recipe", "is_recipe", "is_recipe", defArgs (top 31), defBody (top 31), defScope (top 31), [], []⟩
def d_is_recipes : Z.DefZ := ⟨.glo "is_recipes", "is_recipes", "is_recipes", defArgs (top 32), defBody (top 32), defScope (top 32), [], []⟩
def d_Ring___init__ : Z.DefZ := ⟨.meth "Ring" "__init__", "__init__", "Ring.__init__", defArgs (inClass (top 56) 1), defBody (inClass (top 56) 1), defScope (inClass (top 56) 1), [], [("faults", .int (1)), ("copies", .non)]⟩
def d__law_plain_recipes : Z.DefZ := ⟨.glo "_law_plain_recipes", "_law_plain_recipes", "_law_plain_recipes", defArgs (top 62), defBody (top 62), defScope (top 62), [], []⟩
def d__law_deck : Z.DefZ := ⟨.glo "_law_deck", "_law_deck", "_law_deck", defArgs (top 59), defBody (top 59), defScope (top 59), [], []⟩
def d_law : Z.DefZ := ⟨.glo "law", "law", "law", defArgs (top 66), defBody (top 66), defScope (top 66), [], []⟩
def fnL : List Z.DefZ := [d_is_whole, d_store_at, d_Ring_size, d_stores_of, d_held, d__law_due, d__law_draw, d__law_pick, d__law_store, d__law_memory, d_vote_rows, d_store_addresses, d_piece_q, d_counting_rows, d_choosing_rows, d_placed_row, d_piece_p, d_enough_copies, d_is_number, d_is_integer, d_is_number_below, d_is_register, d_many_sources, d_is_word, d_is_recipe_row, d_is_recipe, d_is_recipes, d_Ring___init__, d__law_plain_recipes, d__law_deck, d_law]
def fcL : List Fc := [.fa (.glo "is_whole"), .fa (.glo "store_at"), .fa (.glo "stores_of"), .fa (.glo "held"), .fa (.glo "_law_due"), .fa (.glo "_law_draw"), .fa (.glo "_law_pick"), .fa (.glo "_law_store"), .fa (.glo "_law_memory"), .fa (.glo "vote_rows"), .fa (.glo "store_addresses"), .fa (.glo "piece_q"), .fa (.glo "counting_rows"), .fa (.glo "choosing_rows"), .fa (.glo "placed_row"), .fa (.glo "piece_p"), .fa (.glo "enough_copies"), .fa (.glo "is_number"), .fa (.glo "is_integer"), .fa (.glo "is_number_below"), .fa (.glo "is_register"), .fa (.glo "many_sources"), .fa (.glo "is_word"), .fa (.glo "is_recipe_row"), .fa (.glo "is_recipe"), .fa (.glo "is_recipes"), .fa (.glo "_law_plain_recipes"), .fa (.glo "_law_deck"), .fa (.glo "law"), .fa (.glo "Ring"), .fa (.cls "Ring"), .fa (.mkr "Ring"), .fa (.noat "Ring" "copy_count"), .fa (.noat "Ring" "faults_withstood"), .fa (.noat "Ring" "piece_lengths"), .fa (.noat "Ring" "recipes_given"), .fa (.noat "Ring" "row_list"), .prop "Ring" "size", .fa (.int "STORES_reading" 4), .fa (.int "STORES_rings" 4), .fa (.int "INVALID" 999999), .fa (.int "RECIPE_REGISTERS" 24), .fa (.glo "OPERATORS"), .tup "OPERATORS" [.str "add", .str "sub", .str "mul", .str "div", .str "mod", .str "less", .str "same"], .fa (.str "CHOOSE" "choose"), .fa (.str "LOAD" "load"), .fa (.str "SET" "set"), .fa (.int "GREATEST_WORD" 999999), .fa (.int "RECIPE_PARTS" 2), .fa (.int "MOST_COPIES" 16), .fa (.int "MOST_FAULTS" 3), .fa (.glo "LEAST_COPIES"), .dic "LEAST_COPIES" [(0, 1), (1, 3)], .fa (.free "tuple"), .fa (.free "len"), .fa (.free "sorted"), .fa (.free "range"), .fa (.free "enumerate"), .fa (.free "isinstance"), .fa (.free "bool"), .fa (.free "int"), .fa (.free "all"), .fa (.free "str"), .fa (.free "list"), .fa (.free "repr")]
def nm0 : List PySem.Str := ["_wall", "STORES_reading", "store_at", "is_whole", "stores_of", "held", "StruckError", "BadRecipes", "BadNumber", "Unlike", "BadRow", "GREATEST_WORD", "OPERATORS", "is_integer", "is_word", "SIZE_OF_WORDS", "operator_value", "RECIPE_REGISTERS", "RECIPE_PARTS", "SET", "LOAD", "CHOOSE", "is_number_below", "is_register", "many_sources", "is_recipe_row", "is_recipe", "is_recipes", "computed_word", "next_words"]
def nm1 : List PySem.Str := ["moved_row", "part_recipe", "part_recipes", "both_done", "sum_of", "INVALID", "MOST_FAULTS", "MOST_COPIES", "STORES_rings", "CHOOSE_PARTS", "LEAST_COPIES", "is_number", "enough_copies", "store_addresses", "counting_rows", "placed_row", "choosing_rows", "piece_p", "vote_rows", "piece_q", "Ring", "RowReader", "_law_deck", "_law_draw", "_law_pick", "_law_plain_recipes", "_law_store", "_law_memory", "_law_due"]
def names : List PySem.Str := nm0 ++ nm1
abbrev R : PySem.W.OpenRow := PySem.W.OpenLaw.row PySem.Challenge.rw_struckring_k28_what_copies_hold
abbrev hk : PySem.W.Hook := hookZ 5 fcL fnL
def ob (s : PySem.W.SharedT) : AlZ := obsZG 5 fcL fnL (HandSHeadRun.getT s)
theorem ob_eq (s : PySem.W.SharedT) : ob s = hk.obs s.abs := obsZ_eq (HandSHeadRun.getT_eq s)
theorem runF (w : World) : HandSHeadRun.RunEq R (PySem.W.view R.prog [66]) hk ob 20000 names (w.withFollow "special-get-raises" false) := by
  intro os
  kernel_rfl
theorem runT (w : World) : HandSHeadRun.RunEq R (PySem.W.view R.prog [66]) hk ob 20000 names (w.withFollow "special-get-raises" true) := by
  intro os
  kernel_rfl
theorem run (w : World) : HandSHeadRun.RunEq R (PySem.W.view R.prog [66]) hk ob 20000 names w :=
  PySem.W.byRow2 "special-get-raises" (P := fun w => HandSHeadRun.RunEq R (PySem.W.view R.prog [66]) hk ob 20000 names w) runF runT w
def csL : List (Str × D) := [("STORES_reading", (.int 4)), ("STORES_rings", (.int 4)), ("INVALID", (.int 999999)), ("RECIPE_REGISTERS", (.int 24)), ("OPERATORS", (.tup [.str "add", .str "sub", .str "mul", .str "div", .str "mod", .str "less", .str "same"])), ("CHOOSE", (.str "choose")), ("LOAD", (.str "load")), ("SET", (.str "set")), ("GREATEST_WORD", (.int 999999)), ("RECIPE_PARTS", (.int 2)), ("MOST_COPIES", (.int 16)), ("MOST_FAULTS", (.int 3))]
def frL : List Str := ["tuple", "len", "sorted", "range", "enumerate", "isinstance", "bool", "int", "all", "str", "list", "repr"]
def stL : List (Str × List Str) := [("copy_count", Z_copy_count), ("faults_withstood", Z_faults_withstood), ("piece_lengths", Z_piece_lengths), ("recipes_given", Z_recipes_given), ("row_list", Z_row_list)]
def dcL : List (Str × List (Int × Int)) := [("LEAST_COPIES", [(0, 1), (1, 3)])]
def tb0 : List (Str × FnS) := []
def mk0 : List (Str × FnS) := []
def at0 : List (Str × AttrT) := [("copy_count", T_copy_count), ("faults_withstood", T_faults_withstood), ("piece_lengths", T_piece_lengths), ("recipes_given", T_recipes_given), ("row_list", T_row_list)]
def mt0 : List (Str × List (Str × MethE)) := []
def ow0 : List (Str × Nat × List (Str × Fn)) := []
def nt0 : List (Str × List Str × List (Str × MethE)) := []
def nk0 : List (Str × List Str × List (Str × MethE)) := []
def bs_is_whole : List (Nat × List Str × Arr) := [(1, [], [.inl 0])]
def G_is_whole : Ga := { N := ["store"], sc := defScope (top 4), fn := fun _ => true, fns := tb0, csts := csL, free := frL, dit := [], W := WW, at_ := at0, sto := stL, mth := mt0, mks := mk0, dcs := dcL, ins := ["ring", "_law_circle"], own := ow0, mtk := nt0, owk := nk0 }
def tb1 : List (Str × FnS) := ("is_whole", ⟨F_is_whole, bindOf bs_is_whole⟩) :: tb0
theorem tr_is_whole : blockT (tr 60) G_is_whole (defBody (top 4)) = some B_is_whole := by kernel_rfl
def bs_store_at : List (Nat × List Str × Arr) := [(3, [], [.inl 0, .inl 1, .inl 2])]
def G_store_at : Ga := { N := ["memory", "address", "length", "words"], sc := defScope (top 3), fn := fun _ => true, fns := tb1, csts := csL, free := frL, dit := [], W := WW, at_ := at0, sto := stL, mth := mt0, mks := mk0, dcs := dcL, ins := ["ring", "_law_circle"], own := ow0, mtk := nt0, owk := nk0 }
def tb2 : List (Str × FnS) := ("store_at", ⟨F_store_at, bindOf bs_store_at⟩) :: tb1
theorem tr_store_at : blockT (tr 60) G_store_at (defBody (top 3)) = some B_store_at := by kernel_rfl
def bs_Ring_size : List (Nat × List Str × Arr) := []
def G_Ring_size : Ga := { N := ["self"], sc := defScope (inClass (top 56) 5), fn := fun _ => true, fns := tb2, csts := csL, free := frL, dit := [], W := WW, at_ := at0, sto := stL, mth := mt0, mks := mk0, dcs := dcL, ins := ["ring", "_law_circle"], own := ow0, mtk := nt0, owk := nk0 }
def at3 : List (Str × AttrT) := ("size", T_size) :: at0
theorem tr_Ring_size : blockT (tr 60) G_Ring_size (defBody (inClass (top 56) 5)) = some B_Ring_size := by kernel_rfl
def bs_stores_of : List (Nat × List Str × Arr) := [(3, [], [.inl 0, .inl 1, .inl 2])]
def G_stores_of : Ga := { N := ["ring", "memory", "copy", "length", "first"], sc := defScope (top 5), fn := fun _ => true, fns := tb2, csts := csL, free := frL, dit := [], W := WW, at_ := at3, sto := stL, mth := mt0, mks := mk0, dcs := dcL, ins := ["ring", "_law_circle"], own := ow0, mtk := nt0, owk := nk0 }
def tb4 : List (Str × FnS) := ("stores_of", ⟨F_stores_of, bindOf bs_stores_of⟩) :: tb2
theorem tr_stores_of : blockT (tr 60) G_stores_of (defBody (top 5)) = some B_stores_of := by kernel_rfl
def bs_held : List (Nat × List Str × Arr) := [(0, ["copy", "memory", "ring"], [.inl 2, .inl 1, .inl 0]), (3, [], [.inl 0, .inl 1, .inl 2])]
def G_held : Ga := { N := ["ring", "memory", "copy", "whole", "store", "count", "state", "last"], sc := defScope (top 6), fn := fun _ => true, fns := tb4, csts := csL, free := frL, dit := [], W := WW, at_ := at3, sto := stL, mth := mt0, mks := mk0, dcs := dcL, ins := ["ring", "_law_circle"], own := ow0, mtk := nt0, owk := nk0 }
def tb5 : List (Str × FnS) := ("held", ⟨F_held, bindOf bs_held⟩) :: tb4
theorem tr_held : blockT (tr 60) G_held (defBody (top 6)) = some B_held := by kernel_rfl
def bs__law_due : List (Nat × List Str × Arr) := [(3, [], [.inl 0, .inl 1, .inl 2])]
def G__law_due : Ga := { N := ["_law_words", "_law_size", "_law_number", "_law_found", "_law_first", "_law_at", "_law_pair"], sc := defScope (top 65), fn := fun _ => true, fns := tb5, csts := csL, free := frL, dit := [], W := WW, at_ := at3, sto := stL, mth := mt0, mks := mk0, dcs := dcL, ins := ["ring", "_law_circle"], own := ow0, mtk := nt0, owk := nk0 }
def tb6 : List (Str × FnS) := ("_law_due", ⟨F__law_due, bindOf bs__law_due⟩) :: tb5
theorem tr__law_due : blockT (tr 60) G__law_due (defBody (top 65)) = some B__law_due := by kernel_rfl
def bs__law_draw : List (Nat × List Str × Arr) := [(2, [], [.inl 0, .inl 1])]
def G__law_draw : Ga := { N := ["_law_deck_here", "_law_ways", "_law_drawn", "_law_number", "_law_cell"], sc := defScope (top 60), fn := fun _ => true, fns := tb6, csts := csL, free := frL, dit := [], W := WW, at_ := at3, sto := stL, mth := mt0, mks := mk0, dcs := dcL, ins := ["ring", "_law_circle"], own := ow0, mtk := nt0, owk := nk0 }
def tb7 : List (Str × FnS) := ("_law_draw", ⟨F__law_draw, bindOf bs__law_draw⟩) :: tb6
theorem tr__law_draw : blockT (tr 60) G__law_draw (defBody (top 60)) = some B__law_draw := by kernel_rfl
def bs__law_pick : List (Nat × List Str × Arr) := [(2, [], [.inl 0, .inl 1])]
def G__law_pick : Ga := { N := ["_law_deck_here", "_law_some"], sc := defScope (top 61), fn := fun _ => true, fns := tb7, csts := csL, free := frL, dit := [], W := WW, at_ := at3, sto := stL, mth := mt0, mks := mk0, dcs := dcL, ins := ["ring", "_law_circle"], own := ow0, mtk := nt0, owk := nk0 }
def tb8 : List (Str × FnS) := ("_law_pick", ⟨F__law_pick, bindOf bs__law_pick⟩) :: tb7
theorem tr__law_pick : blockT (tr 60) G__law_pick (defBody (top 61)) = some B__law_pick := by kernel_rfl
def bs__law_store : List (Nat × List Str × Arr) := [(3, [], [.inl 0, .inl 1, .inl 2])]
def G__law_store : Ga := { N := ["_law_deck_here", "_law_size", "_law_earlier", "_law_count", "_law_state", "_law_last", "_law_k"], sc := defScope (top 63), fn := fun _ => true, fns := tb8, csts := csL, free := frL, dit := [], W := WW, at_ := at3, sto := stL, mth := mt0, mks := mk0, dcs := dcL, ins := ["ring", "_law_circle"], own := ow0, mtk := nt0, owk := nk0 }
def tb9 : List (Str × FnS) := ("_law_store", ⟨F__law_store, bindOf bs__law_store⟩) :: tb8
theorem tr__law_store : blockT (tr 60) G__law_store (defBody (top 63)) = some B__law_store := by kernel_rfl
def bs__law_memory : List (Nat × List Str × Arr) := [(3, [], [.inl 0, .inl 1, .inl 2])]
def G__law_memory : Ga := { N := ["_law_deck_here", "_law_size", "_law_many", "_law_stores", "_law_found", "_law_k"], sc := defScope (top 64), fn := fun _ => true, fns := tb9, csts := csL, free := frL, dit := [], W := WW, at_ := at3, sto := stL, mth := mt0, mks := mk0, dcs := dcL, ins := ["ring", "_law_circle"], own := ow0, mtk := nt0, owk := nk0 }
def tb10 : List (Str × FnS) := ("_law_memory", ⟨F__law_memory, bindOf bs__law_memory⟩) :: tb9
theorem tr__law_memory : blockT (tr 60) G__law_memory (defBody (top 64)) = some B__law_memory := by kernel_rfl
def bs_vote_rows : List (Nat × List Str × Arr) := [(6, [], [.inl 0, .inl 1, .inl 2, .inl 3, .inl 4, .inl 5])]
def G_vote_rows : Ga := { N := ["news", "faults", "length", "look", "best", "source", "rows", "new"], sc := defScope (top 54), fn := fun _ => true, fns := tb10, csts := csL, free := frL, dit := [], W := WW, at_ := at3, sto := stL, mth := mt0, mks := mk0, dcs := dcL, ins := ["ring", "_law_circle"], own := ow0, mtk := nt0, owk := nk0 }
def tb11 : List (Str × FnS) := ("vote_rows", ⟨F_vote_rows, bindOf bs_vote_rows⟩) :: tb10
theorem tr_vote_rows : blockT (tr 60) G_vote_rows (defBody (top 54)) = some B_vote_rows := by kernel_rfl
def bs_store_addresses : List (Nat × List Str × Arr) := [(2, [], [.inl 0, .inl 1])]
def G_store_addresses : Ga := { N := ["size", "copy", "length", "first"], sc := defScope (top 49), fn := fun _ => true, fns := tb11, csts := csL, free := frL, dit := [], W := WW, at_ := at3, sto := stL, mth := mt0, mks := mk0, dcs := dcL, ins := ["ring", "_law_circle"], own := ow0, mtk := nt0, owk := nk0 }
def tb12 : List (Str × FnS) := ("store_addresses", ⟨F_store_addresses, bindOf bs_store_addresses⟩) :: tb11
theorem tr_store_addresses : blockT (tr 60) G_store_addresses (defBody (top 49)) = some B_store_addresses := by kernel_rfl
def bs_piece_q : List (Nat × List Str × Arr) := [(4, [], [.inl 0, .inl 1, .inl 2, .inl 3])]
def G_piece_q : Ga := { N := ["size", "faults", "copies", "copy", "old", "look", "best", "length", "news", "rows", "source", "store", "other"], sc := defScope (top 55), fn := fun _ => true, fns := tb12, csts := csL, free := frL, dit := [], W := WW, at_ := at3, sto := stL, mth := mt0, mks := mk0, dcs := dcL, ins := ["ring", "_law_circle"], own := ow0, mtk := nt0, owk := nk0 }
def tb13 : List (Str × FnS) := ("piece_q", ⟨F_piece_q, bindOf bs_piece_q⟩) :: tb12
theorem tr_piece_q : blockT (tr 60) G_piece_q (defBody (top 55)) = some B_piece_q := by kernel_rfl
def bs_counting_rows : List (Nat × List Str × Arr) := [(2, [], [.inl 0, .inl 1])]
def G_counting_rows : Ga := { N := ["old", "address", "rows"], sc := defScope (top 50), fn := fun _ => true, fns := tb13, csts := csL, free := frL, dit := [], W := WW, at_ := at3, sto := stL, mth := mt0, mks := mk0, dcs := dcL, ins := ["ring", "_law_circle"], own := ow0, mtk := nt0, owk := nk0 }
def tb14 : List (Str × FnS) := ("counting_rows", ⟨F_counting_rows, bindOf bs_counting_rows⟩) :: tb13
theorem tr_counting_rows : blockT (tr 60) G_counting_rows (defBody (top 50)) = some B_counting_rows := by kernel_rfl
def bs_choosing_rows : List (Nat × List Str × Arr) := [(4, [], [.inl 0, .inl 1, .inl 2, .inl 3])]
def G_choosing_rows : Ga := { N := ["index", "old", "new", "result", "rows"], sc := defScope (top 52), fn := fun _ => true, fns := tb14, csts := csL, free := frL, dit := [], W := WW, at_ := at3, sto := stL, mth := mt0, mks := mk0, dcs := dcL, ins := ["ring", "_law_circle"], own := ow0, mtk := nt0, owk := nk0 }
def tb15 : List (Str × FnS) := ("choosing_rows", ⟨F_choosing_rows, bindOf bs_choosing_rows⟩) :: tb14
theorem tr_choosing_rows : blockT (tr 60) G_choosing_rows (defBody (top 52)) = some B_choosing_rows := by kernel_rfl
def bs_placed_row : List (Nat × List Str × Arr) := [(2, [], [.inl 0, .inl 1])]
def G_placed_row : Ga := { N := ["row", "old"], sc := defScope (top 51), fn := fun _ => true, fns := tb15, csts := csL, free := frL, dit := [], W := WW, at_ := at3, sto := stL, mth := mt0, mks := mk0, dcs := dcL, ins := ["ring", "_law_circle"], own := ow0, mtk := nt0, owk := nk0 }
def tb16 : List (Str × FnS) := ("placed_row", ⟨F_placed_row, bindOf bs_placed_row⟩) :: tb15
theorem tr_placed_row : blockT (tr 60) G_placed_row (defBody (top 51)) = some B_placed_row := by kernel_rfl
def bs_piece_p : List (Nat × List Str × Arr) := [(2, [], [.inl 0, .inl 1])]
def G_piece_p : Ga := { N := ["recipes", "copy", "size", "old", "new", "rows", "index", "steps", "result", "row"], sc := defScope (top 53), fn := fun _ => true, fns := tb16, csts := csL, free := frL, dit := [], W := WW, at_ := at3, sto := stL, mth := mt0, mks := mk0, dcs := dcL, ins := ["ring", "_law_circle"], own := ow0, mtk := nt0, owk := nk0 }
def tb17 : List (Str × FnS) := ("piece_p", ⟨F_piece_p, bindOf bs_piece_p⟩) :: tb16
theorem tr_piece_p : blockT (tr 60) G_piece_p (defBody (top 53)) = some B_piece_p := by kernel_rfl
def bs_enough_copies : List (Nat × List Str × Arr) := [(1, [], [.inl 0])]
def G_enough_copies : Ga := { N := ["faults"], sc := defScope (top 48), fn := fun _ => true, fns := tb17, csts := csL, free := frL, dit := [], W := WW, at_ := at3, sto := stL, mth := mt0, mks := mk0, dcs := dcL, ins := ["ring", "_law_circle"], own := ow0, mtk := nt0, owk := nk0 }
def tb18 : List (Str × FnS) := ("enough_copies", ⟨F_enough_copies, bindOf bs_enough_copies⟩) :: tb17
theorem tr_enough_copies : blockT (tr 60) G_enough_copies (defBody (top 48)) = some B_enough_copies := by kernel_rfl
def bs_is_number : List (Nat × List Str × Arr) := [(3, [], [.inl 0, .inl 1, .inl 2])]
def G_is_number : Ga := { N := ["value", "least", "most"], sc := defScope (top 47), fn := fun _ => true, fns := tb18, csts := csL, free := frL, dit := [], W := WW, at_ := at3, sto := stL, mth := mt0, mks := mk0, dcs := dcL, ins := ["ring", "_law_circle"], own := ow0, mtk := nt0, owk := nk0 }
def tb19 : List (Str × FnS) := ("is_number", ⟨F_is_number, bindOf bs_is_number⟩) :: tb18
theorem tr_is_number : blockT (tr 60) G_is_number (defBody (top 47)) = some B_is_number := by kernel_rfl
def bs_is_integer : List (Nat × List Str × Arr) := [(1, [], [.inl 0])]
def G_is_integer : Ga := { N := ["thing"], sc := defScope (top 16), fn := fun _ => true, fns := tb19, csts := csL, free := frL, dit := [], W := WW, at_ := at3, sto := stL, mth := mt0, mks := mk0, dcs := dcL, ins := ["ring", "_law_circle"], own := ow0, mtk := nt0, owk := nk0 }
def tb20 : List (Str × FnS) := ("is_integer", ⟨F_is_integer, bindOf bs_is_integer⟩) :: tb19
theorem tr_is_integer : blockT (tr 60) G_is_integer (defBody (top 16)) = some B_is_integer := by kernel_rfl
def bs_is_number_below : List (Nat × List Str × Arr) := [(2, [], [.inl 0, .inl 1])]
def G_is_number_below : Ga := { N := ["thing", "bound"], sc := defScope (top 27), fn := fun _ => true, fns := tb20, csts := csL, free := frL, dit := [], W := WW, at_ := at3, sto := stL, mth := mt0, mks := mk0, dcs := dcL, ins := ["ring", "_law_circle"], own := ow0, mtk := nt0, owk := nk0 }
def tb21 : List (Str × FnS) := ("is_number_below", ⟨F_is_number_below, bindOf bs_is_number_below⟩) :: tb20
theorem tr_is_number_below : blockT (tr 60) G_is_number_below (defBody (top 27)) = some B_is_number_below := by kernel_rfl
def bs_is_register : List (Nat × List Str × Arr) := [(1, [], [.inl 0])]
def G_is_register : Ga := { N := ["thing"], sc := defScope (top 28), fn := fun _ => true, fns := tb21, csts := csL, free := frL, dit := [], W := WW, at_ := at3, sto := stL, mth := mt0, mks := mk0, dcs := dcL, ins := ["ring", "_law_circle"], own := ow0, mtk := nt0, owk := nk0 }
def tb22 : List (Str × FnS) := ("is_register", ⟨F_is_register, bindOf bs_is_register⟩) :: tb21
theorem tr_is_register : blockT (tr 60) G_is_register (defBody (top 28)) = some B_is_register := by kernel_rfl
def bs_many_sources : List (Nat × List Str × Arr) := [(1, [], [.inl 0])]
def G_many_sources : Ga := { N := ["word"], sc := defScope (top 29), fn := fun _ => true, fns := tb22, csts := csL, free := frL, dit := [], W := WW, at_ := at3, sto := stL, mth := mt0, mks := mk0, dcs := dcL, ins := ["ring", "_law_circle"], own := ow0, mtk := nt0, owk := nk0 }
def tb23 : List (Str × FnS) := ("many_sources", ⟨F_many_sources, bindOf bs_many_sources⟩) :: tb22
theorem tr_many_sources : blockT (tr 60) G_many_sources (defBody (top 29)) = some B_many_sources := by kernel_rfl
def bs_is_word : List (Nat × List Str × Arr) := [(1, [], [.inl 0])]
def G_is_word : Ga := { N := ["thing"], sc := defScope (top 17), fn := fun _ => true, fns := tb23, csts := csL, free := frL, dit := [], W := WW, at_ := at3, sto := stL, mth := mt0, mks := mk0, dcs := dcL, ins := ["ring", "_law_circle"], own := ow0, mtk := nt0, owk := nk0 }
def tb24 : List (Str × FnS) := ("is_word", ⟨F_is_word, bindOf bs_is_word⟩) :: tb23
theorem tr_is_word : blockT (tr 60) G_is_word (defBody (top 17)) = some B_is_word := by kernel_rfl
def bs_is_recipe_row : List (Nat × List Str × Arr) := [(3, [], [.inl 0, .inl 1, .inl 2])]
def G_is_recipe_row : Ga := { N := ["thing", "size", "known", "word", "goal", "others", "one"], sc := defScope (top 30), fn := fun _ => true, fns := tb24, csts := csL, free := frL, dit := [], W := WW, at_ := at3, sto := stL, mth := mt0, mks := mk0, dcs := dcL, ins := ["ring", "_law_circle"], own := ow0, mtk := nt0, owk := nk0 }
def tb25 : List (Str × FnS) := ("is_recipe_row", ⟨F_is_recipe_row, bindOf bs_is_recipe_row⟩) :: tb24
theorem tr_is_recipe_row : blockT (tr 60) G_is_recipe_row (defBody (top 30)) = some B_is_recipe_row := by kernel_rfl
def bs_is_recipe : List (Nat × List Str × Arr) := [(2, [], [.inl 0, .inl 1])]
def G_is_recipe : Ga := { N := ["thing", "size", "rows", "result", "known", "row"], sc := defScope (top 31), fn := fun _ => true, fns := tb25, csts := csL, free := frL, dit := [], W := WW, at_ := at3, sto := stL, mth := mt0, mks := mk0, dcs := dcL, ins := ["ring", "_law_circle"], own := ow0, mtk := nt0, owk := nk0 }
def tb26 : List (Str × FnS) := ("is_recipe", ⟨F_is_recipe, bindOf bs_is_recipe⟩) :: tb25
theorem tr_is_recipe : blockT (tr 60) G_is_recipe (defBody (top 31)) = some B_is_recipe := by kernel_rfl
def bs_is_recipes : List (Nat × List Str × Arr) := [(1, [], [.inl 0])]
def G_is_recipes : Ga := { N := ["thing", "one"], sc := defScope (top 32), fn := fun _ => true, fns := tb26, csts := csL, free := frL, dit := [], W := WW, at_ := at3, sto := stL, mth := mt0, mks := mk0, dcs := dcL, ins := ["ring", "_law_circle"], own := ow0, mtk := nt0, owk := nk0 }
def tb27 : List (Str × FnS) := ("is_recipes", ⟨F_is_recipes, bindOf bs_is_recipes⟩) :: tb26
theorem tr_is_recipes : blockT (tr 60) G_is_recipes (defBody (top 32)) = some B_is_recipes := by kernel_rfl
def bs_Ring___init__ : List (Nat × List Str × Arr) := [(1, ["faults", "copies"], [.inl 0, .inl 1, .inl 2, .inl 3])]
def G_Ring___init__ : Ga := { N := ["self", "recipes", "faults", "copies", "pieces", "votes", "copy", "piece", "row"], sc := defScope (inClass (top 56) 1), fn := fun _ => true, fns := tb27, csts := csL, free := frL, dit := [], W := WW, at_ := at3, sto := stL, mth := mt0, mks := mk0, dcs := dcL, ins := ["ring", "_law_circle"], own := ow0, mtk := nt0, owk := nk0 }
def mk28 : List (Str × FnS) := ("Ring", ⟨F_Ring___init__, bindOf bs_Ring___init__⟩) :: mk0
theorem tr_Ring___init__ : blockT (tr 60) G_Ring___init__ (defBody (inClass (top 56) 1)) = some B_Ring___init__ := by kernel_rfl
def bs__law_plain_recipes : List (Nat × List Str × Arr) := [(1, [], [.inl 0])]
def G__law_plain_recipes : Ga := { N := ["_law_size", "_law_k"], sc := defScope (top 62), fn := fun _ => true, fns := tb27, csts := csL, free := frL, dit := [], W := WW, at_ := at3, sto := stL, mth := mt0, mks := mk28, dcs := dcL, ins := ["ring", "_law_circle"], own := ow0, mtk := nt0, owk := nk0 }
def tb29 : List (Str × FnS) := ("_law_plain_recipes", ⟨F__law_plain_recipes, bindOf bs__law_plain_recipes⟩) :: tb27
theorem tr__law_plain_recipes : blockT (tr 60) G__law_plain_recipes (defBody (top 62)) = some B__law_plain_recipes := by kernel_rfl
def bs__law_deck : List (Nat × List Str × Arr) := [(1, [], [.inl 0])]
def G__law_deck : Ga := { N := ["_law_script", "_law_cells", "_law_mixed", "_law_cell"], sc := defScope (top 59), fn := fun _ => true, fns := tb29, csts := csL, free := frL, dit := [], W := WW, at_ := at3, sto := stL, mth := mt0, mks := mk28, dcs := dcL, ins := ["ring", "_law_circle"], own := ow0, mtk := nt0, owk := nk0 }
def tb30 : List (Str × FnS) := ("_law_deck", ⟨F__law_deck, bindOf bs__law_deck⟩) :: tb29
theorem tr__law_deck : blockT (tr 60) G__law_deck (defBody (top 59)) = some B__law_deck := by kernel_rfl
def bs_law : List (Nat × List Str × Arr) := []
def G_law : Ga := { N := ["_law_script", "_law_deck_here", "_law_turn", "_law_size", "_law_many", "_law_circle", "_law_words", "_law_kept", "_law_k", "_law_due_here"], sc := defScope (top 66), fn := fun _ => true, fns := tb30, csts := csL, free := frL, dit := [], W := WW, at_ := at3, sto := stL, mth := mt0, mks := mk28, dcs := dcL, ins := ["ring", "_law_circle"], own := ow0, mtk := nt0, owk := nk0 }
theorem tr_law : blockT (tr 60) G_law (defBody (top 66)) = some B_law := by kernel_rfl
section
variable {P : Program} {w : World} {K : PySem.W.Frag} {mg : Str → Option Value} {base h : Heap}
theorem cs_ok (X : K.In h) (G : h.Ns mainGlobals mg) (c : SaysZ fcL fnL K) : Cons K mg csL := (cons_cons (con_int X G (c.fact 38 (f := .fa (.int "STORES_reading" 4)) rfl)) (cons_cons (con_int X G (c.fact 39 (f := .fa (.int "STORES_rings" 4)) rfl)) (cons_cons (con_int X G (c.fact 40 (f := .fa (.int "INVALID" 999999)) rfl)) (cons_cons (con_int X G (c.fact 41 (f := .fa (.int "RECIPE_REGISTERS" 24)) rfl)) (cons_cons (con_tup (zs := ["add", "sub", "mul", "div", "mod", "less", "same"]) X G (c.fact 42 (f := .fa (.glo "OPERATORS")) rfl) (c.fact 43 (f := .tup "OPERATORS" [.str "add", .str "sub", .str "mul", .str "div", .str "mod", .str "less", .str "same"]) rfl)) (cons_cons (con_str X G (c.fact 44 (f := .fa (.str "CHOOSE" "choose")) rfl)) (cons_cons (con_str X G (c.fact 45 (f := .fa (.str "LOAD" "load")) rfl)) (cons_cons (con_str X G (c.fact 46 (f := .fa (.str "SET" "set")) rfl)) (cons_cons (con_int X G (c.fact 47 (f := .fa (.int "GREATEST_WORD" 999999)) rfl)) (cons_cons (con_int X G (c.fact 48 (f := .fa (.int "RECIPE_PARTS" 2)) rfl)) (cons_cons (con_int X G (c.fact 49 (f := .fa (.int "MOST_COPIES" 16)) rfl)) (cons_cons (con_int X G (c.fact 50 (f := .fa (.int "MOST_FAULTS" 3)) rfl)) cons_nil))))))))))))
theorem fr_ok (X : K.In h) (G : h.Ns mainGlobals mg) (c : SaysZ fcL fnL K) : Frees mg frL := (frees_cons (He.free_ok X G (c.fact 53 (f := .fa (.free "tuple")) rfl)) (frees_cons (He.free_ok X G (c.fact 54 (f := .fa (.free "len")) rfl)) (frees_cons (He.free_ok X G (c.fact 55 (f := .fa (.free "sorted")) rfl)) (frees_cons (He.free_ok X G (c.fact 56 (f := .fa (.free "range")) rfl)) (frees_cons (He.free_ok X G (c.fact 57 (f := .fa (.free "enumerate")) rfl)) (frees_cons (He.free_ok X G (c.fact 58 (f := .fa (.free "isinstance")) rfl)) (frees_cons (He.free_ok X G (c.fact 59 (f := .fa (.free "bool")) rfl)) (frees_cons (He.free_ok X G (c.fact 60 (f := .fa (.free "int")) rfl)) (frees_cons (He.free_ok X G (c.fact 61 (f := .fa (.free "all")) rfl)) (frees_cons (He.free_ok X G (c.fact 62 (f := .fa (.free "str")) rfl)) (frees_cons (He.free_ok X G (c.fact 63 (f := .fa (.free "list")) rfl)) (frees_cons (He.free_ok X G (c.fact 64 (f := .fa (.free "repr")) rfl)) frees_nil))))))))))))
theorem st_ok (c : SaysZ fcL fnL K) : StoL K (He.ga K) stL := (sto_cons (p := ("copy_count", Z_copy_count)) (flds_cons (He.cls_ok (c.fact 30 (f := .fa (.cls "Ring")) rfl)) (He.noat_ok (c.fact 32 (f := .fa (.noat "Ring" "copy_count")) rfl)) flds_nil) (sto_cons (p := ("faults_withstood", Z_faults_withstood)) (flds_cons (He.cls_ok (c.fact 30 (f := .fa (.cls "Ring")) rfl)) (He.noat_ok (c.fact 33 (f := .fa (.noat "Ring" "faults_withstood")) rfl)) flds_nil) (sto_cons (p := ("piece_lengths", Z_piece_lengths)) (flds_cons (He.cls_ok (c.fact 30 (f := .fa (.cls "Ring")) rfl)) (He.noat_ok (c.fact 34 (f := .fa (.noat "Ring" "piece_lengths")) rfl)) flds_nil) (sto_cons (p := ("recipes_given", Z_recipes_given)) (flds_cons (He.cls_ok (c.fact 30 (f := .fa (.cls "Ring")) rfl)) (He.noat_ok (c.fact 35 (f := .fa (.noat "Ring" "recipes_given")) rfl)) flds_nil) (sto_cons (p := ("row_list", Z_row_list)) (flds_cons (He.cls_ok (c.fact 30 (f := .fa (.cls "Ring")) rfl)) (He.noat_ok (c.fact 36 (f := .fa (.noat "Ring" "row_list")) rfl)) flds_nil) sto_nil)))))
theorem dc_ok (X : K.In h) (G : h.Ns mainGlobals mg) (c : SaysZ fcL fnL K) : DcsL K mg dcL := (dcs_cons (p := ("LEAST_COPIES", [(0, 1), (1, 3)])) (He.glo_ok X G (c.fact 51 (f := .fa (.glo "LEAST_COPIES")) rfl)) (c.fact 52 (f := .dic "LEAST_COPIES" [(0, 1), (1, 3)]) rfl) dcs_nil)
theorem tb0_ok : Tab P w K mg base (He.ga K) 0 tb0 := tab_nil
theorem mk0_ok : MksL P w K mg base (He.ga K) 0 mk0 := mks_nil
theorem mt0_ok : MtsL P w K mg base (He.ga K) 0 mt0 := mts_nil
theorem ow0_ok : OwsL P w K mg base (He.ga K) 0 ow0 := ows_nil
theorem nt0_ok : MtkL P w K mg base (He.ga K) 0 nt0 := mtk_nil
theorem nk0_ok : OwkL P w K mg base (He.ga K) 0 nk0 := owk_nil
theorem at0_ok (c : SaysZ fcL fnL K) : AtsL P w K mg base (He.ga K) 1 at0 := (ats_cons (p := ("copy_count", T_copy_count)) (attr_ok (T := T_copy_count) (k := 0) (flds_cons (He.cls_ok (c.fact 30 (f := .fa (.cls "Ring")) rfl)) (He.noat_ok (c.fact 32 (f := .fa (.noat "Ring" "copy_count")) rfl)) flds_nil) props_nil consl_nil) (Nat.le_refl _) (ats_cons (p := ("faults_withstood", T_faults_withstood)) (attr_ok (T := T_faults_withstood) (k := 0) (flds_cons (He.cls_ok (c.fact 30 (f := .fa (.cls "Ring")) rfl)) (He.noat_ok (c.fact 33 (f := .fa (.noat "Ring" "faults_withstood")) rfl)) flds_nil) props_nil consl_nil) (Nat.le_refl _) (ats_cons (p := ("piece_lengths", T_piece_lengths)) (attr_ok (T := T_piece_lengths) (k := 0) (flds_cons (He.cls_ok (c.fact 30 (f := .fa (.cls "Ring")) rfl)) (He.noat_ok (c.fact 34 (f := .fa (.noat "Ring" "piece_lengths")) rfl)) flds_nil) props_nil consl_nil) (Nat.le_refl _) (ats_cons (p := ("recipes_given", T_recipes_given)) (attr_ok (T := T_recipes_given) (k := 0) (flds_cons (He.cls_ok (c.fact 30 (f := .fa (.cls "Ring")) rfl)) (He.noat_ok (c.fact 35 (f := .fa (.noat "Ring" "recipes_given")) rfl)) flds_nil) props_nil consl_nil) (Nat.le_refl _) (ats_cons (p := ("row_list", T_row_list)) (attr_ok (T := T_row_list) (k := 0) (flds_cons (He.cls_ok (c.fact 30 (f := .fa (.cls "Ring")) rfl)) (He.noat_ok (c.fact 36 (f := .fa (.noat "Ring" "row_list")) rfl)) flds_nil) props_nil consl_nil) (Nat.le_refl _) ats_nil)))))
theorem sc_is_whole : FnScope ["store"] ["store"] (defScope (top 4)) := ⟨rfl, rfl, rfl, by decide +kernel, rfl, by decide +kernel, by decide +kernel⟩
theorem tt_is_whole (X : K.In h) (G : h.Ns mainGlobals mg) (c : SaysZ fcL fnL K) : Tabs P w K mg base (He.ga K) 2 G_is_whole := tabs_of (Tab.mono tb0_ok (by decide)) (AtsL.mono (at0_ok c) (by decide)) (st_ok c) (MtsL.mono mt0_ok (by decide)) (MksL.mono mk0_ok (by decide)) (dc_ok X G c) (OwsL.mono ow0_ok (by decide)) (MtkL.mono nt0_ok (by decide)) (OwkL.mono nk0_ok (by decide))
theorem fn_is_whole (X : K.In h) (G : h.Ns mainGlobals mg) (c : SaysZ fcL fnL K) : ∃ fd, FunD K d_is_whole.name d_is_whole.qual d_is_whole.params d_is_whole.body d_is_whole.scope (d_is_whole.dvs K) (d_is_whole.kws K) (d_is_whole.at_.ad K) fd ∧ FnM P w K mg base (He.ga K) 3 (d_is_whole.at_.ad K) fd ["store"] F_is_whole := by
  obtain ⟨fd, Fd⟩ := c.def_ 0 (d := d_is_whole) rfl
  refine ⟨fd, Fd, ?_⟩
  rw [E_is_whole]
  exact def_tr (Γ := G_is_whole) Fd (tt_is_whole X G c) (cs_ok X G c) (fr_ok X G c) sc_is_whole rfl rfl tr_is_whole
theorem tb1_ok (X : K.In h) (G : h.Ns mainGlobals mg) (c : SaysZ fcL fnL K) : Tab P w K mg base (He.ga K) 4 tb1 := by
  obtain ⟨fd, Fd, M⟩ := fn_is_whole (P := P) (w := w) (base := base) X G c
  exact tab_cons (ent_of (He.glo_ok X G (c.fact 0 (f := .fa (.glo "is_whole")) rfl)) Fd.kp (M.mono (by decide)) (binds_cons (bindM_plain Fd [0] rfl (by decide) fun _ _ _ _ _ _ us ws h1 h2 => match us, h1, ws, h2 with | [_], _, [], _ => rfl) binds_nil)) (Tab.mono tb0_ok (by decide))
theorem sc_store_at : FnScope ["memory", "address", "length", "words"] ["memory", "address", "length"] (defScope (top 3)) := ⟨rfl, rfl, rfl, by decide +kernel, rfl, by decide +kernel, by decide +kernel⟩
theorem tt_store_at (X : K.In h) (G : h.Ns mainGlobals mg) (c : SaysZ fcL fnL K) : Tabs P w K mg base (He.ga K) 4 G_store_at := tabs_of (Tab.mono (tb1_ok X G c) (by decide)) (AtsL.mono (at0_ok c) (by decide)) (st_ok c) (MtsL.mono mt0_ok (by decide)) (MksL.mono mk0_ok (by decide)) (dc_ok X G c) (OwsL.mono ow0_ok (by decide)) (MtkL.mono nt0_ok (by decide)) (OwkL.mono nk0_ok (by decide))
theorem fn_store_at (X : K.In h) (G : h.Ns mainGlobals mg) (c : SaysZ fcL fnL K) : ∃ fd, FunD K d_store_at.name d_store_at.qual d_store_at.params d_store_at.body d_store_at.scope (d_store_at.dvs K) (d_store_at.kws K) (d_store_at.at_.ad K) fd ∧ FnM P w K mg base (He.ga K) 5 (d_store_at.at_.ad K) fd ["memory", "address", "length"] F_store_at := by
  obtain ⟨fd, Fd⟩ := c.def_ 1 (d := d_store_at) rfl
  refine ⟨fd, Fd, ?_⟩
  rw [E_store_at]
  exact def_tr (Γ := G_store_at) Fd (tt_store_at X G c) (cs_ok X G c) (fr_ok X G c) sc_store_at rfl rfl tr_store_at
theorem tb2_ok (X : K.In h) (G : h.Ns mainGlobals mg) (c : SaysZ fcL fnL K) : Tab P w K mg base (He.ga K) 6 tb2 := by
  obtain ⟨fd, Fd, M⟩ := fn_store_at (P := P) (w := w) (base := base) X G c
  exact tab_cons (ent_of (He.glo_ok X G (c.fact 1 (f := .fa (.glo "store_at")) rfl)) Fd.kp (M.mono (by decide)) (binds_cons (bindM_plain Fd [0, 1, 2] rfl (by decide) fun _ _ _ _ _ _ us ws h1 h2 => match us, h1, ws, h2 with | [_, _, _], _, [], _ => rfl) binds_nil)) (Tab.mono (tb1_ok X G c) (by decide))
theorem sc_Ring_size : FnScope ["self"] ["self"] (defScope (inClass (top 56) 5)) := ⟨rfl, rfl, rfl, by decide +kernel, rfl, by decide +kernel, by decide +kernel⟩
theorem tt_Ring_size (X : K.In h) (G : h.Ns mainGlobals mg) (c : SaysZ fcL fnL K) : Tabs P w K mg base (He.ga K) 6 G_Ring_size := tabs_of (Tab.mono (tb2_ok X G c) (by decide)) (AtsL.mono (at0_ok c) (by decide)) (st_ok c) (MtsL.mono mt0_ok (by decide)) (MksL.mono mk0_ok (by decide)) (dc_ok X G c) (OwsL.mono ow0_ok (by decide)) (MtkL.mono nt0_ok (by decide)) (OwkL.mono nk0_ok (by decide))
theorem fn_Ring_size (X : K.In h) (G : h.Ns mainGlobals mg) (c : SaysZ fcL fnL K) : ∃ fd, FunD K d_Ring_size.name d_Ring_size.qual d_Ring_size.params d_Ring_size.body d_Ring_size.scope (d_Ring_size.dvs K) (d_Ring_size.kws K) (d_Ring_size.at_.ad K) fd ∧ FnM P w K mg base (He.ga K) 7 (d_Ring_size.at_.ad K) fd ["self"] F_Ring_size := by
  obtain ⟨fd, Fd⟩ := c.def_ 2 (d := d_Ring_size) rfl
  refine ⟨fd, Fd, ?_⟩
  rw [E_Ring_size]
  exact def_tr (Γ := G_Ring_size) Fd (tt_Ring_size X G c) (cs_ok X G c) (fr_ok X G c) sc_Ring_size rfl rfl tr_Ring_size
theorem at3_ok (X : K.In h) (G : h.Ns mainGlobals mg) (c : SaysZ fcL fnL K) : AtsL P w K mg base (He.ga K) 8 at3 := by
  obtain ⟨fd0, Fd0, M0⟩ := fn_Ring_size (P := P) (w := w) (base := base) X G c
  exact (ats_cons (p := ("size", T_size)) (attr_ok (T := T_size) (k := 7) flds_nil (props_cons (He.cls_ok (c.fact 30 (f := .fa (.cls "Ring")) rfl)) (propB_ok (c.fact 37 (f := .prop "Ring" "size") rfl)) M0 (by decide) (L2.FunD.bindsN Fd0 fun _ _ _ _ _ _ us hl => match us, hl with | [_], _ => rfl) props_nil) consl_nil) (by decide) (AtsL.mono (at0_ok c) (by decide)))
theorem sc_stores_of : FnScope ["ring", "memory", "copy", "length", "first"] ["ring", "memory", "copy"] (defScope (top 5)) := ⟨rfl, rfl, rfl, by decide +kernel, rfl, by decide +kernel, by decide +kernel⟩
theorem tt_stores_of (X : K.In h) (G : h.Ns mainGlobals mg) (c : SaysZ fcL fnL K) : Tabs P w K mg base (He.ga K) 8 G_stores_of := tabs_of (Tab.mono (tb2_ok X G c) (by decide)) (AtsL.mono (at3_ok X G c) (by decide)) (st_ok c) (MtsL.mono mt0_ok (by decide)) (MksL.mono mk0_ok (by decide)) (dc_ok X G c) (OwsL.mono ow0_ok (by decide)) (MtkL.mono nt0_ok (by decide)) (OwkL.mono nk0_ok (by decide))
theorem fn_stores_of (X : K.In h) (G : h.Ns mainGlobals mg) (c : SaysZ fcL fnL K) : ∃ fd, FunD K d_stores_of.name d_stores_of.qual d_stores_of.params d_stores_of.body d_stores_of.scope (d_stores_of.dvs K) (d_stores_of.kws K) (d_stores_of.at_.ad K) fd ∧ FnM P w K mg base (He.ga K) 9 (d_stores_of.at_.ad K) fd ["ring", "memory", "copy"] F_stores_of := by
  obtain ⟨fd, Fd⟩ := c.def_ 3 (d := d_stores_of) rfl
  refine ⟨fd, Fd, ?_⟩
  rw [E_stores_of]
  exact def_tr (Γ := G_stores_of) Fd (tt_stores_of X G c) (cs_ok X G c) (fr_ok X G c) sc_stores_of rfl rfl tr_stores_of
theorem tb4_ok (X : K.In h) (G : h.Ns mainGlobals mg) (c : SaysZ fcL fnL K) : Tab P w K mg base (He.ga K) 10 tb4 := by
  obtain ⟨fd, Fd, M⟩ := fn_stores_of (P := P) (w := w) (base := base) X G c
  exact tab_cons (ent_of (He.glo_ok X G (c.fact 2 (f := .fa (.glo "stores_of")) rfl)) Fd.kp (M.mono (by decide)) (binds_cons (bindM_plain Fd [0, 1, 2] rfl (by decide) fun _ _ _ _ _ _ us ws h1 h2 => match us, h1, ws, h2 with | [_, _, _], _, [], _ => rfl) binds_nil)) (Tab.mono (tb2_ok X G c) (by decide))
theorem sc_held : FnScope ["ring", "memory", "copy", "whole", "store", "count", "state", "last"] ["ring", "memory", "copy"] (defScope (top 6)) := ⟨rfl, rfl, rfl, by decide +kernel, rfl, by decide +kernel, by decide +kernel⟩
theorem tt_held (X : K.In h) (G : h.Ns mainGlobals mg) (c : SaysZ fcL fnL K) : Tabs P w K mg base (He.ga K) 10 G_held := tabs_of (Tab.mono (tb4_ok X G c) (by decide)) (AtsL.mono (at3_ok X G c) (by decide)) (st_ok c) (MtsL.mono mt0_ok (by decide)) (MksL.mono mk0_ok (by decide)) (dc_ok X G c) (OwsL.mono ow0_ok (by decide)) (MtkL.mono nt0_ok (by decide)) (OwkL.mono nk0_ok (by decide))
theorem fn_held (X : K.In h) (G : h.Ns mainGlobals mg) (c : SaysZ fcL fnL K) : ∃ fd, FunD K d_held.name d_held.qual d_held.params d_held.body d_held.scope (d_held.dvs K) (d_held.kws K) (d_held.at_.ad K) fd ∧ FnM P w K mg base (He.ga K) 11 (d_held.at_.ad K) fd ["ring", "memory", "copy"] F_held := by
  obtain ⟨fd, Fd⟩ := c.def_ 4 (d := d_held) rfl
  refine ⟨fd, Fd, ?_⟩
  rw [E_held]
  exact def_tr (Γ := G_held) Fd (tt_held X G c) (cs_ok X G c) (fr_ok X G c) sc_held rfl rfl tr_held
theorem tb5_ok (X : K.In h) (G : h.Ns mainGlobals mg) (c : SaysZ fcL fnL K) : Tab P w K mg base (He.ga K) 12 tb5 := by
  obtain ⟨fd, Fd, M⟩ := fn_held (P := P) (w := w) (base := base) X G c
  exact tab_cons (ent_of (He.glo_ok X G (c.fact 3 (f := .fa (.glo "held")) rfl)) Fd.kp (M.mono (by decide)) (binds_cons (bindM_plain Fd [2, 1, 0] rfl (by decide) fun _ _ _ _ _ _ us ws h1 h2 => match us, h1, ws, h2 with | [], _, [_, _, _], _ => rfl) (binds_cons (bindM_plain Fd [0, 1, 2] rfl (by decide) fun _ _ _ _ _ _ us ws h1 h2 => match us, h1, ws, h2 with | [_, _, _], _, [], _ => rfl) binds_nil))) (Tab.mono (tb4_ok X G c) (by decide))
theorem sc__law_due : FnScope ["_law_words", "_law_size", "_law_number", "_law_found", "_law_first", "_law_at", "_law_pair"] ["_law_words", "_law_size", "_law_number"] (defScope (top 65)) := ⟨rfl, rfl, rfl, by decide +kernel, rfl, by decide +kernel, by decide +kernel⟩
theorem tt__law_due (X : K.In h) (G : h.Ns mainGlobals mg) (c : SaysZ fcL fnL K) : Tabs P w K mg base (He.ga K) 12 G__law_due := tabs_of (Tab.mono (tb5_ok X G c) (by decide)) (AtsL.mono (at3_ok X G c) (by decide)) (st_ok c) (MtsL.mono mt0_ok (by decide)) (MksL.mono mk0_ok (by decide)) (dc_ok X G c) (OwsL.mono ow0_ok (by decide)) (MtkL.mono nt0_ok (by decide)) (OwkL.mono nk0_ok (by decide))
theorem fn__law_due (X : K.In h) (G : h.Ns mainGlobals mg) (c : SaysZ fcL fnL K) : ∃ fd, FunD K d__law_due.name d__law_due.qual d__law_due.params d__law_due.body d__law_due.scope (d__law_due.dvs K) (d__law_due.kws K) (d__law_due.at_.ad K) fd ∧ FnM P w K mg base (He.ga K) 13 (d__law_due.at_.ad K) fd ["_law_words", "_law_size", "_law_number"] F__law_due := by
  obtain ⟨fd, Fd⟩ := c.def_ 5 (d := d__law_due) rfl
  refine ⟨fd, Fd, ?_⟩
  rw [E__law_due]
  exact def_tr (Γ := G__law_due) Fd (tt__law_due X G c) (cs_ok X G c) (fr_ok X G c) sc__law_due rfl rfl tr__law_due
theorem tb6_ok (X : K.In h) (G : h.Ns mainGlobals mg) (c : SaysZ fcL fnL K) : Tab P w K mg base (He.ga K) 14 tb6 := by
  obtain ⟨fd, Fd, M⟩ := fn__law_due (P := P) (w := w) (base := base) X G c
  exact tab_cons (ent_of (He.glo_ok X G (c.fact 4 (f := .fa (.glo "_law_due")) rfl)) Fd.kp (M.mono (by decide)) (binds_cons (bindM_plain Fd [0, 1, 2] rfl (by decide) fun _ _ _ _ _ _ us ws h1 h2 => match us, h1, ws, h2 with | [_, _, _], _, [], _ => rfl) binds_nil)) (Tab.mono (tb5_ok X G c) (by decide))
theorem sc__law_draw : FnScope ["_law_deck_here", "_law_ways", "_law_drawn", "_law_number", "_law_cell"] ["_law_deck_here", "_law_ways"] (defScope (top 60)) := ⟨rfl, rfl, rfl, by decide +kernel, rfl, by decide +kernel, by decide +kernel⟩
theorem tt__law_draw (X : K.In h) (G : h.Ns mainGlobals mg) (c : SaysZ fcL fnL K) : Tabs P w K mg base (He.ga K) 14 G__law_draw := tabs_of (Tab.mono (tb6_ok X G c) (by decide)) (AtsL.mono (at3_ok X G c) (by decide)) (st_ok c) (MtsL.mono mt0_ok (by decide)) (MksL.mono mk0_ok (by decide)) (dc_ok X G c) (OwsL.mono ow0_ok (by decide)) (MtkL.mono nt0_ok (by decide)) (OwkL.mono nk0_ok (by decide))
theorem fn__law_draw (X : K.In h) (G : h.Ns mainGlobals mg) (c : SaysZ fcL fnL K) : ∃ fd, FunD K d__law_draw.name d__law_draw.qual d__law_draw.params d__law_draw.body d__law_draw.scope (d__law_draw.dvs K) (d__law_draw.kws K) (d__law_draw.at_.ad K) fd ∧ FnM P w K mg base (He.ga K) 15 (d__law_draw.at_.ad K) fd ["_law_deck_here", "_law_ways"] F__law_draw := by
  obtain ⟨fd, Fd⟩ := c.def_ 6 (d := d__law_draw) rfl
  refine ⟨fd, Fd, ?_⟩
  rw [E__law_draw]
  exact def_tr (Γ := G__law_draw) Fd (tt__law_draw X G c) (cs_ok X G c) (fr_ok X G c) sc__law_draw rfl rfl tr__law_draw
theorem tb7_ok (X : K.In h) (G : h.Ns mainGlobals mg) (c : SaysZ fcL fnL K) : Tab P w K mg base (He.ga K) 16 tb7 := by
  obtain ⟨fd, Fd, M⟩ := fn__law_draw (P := P) (w := w) (base := base) X G c
  exact tab_cons (ent_of (He.glo_ok X G (c.fact 5 (f := .fa (.glo "_law_draw")) rfl)) Fd.kp (M.mono (by decide)) (binds_cons (bindM_plain Fd [0, 1] rfl (by decide) fun _ _ _ _ _ _ us ws h1 h2 => match us, h1, ws, h2 with | [_, _], _, [], _ => rfl) binds_nil)) (Tab.mono (tb6_ok X G c) (by decide))
theorem sc__law_pick : FnScope ["_law_deck_here", "_law_some"] ["_law_deck_here", "_law_some"] (defScope (top 61)) := ⟨rfl, rfl, rfl, by decide +kernel, rfl, by decide +kernel, by decide +kernel⟩
theorem tt__law_pick (X : K.In h) (G : h.Ns mainGlobals mg) (c : SaysZ fcL fnL K) : Tabs P w K mg base (He.ga K) 16 G__law_pick := tabs_of (Tab.mono (tb7_ok X G c) (by decide)) (AtsL.mono (at3_ok X G c) (by decide)) (st_ok c) (MtsL.mono mt0_ok (by decide)) (MksL.mono mk0_ok (by decide)) (dc_ok X G c) (OwsL.mono ow0_ok (by decide)) (MtkL.mono nt0_ok (by decide)) (OwkL.mono nk0_ok (by decide))
theorem fn__law_pick (X : K.In h) (G : h.Ns mainGlobals mg) (c : SaysZ fcL fnL K) : ∃ fd, FunD K d__law_pick.name d__law_pick.qual d__law_pick.params d__law_pick.body d__law_pick.scope (d__law_pick.dvs K) (d__law_pick.kws K) (d__law_pick.at_.ad K) fd ∧ FnM P w K mg base (He.ga K) 17 (d__law_pick.at_.ad K) fd ["_law_deck_here", "_law_some"] F__law_pick := by
  obtain ⟨fd, Fd⟩ := c.def_ 7 (d := d__law_pick) rfl
  refine ⟨fd, Fd, ?_⟩
  rw [E__law_pick]
  exact def_tr (Γ := G__law_pick) Fd (tt__law_pick X G c) (cs_ok X G c) (fr_ok X G c) sc__law_pick rfl rfl tr__law_pick
theorem tb8_ok (X : K.In h) (G : h.Ns mainGlobals mg) (c : SaysZ fcL fnL K) : Tab P w K mg base (He.ga K) 18 tb8 := by
  obtain ⟨fd, Fd, M⟩ := fn__law_pick (P := P) (w := w) (base := base) X G c
  exact tab_cons (ent_of (He.glo_ok X G (c.fact 6 (f := .fa (.glo "_law_pick")) rfl)) Fd.kp (M.mono (by decide)) (binds_cons (bindM_plain Fd [0, 1] rfl (by decide) fun _ _ _ _ _ _ us ws h1 h2 => match us, h1, ws, h2 with | [_, _], _, [], _ => rfl) binds_nil)) (Tab.mono (tb7_ok X G c) (by decide))
theorem sc__law_store : FnScope ["_law_deck_here", "_law_size", "_law_earlier", "_law_count", "_law_state", "_law_last", "_law_k"] ["_law_deck_here", "_law_size", "_law_earlier"] (defScope (top 63)) := ⟨rfl, rfl, rfl, by decide +kernel, rfl, by decide +kernel, by decide +kernel⟩
theorem tt__law_store (X : K.In h) (G : h.Ns mainGlobals mg) (c : SaysZ fcL fnL K) : Tabs P w K mg base (He.ga K) 18 G__law_store := tabs_of (Tab.mono (tb8_ok X G c) (by decide)) (AtsL.mono (at3_ok X G c) (by decide)) (st_ok c) (MtsL.mono mt0_ok (by decide)) (MksL.mono mk0_ok (by decide)) (dc_ok X G c) (OwsL.mono ow0_ok (by decide)) (MtkL.mono nt0_ok (by decide)) (OwkL.mono nk0_ok (by decide))
theorem fn__law_store (X : K.In h) (G : h.Ns mainGlobals mg) (c : SaysZ fcL fnL K) : ∃ fd, FunD K d__law_store.name d__law_store.qual d__law_store.params d__law_store.body d__law_store.scope (d__law_store.dvs K) (d__law_store.kws K) (d__law_store.at_.ad K) fd ∧ FnM P w K mg base (He.ga K) 19 (d__law_store.at_.ad K) fd ["_law_deck_here", "_law_size", "_law_earlier"] F__law_store := by
  obtain ⟨fd, Fd⟩ := c.def_ 8 (d := d__law_store) rfl
  refine ⟨fd, Fd, ?_⟩
  rw [E__law_store]
  exact def_tr (Γ := G__law_store) Fd (tt__law_store X G c) (cs_ok X G c) (fr_ok X G c) sc__law_store rfl rfl tr__law_store
theorem tb9_ok (X : K.In h) (G : h.Ns mainGlobals mg) (c : SaysZ fcL fnL K) : Tab P w K mg base (He.ga K) 20 tb9 := by
  obtain ⟨fd, Fd, M⟩ := fn__law_store (P := P) (w := w) (base := base) X G c
  exact tab_cons (ent_of (He.glo_ok X G (c.fact 7 (f := .fa (.glo "_law_store")) rfl)) Fd.kp (M.mono (by decide)) (binds_cons (bindM_plain Fd [0, 1, 2] rfl (by decide) fun _ _ _ _ _ _ us ws h1 h2 => match us, h1, ws, h2 with | [_, _, _], _, [], _ => rfl) binds_nil)) (Tab.mono (tb8_ok X G c) (by decide))
theorem sc__law_memory : FnScope ["_law_deck_here", "_law_size", "_law_many", "_law_stores", "_law_found", "_law_k"] ["_law_deck_here", "_law_size", "_law_many"] (defScope (top 64)) := ⟨rfl, rfl, rfl, by decide +kernel, rfl, by decide +kernel, by decide +kernel⟩
theorem tt__law_memory (X : K.In h) (G : h.Ns mainGlobals mg) (c : SaysZ fcL fnL K) : Tabs P w K mg base (He.ga K) 20 G__law_memory := tabs_of (Tab.mono (tb9_ok X G c) (by decide)) (AtsL.mono (at3_ok X G c) (by decide)) (st_ok c) (MtsL.mono mt0_ok (by decide)) (MksL.mono mk0_ok (by decide)) (dc_ok X G c) (OwsL.mono ow0_ok (by decide)) (MtkL.mono nt0_ok (by decide)) (OwkL.mono nk0_ok (by decide))
theorem fn__law_memory (X : K.In h) (G : h.Ns mainGlobals mg) (c : SaysZ fcL fnL K) : ∃ fd, FunD K d__law_memory.name d__law_memory.qual d__law_memory.params d__law_memory.body d__law_memory.scope (d__law_memory.dvs K) (d__law_memory.kws K) (d__law_memory.at_.ad K) fd ∧ FnM P w K mg base (He.ga K) 21 (d__law_memory.at_.ad K) fd ["_law_deck_here", "_law_size", "_law_many"] F__law_memory := by
  obtain ⟨fd, Fd⟩ := c.def_ 9 (d := d__law_memory) rfl
  refine ⟨fd, Fd, ?_⟩
  rw [E__law_memory]
  exact def_tr (Γ := G__law_memory) Fd (tt__law_memory X G c) (cs_ok X G c) (fr_ok X G c) sc__law_memory rfl rfl tr__law_memory
theorem tb10_ok (X : K.In h) (G : h.Ns mainGlobals mg) (c : SaysZ fcL fnL K) : Tab P w K mg base (He.ga K) 22 tb10 := by
  obtain ⟨fd, Fd, M⟩ := fn__law_memory (P := P) (w := w) (base := base) X G c
  exact tab_cons (ent_of (He.glo_ok X G (c.fact 8 (f := .fa (.glo "_law_memory")) rfl)) Fd.kp (M.mono (by decide)) (binds_cons (bindM_plain Fd [0, 1, 2] rfl (by decide) fun _ _ _ _ _ _ us ws h1 h2 => match us, h1, ws, h2 with | [_, _, _], _, [], _ => rfl) binds_nil)) (Tab.mono (tb9_ok X G c) (by decide))
theorem sc_vote_rows : FnScope ["news", "faults", "length", "look", "best", "source", "rows", "new"] ["news", "faults", "length", "look", "best", "source"] (defScope (top 54)) := ⟨rfl, rfl, rfl, by decide +kernel, rfl, by decide +kernel, by decide +kernel⟩
theorem tt_vote_rows (X : K.In h) (G : h.Ns mainGlobals mg) (c : SaysZ fcL fnL K) : Tabs P w K mg base (He.ga K) 22 G_vote_rows := tabs_of (Tab.mono (tb10_ok X G c) (by decide)) (AtsL.mono (at3_ok X G c) (by decide)) (st_ok c) (MtsL.mono mt0_ok (by decide)) (MksL.mono mk0_ok (by decide)) (dc_ok X G c) (OwsL.mono ow0_ok (by decide)) (MtkL.mono nt0_ok (by decide)) (OwkL.mono nk0_ok (by decide))
theorem fn_vote_rows (X : K.In h) (G : h.Ns mainGlobals mg) (c : SaysZ fcL fnL K) : ∃ fd, FunD K d_vote_rows.name d_vote_rows.qual d_vote_rows.params d_vote_rows.body d_vote_rows.scope (d_vote_rows.dvs K) (d_vote_rows.kws K) (d_vote_rows.at_.ad K) fd ∧ FnM P w K mg base (He.ga K) 23 (d_vote_rows.at_.ad K) fd ["news", "faults", "length", "look", "best", "source"] F_vote_rows := by
  obtain ⟨fd, Fd⟩ := c.def_ 10 (d := d_vote_rows) rfl
  refine ⟨fd, Fd, ?_⟩
  rw [E_vote_rows]
  exact def_tr (Γ := G_vote_rows) Fd (tt_vote_rows X G c) (cs_ok X G c) (fr_ok X G c) sc_vote_rows rfl rfl tr_vote_rows
theorem tb11_ok (X : K.In h) (G : h.Ns mainGlobals mg) (c : SaysZ fcL fnL K) : Tab P w K mg base (He.ga K) 24 tb11 := by
  obtain ⟨fd, Fd, M⟩ := fn_vote_rows (P := P) (w := w) (base := base) X G c
  exact tab_cons (ent_of (He.glo_ok X G (c.fact 9 (f := .fa (.glo "vote_rows")) rfl)) Fd.kp (M.mono (by decide)) (binds_cons (bindM_plain Fd [0, 1, 2, 3, 4, 5] rfl (by decide) fun _ _ _ _ _ _ us ws h1 h2 => match us, h1, ws, h2 with | [_, _, _, _, _, _], _, [], _ => rfl) binds_nil)) (Tab.mono (tb10_ok X G c) (by decide))
theorem sc_store_addresses : FnScope ["size", "copy", "length", "first"] ["size", "copy"] (defScope (top 49)) := ⟨rfl, rfl, rfl, by decide +kernel, rfl, by decide +kernel, by decide +kernel⟩
theorem tt_store_addresses (X : K.In h) (G : h.Ns mainGlobals mg) (c : SaysZ fcL fnL K) : Tabs P w K mg base (He.ga K) 24 G_store_addresses := tabs_of (Tab.mono (tb11_ok X G c) (by decide)) (AtsL.mono (at3_ok X G c) (by decide)) (st_ok c) (MtsL.mono mt0_ok (by decide)) (MksL.mono mk0_ok (by decide)) (dc_ok X G c) (OwsL.mono ow0_ok (by decide)) (MtkL.mono nt0_ok (by decide)) (OwkL.mono nk0_ok (by decide))
theorem fn_store_addresses (X : K.In h) (G : h.Ns mainGlobals mg) (c : SaysZ fcL fnL K) : ∃ fd, FunD K d_store_addresses.name d_store_addresses.qual d_store_addresses.params d_store_addresses.body d_store_addresses.scope (d_store_addresses.dvs K) (d_store_addresses.kws K) (d_store_addresses.at_.ad K) fd ∧ FnM P w K mg base (He.ga K) 25 (d_store_addresses.at_.ad K) fd ["size", "copy"] F_store_addresses := by
  obtain ⟨fd, Fd⟩ := c.def_ 11 (d := d_store_addresses) rfl
  refine ⟨fd, Fd, ?_⟩
  rw [E_store_addresses]
  exact def_tr (Γ := G_store_addresses) Fd (tt_store_addresses X G c) (cs_ok X G c) (fr_ok X G c) sc_store_addresses rfl rfl tr_store_addresses
theorem tb12_ok (X : K.In h) (G : h.Ns mainGlobals mg) (c : SaysZ fcL fnL K) : Tab P w K mg base (He.ga K) 26 tb12 := by
  obtain ⟨fd, Fd, M⟩ := fn_store_addresses (P := P) (w := w) (base := base) X G c
  exact tab_cons (ent_of (He.glo_ok X G (c.fact 10 (f := .fa (.glo "store_addresses")) rfl)) Fd.kp (M.mono (by decide)) (binds_cons (bindM_plain Fd [0, 1] rfl (by decide) fun _ _ _ _ _ _ us ws h1 h2 => match us, h1, ws, h2 with | [_, _], _, [], _ => rfl) binds_nil)) (Tab.mono (tb11_ok X G c) (by decide))
theorem sc_piece_q : FnScope ["size", "faults", "copies", "copy", "old", "look", "best", "length", "news", "rows", "source", "store", "other"] ["size", "faults", "copies", "copy"] (defScope (top 55)) := ⟨rfl, rfl, rfl, by decide +kernel, rfl, by decide +kernel, by decide +kernel⟩
theorem tt_piece_q (X : K.In h) (G : h.Ns mainGlobals mg) (c : SaysZ fcL fnL K) : Tabs P w K mg base (He.ga K) 26 G_piece_q := tabs_of (Tab.mono (tb12_ok X G c) (by decide)) (AtsL.mono (at3_ok X G c) (by decide)) (st_ok c) (MtsL.mono mt0_ok (by decide)) (MksL.mono mk0_ok (by decide)) (dc_ok X G c) (OwsL.mono ow0_ok (by decide)) (MtkL.mono nt0_ok (by decide)) (OwkL.mono nk0_ok (by decide))
theorem fn_piece_q (X : K.In h) (G : h.Ns mainGlobals mg) (c : SaysZ fcL fnL K) : ∃ fd, FunD K d_piece_q.name d_piece_q.qual d_piece_q.params d_piece_q.body d_piece_q.scope (d_piece_q.dvs K) (d_piece_q.kws K) (d_piece_q.at_.ad K) fd ∧ FnM P w K mg base (He.ga K) 27 (d_piece_q.at_.ad K) fd ["size", "faults", "copies", "copy"] F_piece_q := by
  obtain ⟨fd, Fd⟩ := c.def_ 12 (d := d_piece_q) rfl
  refine ⟨fd, Fd, ?_⟩
  rw [E_piece_q]
  exact def_tr (Γ := G_piece_q) Fd (tt_piece_q X G c) (cs_ok X G c) (fr_ok X G c) sc_piece_q rfl rfl tr_piece_q
theorem tb13_ok (X : K.In h) (G : h.Ns mainGlobals mg) (c : SaysZ fcL fnL K) : Tab P w K mg base (He.ga K) 28 tb13 := by
  obtain ⟨fd, Fd, M⟩ := fn_piece_q (P := P) (w := w) (base := base) X G c
  exact tab_cons (ent_of (He.glo_ok X G (c.fact 11 (f := .fa (.glo "piece_q")) rfl)) Fd.kp (M.mono (by decide)) (binds_cons (bindM_plain Fd [0, 1, 2, 3] rfl (by decide) fun _ _ _ _ _ _ us ws h1 h2 => match us, h1, ws, h2 with | [_, _, _, _], _, [], _ => rfl) binds_nil)) (Tab.mono (tb12_ok X G c) (by decide))
theorem sc_counting_rows : FnScope ["old", "address", "rows"] ["old", "address"] (defScope (top 50)) := ⟨rfl, rfl, rfl, by decide +kernel, rfl, by decide +kernel, by decide +kernel⟩
theorem tt_counting_rows (X : K.In h) (G : h.Ns mainGlobals mg) (c : SaysZ fcL fnL K) : Tabs P w K mg base (He.ga K) 28 G_counting_rows := tabs_of (Tab.mono (tb13_ok X G c) (by decide)) (AtsL.mono (at3_ok X G c) (by decide)) (st_ok c) (MtsL.mono mt0_ok (by decide)) (MksL.mono mk0_ok (by decide)) (dc_ok X G c) (OwsL.mono ow0_ok (by decide)) (MtkL.mono nt0_ok (by decide)) (OwkL.mono nk0_ok (by decide))
theorem fn_counting_rows (X : K.In h) (G : h.Ns mainGlobals mg) (c : SaysZ fcL fnL K) : ∃ fd, FunD K d_counting_rows.name d_counting_rows.qual d_counting_rows.params d_counting_rows.body d_counting_rows.scope (d_counting_rows.dvs K) (d_counting_rows.kws K) (d_counting_rows.at_.ad K) fd ∧ FnM P w K mg base (He.ga K) 29 (d_counting_rows.at_.ad K) fd ["old", "address"] F_counting_rows := by
  obtain ⟨fd, Fd⟩ := c.def_ 13 (d := d_counting_rows) rfl
  refine ⟨fd, Fd, ?_⟩
  rw [E_counting_rows]
  exact def_tr (Γ := G_counting_rows) Fd (tt_counting_rows X G c) (cs_ok X G c) (fr_ok X G c) sc_counting_rows rfl rfl tr_counting_rows
theorem tb14_ok (X : K.In h) (G : h.Ns mainGlobals mg) (c : SaysZ fcL fnL K) : Tab P w K mg base (He.ga K) 30 tb14 := by
  obtain ⟨fd, Fd, M⟩ := fn_counting_rows (P := P) (w := w) (base := base) X G c
  exact tab_cons (ent_of (He.glo_ok X G (c.fact 12 (f := .fa (.glo "counting_rows")) rfl)) Fd.kp (M.mono (by decide)) (binds_cons (bindM_plain Fd [0, 1] rfl (by decide) fun _ _ _ _ _ _ us ws h1 h2 => match us, h1, ws, h2 with | [_, _], _, [], _ => rfl) binds_nil)) (Tab.mono (tb13_ok X G c) (by decide))
theorem sc_choosing_rows : FnScope ["index", "old", "new", "result", "rows"] ["index", "old", "new", "result"] (defScope (top 52)) := ⟨rfl, rfl, rfl, by decide +kernel, rfl, by decide +kernel, by decide +kernel⟩
theorem tt_choosing_rows (X : K.In h) (G : h.Ns mainGlobals mg) (c : SaysZ fcL fnL K) : Tabs P w K mg base (He.ga K) 30 G_choosing_rows := tabs_of (Tab.mono (tb14_ok X G c) (by decide)) (AtsL.mono (at3_ok X G c) (by decide)) (st_ok c) (MtsL.mono mt0_ok (by decide)) (MksL.mono mk0_ok (by decide)) (dc_ok X G c) (OwsL.mono ow0_ok (by decide)) (MtkL.mono nt0_ok (by decide)) (OwkL.mono nk0_ok (by decide))
theorem fn_choosing_rows (X : K.In h) (G : h.Ns mainGlobals mg) (c : SaysZ fcL fnL K) : ∃ fd, FunD K d_choosing_rows.name d_choosing_rows.qual d_choosing_rows.params d_choosing_rows.body d_choosing_rows.scope (d_choosing_rows.dvs K) (d_choosing_rows.kws K) (d_choosing_rows.at_.ad K) fd ∧ FnM P w K mg base (He.ga K) 31 (d_choosing_rows.at_.ad K) fd ["index", "old", "new", "result"] F_choosing_rows := by
  obtain ⟨fd, Fd⟩ := c.def_ 14 (d := d_choosing_rows) rfl
  refine ⟨fd, Fd, ?_⟩
  rw [E_choosing_rows]
  exact def_tr (Γ := G_choosing_rows) Fd (tt_choosing_rows X G c) (cs_ok X G c) (fr_ok X G c) sc_choosing_rows rfl rfl tr_choosing_rows
theorem tb15_ok (X : K.In h) (G : h.Ns mainGlobals mg) (c : SaysZ fcL fnL K) : Tab P w K mg base (He.ga K) 32 tb15 := by
  obtain ⟨fd, Fd, M⟩ := fn_choosing_rows (P := P) (w := w) (base := base) X G c
  exact tab_cons (ent_of (He.glo_ok X G (c.fact 13 (f := .fa (.glo "choosing_rows")) rfl)) Fd.kp (M.mono (by decide)) (binds_cons (bindM_plain Fd [0, 1, 2, 3] rfl (by decide) fun _ _ _ _ _ _ us ws h1 h2 => match us, h1, ws, h2 with | [_, _, _, _], _, [], _ => rfl) binds_nil)) (Tab.mono (tb14_ok X G c) (by decide))
theorem sc_placed_row : FnScope ["row", "old"] ["row", "old"] (defScope (top 51)) := ⟨rfl, rfl, rfl, by decide +kernel, rfl, by decide +kernel, by decide +kernel⟩
theorem tt_placed_row (X : K.In h) (G : h.Ns mainGlobals mg) (c : SaysZ fcL fnL K) : Tabs P w K mg base (He.ga K) 32 G_placed_row := tabs_of (Tab.mono (tb15_ok X G c) (by decide)) (AtsL.mono (at3_ok X G c) (by decide)) (st_ok c) (MtsL.mono mt0_ok (by decide)) (MksL.mono mk0_ok (by decide)) (dc_ok X G c) (OwsL.mono ow0_ok (by decide)) (MtkL.mono nt0_ok (by decide)) (OwkL.mono nk0_ok (by decide))
theorem fn_placed_row (X : K.In h) (G : h.Ns mainGlobals mg) (c : SaysZ fcL fnL K) : ∃ fd, FunD K d_placed_row.name d_placed_row.qual d_placed_row.params d_placed_row.body d_placed_row.scope (d_placed_row.dvs K) (d_placed_row.kws K) (d_placed_row.at_.ad K) fd ∧ FnM P w K mg base (He.ga K) 33 (d_placed_row.at_.ad K) fd ["row", "old"] F_placed_row := by
  obtain ⟨fd, Fd⟩ := c.def_ 15 (d := d_placed_row) rfl
  refine ⟨fd, Fd, ?_⟩
  rw [E_placed_row]
  exact def_tr (Γ := G_placed_row) Fd (tt_placed_row X G c) (cs_ok X G c) (fr_ok X G c) sc_placed_row rfl rfl tr_placed_row
theorem tb16_ok (X : K.In h) (G : h.Ns mainGlobals mg) (c : SaysZ fcL fnL K) : Tab P w K mg base (He.ga K) 34 tb16 := by
  obtain ⟨fd, Fd, M⟩ := fn_placed_row (P := P) (w := w) (base := base) X G c
  exact tab_cons (ent_of (He.glo_ok X G (c.fact 14 (f := .fa (.glo "placed_row")) rfl)) Fd.kp (M.mono (by decide)) (binds_cons (bindM_plain Fd [0, 1] rfl (by decide) fun _ _ _ _ _ _ us ws h1 h2 => match us, h1, ws, h2 with | [_, _], _, [], _ => rfl) binds_nil)) (Tab.mono (tb15_ok X G c) (by decide))
theorem sc_piece_p : FnScope ["recipes", "copy", "size", "old", "new", "rows", "index", "steps", "result", "row"] ["recipes", "copy"] (defScope (top 53)) := ⟨rfl, rfl, rfl, by decide +kernel, rfl, by decide +kernel, by decide +kernel⟩
theorem tt_piece_p (X : K.In h) (G : h.Ns mainGlobals mg) (c : SaysZ fcL fnL K) : Tabs P w K mg base (He.ga K) 34 G_piece_p := tabs_of (Tab.mono (tb16_ok X G c) (by decide)) (AtsL.mono (at3_ok X G c) (by decide)) (st_ok c) (MtsL.mono mt0_ok (by decide)) (MksL.mono mk0_ok (by decide)) (dc_ok X G c) (OwsL.mono ow0_ok (by decide)) (MtkL.mono nt0_ok (by decide)) (OwkL.mono nk0_ok (by decide))
theorem fn_piece_p (X : K.In h) (G : h.Ns mainGlobals mg) (c : SaysZ fcL fnL K) : ∃ fd, FunD K d_piece_p.name d_piece_p.qual d_piece_p.params d_piece_p.body d_piece_p.scope (d_piece_p.dvs K) (d_piece_p.kws K) (d_piece_p.at_.ad K) fd ∧ FnM P w K mg base (He.ga K) 35 (d_piece_p.at_.ad K) fd ["recipes", "copy"] F_piece_p := by
  obtain ⟨fd, Fd⟩ := c.def_ 16 (d := d_piece_p) rfl
  refine ⟨fd, Fd, ?_⟩
  rw [E_piece_p]
  exact def_tr (Γ := G_piece_p) Fd (tt_piece_p X G c) (cs_ok X G c) (fr_ok X G c) sc_piece_p rfl rfl tr_piece_p
theorem tb17_ok (X : K.In h) (G : h.Ns mainGlobals mg) (c : SaysZ fcL fnL K) : Tab P w K mg base (He.ga K) 36 tb17 := by
  obtain ⟨fd, Fd, M⟩ := fn_piece_p (P := P) (w := w) (base := base) X G c
  exact tab_cons (ent_of (He.glo_ok X G (c.fact 15 (f := .fa (.glo "piece_p")) rfl)) Fd.kp (M.mono (by decide)) (binds_cons (bindM_plain Fd [0, 1] rfl (by decide) fun _ _ _ _ _ _ us ws h1 h2 => match us, h1, ws, h2 with | [_, _], _, [], _ => rfl) binds_nil)) (Tab.mono (tb16_ok X G c) (by decide))
theorem sc_enough_copies : FnScope ["faults"] ["faults"] (defScope (top 48)) := ⟨rfl, rfl, rfl, by decide +kernel, rfl, by decide +kernel, by decide +kernel⟩
theorem tt_enough_copies (X : K.In h) (G : h.Ns mainGlobals mg) (c : SaysZ fcL fnL K) : Tabs P w K mg base (He.ga K) 36 G_enough_copies := tabs_of (Tab.mono (tb17_ok X G c) (by decide)) (AtsL.mono (at3_ok X G c) (by decide)) (st_ok c) (MtsL.mono mt0_ok (by decide)) (MksL.mono mk0_ok (by decide)) (dc_ok X G c) (OwsL.mono ow0_ok (by decide)) (MtkL.mono nt0_ok (by decide)) (OwkL.mono nk0_ok (by decide))
theorem fn_enough_copies (X : K.In h) (G : h.Ns mainGlobals mg) (c : SaysZ fcL fnL K) : ∃ fd, FunD K d_enough_copies.name d_enough_copies.qual d_enough_copies.params d_enough_copies.body d_enough_copies.scope (d_enough_copies.dvs K) (d_enough_copies.kws K) (d_enough_copies.at_.ad K) fd ∧ FnM P w K mg base (He.ga K) 37 (d_enough_copies.at_.ad K) fd ["faults"] F_enough_copies := by
  obtain ⟨fd, Fd⟩ := c.def_ 17 (d := d_enough_copies) rfl
  refine ⟨fd, Fd, ?_⟩
  rw [E_enough_copies]
  exact def_tr (Γ := G_enough_copies) Fd (tt_enough_copies X G c) (cs_ok X G c) (fr_ok X G c) sc_enough_copies rfl rfl tr_enough_copies
theorem tb18_ok (X : K.In h) (G : h.Ns mainGlobals mg) (c : SaysZ fcL fnL K) : Tab P w K mg base (He.ga K) 38 tb18 := by
  obtain ⟨fd, Fd, M⟩ := fn_enough_copies (P := P) (w := w) (base := base) X G c
  exact tab_cons (ent_of (He.glo_ok X G (c.fact 16 (f := .fa (.glo "enough_copies")) rfl)) Fd.kp (M.mono (by decide)) (binds_cons (bindM_plain Fd [0] rfl (by decide) fun _ _ _ _ _ _ us ws h1 h2 => match us, h1, ws, h2 with | [_], _, [], _ => rfl) binds_nil)) (Tab.mono (tb17_ok X G c) (by decide))
theorem sc_is_number : FnScope ["value", "least", "most"] ["value", "least", "most"] (defScope (top 47)) := ⟨rfl, rfl, rfl, by decide +kernel, rfl, by decide +kernel, by decide +kernel⟩
theorem tt_is_number (X : K.In h) (G : h.Ns mainGlobals mg) (c : SaysZ fcL fnL K) : Tabs P w K mg base (He.ga K) 38 G_is_number := tabs_of (Tab.mono (tb18_ok X G c) (by decide)) (AtsL.mono (at3_ok X G c) (by decide)) (st_ok c) (MtsL.mono mt0_ok (by decide)) (MksL.mono mk0_ok (by decide)) (dc_ok X G c) (OwsL.mono ow0_ok (by decide)) (MtkL.mono nt0_ok (by decide)) (OwkL.mono nk0_ok (by decide))
theorem fn_is_number (X : K.In h) (G : h.Ns mainGlobals mg) (c : SaysZ fcL fnL K) : ∃ fd, FunD K d_is_number.name d_is_number.qual d_is_number.params d_is_number.body d_is_number.scope (d_is_number.dvs K) (d_is_number.kws K) (d_is_number.at_.ad K) fd ∧ FnM P w K mg base (He.ga K) 39 (d_is_number.at_.ad K) fd ["value", "least", "most"] F_is_number := by
  obtain ⟨fd, Fd⟩ := c.def_ 18 (d := d_is_number) rfl
  refine ⟨fd, Fd, ?_⟩
  rw [E_is_number]
  exact def_tr (Γ := G_is_number) Fd (tt_is_number X G c) (cs_ok X G c) (fr_ok X G c) sc_is_number rfl rfl tr_is_number
theorem tb19_ok (X : K.In h) (G : h.Ns mainGlobals mg) (c : SaysZ fcL fnL K) : Tab P w K mg base (He.ga K) 40 tb19 := by
  obtain ⟨fd, Fd, M⟩ := fn_is_number (P := P) (w := w) (base := base) X G c
  exact tab_cons (ent_of (He.glo_ok X G (c.fact 17 (f := .fa (.glo "is_number")) rfl)) Fd.kp (M.mono (by decide)) (binds_cons (bindM_plain Fd [0, 1, 2] rfl (by decide) fun _ _ _ _ _ _ us ws h1 h2 => match us, h1, ws, h2 with | [_, _, _], _, [], _ => rfl) binds_nil)) (Tab.mono (tb18_ok X G c) (by decide))
theorem sc_is_integer : FnScope ["thing"] ["thing"] (defScope (top 16)) := ⟨rfl, rfl, rfl, by decide +kernel, rfl, by decide +kernel, by decide +kernel⟩
theorem tt_is_integer (X : K.In h) (G : h.Ns mainGlobals mg) (c : SaysZ fcL fnL K) : Tabs P w K mg base (He.ga K) 40 G_is_integer := tabs_of (Tab.mono (tb19_ok X G c) (by decide)) (AtsL.mono (at3_ok X G c) (by decide)) (st_ok c) (MtsL.mono mt0_ok (by decide)) (MksL.mono mk0_ok (by decide)) (dc_ok X G c) (OwsL.mono ow0_ok (by decide)) (MtkL.mono nt0_ok (by decide)) (OwkL.mono nk0_ok (by decide))
theorem fn_is_integer (X : K.In h) (G : h.Ns mainGlobals mg) (c : SaysZ fcL fnL K) : ∃ fd, FunD K d_is_integer.name d_is_integer.qual d_is_integer.params d_is_integer.body d_is_integer.scope (d_is_integer.dvs K) (d_is_integer.kws K) (d_is_integer.at_.ad K) fd ∧ FnM P w K mg base (He.ga K) 41 (d_is_integer.at_.ad K) fd ["thing"] F_is_integer := by
  obtain ⟨fd, Fd⟩ := c.def_ 19 (d := d_is_integer) rfl
  refine ⟨fd, Fd, ?_⟩
  rw [E_is_integer]
  exact def_tr (Γ := G_is_integer) Fd (tt_is_integer X G c) (cs_ok X G c) (fr_ok X G c) sc_is_integer rfl rfl tr_is_integer
theorem tb20_ok (X : K.In h) (G : h.Ns mainGlobals mg) (c : SaysZ fcL fnL K) : Tab P w K mg base (He.ga K) 42 tb20 := by
  obtain ⟨fd, Fd, M⟩ := fn_is_integer (P := P) (w := w) (base := base) X G c
  exact tab_cons (ent_of (He.glo_ok X G (c.fact 18 (f := .fa (.glo "is_integer")) rfl)) Fd.kp (M.mono (by decide)) (binds_cons (bindM_plain Fd [0] rfl (by decide) fun _ _ _ _ _ _ us ws h1 h2 => match us, h1, ws, h2 with | [_], _, [], _ => rfl) binds_nil)) (Tab.mono (tb19_ok X G c) (by decide))
theorem sc_is_number_below : FnScope ["thing", "bound"] ["thing", "bound"] (defScope (top 27)) := ⟨rfl, rfl, rfl, by decide +kernel, rfl, by decide +kernel, by decide +kernel⟩
theorem tt_is_number_below (X : K.In h) (G : h.Ns mainGlobals mg) (c : SaysZ fcL fnL K) : Tabs P w K mg base (He.ga K) 42 G_is_number_below := tabs_of (Tab.mono (tb20_ok X G c) (by decide)) (AtsL.mono (at3_ok X G c) (by decide)) (st_ok c) (MtsL.mono mt0_ok (by decide)) (MksL.mono mk0_ok (by decide)) (dc_ok X G c) (OwsL.mono ow0_ok (by decide)) (MtkL.mono nt0_ok (by decide)) (OwkL.mono nk0_ok (by decide))
theorem fn_is_number_below (X : K.In h) (G : h.Ns mainGlobals mg) (c : SaysZ fcL fnL K) : ∃ fd, FunD K d_is_number_below.name d_is_number_below.qual d_is_number_below.params d_is_number_below.body d_is_number_below.scope (d_is_number_below.dvs K) (d_is_number_below.kws K) (d_is_number_below.at_.ad K) fd ∧ FnM P w K mg base (He.ga K) 43 (d_is_number_below.at_.ad K) fd ["thing", "bound"] F_is_number_below := by
  obtain ⟨fd, Fd⟩ := c.def_ 20 (d := d_is_number_below) rfl
  refine ⟨fd, Fd, ?_⟩
  rw [E_is_number_below]
  exact def_tr (Γ := G_is_number_below) Fd (tt_is_number_below X G c) (cs_ok X G c) (fr_ok X G c) sc_is_number_below rfl rfl tr_is_number_below
theorem tb21_ok (X : K.In h) (G : h.Ns mainGlobals mg) (c : SaysZ fcL fnL K) : Tab P w K mg base (He.ga K) 44 tb21 := by
  obtain ⟨fd, Fd, M⟩ := fn_is_number_below (P := P) (w := w) (base := base) X G c
  exact tab_cons (ent_of (He.glo_ok X G (c.fact 19 (f := .fa (.glo "is_number_below")) rfl)) Fd.kp (M.mono (by decide)) (binds_cons (bindM_plain Fd [0, 1] rfl (by decide) fun _ _ _ _ _ _ us ws h1 h2 => match us, h1, ws, h2 with | [_, _], _, [], _ => rfl) binds_nil)) (Tab.mono (tb20_ok X G c) (by decide))
theorem sc_is_register : FnScope ["thing"] ["thing"] (defScope (top 28)) := ⟨rfl, rfl, rfl, by decide +kernel, rfl, by decide +kernel, by decide +kernel⟩
theorem tt_is_register (X : K.In h) (G : h.Ns mainGlobals mg) (c : SaysZ fcL fnL K) : Tabs P w K mg base (He.ga K) 44 G_is_register := tabs_of (Tab.mono (tb21_ok X G c) (by decide)) (AtsL.mono (at3_ok X G c) (by decide)) (st_ok c) (MtsL.mono mt0_ok (by decide)) (MksL.mono mk0_ok (by decide)) (dc_ok X G c) (OwsL.mono ow0_ok (by decide)) (MtkL.mono nt0_ok (by decide)) (OwkL.mono nk0_ok (by decide))
theorem fn_is_register (X : K.In h) (G : h.Ns mainGlobals mg) (c : SaysZ fcL fnL K) : ∃ fd, FunD K d_is_register.name d_is_register.qual d_is_register.params d_is_register.body d_is_register.scope (d_is_register.dvs K) (d_is_register.kws K) (d_is_register.at_.ad K) fd ∧ FnM P w K mg base (He.ga K) 45 (d_is_register.at_.ad K) fd ["thing"] F_is_register := by
  obtain ⟨fd, Fd⟩ := c.def_ 21 (d := d_is_register) rfl
  refine ⟨fd, Fd, ?_⟩
  rw [E_is_register]
  exact def_tr (Γ := G_is_register) Fd (tt_is_register X G c) (cs_ok X G c) (fr_ok X G c) sc_is_register rfl rfl tr_is_register
theorem tb22_ok (X : K.In h) (G : h.Ns mainGlobals mg) (c : SaysZ fcL fnL K) : Tab P w K mg base (He.ga K) 46 tb22 := by
  obtain ⟨fd, Fd, M⟩ := fn_is_register (P := P) (w := w) (base := base) X G c
  exact tab_cons (ent_of (He.glo_ok X G (c.fact 20 (f := .fa (.glo "is_register")) rfl)) Fd.kp (M.mono (by decide)) (binds_cons (bindM_plain Fd [0] rfl (by decide) fun _ _ _ _ _ _ us ws h1 h2 => match us, h1, ws, h2 with | [_], _, [], _ => rfl) binds_nil)) (Tab.mono (tb21_ok X G c) (by decide))
theorem sc_many_sources : FnScope ["word"] ["word"] (defScope (top 29)) := ⟨rfl, rfl, rfl, by decide +kernel, rfl, by decide +kernel, by decide +kernel⟩
theorem tt_many_sources (X : K.In h) (G : h.Ns mainGlobals mg) (c : SaysZ fcL fnL K) : Tabs P w K mg base (He.ga K) 46 G_many_sources := tabs_of (Tab.mono (tb22_ok X G c) (by decide)) (AtsL.mono (at3_ok X G c) (by decide)) (st_ok c) (MtsL.mono mt0_ok (by decide)) (MksL.mono mk0_ok (by decide)) (dc_ok X G c) (OwsL.mono ow0_ok (by decide)) (MtkL.mono nt0_ok (by decide)) (OwkL.mono nk0_ok (by decide))
theorem fn_many_sources (X : K.In h) (G : h.Ns mainGlobals mg) (c : SaysZ fcL fnL K) : ∃ fd, FunD K d_many_sources.name d_many_sources.qual d_many_sources.params d_many_sources.body d_many_sources.scope (d_many_sources.dvs K) (d_many_sources.kws K) (d_many_sources.at_.ad K) fd ∧ FnM P w K mg base (He.ga K) 47 (d_many_sources.at_.ad K) fd ["word"] F_many_sources := by
  obtain ⟨fd, Fd⟩ := c.def_ 22 (d := d_many_sources) rfl
  refine ⟨fd, Fd, ?_⟩
  rw [E_many_sources]
  exact def_tr (Γ := G_many_sources) Fd (tt_many_sources X G c) (cs_ok X G c) (fr_ok X G c) sc_many_sources rfl rfl tr_many_sources
theorem tb23_ok (X : K.In h) (G : h.Ns mainGlobals mg) (c : SaysZ fcL fnL K) : Tab P w K mg base (He.ga K) 48 tb23 := by
  obtain ⟨fd, Fd, M⟩ := fn_many_sources (P := P) (w := w) (base := base) X G c
  exact tab_cons (ent_of (He.glo_ok X G (c.fact 21 (f := .fa (.glo "many_sources")) rfl)) Fd.kp (M.mono (by decide)) (binds_cons (bindM_plain Fd [0] rfl (by decide) fun _ _ _ _ _ _ us ws h1 h2 => match us, h1, ws, h2 with | [_], _, [], _ => rfl) binds_nil)) (Tab.mono (tb22_ok X G c) (by decide))
theorem sc_is_word : FnScope ["thing"] ["thing"] (defScope (top 17)) := ⟨rfl, rfl, rfl, by decide +kernel, rfl, by decide +kernel, by decide +kernel⟩
theorem tt_is_word (X : K.In h) (G : h.Ns mainGlobals mg) (c : SaysZ fcL fnL K) : Tabs P w K mg base (He.ga K) 48 G_is_word := tabs_of (Tab.mono (tb23_ok X G c) (by decide)) (AtsL.mono (at3_ok X G c) (by decide)) (st_ok c) (MtsL.mono mt0_ok (by decide)) (MksL.mono mk0_ok (by decide)) (dc_ok X G c) (OwsL.mono ow0_ok (by decide)) (MtkL.mono nt0_ok (by decide)) (OwkL.mono nk0_ok (by decide))
theorem fn_is_word (X : K.In h) (G : h.Ns mainGlobals mg) (c : SaysZ fcL fnL K) : ∃ fd, FunD K d_is_word.name d_is_word.qual d_is_word.params d_is_word.body d_is_word.scope (d_is_word.dvs K) (d_is_word.kws K) (d_is_word.at_.ad K) fd ∧ FnM P w K mg base (He.ga K) 49 (d_is_word.at_.ad K) fd ["thing"] F_is_word := by
  obtain ⟨fd, Fd⟩ := c.def_ 23 (d := d_is_word) rfl
  refine ⟨fd, Fd, ?_⟩
  rw [E_is_word]
  exact def_tr (Γ := G_is_word) Fd (tt_is_word X G c) (cs_ok X G c) (fr_ok X G c) sc_is_word rfl rfl tr_is_word
theorem tb24_ok (X : K.In h) (G : h.Ns mainGlobals mg) (c : SaysZ fcL fnL K) : Tab P w K mg base (He.ga K) 50 tb24 := by
  obtain ⟨fd, Fd, M⟩ := fn_is_word (P := P) (w := w) (base := base) X G c
  exact tab_cons (ent_of (He.glo_ok X G (c.fact 22 (f := .fa (.glo "is_word")) rfl)) Fd.kp (M.mono (by decide)) (binds_cons (bindM_plain Fd [0] rfl (by decide) fun _ _ _ _ _ _ us ws h1 h2 => match us, h1, ws, h2 with | [_], _, [], _ => rfl) binds_nil)) (Tab.mono (tb23_ok X G c) (by decide))
theorem sc_is_recipe_row : FnScope ["thing", "size", "known", "word", "goal", "others", "one"] ["thing", "size", "known"] (defScope (top 30)) := ⟨rfl, rfl, rfl, by decide +kernel, rfl, by decide +kernel, by decide +kernel⟩
theorem tt_is_recipe_row (X : K.In h) (G : h.Ns mainGlobals mg) (c : SaysZ fcL fnL K) : Tabs P w K mg base (He.ga K) 50 G_is_recipe_row := tabs_of (Tab.mono (tb24_ok X G c) (by decide)) (AtsL.mono (at3_ok X G c) (by decide)) (st_ok c) (MtsL.mono mt0_ok (by decide)) (MksL.mono mk0_ok (by decide)) (dc_ok X G c) (OwsL.mono ow0_ok (by decide)) (MtkL.mono nt0_ok (by decide)) (OwkL.mono nk0_ok (by decide))
theorem fn_is_recipe_row (X : K.In h) (G : h.Ns mainGlobals mg) (c : SaysZ fcL fnL K) : ∃ fd, FunD K d_is_recipe_row.name d_is_recipe_row.qual d_is_recipe_row.params d_is_recipe_row.body d_is_recipe_row.scope (d_is_recipe_row.dvs K) (d_is_recipe_row.kws K) (d_is_recipe_row.at_.ad K) fd ∧ FnM P w K mg base (He.ga K) 51 (d_is_recipe_row.at_.ad K) fd ["thing", "size", "known"] F_is_recipe_row := by
  obtain ⟨fd, Fd⟩ := c.def_ 24 (d := d_is_recipe_row) rfl
  refine ⟨fd, Fd, ?_⟩
  rw [E_is_recipe_row]
  exact def_tr (Γ := G_is_recipe_row) Fd (tt_is_recipe_row X G c) (cs_ok X G c) (fr_ok X G c) sc_is_recipe_row rfl rfl tr_is_recipe_row
theorem tb25_ok (X : K.In h) (G : h.Ns mainGlobals mg) (c : SaysZ fcL fnL K) : Tab P w K mg base (He.ga K) 52 tb25 := by
  obtain ⟨fd, Fd, M⟩ := fn_is_recipe_row (P := P) (w := w) (base := base) X G c
  exact tab_cons (ent_of (He.glo_ok X G (c.fact 23 (f := .fa (.glo "is_recipe_row")) rfl)) Fd.kp (M.mono (by decide)) (binds_cons (bindM_plain Fd [0, 1, 2] rfl (by decide) fun _ _ _ _ _ _ us ws h1 h2 => match us, h1, ws, h2 with | [_, _, _], _, [], _ => rfl) binds_nil)) (Tab.mono (tb24_ok X G c) (by decide))
theorem sc_is_recipe : FnScope ["thing", "size", "rows", "result", "known", "row"] ["thing", "size"] (defScope (top 31)) := ⟨rfl, rfl, rfl, by decide +kernel, rfl, by decide +kernel, by decide +kernel⟩
theorem tt_is_recipe (X : K.In h) (G : h.Ns mainGlobals mg) (c : SaysZ fcL fnL K) : Tabs P w K mg base (He.ga K) 52 G_is_recipe := tabs_of (Tab.mono (tb25_ok X G c) (by decide)) (AtsL.mono (at3_ok X G c) (by decide)) (st_ok c) (MtsL.mono mt0_ok (by decide)) (MksL.mono mk0_ok (by decide)) (dc_ok X G c) (OwsL.mono ow0_ok (by decide)) (MtkL.mono nt0_ok (by decide)) (OwkL.mono nk0_ok (by decide))
theorem fn_is_recipe (X : K.In h) (G : h.Ns mainGlobals mg) (c : SaysZ fcL fnL K) : ∃ fd, FunD K d_is_recipe.name d_is_recipe.qual d_is_recipe.params d_is_recipe.body d_is_recipe.scope (d_is_recipe.dvs K) (d_is_recipe.kws K) (d_is_recipe.at_.ad K) fd ∧ FnM P w K mg base (He.ga K) 53 (d_is_recipe.at_.ad K) fd ["thing", "size"] F_is_recipe := by
  obtain ⟨fd, Fd⟩ := c.def_ 25 (d := d_is_recipe) rfl
  refine ⟨fd, Fd, ?_⟩
  rw [E_is_recipe]
  exact def_tr (Γ := G_is_recipe) Fd (tt_is_recipe X G c) (cs_ok X G c) (fr_ok X G c) sc_is_recipe rfl rfl tr_is_recipe
theorem tb26_ok (X : K.In h) (G : h.Ns mainGlobals mg) (c : SaysZ fcL fnL K) : Tab P w K mg base (He.ga K) 54 tb26 := by
  obtain ⟨fd, Fd, M⟩ := fn_is_recipe (P := P) (w := w) (base := base) X G c
  exact tab_cons (ent_of (He.glo_ok X G (c.fact 24 (f := .fa (.glo "is_recipe")) rfl)) Fd.kp (M.mono (by decide)) (binds_cons (bindM_plain Fd [0, 1] rfl (by decide) fun _ _ _ _ _ _ us ws h1 h2 => match us, h1, ws, h2 with | [_, _], _, [], _ => rfl) binds_nil)) (Tab.mono (tb25_ok X G c) (by decide))
theorem sc_is_recipes : FnScope ["thing", "one"] ["thing"] (defScope (top 32)) := ⟨rfl, rfl, rfl, by decide +kernel, rfl, by decide +kernel, by decide +kernel⟩
theorem tt_is_recipes (X : K.In h) (G : h.Ns mainGlobals mg) (c : SaysZ fcL fnL K) : Tabs P w K mg base (He.ga K) 54 G_is_recipes := tabs_of (Tab.mono (tb26_ok X G c) (by decide)) (AtsL.mono (at3_ok X G c) (by decide)) (st_ok c) (MtsL.mono mt0_ok (by decide)) (MksL.mono mk0_ok (by decide)) (dc_ok X G c) (OwsL.mono ow0_ok (by decide)) (MtkL.mono nt0_ok (by decide)) (OwkL.mono nk0_ok (by decide))
theorem fn_is_recipes (X : K.In h) (G : h.Ns mainGlobals mg) (c : SaysZ fcL fnL K) : ∃ fd, FunD K d_is_recipes.name d_is_recipes.qual d_is_recipes.params d_is_recipes.body d_is_recipes.scope (d_is_recipes.dvs K) (d_is_recipes.kws K) (d_is_recipes.at_.ad K) fd ∧ FnM P w K mg base (He.ga K) 55 (d_is_recipes.at_.ad K) fd ["thing"] F_is_recipes := by
  obtain ⟨fd, Fd⟩ := c.def_ 26 (d := d_is_recipes) rfl
  refine ⟨fd, Fd, ?_⟩
  rw [E_is_recipes]
  exact def_tr (Γ := G_is_recipes) Fd (tt_is_recipes X G c) (cs_ok X G c) (fr_ok X G c) sc_is_recipes rfl rfl tr_is_recipes
theorem tb27_ok (X : K.In h) (G : h.Ns mainGlobals mg) (c : SaysZ fcL fnL K) : Tab P w K mg base (He.ga K) 56 tb27 := by
  obtain ⟨fd, Fd, M⟩ := fn_is_recipes (P := P) (w := w) (base := base) X G c
  exact tab_cons (ent_of (He.glo_ok X G (c.fact 25 (f := .fa (.glo "is_recipes")) rfl)) Fd.kp (M.mono (by decide)) (binds_cons (bindM_plain Fd [0] rfl (by decide) fun _ _ _ _ _ _ us ws h1 h2 => match us, h1, ws, h2 with | [_], _, [], _ => rfl) binds_nil)) (Tab.mono (tb26_ok X G c) (by decide))
theorem sc_Ring___init__ : FnScope ["self", "recipes", "faults", "copies", "pieces", "votes", "copy", "piece", "row"] ["self", "recipes", "faults", "copies"] (defScope (inClass (top 56) 1)) := ⟨rfl, rfl, rfl, by decide +kernel, rfl, by decide +kernel, by decide +kernel⟩
theorem tt_Ring___init__ (X : K.In h) (G : h.Ns mainGlobals mg) (c : SaysZ fcL fnL K) : Tabs P w K mg base (He.ga K) 56 G_Ring___init__ := tabs_of (Tab.mono (tb27_ok X G c) (by decide)) (AtsL.mono (at3_ok X G c) (by decide)) (st_ok c) (MtsL.mono mt0_ok (by decide)) (MksL.mono mk0_ok (by decide)) (dc_ok X G c) (OwsL.mono ow0_ok (by decide)) (MtkL.mono nt0_ok (by decide)) (OwkL.mono nk0_ok (by decide))
theorem fn_Ring___init__ (X : K.In h) (G : h.Ns mainGlobals mg) (c : SaysZ fcL fnL K) : ∃ fd, FunD K d_Ring___init__.name d_Ring___init__.qual d_Ring___init__.params d_Ring___init__.body d_Ring___init__.scope (d_Ring___init__.dvs K) (d_Ring___init__.kws K) (d_Ring___init__.at_.ad K) fd ∧ FnM P w K mg base (He.ga K) 57 (d_Ring___init__.at_.ad K) fd ["self", "recipes", "faults", "copies"] F_Ring___init__ := by
  obtain ⟨fd, Fd⟩ := c.def_ 27 (d := d_Ring___init__) rfl
  refine ⟨fd, Fd, ?_⟩
  rw [E_Ring___init__]
  exact def_tr (Γ := G_Ring___init__) Fd (tt_Ring___init__ X G c) (cs_ok X G c) (fr_ok X G c) sc_Ring___init__ rfl rfl tr_Ring___init__
theorem mk28_ok (X : K.In h) (G : h.Ns mainGlobals mg) (c : SaysZ fcL fnL K) : MksL P w K mg base (He.ga K) 58 mk28 := by
  obtain ⟨fd, Fd, M⟩ := fn_Ring___init__ (P := P) (w := w) (base := base) X G c
  exact mks_cons (He.glo_ok X G (c.fact 29 (f := .fa (.glo "Ring")) rfl)) (He.mkr_ok (c.fact 31 (f := .fa (.mkr "Ring")) rfl)) M (by decide) (bindsM_cons (bindM_kw Fd [] [] [0, 1, 2, 3] (by simp [DefZ.kws, d_Ring___init__]) (by simp [DefZ.kws, d_Ring___init__, He.Dv.v]) (fun _ _ => .nil) rfl (by decide) fun _ _ _ _ _ _ us ws mv h1 h2 h3 => match us, h1, ws, h2, mv, h3 with | [_, _], _, [_, _], _, [], _ => rfl) bindsM_nil) (MksL.mono mk0_ok (by decide))
theorem sc__law_plain_recipes : FnScope ["_law_size", "_law_k"] ["_law_size"] (defScope (top 62)) := ⟨rfl, rfl, rfl, by decide +kernel, rfl, by decide +kernel, by decide +kernel⟩
theorem tt__law_plain_recipes (X : K.In h) (G : h.Ns mainGlobals mg) (c : SaysZ fcL fnL K) : Tabs P w K mg base (He.ga K) 58 G__law_plain_recipes := tabs_of (Tab.mono (tb27_ok X G c) (by decide)) (AtsL.mono (at3_ok X G c) (by decide)) (st_ok c) (MtsL.mono mt0_ok (by decide)) (MksL.mono (mk28_ok X G c) (by decide)) (dc_ok X G c) (OwsL.mono ow0_ok (by decide)) (MtkL.mono nt0_ok (by decide)) (OwkL.mono nk0_ok (by decide))
theorem fn__law_plain_recipes (X : K.In h) (G : h.Ns mainGlobals mg) (c : SaysZ fcL fnL K) : ∃ fd, FunD K d__law_plain_recipes.name d__law_plain_recipes.qual d__law_plain_recipes.params d__law_plain_recipes.body d__law_plain_recipes.scope (d__law_plain_recipes.dvs K) (d__law_plain_recipes.kws K) (d__law_plain_recipes.at_.ad K) fd ∧ FnM P w K mg base (He.ga K) 59 (d__law_plain_recipes.at_.ad K) fd ["_law_size"] F__law_plain_recipes := by
  obtain ⟨fd, Fd⟩ := c.def_ 28 (d := d__law_plain_recipes) rfl
  refine ⟨fd, Fd, ?_⟩
  rw [E__law_plain_recipes]
  exact def_tr (Γ := G__law_plain_recipes) Fd (tt__law_plain_recipes X G c) (cs_ok X G c) (fr_ok X G c) sc__law_plain_recipes rfl rfl tr__law_plain_recipes
theorem tb29_ok (X : K.In h) (G : h.Ns mainGlobals mg) (c : SaysZ fcL fnL K) : Tab P w K mg base (He.ga K) 60 tb29 := by
  obtain ⟨fd, Fd, M⟩ := fn__law_plain_recipes (P := P) (w := w) (base := base) X G c
  exact tab_cons (ent_of (He.glo_ok X G (c.fact 26 (f := .fa (.glo "_law_plain_recipes")) rfl)) Fd.kp (M.mono (by decide)) (binds_cons (bindM_plain Fd [0] rfl (by decide) fun _ _ _ _ _ _ us ws h1 h2 => match us, h1, ws, h2 with | [_], _, [], _ => rfl) binds_nil)) (Tab.mono (tb27_ok X G c) (by decide))
theorem sc__law_deck : FnScope ["_law_script", "_law_cells", "_law_mixed", "_law_cell"] ["_law_script"] (defScope (top 59)) := ⟨rfl, rfl, rfl, by decide +kernel, rfl, by decide +kernel, by decide +kernel⟩
theorem tt__law_deck (X : K.In h) (G : h.Ns mainGlobals mg) (c : SaysZ fcL fnL K) : Tabs P w K mg base (He.ga K) 60 G__law_deck := tabs_of (Tab.mono (tb29_ok X G c) (by decide)) (AtsL.mono (at3_ok X G c) (by decide)) (st_ok c) (MtsL.mono mt0_ok (by decide)) (MksL.mono (mk28_ok X G c) (by decide)) (dc_ok X G c) (OwsL.mono ow0_ok (by decide)) (MtkL.mono nt0_ok (by decide)) (OwkL.mono nk0_ok (by decide))
theorem fn__law_deck (X : K.In h) (G : h.Ns mainGlobals mg) (c : SaysZ fcL fnL K) : ∃ fd, FunD K d__law_deck.name d__law_deck.qual d__law_deck.params d__law_deck.body d__law_deck.scope (d__law_deck.dvs K) (d__law_deck.kws K) (d__law_deck.at_.ad K) fd ∧ FnM P w K mg base (He.ga K) 61 (d__law_deck.at_.ad K) fd ["_law_script"] F__law_deck := by
  obtain ⟨fd, Fd⟩ := c.def_ 29 (d := d__law_deck) rfl
  refine ⟨fd, Fd, ?_⟩
  rw [E__law_deck]
  exact def_tr (Γ := G__law_deck) Fd (tt__law_deck X G c) (cs_ok X G c) (fr_ok X G c) sc__law_deck rfl rfl tr__law_deck
theorem tb30_ok (X : K.In h) (G : h.Ns mainGlobals mg) (c : SaysZ fcL fnL K) : Tab P w K mg base (He.ga K) 62 tb30 := by
  obtain ⟨fd, Fd, M⟩ := fn__law_deck (P := P) (w := w) (base := base) X G c
  exact tab_cons (ent_of (He.glo_ok X G (c.fact 27 (f := .fa (.glo "_law_deck")) rfl)) Fd.kp (M.mono (by decide)) (binds_cons (bindM_plain Fd [0] rfl (by decide) fun _ _ _ _ _ _ us ws h1 h2 => match us, h1, ws, h2 with | [_], _, [], _ => rfl) binds_nil)) (Tab.mono (tb29_ok X G c) (by decide))
theorem sc_law : FnScope ["_law_script", "_law_deck_here", "_law_turn", "_law_size", "_law_many", "_law_circle", "_law_words", "_law_kept", "_law_k", "_law_due_here"] ["_law_script"] (defScope (top 66)) := ⟨rfl, rfl, rfl, by decide +kernel, rfl, by decide +kernel, by decide +kernel⟩
theorem tt_law (X : K.In h) (G : h.Ns mainGlobals mg) (c : SaysZ fcL fnL K) : Tabs P w K mg base (He.ga K) 62 G_law := tabs_of (Tab.mono (tb30_ok X G c) (by decide)) (AtsL.mono (at3_ok X G c) (by decide)) (st_ok c) (MtsL.mono mt0_ok (by decide)) (MksL.mono (mk28_ok X G c) (by decide)) (dc_ok X G c) (OwsL.mono ow0_ok (by decide)) (MtkL.mono nt0_ok (by decide)) (OwkL.mono nk0_ok (by decide))
theorem fn_law (X : K.In h) (G : h.Ns mainGlobals mg) (c : SaysZ fcL fnL K) : ∃ fd, FunD K d_law.name d_law.qual d_law.params d_law.body d_law.scope (d_law.dvs K) (d_law.kws K) (d_law.at_.ad K) fd ∧ FnM P w K mg base (He.ga K) 63 (d_law.at_.ad K) fd ["_law_script"] F_law := by
  obtain ⟨fd, Fd⟩ := c.def_ 30 (d := d_law) rfl
  refine ⟨fd, Fd, ?_⟩
  rw [E_law]
  exact def_tr (Γ := G_law) Fd (tt_law X G c) (cs_ok X G c) (fr_ok X G c) sc_law rfl rfl tr_law
end
end Lw
/-! text W0 -/
set_option maxHeartbeats 2000000
/-! W0: what is asked of functions of data: rules for simp. -/
namespace Z
open PySem PySem.Spec PyProof.Rows L2
@[irreducible] def W {α : Type} (x : Out α) (Q : α → Hd → Prop) : Prop := match x with
  | .ok a h => Q a h
  | _ => False
@[irreducible] def WS (x : SOut) (N : En → Hd → Prop) (R : D → Hd → Prop) (B C : En → Hd → Prop) : Prop := match x with
  | .nx en h => N en h
  | .rt d h => R d h
  | .bk en h => B en h
  | .ct en h => C en h
  | _ => False
abbrev NoE : En → Hd → Prop := fun _ _ => False
section
variable {α β : Type} {en : En} {h : Hd} {a b c : XE} {t u : XT} {ms mk : XA} {Q : D → Hd → Prop} {QB : Bool → Hd → Prop} {QA : List D → Hd → Prop} {N B C : En → Hd → Prop} {R : D → Hd → Prop} {x y : XS} {d e : D} {f : D → D → Hd → Out D}
theorem W.imp {x : Out α} {P P' : α → Hd → Prop} (w : W x P) (i : ∀ a h, P a h → P' a h) : W x P' := by
  delta W at w ⊢
  cases x with
  | ok a h => exact i a h w
  | _ => exact w.elim
theorem WS.imp {x : SOut} {N' B' C' : En → Hd → Prop} {R' : D → Hd → Prop} (w : WS x N R B C) (i : ∀ a h, N a h → N' a h) (j : ∀ a h, R a h → R' a h) (k : ∀ a h, B a h → B' a h) (l : ∀ a h, C a h → C' a h) : WS x N' R' B' C' := by
  delta WS at w ⊢
  cases x with
  | nx a h => exact i a h w
  | rt a h => exact j a h w
  | bk a h => exact k a h w
  | ct a h => exact l a h w
  | _ => exact w.elim
theorem W.ok_of {x : Out α} {P : α → Hd → Prop} (w : W x P) : ∃ a h, x = .ok a h ∧ P a h := by
  delta W at w
  cases x with
  | ok a h => exact ⟨a, h, rfl, w⟩
  | _ => exact w.elim
@[simp] theorem W_ok {a : α} {P : α → Hd → Prop} : W (.ok a h) P ↔ P a h := by (first | exact Iff.rfl | (delta W; exact Iff.rfl) | (delta WS; exact Iff.rfl) | (delta W WS; exact Iff.rfl))
@[simp] theorem W_fail {P : α → Hd → Prop} : W .fail P ↔ False := by (first | exact Iff.rfl | (delta W; exact Iff.rfl) | (delta WS; exact Iff.rfl) | (delta W WS; exact Iff.rfl))
@[simp] theorem W_bind {x : Out α} {g : α → Hd → Out β} {P : β → Hd → Prop} : W (x.bind g) P ↔ W x fun a h1 => W (g a h1) P := by cases x <;> (first | exact Iff.rfl | (delta W; exact Iff.rfl) | (delta WS; exact Iff.rfl) | (delta W WS; exact Iff.rfl))
@[simp] theorem WS_bindS {x : Out α} {g : α → Hd → SOut} : WS (x.bindS g) N R B C ↔ W x fun a h1 => WS (g a h1) N R B C := by cases x <;> (first | exact Iff.rfl | (delta W; exact Iff.rfl) | (delta WS; exact Iff.rfl) | (delta W WS; exact Iff.rfl))
theorem WS_nx {en : En} : WS (SOut.nx en h) N R B C ↔ N en h := by delta WS; exact Iff.rfl
theorem WS_rt {d : D} : WS (SOut.rt d h) N R B C ↔ R d h := by delta WS; exact Iff.rfl
theorem WS_bk {en : En} : WS (SOut.bk en h) N R B C ↔ B en h := by delta WS; exact Iff.rfl
theorem WS_ct {en : En} : WS (SOut.ct en h) N R B C ↔ C en h := by delta WS; exact Iff.rfl
theorem WS_no : WS (SOut.fail) N R B C ↔ False := by delta WS; exact Iff.rfl
theorem W_ite {p : Prop} [Decidable p] {x y : Out α} {P : α → Hd → Prop} : W (if p then x else y) P ↔ (p → W x P) ∧ (¬p → W y P) := by
  split <;> simp_all
theorem WS_ite {p : Prop} [Decidable p] {x y : SOut} : WS (if p then x else y) N R B C ↔ (p → WS x N R B C) ∧ (¬p → WS y N R B C) := by
  split <;> simp_all
@[simp] theorem W_iteF {p : Prop} [Decidable p] {x : Out α} {P : α → Hd → Prop} : W (if p then x else .fail) P ↔ p ∧ W x P := by
  split <;> simp_all
@[simp] theorem WS_iteF {p : Prop} [Decidable p] {x : SOut} : WS (if p then x else .fail) N R B C ↔ p ∧ WS x N R B C := by
  split
  · simp_all
  · exact ⟨fun z => by delta WS at z; exact z.elim, fun z => absurd z.1 (by assumption)⟩
/-! expressions -/
@[simp] theorem W_xC : W (xC d en h) Q ↔ Q d h := by (first | exact Iff.rfl | (delta W; exact Iff.rfl) | (delta WS; exact Iff.rfl) | (delta W WS; exact Iff.rfl))
theorem W_xVar {i : Nat} : W (xVar i en h) Q ↔ ∃ d, en[i]? = some (some d) ∧ Q d h := by
  unfold xVar
  cases q : en[i]? with
  | none => simp
  | some o => cases o <;> simp
@[simp] theorem W_xOp : W (xOp f a b en h) Q ↔ W (a en h) fun x h1 => W (b en h1) fun y h2 => W (f x y h2) Q := by unfold xOp; simp
@[simp] theorem W_xUn {g : D → Hd → Out D} : W (xUn g a en h) Q ↔ W (a en h) fun x h1 => W (g x h1) Q := by unfold xUn; simp
@[simp] theorem W_xTrue : W (xTrue a en h) QB ↔ W (a en h) fun x h1 => W (boolOf x h1) QB := by unfold xTrue; simp
@[simp] theorem W_boolOf {b : Bool} : W (boolOf (.bl b) h) QB ↔ QB b h := by (first | exact Iff.rfl | (delta W; exact Iff.rfl) | (delta WS; exact Iff.rfl) | (delta W WS; exact Iff.rfl))
@[simp] theorem W_xAnd : W (xAnd t u en h) QB ↔ W (t en h) fun x h1 => (x = true → W (u en h1) QB) ∧ (x = false → QB false h1) := by
  unfold xAnd; simp [W_ite]
@[simp] theorem W_xOr : W (xOr t u en h) QB ↔ W (t en h) fun x h1 => (x = true → QB true h1) ∧ (x = false → W (u en h1) QB) := by
  unfold xOr; simp [W_ite]
@[simp] theorem W_xNot : W (xNot t en h) QB ↔ W (t en h) fun x h1 => QB (!x) h1 := by unfold xNot; simp
@[simp] theorem W_xIf : W (xIf t a b en h) Q ↔ W (t en h) fun x h1 => (x = true → W (a en h1) Q) ∧ (x = false → W (b en h1) Q) := by
  unfold xIf; simp [W_ite]
@[simp] theorem W_xNil : W (xNil en h) QA ↔ QA [] h := by (first | exact Iff.rfl | (delta W; exact Iff.rfl) | (delta WS; exact Iff.rfl) | (delta W WS; exact Iff.rfl))
@[simp] theorem W_xCons : W (xCons a ms en h) QA ↔ W (a en h) fun x h1 => W (ms en h1) fun xs h2 => QA (x :: xs) h2 := by unfold xCons; simp
@[simp] theorem W_xTup : W (xTup ms en h) Q ↔ W (ms en h) fun xs h1 => W (mkTup xs h1) Q := by unfold xTup; simp
@[simp] theorem W_xLst : W (xLst ms en h) Q ↔ W (ms en h) fun xs h1 => W (mkLst xs h1) Q := by unfold xLst; simp
@[simp] theorem W_xCall {g : List D → Hd → Out D} : W (xCall g ms en h) Q ↔ W (ms en h) fun xs h1 => W (g xs h1) Q := by unfold xCall; simp
@[simp] theorem W_xFn {F : Fn} {ar : Arr} {n : Nat} : W (xFn F ar n ms en h) Q ↔ W (ms en h) fun xs h1 => W (callA F ar n 0 xs [] h1) Q := by unfold xFn; simp
@[simp] theorem W_xFnK {F : Fn} {ar : Arr} {n m : Nat} : W (xFnK F ar n m ms mk en h) Q ↔ W (ms en h) fun xs h1 => W (mk en h1) fun ks h2 => W (callA F ar n m xs ks h2) Q := by unfold xFnK; simp
@[simp] theorem W_xIsi {T : String} : W (xIsi T a en h) Q ↔ W (a en h) fun x h1 => W (isiD T x h1) Q := by unfold xIsi; simp
@[simp] theorem W_xBm {g : D → Hd → Bool} {k : D → List D → Hd → Out D} : W (xBm g k a ms en h) Q ↔ W (a en h) fun x h1 => g x h1 = true ∧ W (ms en h1) fun xs h2 => W (k x xs h2) Q := by unfold xBm; simp
/-! statements -/
@[simp] theorem WS_next : WS (sNext en h) N R B C ↔ N en h := by (first | exact Iff.rfl | (delta W; exact Iff.rfl) | (delta WS; exact Iff.rfl) | (delta W WS; exact Iff.rfl))
@[simp] theorem WS_seq : WS (sSeq x y en h) N R B C ↔ WS (x en h) (fun en1 h1 => WS (y en1 h1) N R B C) R B C := by
  unfold sSeq
  cases x en h <;> (first | exact Iff.rfl | (delta W; exact Iff.rfl) | (delta WS; exact Iff.rfl) | (delta W WS; exact Iff.rfl))
@[simp] theorem WS_drop : WS (sDrop a en h) N R B C ↔ W (a en h) fun _ h1 => N en h1 := by unfold sDrop; rw [WS_bindS]; (first | exact Iff.rfl | (delta W; exact Iff.rfl) | (delta WS; exact Iff.rfl) | (delta W WS; exact Iff.rfl))
@[simp] theorem WS_ret : WS (sRet a en h) N R B C ↔ W (a en h) R := by unfold sRet; rw [WS_bindS]; (first | exact Iff.rfl | (delta W; exact Iff.rfl) | (delta WS; exact Iff.rfl) | (delta W WS; exact Iff.rfl))
@[simp] theorem WS_retN : WS (sRetN en h) N R B C ↔ R .non h := by (first | exact Iff.rfl | (delta W; exact Iff.rfl) | (delta WS; exact Iff.rfl) | (delta W WS; exact Iff.rfl))
@[simp] theorem WS_brk : WS (sBreak en h) N R B C ↔ B en h := by (first | exact Iff.rfl | (delta W; exact Iff.rfl) | (delta WS; exact Iff.rfl) | (delta W WS; exact Iff.rfl))
@[simp] theorem WS_cnt : WS (sCont en h) N R B C ↔ C en h := by (first | exact Iff.rfl | (delta W; exact Iff.rfl) | (delta WS; exact Iff.rfl) | (delta W WS; exact Iff.rfl))
@[simp] theorem WS_if : WS (sIf t x y en h) N R B C ↔ W (t en h) fun c h1 => (c = true → WS (x en h1) N R B C) ∧ (c = false → WS (y en h1) N R B C) := by
  unfold sIf; simp [WS_ite]
@[simp] theorem WS_asg {g : XG} : WS (sAsg a g en h) N R B C ↔ W (a en h) fun d h1 => WS (g d en h1) N R B C := by unfold sAsg; simp
@[simp] theorem WS_gNm {i : Nat} : WS (gNm i d en h) N R B C ↔ N (en.set i (some d)) h := by (first | exact Iff.rfl | (delta W; exact Iff.rfl) | (delta WS; exact Iff.rfl) | (delta W WS; exact Iff.rfl))
@[simp] theorem WS_par {is : List Nat} : WS (sPar is ms en h) N R B C ↔ W (ms en h) fun ds h1 => ds.length = is.length ∧ N ((is.zip ds).foldl (fun e p => e.set p.1 (some p.2)) en) h1 := by unfold sPar; simp only [WS_bindS, WS_iteF]; (first | exact Iff.rfl | (delta W; exact Iff.rfl) | (delta WS; exact Iff.rfl) | (delta W WS; exact Iff.rfl))
@[simp] theorem WS_sub {i : XE} : WS (sSub a i b en h) N R B C ↔ W (b en h) fun d h1 => W (a en h1) fun o h2 => W (i en h2) fun k h3 => WS (setIt o k d en h3) N R B C := by unfold sSub; simp
@[simp] theorem W_outOf {z : SOut} : W (outOf z) Q ↔ WS z (fun _ h1 => Q .non h1) Q NoE NoE := by cases z <;> (first | exact Iff.rfl | (delta W; exact Iff.rfl) | (delta WS; exact Iff.rfl) | (delta W WS; exact Iff.rfl))
@[simp] theorem W_body {n m : Nat} {ds : List D} : W (bodyFn n m x ds h) Q ↔ ds.length = m ∧ WS (x (startE n ds) h) (fun _ h1 => Q .non h1) Q NoE NoE := by unfold bodyFn; simp
/-! data -/
@[simp] theorem W_add {i j : Int} : W (dAdd (.int i) (.int j) h) Q ↔ Q (.int (i + j)) h := by (first | exact Iff.rfl | (delta W; exact Iff.rfl) | (delta WS; exact Iff.rfl) | (delta W WS; exact Iff.rfl))
@[simp] theorem W_sub {i j : Int} : W (dSub (.int i) (.int j) h) Q ↔ Q (.int (i - j)) h := by (first | exact Iff.rfl | (delta W; exact Iff.rfl) | (delta WS; exact Iff.rfl) | (delta W WS; exact Iff.rfl))
@[simp] theorem W_mul {i j : Int} : W (dMul (.int i) (.int j) h) Q ↔ ((-(2 ^ 64) < i ∧ i < 2 ^ 64) ∨ (-(2 ^ 64) < j ∧ j < 2 ^ 64)) ∧ Q (.int (i * j)) h := by unfold dMul; simp
@[simp] theorem W_div {i j : Int} : W (dDiv (.int i) (.int j) h) Q ↔ (0 < j ∧ j < 1073741824) ∧ Q (.int (i / j)) h := by unfold dDiv; simp
@[simp] theorem W_mod {i j : Int} : W (dMod (.int i) (.int j) h) Q ↔ 0 < j ∧ Q (.int (i % j)) h := by unfold dMod; simp
@[simp] theorem W_lt {i j : Int} : W (dLt (.int i) (.int j) h) Q ↔ Q (.bl (decide (i < j))) h := by (first | exact Iff.rfl | (delta W; exact Iff.rfl) | (delta WS; exact Iff.rfl) | (delta W WS; exact Iff.rfl))
@[simp] theorem W_le {i j : Int} : W (dLe (.int i) (.int j) h) Q ↔ Q (.bl (decide (i ≤ j))) h := by (first | exact Iff.rfl | (delta W; exact Iff.rfl) | (delta WS; exact Iff.rfl) | (delta W WS; exact Iff.rfl))
@[simp] theorem W_gt {i j : Int} : W (dGt (.int i) (.int j) h) Q ↔ Q (.bl (decide (j < i))) h := by (first | exact Iff.rfl | (delta W; exact Iff.rfl) | (delta WS; exact Iff.rfl) | (delta W WS; exact Iff.rfl))
@[simp] theorem W_ge {i j : Int} : W (dGe (.int i) (.int j) h) Q ↔ Q (.bl (decide (j ≤ i))) h := by (first | exact Iff.rfl | (delta W; exact Iff.rfl) | (delta WS; exact Iff.rfl) | (delta W WS; exact Iff.rfl))
@[simp] theorem W_eqI {i j : Int} : W (dEq (.int i) (.int j) h) Q ↔ Q (.bl (decide (i = j))) h := by (first | exact Iff.rfl | (delta W; exact Iff.rfl) | (delta WS; exact Iff.rfl) | (delta W WS; exact Iff.rfl))
@[simp] theorem W_neI {i j : Int} : W (dNe (.int i) (.int j) h) Q ↔ Q (.bl (!decide (i = j))) h := by (first | exact Iff.rfl | (delta W; exact Iff.rfl) | (delta WS; exact Iff.rfl) | (delta W WS; exact Iff.rfl))
@[simp] theorem W_eqS {i j : Str} : W (dEq (.str i) (.str j) h) Q ↔ Q (.bl (decide (i = j))) h := by (first | exact Iff.rfl | (delta W; exact Iff.rfl) | (delta WS; exact Iff.rfl) | (delta W WS; exact Iff.rfl))
@[simp] theorem W_neS {i j : Str} : W (dNe (.str i) (.str j) h) Q ↔ Q (.bl (!decide (i = j))) h := by (first | exact Iff.rfl | (delta W; exact Iff.rfl) | (delta WS; exact Iff.rfl) | (delta W WS; exact Iff.rfl))
end
end Z
/-! text W1 -/
/-! W1: heaps that grow, rules for data with places, loops. -/
namespace Z
open PySem PySem.Spec PyProof.Rows L2
/-- the heap has grown; only the objects of S may have changed -/
structure Fr (S : List Nat) (h h' : Hd) : Prop where
  len : h.length ≤ h'.length
  at_ : ∀ i, i ∉ S → i < h.length → h'[i]? = h[i]?
section
variable {S T : List Nat} {h h' h2 : Hd} {i : Nat} {x : MO}
theorem Fr.refl : Fr S h h := ⟨Nat.le_refl _, fun _ _ _ => rfl⟩
theorem Fr.trans (a : Fr S h h') (b : Fr S h' h2) : Fr S h h2 := ⟨Nat.le_trans a.len b.len, fun i hi hl => (b.at_ i hi (Nat.lt_of_lt_of_le hl a.len)).trans (a.at_ i hi hl)⟩
theorem Fr.mono (a : Fr S h h') (s : ∀ i ∈ S, i ∈ T) : Fr T h h' := ⟨a.len, fun i hi hl => a.at_ i (fun z => hi (s i z)) hl⟩
theorem Fr.app {g : Hd} : Fr S h (h ++ g) := ⟨by rw [List.length_append]; omega, fun i _ hl => List.getElem?_append_left hl⟩
theorem Fr.set (hi : i ∈ S) : Fr S h (h.set i x) := ⟨by rw [List.length_set]; exact Nat.le_refl _, fun j hj _ => List.getElem?_set_ne (fun e => by subst e; exact hj hi)⟩
theorem get_lt (e : h[i]? = some x) : i < h.length := (List.getElem?_eq_some_iff.mp e).1
theorem Fr.get (a : Fr S h h') (hi : i ∉ S) (e : h[i]? = some x) : h'[i]? = some x := (a.at_ i hi (get_lt e)).trans e
theorem Fr.lt (a : Fr S h h') (e : i < h.length) : i < h'.length := Nat.lt_of_lt_of_le e a.len
/-- a new object's place is changed freely, seen from before -/
theorem Fr.fresh (a : Fr (i :: S) h h') (hi : h.length ≤ i) : Fr S h h' := ⟨a.len, fun j hj hl => a.at_ j (by simp only [List.mem_cons, not_or]; exact ⟨by omega, hj⟩) hl⟩
end
theorem str_eq (a b : String) : (Str.ofString a = Str.ofString b) ↔ a = b := by
  refine ⟨fun e => ?_, fun e => by rw [e]⟩
  rw [Str.ofString_eq_toList, Str.ofString_eq_toList] at e
  have e2 : (a.toList.map Char.toNat).toArray = (b.toList.map Char.toNat).toArray := congrArg Str.cps e
  have e3 : a.toList.map Char.toNat = b.toList.map Char.toNat := by simpa using e2
  have inj : ∀ x y : Char, x.toNat = y.toNat → x = y := fun x y h => Char.ext (UInt32.toNat_inj.mp h)
  have e4 : a.toList = b.toList := by
    have := List.map_inj_right (f := Char.toNat) (l := a.toList) (l' := b.toList) (fun {x y} h => inj x y h)
    exact this.mp e3
  exact String.toList_inj.mp e4
section
variable {α : Type} {en : En} {h : Hd} {Q : D → Hd → Prop} {QI : Its → Hd → Prop} {QA : List D → Hd → Prop} {N B C : En → Hd → Prop} {R : D → Hd → Prop} {d e : D} {ds es : List D} {n : Nat} {kvs : List (D × D)} {k : D} {i : Int}
@[simp] theorem W_mkTup : W (mkTup ds h) Q ↔ ds.length ≤ sizeLine ∧ Q (.tup ds) h := by unfold mkTup; simp
@[simp] theorem W_mkLst : W (mkLst ds h) Q ↔ ds.length ≤ sizeLine ∧ Q (.ref h.length) (h ++ [.lst ds]) := by unfold mkLst; simp
theorem W_ixDic (q : h[n]? = some (.dic kvs)) : W (dIx (.ref n) k h) Q ↔ (keyD k).isSome = true ∧ ∃ d, dlook kvs k = some d ∧ Q d h := by
  unfold dIx seqOf
  simp only [q]
  cases hd : dlook kvs k <;> simp [hd]
theorem W_ixLst (q : h[n]? = some (.lst ds)) : W (dIx (.ref n) (.int i) h) Q ↔ ∃ d, atI ds i = some d ∧ Q d h := by
  unfold dIx seqOf
  simp only [q]
  cases hd : atI ds i <;> simp
@[simp] theorem W_ixTup : W (dIx (.tup ds) (.int i) h) Q ↔ ∃ d, atI ds i = some d ∧ Q d h := by
  unfold dIx seqOf
  cases hd : atI ds i <;> simp [hd]
@[simp] theorem W_ixFl : W (dIx (.fl ds) (.int i) h) Q ↔ ∃ d, atI ds i = some d ∧ Q d h := by
  unfold dIx seqOf
  cases hd : atI ds i <;> simp [hd]
theorem WS_setDic (q : h[n]? = some (.dic kvs)) : WS (setIt (.ref n) k d en h) N R B C ↔ ((keyD k).isSome = true ∧ kvs.length < sizeLine) ∧ N en (h.set n (.dic (dput kvs k d))) := by
  unfold setIt
  simp only [q, WS_iteF]
  (first | exact Iff.rfl | (delta W; exact Iff.rfl) | (delta WS; exact Iff.rfl) | (delta W WS; exact Iff.rfl))
theorem WS_setLst (q : h[n]? = some (.lst ds)) : WS (setIt (.ref n) (.int i) d en h) N R B C ↔ ∃ j, ixN ds.length i = some j ∧ N en (h.set n (.lst (ds.set j d))) := by
  unfold setIt
  simp only [q]
  cases hj : ixN ds.length i <;> simp [WS]
theorem W_pop (q : h[n]? = some (.lst ds)) : W (mPop (.ref n) [] h) Q ↔ ∃ y, ds[ds.length - 1]? = some y ∧ Q y (h.set n (.lst ds.dropLast)) := by
  unfold mPop
  simp only [q]
  cases hj : ds[ds.length - 1]? <;> simp
theorem W_append (q : h[n]? = some (.lst ds)) : W (mAppend (.ref n) [d] h) Q ↔ ds.length < sizeLine ∧ Q .non (h.set n (.lst (ds ++ [d]))) := by
  unfold mAppend
  simp only [q, W_iteF, W_ok]
theorem isLst_at (q : h[n]? = some (.lst ds)) : isLst (.ref n) h = true := by unfold isLst lstOf; simp [q]
theorem lstOf_at (q : h[n]? = some (.lst ds)) : lstOf (.ref n) h = some ds := by unfold lstOf; simp [q]
theorem seqOf_at (q : h[n]? = some (.lst ds)) : seqOf (.ref n) h = some ds := by unfold seqOf; simp [q]
@[simp] theorem W_lenTup : W (dLen [.tup ds] h) Q ↔ Q (.int ds.length) h := by (first | exact Iff.rfl | (delta W; exact Iff.rfl) | (delta WS; exact Iff.rfl) | (delta W WS; exact Iff.rfl))
@[simp] theorem W_lenFl : W (dLen [.fl ds] h) Q ↔ Q (.int ds.length) h := by (first | exact Iff.rfl | (delta W; exact Iff.rfl) | (delta WS; exact Iff.rfl) | (delta W WS; exact Iff.rfl))
theorem W_lenLst (q : h[n]? = some (.lst ds)) : W (dLen [.ref n] h) Q ↔ Q (.int ds.length) h := by unfold dLen; simp [q]
theorem W_listLst (q : h[n]? = some (.lst ds)) : W (dList [.ref n] h) Q ↔ ds.length ≤ sizeLine ∧ Q (.ref h.length) (h ++ [.lst ds]) := by unfold dList; simp [seqOf_at q]
@[simp] theorem W_listFl : W (dList [.fl ds] h) Q ↔ ds.length ≤ sizeLine ∧ Q (.ref h.length) (h ++ [.lst ds]) := by unfold dList seqOf; simp
@[simp] theorem W_listTup : W (dList [.tup ds] h) Q ↔ ds.length ≤ sizeLine ∧ Q (.ref h.length) (h ++ [.lst ds]) := by unfold dList seqOf; simp
theorem W_tupLst (q : h[n]? = some (.lst ds)) : W (dTuple [.ref n] h) Q ↔ Q (.tup ds) h := by unfold dTuple; simp [lstOf_at q]
@[simp] theorem W_tupTup : W (dTuple [.tup ds] h) Q ↔ Q (.tup ds) h := by (first | exact Iff.rfl | (delta W; exact Iff.rfl) | (delta WS; exact Iff.rfl) | (delta W WS; exact Iff.rfl))
@[simp] theorem W_intI : W (dInt [.int i] h) Q ↔ Q (.int i) h := by (first | exact Iff.rfl | (delta W; exact Iff.rfl) | (delta WS; exact Iff.rfl) | (delta W WS; exact Iff.rfl))
@[simp] theorem W_intB {b : Bool} : W (dInt [.bl b] h) Q ↔ Q (.int (if b then 1 else 0)) h := by (first | exact Iff.rfl | (delta W; exact Iff.rfl) | (delta WS; exact Iff.rfl) | (delta W WS; exact Iff.rfl))
@[simp] theorem W_pow {i j : Int} : W (dPow (.int i) (.int j) h) Q ↔ (0 ≤ j ∧ j ≤ 1000000 ∧ i.natAbs < 2 ^ 64) ∧ Q (.int (i ^ j.toNat)) h := by unfold dPow; simp
@[simp] theorem W_neg {i : Int} : W (dNeg (.int i) h) Q ↔ Q (.int (-i)) h := by (first | exact Iff.rfl | (delta W; exact Iff.rfl) | (delta WS; exact Iff.rfl) | (delta W WS; exact Iff.rfl))
@[simp] theorem W_addT : W (dAdd (.tup ds) (.tup es) h) Q ↔ ds.length + es.length ≤ sizeLine ∧ Q (.tup (ds ++ es)) h := by unfold dAdd; simp
/-! slices -/
@[simp] theorem W_xRev {a : XE} : W (xRev a en h) Q ↔ W (a en h) fun x h1 => ∃ ds, lstOf x h1 = some ds ∧ W (mkLst ds.reverse h1) Q := by
  unfold xRev
  simp only [W_bind]
  refine ⟨fun w => w.imp fun x h1 z => ?_, fun w => w.imp fun x h1 z => ?_⟩
  · cases hl : lstOf x h1 with
    | none => rw [hl] at z; delta W at z; exact z.elim
    | some ds => rw [hl] at z; exact ⟨ds, rfl, z⟩
  · obtain ⟨ds, hl, z⟩ := z
    rw [hl]
    exact z
@[simp] theorem W_xSl {a : XE} {lo hi : XO} : W (xSl a lo hi en h) Q ↔ W (a en h) fun x h1 => W (lo en h1) fun l h2 => W (hi en h2) fun u h3 => W (dSl x l u h3) Q := by unfold xSl; simp
@[simp] theorem W_oNone {QO : Option Int → Hd → Prop} : W (oNone en h) QO ↔ QO none h := by (first | exact Iff.rfl | (delta W; exact Iff.rfl) | (delta WS; exact Iff.rfl) | (delta W WS; exact Iff.rfl))
@[simp] theorem W_oSome {a : XE} {QO : Option Int → Hd → Prop} : W (oSome a en h) QO ↔ W (a en h) fun x h1 => W (intOf x h1) QO := by unfold oSome; simp
@[simp] theorem W_intOf {QO : Option Int → Hd → Prop} : W (intOf (.int i) h) QO ↔ QO (some i) h := by (first | exact Iff.rfl | (delta W; exact Iff.rfl) | (delta WS; exact Iff.rfl) | (delta W WS; exact Iff.rfl))
@[simp] theorem W_slTup {l u : Option Int} : W (dSl (.tup ds) l u h) Q ↔ Q (.tup (cutL ds l u)) h := by (first | exact Iff.rfl | (delta W; exact Iff.rfl) | (delta WS; exact Iff.rfl) | (delta W WS; exact Iff.rfl))
@[simp] theorem W_slFl {l u : Option Int} : W (dSl (.fl ds) l u h) Q ↔ W (mkLst (cutL ds l u) h) Q := by (first | exact Iff.rfl | (delta W; exact Iff.rfl) | (delta WS; exact Iff.rfl) | (delta W WS; exact Iff.rfl))
theorem W_slLst {l u : Option Int} (q : h[n]? = some (.lst ds)) : W (dSl (.ref n) l u h) Q ↔ W (mkLst (cutL ds l u) h) Q := by
  unfold dSl
  simp only [lstOf_at q]
/-! loops -/
@[simp] theorem W_xIter {a : XE} : W (xIter a en h) QI ↔ W (a en h) fun x h1 => W (itsOf x h1) QI := by unfold xIter; simp
@[simp] theorem W_xIts {f : List D → Hd → Out Its} {ms : XA} : W (xIts f ms en h) QI ↔ W (ms en h) fun xs h1 => W (f xs h1) QI := by unfold xIts; simp
@[simp] theorem W_itsTup : W (itsOf (.tup ds) h) QI ↔ QI ⟨ds, []⟩ h := by (first | exact Iff.rfl | (delta W; exact Iff.rfl) | (delta WS; exact Iff.rfl) | (delta W WS; exact Iff.rfl))
@[simp] theorem W_itsFl : W (itsOf (.fl ds) h) QI ↔ QI ⟨ds, []⟩ h := by (first | exact Iff.rfl | (delta W; exact Iff.rfl) | (delta WS; exact Iff.rfl) | (delta W WS; exact Iff.rfl))
theorem W_itsLst (q : h[n]? = some (.lst ds)) : W (itsOf (.ref n) h) QI ↔ QI ⟨ds, [(n, .lst ds)]⟩ h := by
  unfold itsOf
  simp only [q, W_ok]
@[simp] theorem W_range1 {j : Int} : W (rangeOf1 [.int j] h) QI ↔ (-(2 ^ 62) ≤ j ∧ j < 2 ^ 62) ∧ QI ⟨intsFrom 0 j.toNat, []⟩ h := by unfold rangeOf1; simp
@[simp] theorem W_range3 {i j c : Int} : W (rangeOf3 [.int i, .int j, .int c] h) QI ↔ (0 ≤ i ∧ i < 2 ^ 30 ∧ 0 ≤ j ∧ j < 2 ^ 30 ∧ 0 < c ∧ c < 2 ^ 30) ∧ QI ⟨intsStep i c (if i < j then (j - i - 1) / c + 1 else 0).toNat, []⟩ h := by unfold rangeOf3; simp
@[simp] theorem W_range2 {i j : Int} : W (rangeOf2 [.int i, .int j] h) QI ↔ (-(2 ^ 62) ≤ i ∧ i < 2 ^ 62 ∧ -(2 ^ 62) ≤ j ∧ j < 2 ^ 62) ∧ QI ⟨intsFrom i (j - i).toNat, []⟩ h := by unfold rangeOf2; simp
@[simp] theorem gdOk_nil : gdOk [] h ↔ True := by simp [gdOk]
theorem gdOk_one {x : MO} : gdOk [(n, x)] h ↔ h[n]? = some x := by simp [gdOk]
@[irreducible] def forZ (gd : List (Nat × MO)) (g : XG) (x : XS) (ds : List D) (en : En) (h : Hd) : SOut := forL gd g x ds en h
theorem forZ_eq {gd : List (Nat × MO)} {g : XG} {x : XS} : forZ gd g x ds en h = forL gd g x ds en h := by unfold forZ; rfl
@[simp] theorem WS_for {mi : XI} {g : XG} {x : XS} : WS (sFor mi g x en h) N R B C ↔ W (mi en h) fun it h1 => WS (forZ it.gd g x it.ds en h1) N R B C := by unfold sFor; simp [forZ_eq]
/-- a for by its invariant, told of the items' numbers -/
theorem for_ruleL {gd : List (Nat × MO)} {g : XG} {x : XS} {I : Nat → En → Hd → Prop} : ∀ {ds : List D} (k : Nat) {en : En} {h : Hd},
    (∀ i d en h, ds[i]? = some d → I (k + i) en h → gdOk gd h ∧ WS (g d en h) (fun en1 h1 => WS (x en1 h1) (I (k + i + 1)) R N (I (k + i + 1))) R NoE NoE) → I k en h → (∀ en h, I (k + ds.length) en h → gdOk gd h ∧ N en h) →
    WS (forL gd g x ds en h) N R B C
  | [], k, en, h, st, i0, fin => by
    unfold forL
    rw [WS_iteF]
    delta WS
    exact fin en h i0
  | d :: ds, k, en, h, st, i0, fin => by
    obtain ⟨g1, w1⟩ := st 0 d en h rfl i0
    unfold forL
    rw [if_pos g1]
    cases hg : g d en h with
    | nx en1 h1 =>
      rw [hg] at w1
      have w2 : WS (x en1 h1) (I (k + 1)) R N (I (k + 1)) := by delta WS at w1 ⊢; exact w1
      have go : ∀ en2 h2, I (k + 1) en2 h2 → WS (forL gd g x ds en2 h2) N R B C := fun en2 h2 i2 =>
        for_ruleL (k + 1) (fun i d en h e z => by
          have := st (i + 1) d en h (by simpa using e) (by rw [show k + (i + 1) = k + 1 + i by omega]; exact z)
          rw [show k + (i + 1) + 1 = k + 1 + i + 1 by omega] at this
          exact this) i2 fun en h z => fin en h (by rw [List.length_cons, show k + (ds.length + 1) = k + 1 + ds.length by omega]; exact z)
      show WS (match x en1 h1 with | .nx en2 h2 => forL gd g x ds en2 h2 | .ct en2 h2 => forL gd g x ds en2 h2 | .bk en2 h2 => .nx en2 h2 | o => o) N R B C
      cases hx : x en1 h1 with
      | nx en2 h2 =>
                       rw [hx] at w2
                       have w3 : I (k + 1) en2 h2 := by (delta WS at w2; exact w2)
                       exact go _ _ w3
      | ct en2 h2 =>
                       rw [hx] at w2
                       have w3 : I (k + 1) en2 h2 := by (delta WS at w2; exact w2)
                       exact go _ _ w3
      | bk en2 h2 => rw [hx] at w2; (first | exact w2 | (delta WS at w2 ⊢; exact w2) | (delta W at w2 ⊢; exact w2) | (delta W WS at w2 ⊢; exact w2) | (delta WS at w2; exact w2) | (delta W at w2; exact w2) | (delta W; exact w2) | (delta WS; exact w2))
      | rt d h2 => rw [hx] at w2; (first | exact w2 | (delta WS at w2 ⊢; exact w2) | (delta W at w2 ⊢; exact w2) | (delta W WS at w2 ⊢; exact w2) | (delta WS at w2; exact w2) | (delta W at w2; exact w2) | (delta W; exact w2) | (delta WS; exact w2))
      | fail => rw [hx] at w2; (first | (delta WS at w2; exact w2.elim) | (delta W at w2; exact w2.elim) | exact w2.elim)
      | exc c fs h2 => rw [hx] at w2; (first | (delta WS at w2; exact w2.elim) | (delta W at w2; exact w2.elim) | exact w2.elim)
    | rt d h1 => rw [hg] at w1; (first | exact w1 | (delta WS at w1 ⊢; exact w1) | (delta W at w1 ⊢; exact w1) | (delta W WS at w1 ⊢; exact w1) | (delta WS at w1; exact w1) | (delta W at w1; exact w1) | (delta W; exact w1) | (delta WS; exact w1))
    | bk en1 h1 => rw [hg] at w1; (first | (delta WS at w1; exact w1.elim) | (delta W at w1; exact w1.elim) | exact w1.elim)
    | ct en1 h1 => rw [hg] at w1; (first | (delta WS at w1; exact w1.elim) | (delta W at w1; exact w1.elim) | exact w1.elim)
    | fail => rw [hg] at w1; (first | (delta WS at w1; exact w1.elim) | (delta W at w1; exact w1.elim) | exact w1.elim)
    | exc c fs h2 => rw [hg] at w1; (first | (delta WS at w1; exact w1.elim) | (delta W at w1; exact w1.elim) | exact w1.elim)
theorem for_rule {gd : List (Nat × MO)} {g : XG} {x : XS} {I : Nat → En → Hd → Prop} {ds : List D} (k : Nat) {en : En} {h : Hd}
    (st : ∀ i d en h, ds[i]? = some d → I (k + i) en h → gdOk gd h ∧ WS (g d en h) (fun en1 h1 => WS (x en1 h1) (I (k + i + 1)) R N (I (k + i + 1))) R NoE NoE) (i0 : I k en h) (fin : ∀ en h, I (k + ds.length) en h → gdOk gd h ∧ N en h) :
    WS (forZ gd g x ds en h) N R B C := by
  rw [forZ_eq]
  exact for_ruleL k st i0 fin
/-! comprehensions -/
@[irreducible] def compZ (gd : List (Nat × MO)) (g : XG) (t : XT) (m : XE) (en : En) (ds : List D) (h : Hd) : Out (List D) := compL gd g t m en ds h
theorem compZ_eq {gd : List (Nat × MO)} {g : XG} {t : XT} {m : XE} : compZ gd g t m en ds h = compL gd g t m en ds h := by unfold compZ; rfl
@[simp] theorem W_xComp {mi : XI} {g : XG} {t : XT} {m : XE} {own : List Nat} : W (xComp mi g t m own en h) Q ↔ W (mi en h) fun it h1 => W (compZ it.gd g t m (wipeE en own) it.ds h1) fun ys h2 => W (mkLst ys h2) Q := by unfold xComp; simp [compZ_eq]
theorem comp_ruleL {gd : List (Nat × MO)} {g : XG} {t : XT} {m : XE} {I : Nat → List D → Hd → Prop} : ∀ {ds : List D} (k : Nat) {acc : List D} {h : Hd} {QA : List D → Hd → Prop},
    (∀ i d acc h, ds[i]? = some d → I (k + i) acc h → gdOk gd h ∧ WS (g d en h) (fun en1 h1 => W (t en1 h1) fun b h2 => (b = true → W (m en1 h2) fun y h3 => I (k + i + 1) (acc ++ [y]) h3) ∧ (b = false → I (k + i + 1) acc h2)) (fun _ _ => False) NoE NoE) → I k acc h →
    (∀ ys h, I (k + ds.length) (acc ++ ys) h → gdOk gd h ∧ QA ys h) → W (compL gd g t m en ds h) QA
  | [], k, acc, h, QA, st, i0, fin => by
    unfold compL
    rw [W_iteF, W_ok]
    exact fin [] h (by simpa using i0)
  | d :: ds, k, acc, h, QA, st, i0, fin => by
    obtain ⟨g1, w1⟩ := st 0 d acc h rfl i0
    unfold compL
    rw [if_pos g1]
    have nxt : ∀ acc2 h2, I (k + 1) acc2 h2 → ∀ QA2 : List D → Hd → Prop, (∀ ys h, I (k + (d :: ds).length) (acc2 ++ ys) h → gdOk gd h ∧ QA2 ys h) → W (compL gd g t m en ds h2) QA2 := fun acc2 h2 i2 QA2 f2 =>
      comp_ruleL (k + 1) (fun i d acc h e z => by
        have := st (i + 1) d acc h (by simpa using e) (by rw [show k + (i + 1) = k + 1 + i by omega]; exact z)
        rw [show k + (i + 1) + 1 = k + 1 + i + 1 by omega] at this
        exact this) i2 fun ys h z => f2 ys h (by rw [List.length_cons, show k + (ds.length + 1) = k + 1 + ds.length by omega]; exact z)
    cases hg : g d en h with
    | nx en1 h1 =>
      rw [hg] at w1
      dsimp only
      have w2 : W (t en1 h1) fun b h2 => (b = true → W (m en1 h2) fun y h3 => I (k + 1) (acc ++ [y]) h3) ∧ (b = false → I (k + 1) acc h2) := by delta WS at w1; exact w1
      cases ht : t en1 h1 with
      | ok b h2 =>
        rw [ht] at w2
        have w3 : (b = true → W (m en1 h2) fun y h3 => I (k + 1) (acc ++ [y]) h3) ∧ (b = false → I (k + 1) acc h2) := by rw [W_ok] at w2; exact w2
        cases b with
        | false => exact nxt acc h2 (w3.2 rfl) QA fin
        | true =>
          have w4 := w3.1 rfl
          dsimp only
          cases hm : m en1 h2 with
          | ok y h3 =>
            rw [hm, W_ok] at w4
            have w5 := nxt (acc ++ [y]) h3 w4 (fun ys h => QA (y :: ys) h) (fun ys h z => fin (y :: ys) h (by simpa using z))
            dsimp only
            cases hc : compL gd g t m en ds h3 with
            | ok ys h4 => rw [hc] at w5; (first | exact w5 | (delta WS at w5 ⊢; exact w5) | (delta W at w5 ⊢; exact w5) | (delta W WS at w5 ⊢; exact w5) | (delta WS at w5; exact w5) | (delta W at w5; exact w5) | (delta W; exact w5) | (delta WS; exact w5))
            | fail => rw [hc] at w5; (first | (delta WS at w5; exact w5.elim) | (delta W at w5; exact w5.elim) | exact w5.elim)
            | exc c fs h4 => rw [hc] at w5; (first | (delta WS at w5; exact w5.elim) | (delta W at w5; exact w5.elim) | exact w5.elim)
          | fail => rw [hm] at w4; (first | (delta WS at w4; exact w4.elim) | (delta W at w4; exact w4.elim) | exact w4.elim)
          | exc c fs h3 => rw [hm] at w4; (first | (delta WS at w4; exact w4.elim) | (delta W at w4; exact w4.elim) | exact w4.elim)
      | fail => rw [ht] at w2; (first | (delta WS at w2; exact w2.elim) | (delta W at w2; exact w2.elim) | exact w2.elim)
      | exc c fs h3 => rw [ht] at w2; (first | (delta WS at w2; exact w2.elim) | (delta W at w2; exact w2.elim) | exact w2.elim)
    | rt d h1 => rw [hg] at w1; (first | (delta WS at w1; exact w1.elim) | (delta W at w1; exact w1.elim) | exact w1.elim)
    | bk en1 h1 => rw [hg] at w1; (first | (delta WS at w1; exact w1.elim) | (delta W at w1; exact w1.elim) | exact w1.elim)
    | ct en1 h1 => rw [hg] at w1; (first | (delta WS at w1; exact w1.elim) | (delta W at w1; exact w1.elim) | exact w1.elim)
    | fail => rw [hg] at w1; (first | (delta WS at w1; exact w1.elim) | (delta W at w1; exact w1.elim) | exact w1.elim)
    | exc c fs h2 => rw [hg] at w1; (first | (delta WS at w1; exact w1.elim) | (delta W at w1; exact w1.elim) | exact w1.elim)
theorem comp_rule {gd : List (Nat × MO)} {g : XG} {t : XT} {m : XE} {I : Nat → List D → Hd → Prop} {ds : List D} (k : Nat) {acc : List D} {h : Hd} {QA : List D → Hd → Prop}
    (st : ∀ i d acc h, ds[i]? = some d → I (k + i) acc h → gdOk gd h ∧ WS (g d en h) (fun en1 h1 => W (t en1 h1) fun b h2 => (b = true → W (m en1 h2) fun y h3 => I (k + i + 1) (acc ++ [y]) h3) ∧ (b = false → I (k + i + 1) acc h2)) (fun _ _ => False) NoE NoE) (i0 : I k acc h)
    (fin : ∀ ys h, I (k + ds.length) (acc ++ ys) h → gdOk gd h ∧ QA ys h) : W (compZ gd g t m en ds h) QA := by
  rw [compZ_eq]
  exact comp_ruleL k st i0 fin
@[simp] theorem W_yes {QB : Bool → Hd → Prop} : W (xYes en h) QB ↔ QB true h := by (first | exact Iff.rfl | (delta W; exact Iff.rfl) | (delta WS; exact Iff.rfl) | (delta W WS; exact Iff.rfl))
end
end Z
/-! text W2 -/
/-! W2: data as trees: repr, equality. -/
namespace Z
open PySem PySem.Spec PyProof.Rows L2
/-- no place in it: the tree does not hang on the heap -/
abbrev pd (d : D) : Option PyData := rfW (fun _ => none) d
abbrev pds (ds : List D) : Option (List PyData) := rfsW (fun _ => none) ds
mutual
theorem pd_rf {f : Nat → Option PyData} : ∀ {d : D} {p : PyData}, pd d = some p → rfW f d = some p
  | .non, _, e => e
  | .bl _, _, e => e
  | .int _, _, e => e
  | .str _, _, e => e
  | .tup ds, p, e => by
    have e : (pds ds).map PyData.tuple = some p := e
    obtain ⟨ps, h1, rfl⟩ := Option.map_eq_some_iff.mp e
    show (rfsW f ds).map PyData.tuple = _
    rw [pds_rf h1] <;> rfl
  | .fl ds, p, e => by
    have e : (pds ds).map PyData.list = some p := e
    obtain ⟨ps, h1, rfl⟩ := Option.map_eq_some_iff.mp e
    show (rfsW f ds).map PyData.list = _
    rw [pds_rf h1] <;> rfl
  | .ref _, _, e => by cases e
theorem pds_rf {f : Nat → Option PyData} : ∀ {ds : List D} {ps : List PyData}, pds ds = some ps → rfsW f ds = some ps
  | [], _, e => e
  | d :: ds, ps, e => by
    have e : (match pd d, pds ds with | some p, some ps => some (p :: ps) | _, _ => none) = some ps := e
    cases h1 : pd d with
    | none => rw [h1] at e; cases e
    | some p =>
      cases h2 : pds ds with
      | none => rw [h1, h2] at e; cases e
      | some qs =>
        rw [h1, h2] at e
        cases e
        show (match rfW f d, rfsW f ds with | some p, some ps => some (p :: ps) | _, _ => none) = _
        rw [pd_rf h1, pds_rf h2]
end
theorem rf_pd {h : Hd} {d : D} {p : PyData} (e : pd d = some p) : rf h d = some p := pd_rf e
theorem rf_lst {h : Hd} {n : Nat} {ds : List D} {ps : List PyData} (q : h[n]? = some (.lst ds)) (e : pds ds = some ps) : rf h (.ref n) = some (.list ps) := by
  show rfR 8 h n = _
  unfold rfR
  simp only [q, pds_rf e, Option.map_some]
theorem pds_of {α : Type} (f : α → D) (g : α → PyData) : ∀ {l : List α}, (∀ x ∈ l, pd (f x) = some (g x)) → pds (l.map f) = some (l.map g)
  | [], _ => rfl
  | x :: l, k => by
    have a := k x List.mem_cons_self
    have b := pds_of f g (l := l) fun y hy => k y (List.mem_cons_of_mem _ hy)
    show (match pd (f x), pds (l.map f) with | some p, some ps => some (p :: ps) | _, _ => none) = _
    rw [a, b]
    rfl
theorem pd_tup {ds : List D} {ps : List PyData} (e : pds ds = some ps) : pd (.tup ds) = some (.tuple ps) := by
  show (pds ds).map PyData.tuple = _
  rw [e] <;> rfl
/-- the size of a written tree -/
structure Sz (p : PyData) (dep len : Nat) : Prop where
  sh : p.showable = true
  nd : p.hasDict = false
  dp : p.depth ≤ dep
  ln : p.shown.length ≤ len
theorem Sz.le {p : PyData} {a b c d : Nat} (s : Sz p a b) (h1 : a ≤ c) (h2 : b ≤ d) : Sz p c d := ⟨s.sh, s.nd, Nat.le_trans s.dp h1, Nat.le_trans s.ln h2⟩
theorem Sz.non : Sz .none 0 4 := ⟨rfl, rfl, Nat.le_refl _, by decide +kernel⟩
theorem log2_lt {n k : Nat} (h : n < 2 ^ k) (hk : 0 < k) : n.log2 < k := by
  by_cases hn : n = 0
  · subst hn; simpa using hk
  · exact (Nat.log2_lt hn).mpr h
theorem Sz.int {i : Int} (h0 : 0 ≤ i) (h1 : i < 10 ^ 20) : Sz (.int i) 0 20 := by
  refine ⟨?_, rfl, Nat.le_refl _, toString_length_le h0 (by decide) h1⟩
  have : i.natAbs < 2 ^ 70 := by omega
  exact decide_eq_true (Nat.lt_of_lt_of_le (log2_lt this (by decide)) (by decide))
theorem piled_le {ts : List Str} {n : Nat} (h : ∀ t ∈ ts, t.length ≤ n) : piled ts ≤ ts.length * (n + 2) := by
  induction ts with
  | nil => exact Nat.zero_le _
  | cons t ts ih =>
    rw [piled_cons, List.length_cons, Nat.add_mul, Nat.one_mul]
    have a := h t List.mem_cons_self
    have b := ih fun x hx => h x (List.mem_cons_of_mem _ hx)
    omega
theorem shownAll_map : ∀ ps : List PyData, PyData.shownAll ps = ps.map PyData.shown
  | [] => rfl
  | p :: ps => by
    show _ :: PyData.shownAll ps = _
    rw [shownAll_map ps] <;> rfl
theorem all_sz {dep len : Nat} : ∀ {ps : List PyData}, (∀ p ∈ ps, Sz p dep len) → PyData.showableAll ps = true ∧ PyData.hasDictAll ps = false ∧ PyData.depthAll ps ≤ dep
  | [], _ => ⟨rfl, rfl, Nat.zero_le _⟩
  | p :: ps, h => by
    obtain ⟨a, b, c⟩ := all_sz fun x hx => h x (List.mem_cons_of_mem _ hx)
    obtain ⟨s, n, d, _⟩ := h p List.mem_cons_self
    refine ⟨?_, ?_, ?_⟩
    · show (p.showable && PyData.showableAll ps) = true
      rw [s, a] <;> rfl
    · show (p.hasDict || PyData.hasDictAll ps) = false
      rw [n, b] <;> rfl
    · exact Nat.max_le.mpr ⟨d, c⟩
theorem Sz.tup {dep len : Nat} {ps : List PyData} (h : ∀ p ∈ ps, Sz p dep len) : Sz (.tuple ps) (dep + 1) (ps.length * (len + 2) + 3) := by
  obtain ⟨a, b, c⟩ := all_sz h
  refine ⟨a, b, Nat.succ_le_succ c, ?_⟩
  show (tupleText (PyData.shownAll ps)).length ≤ _
  rw [shownAll_map]
  have z : piled (ps.map PyData.shown) ≤ ps.length * (len + 2) := by
    have := piled_le (ts := ps.map PyData.shown) (n := len) fun t ht => by
      obtain ⟨p, hp, rfl⟩ := List.mem_map.mp ht
      exact (h p hp).ln
    rwa [List.length_map] at this
  unfold tupleText
  rw [Str.length_append, Str.length_append]
  have j : (Str.join ", " (ps.map PyData.shown)).length ≤ piled (ps.map PyData.shown) := by
    by_cases hn : ps.map PyData.shown = []
    · rw [hn]; decide +kernel
    · have := join_length_add _ hn
      omega
  have e1 : (("(" : Str)).length = 1 := by decide +kernel
  have e2 : (Str.ofString (if ((ps.map PyData.shown).length == 1) = true then ",)" else ")")).length ≤ 2 := by split <;> decide +kernel
  omega
theorem text_le : ∀ (ts : List Str) (k : Nat) (acc : Str), (textFrom k acc ts).length ≤ acc.length + piled ts
  | [], k, acc => Nat.le_refl _
  | t :: r, k, acc => by
    have ih := text_le r (k + 1) (acc ++ (if k > 0 then ", " else "" : String) ++ t)
    rw [piled_cons]
    have e : (acc ++ (if k > 0 then ", " else "" : String) ++ t : Str).length ≤ acc.length + 2 + t.length := by
      rw [Str.length_append, Str.length_append]
      have : (Str.ofString (if k > 0 then ", " else "")).length ≤ 2 := by split <;> decide +kernel
      omega
    show (textFrom (k + 1) _ r).length ≤ _
    omega
theorem Sz.lst {dep len : Nat} {ps : List PyData} (h : ∀ p ∈ ps, Sz p dep len) : Sz (.list ps) (dep + 1) (ps.length * (len + 2) + 3) := by
  obtain ⟨a, b, c⟩ := all_sz h
  refine ⟨a, b, Nat.succ_le_succ c, ?_⟩
  show (listText (PyData.shownAll ps)).length ≤ _
  rw [shownAll_map]
  have z : piled (ps.map PyData.shown) ≤ ps.length * (len + 2) := by
    have := piled_le (ts := ps.map PyData.shown) (n := len) fun t ht => by
      obtain ⟨p, hp, rfl⟩ := List.mem_map.mp ht
      exact (h p hp).ln
    rwa [List.length_map] at this
  unfold listText
  rw [Str.length_append]
  have := text_le (ps.map PyData.shown) 0 "["
  have e1 : (("[" : Str)).length = 1 := by decide +kernel
  have e2 : (("]" : Str)).length = 1 := by decide +kernel
  omega
theorem W_repr {h : Hd} {d : D} {p : PyData} {a b : Nat} {Q : D → Hd → Prop} (e : rf h d = some p) (s : Sz p a b) (ha : a ≤ 64) (hb : b ≤ sizeLine) : W (dRepr [d] h) Q ↔ Q (.str p.shown) h := by
  unfold dRepr
  simp only [e]
  rw [if_pos ⟨s.sh, s.nd, Nat.le_trans s.dp ha, Nat.le_trans s.ln hb⟩]
  (first | exact Iff.rfl | (delta W; exact Iff.rfl) | (delta WS; exact Iff.rfl) | (delta W WS; exact Iff.rfl))
section
variable {en : En} {h : Hd} {N B C : En → Hd → Prop} {R : D → Hd → Prop} {d : D} {ds : List D} {n i : Nat} {g : XG} {gs : XGs}
@[simp] theorem WS_gsNil : WS (gsNil [] en h) N R B C ↔ N en h := by (first | exact Iff.rfl | (delta W; exact Iff.rfl) | (delta WS; exact Iff.rfl) | (delta W WS; exact Iff.rfl))
@[simp] theorem WS_gsCons : WS (gsCons g gs (d :: ds) en h) N R B C ↔ WS (g d en h) (fun en1 h1 => WS (gs ds en1 h1) N R B C) R B C := by
  show WS (match g d en h with | .nx en1 h1 => gs ds en1 h1 | o => o) N R B C ↔ _
  cases g d en h <;> (first | exact Iff.rfl | (delta W; exact Iff.rfl) | (delta WS; exact Iff.rfl) | (delta W WS; exact Iff.rfl))
@[simp] theorem WS_gRowT : WS (gRow n gs (.tup ds) en h) N R B C ↔ ds.length = n ∧ WS (gs ds en h) N R B C := by
  show WS (if ds.length = n then gs ds en h else .fail) N R B C ↔ _
  rw [WS_iteF]
theorem WS_gRowL {k : Nat} (q : h[k]? = some (.lst ds)) : WS (gRow n gs (.ref k) en h) N R B C ↔ ds.length = n ∧ WS (gs ds en h) N R B C := by
  have e : rowOf (.ref k) h = some ds := lstOf_at q
  unfold gRow
  simp only [e, WS_iteF]
@[simp] theorem WS_gStarT : WS (gStar n i gs (.tup ds) en h) N R B C ↔ (i < n ∧ n ≤ ds.length + 1 ∧ ds.length ≤ 16384) ∧ WS (gs (ds.take i ++ [.ref h.length] ++ (ds.drop i).drop (ds.length + 1 - n)) en (h ++ [.lst ((ds.drop i).take (ds.length + 1 - n))])) N R B C := by
  show WS (if _ then _ else _) N R B C ↔ _
  rw [WS_iteF]
@[simp] theorem W_compNil {gd : List (Nat × MO)} {t : XT} {m : XE} {QA : List D → Hd → Prop} : W (compZ gd g t m en [] h) QA ↔ gdOk gd h ∧ QA [] h := by
  rw [compZ_eq]
  unfold compL
  rw [W_iteF]
  (first | exact Iff.rfl | (delta W; exact Iff.rfl) | (delta WS; exact Iff.rfl) | (delta W WS; exact Iff.rfl))
@[simp] theorem W_compCons {gd : List (Nat × MO)} {t : XT} {m : XE} {QA : List D → Hd → Prop} : W (compZ gd g t m en (d :: ds) h) QA ↔ gdOk gd h ∧ WS (g d en h) (fun en1 h1 => W (t en1 h1) fun b h2 =>
    (b = true → W (m en1 h2) fun y h3 => W (compZ gd g t m en ds h3) fun ys h4 => QA (y :: ys) h4) ∧ (b = false → W (compZ gd g t m en ds h2) QA)) (fun _ _ => False) NoE NoE := by
  simp only [compZ_eq]
  rw [compL, W_iteF]
  refine and_congr_right fun _ => ?_
  cases g d en h with
  | nx en1 h1 =>
    rw [WS_nx]
    show W (match t en1 h1 with | .ok true h2 => _ | .ok false h2 => _ | _ => .fail) QA ↔ W (t en1 h1) _
    cases t en1 h1 with
    | ok b h2 =>
      cases b with
      | false => rw [W_ok]; simp
      | true =>
        show W (match m en1 h2 with | .ok y h3 => _ | _ => .fail) QA ↔ _
        simp only [W_ok, true_implies, reduceCtorEq, false_implies, and_true]
        cases m en1 h2 with
        | ok y h3 =>
          simp only [W_ok]
          cases compL gd g t m en ds h3 <;> (first | exact Iff.rfl | (delta W; exact Iff.rfl) | (delta WS; exact Iff.rfl) | (delta W WS; exact Iff.rfl))
        | _ => (first | exact Iff.rfl | (delta W; exact Iff.rfl) | (delta WS; exact Iff.rfl) | (delta W WS; exact Iff.rfl))
    | _ => (first | exact Iff.rfl | (delta W; exact Iff.rfl) | (delta WS; exact Iff.rfl) | (delta W WS; exact Iff.rfl))
  | _ => (first | exact Iff.rfl | (delta W; exact Iff.rfl) | (delta WS; exact Iff.rfl) | (delta W WS; exact Iff.rfl))
@[simp] theorem wipeE_nil : wipeE en [] = en := rfl
@[simp] theorem wipeE_cons {v : Nat} {vs : List Nat} : wipeE en (v :: vs) = (wipeE en vs).set v none := rfl
end
@[simp] theorem at_0 {α : Type} {x : α} {l : List α} : atI (x :: l) 0 = some x := by
  unfold atI ixN
  rw [if_pos (by decide), if_pos (by rw [List.length_cons]; omega)]
  rfl
@[simp] theorem at_1 {α : Type} {x y : α} {l : List α} : atI (x :: y :: l) 1 = some y := by
  unfold atI ixN
  rw [if_pos (by decide), if_pos (by rw [List.length_cons, List.length_cons]; omega)]
  rfl
@[simp] theorem at_2 {α : Type} {x y z : α} {l : List α} : atI (x :: y :: z :: l) 2 = some z := by
  unfold atI ixN
  rw [if_pos (by decide), if_pos (by simp only [List.length_cons]; omega)]
  rfl
@[simp] theorem at_3 {α : Type} {x y z w : α} {l : List α} : atI (x :: y :: z :: w :: l) 3 = some w := by
  unfold atI ixN
  rw [if_pos (by decide), if_pos (by simp only [List.length_cons]; omega)]
  rfl
@[simp] theorem at_4 {α : Type} {x y z w v : α} {l : List α} : atI (x :: y :: z :: w :: v :: l) 4 = some v := by
  unfold atI ixN
  rw [if_pos (by decide), if_pos (by simp only [List.length_cons]; omega)]
  rfl
end Z
/-! text R0 -/
/-! R0: recipes: rows, what they compute. -/
namespace Z
open PySem PySem.Spec PyProof.Rows L2
inductive Op7 where
  | add | sub | mul | div | mod | less | same
def Op7.nm : Op7 → Str
  | .add => "add"
  | .sub => "sub"
  | .mul => "mul"
  | .div => "div"
  | .mod => "mod"
  | .less => "less"
  | .same => "same"
def opv : Op7 → Int → Int → Int
  | .add, a, b => (a + b) % 1000000
  | .sub, a, b => (a - b) % 1000000
  | .mul, a, b => a * b % 1000000
  | .div, a, b => if b = 0 then 0 else a / b
  | .mod, a, b => if b = 0 then 0 else a % b
  | .less, a, b => if a < b then 1 else 0
  | .same, a, b => if a = b then 1 else 0
inductive Rw where
  | set (g : Nat) (w : Int)
  | load (g a : Nat)
  | cho (g t o e : Nat)
  | op (o : Op7) (g a b : Nat)
def Rw.d : Rw → D
  | .set g w => .tup [.str "set", .int g, .int w]
  | .load g a => .tup [.str "load", .int g, .int a]
  | .cho g t o e => .tup [.str "choose", .int g, .int t, .int o, .int e]
  | .op o g a b => .tup [.str o.nm, .int g, .int a, .int b]
def Rw.goal : Rw → Nat
  | .set g _ => g
  | .load g _ => g
  | .cho g _ _ _ => g
  | .op _ g _ _ => g
/-- a word -/
def Wd (i : Int) : Prop := 0 ≤ i ∧ i < 1000000
def Rw.ok (size : Nat) (kn : List Nat) : Rw → Prop
  | .set g w => g < 24 ∧ Wd w
  | .load g a => g < 24 ∧ a < size
  | .cho g t o e => g < 24 ∧ t ∈ kn ∧ o ∈ kn ∧ e ∈ kn
  | .op _ g a b => g < 24 ∧ a ∈ kn ∧ b ∈ kn
def rowsOk (size : Nat) : List Nat → List Rw → Prop
  | _, [] => True
  | kn, r :: rs => r.ok size kn ∧ rowsOk size (r.goal :: kn) rs
structure Rc where
  rows : List Rw
  res : Nat
def Rc.d (c : Rc) : D := .tup [.tup (c.rows.map Rw.d), .int c.res]
structure Rc.ok (size : Nat) (c : Rc) : Prop where
  rows : rowsOk size [] c.rows
  res : ∃ r ∈ c.rows, r.goal = c.res
def set1 (ρ : Nat → Int) (g : Nat) (v : Int) : Nat → Int := fun x => if x = g then v else ρ x
def Rw.run (st : List Int) (ρ : Nat → Int) : Rw → Nat → Int
  | .set g w => set1 ρ g w
  | .load g a => set1 ρ g (st.getD a 0)
  | .cho g t o e => set1 ρ g (if ρ t ≠ 0 then ρ o else ρ e)
  | .op o g a b => set1 ρ g (opv o (ρ a) (ρ b))
def runs (st : List Int) (rows : List Rw) (ρ : Nat → Int) : Nat → Int := rows.foldl (Rw.run st) ρ
def Rc.val (c : Rc) (st : List Int) : Int := runs st c.rows (fun _ => 0) c.res
def words (st : List Int) : D := .tup (st.map .int)
def nextW (cs : List Rc) (st : List Int) : List Int := if st.getD 0 0 ≠ 0 then st else cs.map fun c => c.val st
/-! ### words stay words -/
theorem opv_wd {o : Op7} {a b : Int} (ha : Wd a) (hb : Wd b) : Wd (opv o a b) := by
  obtain ⟨a0, a1⟩ := ha
  obtain ⟨b0, b1⟩ := hb
  have md : ∀ x : Int, Wd (x % 1000000) := fun x => ⟨Int.emod_nonneg _ (by decide), Int.emod_lt_of_pos _ (by decide)⟩
  cases o with
  | add => exact md _
  | sub => exact md _
  | mul => exact md _
  | div =>
    show Wd (if b = 0 then 0 else a / b)
    split
    · exact ⟨by decide, by decide⟩
    · exact ⟨Int.ediv_nonneg a0 b0, Int.lt_of_le_of_lt (Int.ediv_le_self _ a0) a1⟩
  | mod =>
    show Wd (if b = 0 then 0 else a % b)
    split
    · exact ⟨by decide, by decide⟩
    · rename_i h
      have h0 := Int.emod_nonneg a h
      have h1 := Int.emod_lt_of_pos a (show 0 < b by omega)
      exact ⟨h0, by omega⟩
  | less => show Wd (if a < b then 1 else 0); split <;> exact ⟨by decide, by decide⟩
  | same => show Wd (if a = b then 1 else 0); split <;> exact ⟨by decide, by decide⟩
/-- registers that are set are words -/
def RegOk (kn : List Nat) (ρ : Nat → Int) : Prop := ∀ g ∈ kn, Wd (ρ g)
theorem RegOk.set {kn : List Nat} {ρ : Nat → Int} (h : RegOk kn ρ) {g : Nat} {v : Int} (hv : Wd v) : RegOk (g :: kn) (set1 ρ g v) := fun x hx => by
  unfold set1
  split
  · exact hv
  · rename_i ne
    exact h x ((List.mem_cons.mp hx).resolve_left ne)
theorem getD_wd {st : List Int} (h : ∀ x ∈ st, Wd x) (a : Nat) : Wd (st.getD a 0) := by
  rw [List.getD_eq_getElem?_getD]
  cases e : st[a]? with
  | none => exact ⟨by decide, by decide⟩
  | some x => exact h x (List.mem_of_getElem? e)
theorem Rw.run_ok {st : List Int} {kn : List Nat} {ρ : Nat → Int} {r : Rw} {size : Nat} (hs : ∀ x ∈ st, Wd x) (h : RegOk kn ρ) (hr : r.ok size kn) : RegOk (r.goal :: kn) (r.run st ρ) := by
  cases r with
  | set g w => exact h.set hr.2
  | load g a => exact h.set (getD_wd hs a)
  | cho g t o e =>
    refine h.set ?_
    split
    · exact h o hr.2.2.1
    · exact h e hr.2.2.2
  | op o g a b => exact h.set (opv_wd (h a hr.2.1) (h b hr.2.2))
/-! ### dicts -/
theorem dlook_put {kvs : List (D × D)} {k v k' : D} : dlook (dput kvs k v) k' = if k' = k then some v else dlook kvs k' := by
  unfold dput
  split
  · rename_i hany
    induction kvs with
    | nil => cases hany
    | cons p kvs ih =>
      rw [List.map_cons]
      unfold dlook
      by_cases hp : p.1 = k
      · rw [if_pos hp]
        by_cases hk : k' = k
        · subst hk
          rw [List.find?_cons_of_pos (by simpa using hp), if_pos rfl]
          rfl
        · have ne : ¬ p.1 = k' := fun e => hk (e.symm.trans hp)
          rw [List.find?_cons_of_neg (by simpa using ne), List.find?_cons_of_neg (by simpa using ne), if_neg hk]
          have : ∀ l : List (D × D), ((l.map fun p => if p.1 = k then (p.1, v) else p).find? fun p => decide (p.1 = k')) = l.find? fun p => decide (p.1 = k') := by
            intro l
            induction l with
            | nil => rfl
            | cons q l ihl =>
              rw [List.map_cons]
              by_cases hq : q.1 = k
              · have nq : ¬ q.1 = k' := fun e => hk (e.symm.trans hq)
                rw [if_pos hq, List.find?_cons_of_neg (by simpa using nq), List.find?_cons_of_neg (by simpa using nq), ihl]
              · rw [if_neg hq]
                by_cases hq2 : q.1 = k'
                · rw [List.find?_cons_of_pos (by simpa using hq2), List.find?_cons_of_pos (by simpa using hq2)]
                · rw [List.find?_cons_of_neg (by simpa using hq2), List.find?_cons_of_neg (by simpa using hq2), ihl]
          rw [this]
      · rw [if_neg hp]
        have hany2 : (kvs.any fun p => decide (p.1 = k)) = true := by
          rw [List.any_cons] at hany
          simpa [hp] using hany
        by_cases hk : p.1 = k'
        · have ne : ¬ k' = k := fun e => hp (hk.trans e)
          rw [List.find?_cons_of_pos (by simpa using hk), List.find?_cons_of_pos (by simpa using hk), if_neg ne]
        · rw [List.find?_cons_of_neg (by simpa using hk), List.find?_cons_of_neg (by simpa using hk)]
          exact ih hany2
  · rename_i hany
    unfold dlook
    rw [List.find?_append]
    by_cases hk : k' = k
    · subst hk
      have : (kvs.find? fun p => decide (p.1 = k')) = none := by
        rw [List.find?_eq_none]
        intro p hp hq
        exact hany (List.any_eq_true.mpr ⟨p, hp, hq⟩)
      rw [this, if_pos rfl]
      simp
    · rw [if_neg hk]
      have ne : ¬ k = k' := fun e => hk e.symm
      simp [ne]
theorem length_dput {kvs : List (D × D)} {k v : D} : (dput kvs k v).length ≤ kvs.length + 1 := by
  unfold dput
  split
  · rw [List.length_map]; omega
  · rw [List.length_append]; exact Nat.le_refl _
/-- the registers as a dict -/
def Regs (kvs : List (D × D)) (kn : List Nat) (ρ : Nat → Int) : Prop := ∀ g ∈ kn, dlook kvs (.int g) = some (.int (ρ g))
theorem Regs.put {kvs : List (D × D)} {kn : List Nat} {ρ : Nat → Int} (h : Regs kvs kn ρ) (g : Nat) (v : Int) : Regs (dput kvs (.int g) (.int v)) (g :: kn) (set1 ρ g v) := fun x hx => by
  rw [dlook_put]
  unfold set1
  by_cases e : x = g
  · subst e
    rw [if_pos rfl, if_pos rfl]
  · have ne : ¬ D.int (x : Int) = D.int (g : Int) := fun z => e (by injection z with z; exact Int.ofNat.inj z)
    rw [if_neg ne, if_neg e]
    exact h x ((List.mem_cons.mp hx).resolve_left e)
/-- goals of rows, the last one first -/
def goals (kn : List Nat) (rows : List Rw) : List Nat := rows.foldl (fun k r => r.goal :: k) kn
theorem rowsOk_at {size : Nat} : ∀ {rows : List Rw} {kn : List Nat} {i : Nat} {r : Rw}, rowsOk size kn rows → rows[i]? = some r → r.ok size (goals kn (rows.take i))
  | [], _, _, _, _, e => by cases e
  | q :: rows, kn, 0, r, h, e => by cases e; exact h.1
  | q :: rows, kn, i + 1, r, h, e => rowsOk_at (rows := rows) (kn := q.goal :: kn) h.2 (by simpa using e)
theorem take_next {α : Type} {l : List α} {i : Nat} {x : α} (e : l[i]? = some x) : l.take (i + 1) = l.take i ++ [x] := by
  rw [List.take_succ, e]
  rfl
theorem goals_next {kn : List Nat} {rows : List Rw} {i : Nat} {r : Rw} (e : rows[i]? = some r) : goals kn (rows.take (i + 1)) = r.goal :: goals kn (rows.take i) := by
  unfold goals
  rw [take_next e, List.foldl_append]
  rfl
theorem runs_next {st : List Int} {ρ : Nat → Int} {rows : List Rw} {i : Nat} {r : Rw} (e : rows[i]? = some r) : runs st (rows.take (i + 1)) ρ = r.run st (runs st (rows.take i) ρ) := by
  unfold runs
  rw [take_next e, List.foldl_append]
  rfl
theorem goals_mem {rows : List Rw} : ∀ {kn : List Nat} {g : Nat}, g ∈ goals kn rows ↔ g ∈ kn ∨ ∃ r ∈ rows, r.goal = g := by
  induction rows with
  | nil => intro kn g; simp [goals]
  | cons q rows ih =>
    intro kn g
    show g ∈ goals (q.goal :: kn) rows ↔ _
    rw [ih]
    simp only [List.mem_cons]
    constructor
    · rintro ((rfl | h) | ⟨r, hr, e⟩)
      · exact .inr ⟨q, .inl rfl, rfl⟩
      · exact .inl h
      · exact .inr ⟨r, .inr hr, e⟩
    · rintro (h | ⟨r, rfl | hr, e⟩)
      · exact .inl (.inr h)
      · exact .inl (.inl e.symm)
      · exact .inr ⟨r, hr, e⟩
theorem regs_ok {st : List Int} {size : Nat} {rows : List Rw} (hs : ∀ x ∈ st, Wd x) (h : rowsOk size [] rows) : ∀ i, i ≤ rows.length → RegOk (goals [] (rows.take i)) (runs st (rows.take i) fun _ => 0)
  | 0, _ => fun _ hg => by simp [goals] at hg
  | i + 1, hi => by
    have e := List.getElem?_eq_getElem (show i < rows.length from hi)
    rw [goals_next e, runs_next e]
    exact Rw.run_ok hs (regs_ok hs h i (by omega)) (rowsOk_at h e)
theorem val_wd {c : Rc} {st : List Int} {size : Nat} (hs : ∀ x ∈ st, Wd x) (h : c.ok size) : Wd (c.val st) := by
  have := regs_ok hs h.rows c.rows.length (Nat.le_refl _)
  rw [List.take_length] at this
  exact this _ (goals_mem.mpr (.inr h.res))
end Z
/-! text S0 -/
/-! S0: sums of recipes. -/
namespace Z
open PySem PySem.Spec PyProof.Rows L2
def Rw.mv (b : Nat) : Rw → Rw
  | .load g a => .load g (a + b)
  | r => r
theorem Rw.mv_goal (b : Nat) (r : Rw) : (r.mv b).goal = r.goal := by cases r <;> rfl
theorem getD_drop {st : List Int} {a b : Nat} : (st.drop b).getD a 0 = st.getD (a + b) 0 := by
  rw [List.getD_eq_getElem?_getD, List.getD_eq_getElem?_getD, List.getElem?_drop, Nat.add_comm]
theorem mv_run (st : List Int) (b : Nat) (ρ : Nat → Int) (r : Rw) : (r.mv b).run st ρ = r.run (st.drop b) ρ := by
  cases r with
  | load g a =>
    show set1 ρ g _ = set1 ρ g _
    rw [getD_drop]
  | _ => rfl
theorem mv_runs (st : List Int) (b : Nat) : ∀ (rows : List Rw) (ρ : Nat → Int), runs st (rows.map (Rw.mv b)) ρ = runs (st.drop b) rows ρ
  | [], _ => rfl
  | r :: rows, ρ => by
    show runs st (rows.map (Rw.mv b)) ((r.mv b).run st ρ) = runs (st.drop b) rows (r.run (st.drop b) ρ)
    rw [mv_run]
    exact mv_runs st b rows _
theorem runs_congr {size : Nat} {st st' : List Int} (h : ∀ a, a < size → st.getD a 0 = st'.getD a 0) : ∀ {rows : List Rw} {kn : List Nat} {ρ : Nat → Int}, rowsOk size kn rows → runs st rows ρ = runs st' rows ρ
  | [], _, _, _ => rfl
  | r :: rows, kn, ρ, o => by
    show runs st rows (r.run st ρ) = runs st' rows (r.run st' ρ)
    have : r.run st ρ = r.run st' ρ := by
      cases r with
      | load g a =>
        show set1 ρ g _ = set1 ρ g _
        rw [h a o.1.2]
      | _ => rfl
    rw [this]
    exact runs_congr h o.2
theorem val_congr {size : Nat} {st st' : List Int} {c : Rc} (h : ∀ a, a < size → st.getD a 0 = st'.getD a 0) (o : c.ok size) : c.val st = c.val st' := by
  unfold Rc.val
  rw [runs_congr h o.rows]
/-- the registers for what is kept and for done -/
def keep1 (r : Nat) : Nat := if r = 0 then 1 else 0
def keep2 (r : Nat) : Nat := if r ≤ 1 then 2 else 1
theorem keeps_of (r : Nat) : keep1 r ≠ r ∧ keep2 r ≠ r ∧ keep1 r ≠ keep2 r ∧ keep1 r < 24 ∧ keep2 r < 24 := by
  unfold keep1 keep2
  refine ⟨?_, ?_, ?_, ?_, ?_⟩ <;> (repeat' split) <;> omega
def partRc (c : Rc) (b i : Nat) : Rc := ⟨c.rows.map (Rw.mv b) ++ [.load (keep1 c.res) (b + i), .load (keep2 c.res) b, .cho c.res (keep2 c.res) (keep1 c.res) c.res], c.res⟩
theorem part_val {c : Rc} {b i : Nat} {st : List Int} : (partRc c b i).val st = if (st.drop b).getD 0 0 ≠ 0 then (st.drop b).getD i 0 else c.val (st.drop b) := by
  obtain ⟨k1, k2, k3, _, _⟩ := keeps_of c.res
  unfold Rc.val partRc runs
  rw [List.foldl_append]
  show (Rw.run st (Rw.run st (Rw.run st (runs st (c.rows.map (Rw.mv b)) fun _ => 0) (.load (keep1 c.res) (b + i))) (.load (keep2 c.res) b)) (.cho c.res (keep2 c.res) (keep1 c.res) c.res)) c.res = _
  rw [mv_runs]
  generalize hρ : runs (st.drop b) c.rows (fun _ => 0) = ρ
  rw [getD_drop, getD_drop]
  show set1 _ c.res _ c.res = if st.getD (0 + b) 0 ≠ 0 then st.getD (i + b) 0 else _
  rw [Nat.add_comm i b, Nat.zero_add]
  unfold runs at hρ
  rw [hρ]
  simp only [Rw.run, set1, if_true, if_neg k3, if_neg k1.symm, if_neg k2.symm, if_neg k1, if_neg k2, Ne.symm k3, if_neg (Ne.symm k3)]
theorem rowsOk_append {size : Nat} : ∀ {as bs : List Rw} {kn : List Nat}, rowsOk size kn as → rowsOk size (goals kn as) bs → rowsOk size kn (as ++ bs)
  | [], _, _, _, b => b
  | r :: as, bs, kn, a, b => ⟨a.1, rowsOk_append (as := as) a.2 b⟩
theorem goals_mv (b : Nat) : ∀ (rows : List Rw) (kn : List Nat), goals kn (rows.map (Rw.mv b)) = goals kn rows
  | [], _ => rfl
  | r :: rows, kn => by
    show goals ((r.mv b).goal :: kn) (rows.map (Rw.mv b)) = goals (r.goal :: kn) rows
    rw [Rw.mv_goal]
    exact goals_mv b rows _
theorem mv_ok {size big b : Nat} (hb : size + b ≤ big) : ∀ {rows : List Rw} {kn : List Nat}, rowsOk size kn rows → rowsOk big kn (rows.map (Rw.mv b))
  | [], _, _ => trivial
  | r :: rows, kn, o => by
    refine ⟨?_, ?_⟩
    · cases r with
      | load g a => exact ⟨o.1.1, by have := o.1.2; show a + b < big; omega⟩
      | _ => exact o.1
    · show rowsOk big ((r.mv b).goal :: kn) (rows.map (Rw.mv b))
      rw [Rw.mv_goal]
      exact mv_ok hb o.2
theorem res_lt {c : Rc} {size : Nat} (o : c.ok size) : c.res < 24 := by
  have all : ∀ {rows : List Rw} {kn : List Nat}, rowsOk size kn rows → ∀ r ∈ rows, r.goal < 24 := by
    intro rows
    induction rows with
    | nil => intro kn _ r hr; cases hr
    | cons q rows ih =>
      intro kn o r hr
      rcases List.mem_cons.mp hr with rfl | hr
      · cases r <;> exact o.1.1
      · exact ih o.2 r hr
  obtain ⟨r, hr, e⟩ := o.res
  rw [← e]
  exact all o.rows r hr
theorem part_ok {c : Rc} {size big b i : Nat} (o : c.ok size) (hi : i < size) (hb : size + b ≤ big) : (partRc c b i).ok big := by
  obtain ⟨k1, k2, k3, k4, k5⟩ := keeps_of c.res
  refine ⟨rowsOk_append (mv_ok hb o.rows) ?_, ⟨.cho c.res (keep2 c.res) (keep1 c.res) c.res, by unfold partRc; simp, rfl⟩⟩
  rw [goals_mv]
  have m : c.res ∈ goals [] c.rows := goals_mem.mpr (.inr o.res)
  refine ⟨⟨k4, by show b + i < big; omega⟩, ⟨k5, by show b < big; omega⟩, ⟨res_lt o, ?_, ?_, ?_⟩, trivial⟩
  · exact List.mem_cons_self
  · exact List.mem_cons_of_mem _ List.mem_cons_self
  · exact List.mem_cons_of_mem _ (List.mem_cons_of_mem _ m)
def partRcs (cs : List Rc) (b : Nat) : List Rc := cs.mapIdx fun i c => partRc c b i
def bothRc (f s : Nat) : Rc := ⟨[.load 0 f, .load 1 s, .set 2 0, .set 3 1, .cho 1 1 3 2, .cho 0 0 1 2], 0⟩
theorem both_val {f s : Nat} {st : List Int} : (bothRc f s).val st = if st.getD f 0 ≠ 0 ∧ st.getD s 0 ≠ 0 then 1 else 0 := by
  unfold Rc.val bothRc runs
  simp only [List.foldl, Rw.run, set1]
  generalize st.getD f 0 = x
  generalize st.getD s 0 = y
  by_cases h1 : x = 0 <;> by_cases h2 : y = 0 <;> simp [h1, h2]
theorem both_ok {f s size : Nat} (h1 : f < size) (h2 : s < size) : (bothRc f s).ok size := by
  refine ⟨⟨⟨by decide, h1⟩, ⟨by decide, h2⟩, ⟨by decide, by decide, by decide⟩, ⟨by decide, by decide, by decide⟩, ⟨by decide, ?_, ?_, ?_⟩, ⟨by decide, ?_, ?_, ?_⟩, trivial⟩, ⟨_, List.mem_cons_self, rfl⟩⟩ <;> simp [Rw.goal]
def sumRc (a b : List Rc) : List Rc := bothRc 1 (1 + a.length) :: (partRcs a 1 ++ partRcs b (1 + a.length))
theorem partRcs_len {cs : List Rc} {b : Nat} : (partRcs cs b).length = cs.length := by unfold partRcs; simp
theorem sum_len {a b : List Rc} : (sumRc a b).length = 1 + a.length + b.length := by
  unfold sumRc
  simp [partRcs_len]
  omega
theorem mem_partRcs {cs : List Rc} {b : Nat} {c : Rc} (h : c ∈ partRcs cs b) : ∃ i c', cs[i]? = some c' ∧ c = partRc c' b i := by
  unfold partRcs at h
  obtain ⟨i, hi⟩ := List.mem_iff_getElem?.mp h
  rw [List.getElem?_mapIdx] at hi
  obtain ⟨c', h1, rfl⟩ := Option.map_eq_some_iff.mp hi
  exact ⟨i, c', h1, rfl⟩
theorem sum_ok {a b : List Rc} {m : Nat} (h0 : a ≠ []) (h1 : b ≠ []) (ha : ∀ c ∈ a, c.ok a.length ∧ c.rows.length ≤ m) (hb : ∀ c ∈ b, c.ok b.length ∧ c.rows.length ≤ m) (hm : 3 ≤ m) : ∀ c ∈ sumRc a b, c.ok (sumRc a b).length ∧ c.rows.length ≤ m + 3 := by
  intro c hc
  have la := List.length_pos_iff.mpr h0
  have lb := List.length_pos_iff.mpr h1
  rw [sum_len]
  have pl : ∀ (c' : Rc) (b i : Nat), (partRc c' b i).rows.length = c'.rows.length + 3 := fun c' b i => by unfold partRc; simp
  rcases List.mem_cons.mp hc with rfl | hc
  · exact ⟨both_ok (by omega) (by omega), by show 6 ≤ _; omega⟩
  · rcases List.mem_append.mp hc with hc | hc
    · obtain ⟨i, c', hi, rfl⟩ := mem_partRcs hc
      have il := (List.getElem?_eq_some_iff.mp hi).1
      obtain ⟨o, l⟩ := ha c' (List.mem_of_getElem? hi)
      exact ⟨part_ok o il (by omega), by rw [pl]; omega⟩
    · obtain ⟨i, c', hi, rfl⟩ := mem_partRcs hc
      have il := (List.getElem?_eq_some_iff.mp hi).1
      obtain ⟨o, l⟩ := hb c' (List.mem_of_getElem? hi)
      exact ⟨part_ok o il (by omega), by rw [pl]; omega⟩
/-- the next state of a sum of two -/
def dueSum (a b : List Rc) (st : List Int) : List Int :=
  if st.getD 0 0 ≠ 0 then st else
    (if ((st.drop 1).take a.length).getD 0 0 ≠ 0 ∧ (st.drop (1 + a.length)).getD 0 0 ≠ 0 then 1 else 0) :: (nextW a ((st.drop 1).take a.length) ++ nextW b (st.drop (1 + a.length)))
theorem part_next {cs : List Rc} {b : Nat} {st st' : List Int} (hl : st'.length = cs.length) (hs : ∀ a, a < cs.length → (st.drop b).getD a 0 = st'.getD a 0) (ok : ∀ c ∈ cs, c.ok cs.length) (h0 : cs ≠ []) :
    (partRcs cs b).map (fun c => c.val st) = nextW cs st' := by
  have lp := List.length_pos_iff.mpr h0
  apply List.ext_getElem?
  intro i
  unfold partRcs nextW
  rw [List.getElem?_map, List.getElem?_mapIdx]
  cases hi : cs[i]? with
  | none =>
    have : cs.length ≤ i := List.getElem?_eq_none_iff.mp hi
    split
    · exact (List.getElem?_eq_none (by omega)).symm
    · rw [List.getElem?_map, hi]; rfl
  | some c =>
    have il := (List.getElem?_eq_some_iff.mp hi).1
    simp only [Option.map_some]
    rw [part_val, hs 0 lp, hs i il]
    split
    · rw [List.getD_eq_getElem?_getD, List.getElem?_eq_getElem (by omega)]
      rfl
    · rw [List.getElem?_map, hi, val_congr (size := cs.length) hs (ok c (List.mem_of_getElem? hi))]
      rfl
theorem sum_next {a b : List Rc} {st : List Int} (hl : st.length = 1 + a.length + b.length) (ha : ∀ c ∈ a, c.ok a.length) (hb : ∀ c ∈ b, c.ok b.length) (h0 : a ≠ []) (h1 : b ≠ []) : nextW (sumRc a b) st = dueSum a b st := by
  unfold nextW dueSum
  by_cases hd : st.getD 0 0 ≠ 0
  · rw [if_pos hd, if_pos hd]
  · rw [if_neg hd, if_neg hd]
    have la := List.length_pos_iff.mpr h0
    have tk : ∀ i, i < a.length → ((st.drop 1).take a.length).getD i 0 = (st.drop 1).getD i 0 := fun i hi => by
      rw [List.getD_eq_getElem?_getD, List.getD_eq_getElem?_getD, List.getElem?_take_of_lt hi]
    unfold sumRc
    rw [List.map_cons, List.map_append, both_val, part_next (st' := (st.drop 1).take a.length) (by simp; omega) (fun i hi => (tk i hi).symm) ha h0,
      part_next (st' := st.drop (1 + a.length)) (by simp; omega) (fun i hi => rfl) hb h1, tk 0 la, getD_drop, getD_drop]
    simp only [Nat.zero_add]
theorem nextW_len {cs : List Rc} {st : List Int} (h : st.length = cs.length) : (nextW cs st).length = cs.length := by
  unfold nextW
  split
  · exact h
  · simp
end Z
/-! text W3 -/
/-! W3: and, or, not as values; chains; isinstance; in. -/
namespace Z
open PySem PySem.Spec PyProof.Rows L2
/-- a bool decides -/
def BoolIs (x : D) (t f : Prop) : Prop := match x with
  | .bl true => t
  | .bl false => f
  | _ => False
@[simp] theorem boolIs {b : Bool} {t f : Prop} : BoolIs (.bl b) t f ↔ (b = true → t) ∧ (b = false → f) := by cases b <;> simp [BoolIs]
section
variable {en : En} {h : Hd} {a b c : XE} {Q : D → Hd → Prop} {d : D} {ds : List D} {f g : D → D → Hd → Out D} {T : String} {n : Nat}
@[simp] theorem W_xAndV : W (xAndV a b en h) Q ↔ W (a en h) fun x h1 => BoolIs x (W (b en h1) Q) (Q (.bl false) h1) := by
  unfold xAndV
  rw [W_bind]
  cases a en h with
  | ok x h1 =>
    simp only [W_ok]
    cases x with
    | bl z => cases z <;> (first | exact Iff.rfl | (delta W; exact Iff.rfl) | (delta WS; exact Iff.rfl) | (delta W WS; exact Iff.rfl))
    | _ => (first | exact Iff.rfl | (delta W; exact Iff.rfl) | (delta WS; exact Iff.rfl) | (delta W WS; exact Iff.rfl))
  | _ => (first | exact Iff.rfl | (delta W; exact Iff.rfl) | (delta WS; exact Iff.rfl) | (delta W WS; exact Iff.rfl))
@[simp] theorem W_xOrV : W (xOrV a b en h) Q ↔ W (a en h) fun x h1 => BoolIs x (Q (.bl true) h1) (W (b en h1) Q) := by
  unfold xOrV
  rw [W_bind]
  cases a en h with
  | ok x h1 =>
    simp only [W_ok]
    cases x with
    | bl z => cases z <;> (first | exact Iff.rfl | (delta W; exact Iff.rfl) | (delta WS; exact Iff.rfl) | (delta W WS; exact Iff.rfl))
    | _ => (first | exact Iff.rfl | (delta W; exact Iff.rfl) | (delta WS; exact Iff.rfl) | (delta W WS; exact Iff.rfl))
  | _ => (first | exact Iff.rfl | (delta W; exact Iff.rfl) | (delta WS; exact Iff.rfl) | (delta W WS; exact Iff.rfl))
@[simp] theorem W_xNotV : W (xNotV a en h) Q ↔ W (a en h) fun x h1 => BoolIs x (Q (.bl false) h1) (Q (.bl true) h1) := by
  unfold xNotV
  rw [W_bind]
  cases a en h with
  | ok x h1 =>
    simp only [W_ok]
    cases x with
    | bl z => cases z <;> (first | exact Iff.rfl | (delta W; exact Iff.rfl) | (delta WS; exact Iff.rfl) | (delta W WS; exact Iff.rfl))
    | _ => (first | exact Iff.rfl | (delta W; exact Iff.rfl) | (delta WS; exact Iff.rfl) | (delta W WS; exact Iff.rfl))
  | _ => (first | exact Iff.rfl | (delta W; exact Iff.rfl) | (delta WS; exact Iff.rfl) | (delta W WS; exact Iff.rfl))
@[simp] theorem W_xChain : W (xChain f g a b c en h) Q ↔ W (a en h) fun x h1 => W (b en h1) fun y h2 => W (f x y h2) fun z h3 => BoolIs z (W (c en h3) fun w h4 => W (g y w h4) Q) (Q (.bl false) h3) := by
  unfold xChain
  simp only [W_bind]
  cases a en h with
  | ok x h1 =>
    simp only [W_ok]
    cases b en h1 with
    | ok y h2 =>
      simp only [W_ok]
      cases f x y h2 with
      | ok z h3 =>
        simp only [W_ok]
        cases z with
        | bl v => cases v <;> first | (first | exact Iff.rfl | (delta W; exact Iff.rfl) | (delta WS; exact Iff.rfl) | (delta W WS; exact Iff.rfl)) | exact W_bind
        | _ => (first | exact Iff.rfl | (delta W; exact Iff.rfl) | (delta WS; exact Iff.rfl) | (delta W WS; exact Iff.rfl))
      | _ => (first | exact Iff.rfl | (delta W; exact Iff.rfl) | (delta WS; exact Iff.rfl) | (delta W WS; exact Iff.rfl))
    | _ => (first | exact Iff.rfl | (delta W; exact Iff.rfl) | (delta WS; exact Iff.rfl) | (delta W WS; exact Iff.rfl))
  | _ => (first | exact Iff.rfl | (delta W; exact Iff.rfl) | (delta WS; exact Iff.rfl) | (delta W WS; exact Iff.rfl))
theorem W_isi {k : String} (e : kindOf d h = some k) (hT : T ∈ ["int", "bool", "str", "tuple", "list", "dict"]) : W (isiD T d h) Q ↔ Q (.bl (isTy k T)) h := by
  unfold isiD
  simp only [e]
  rw [if_pos hT]
  (first | exact Iff.rfl | (delta W; exact Iff.rfl) | (delta WS; exact Iff.rfl) | (delta W WS; exact Iff.rfl))
@[simp] theorem isi_intI {i : Int} : W (isiD "int" (.int i) h) Q ↔ Q (.bl true) h := W_isi (k := "int") rfl (by decide)
@[simp] theorem isi_boolI {i : Int} : W (isiD "bool" (.int i) h) Q ↔ Q (.bl false) h := W_isi (k := "int") rfl (by decide)
@[simp] theorem isi_strS {i : Str} : W (isiD "str" (.str i) h) Q ↔ Q (.bl true) h := W_isi (k := "str") rfl (by decide)
@[simp] theorem isi_tupT : W (isiD "tuple" (.tup ds) h) Q ↔ Q (.bl true) h := W_isi (k := "tuple") rfl (by decide)
/-! in -/
@[simp] theorem flat_str {s : Str} : flatD (.str s) = true := of_eq_true (eq_self true)
@[simp] theorem flat_int {i : Int} : flatD (.int i) = true := of_eq_true (eq_self true)
@[simp] theorem eqF_str {s t : Str} : eqF (.str s) (.str t) = decide (s = t) := by
  show (s == t) = _
  by_cases e : s = t <;> simp [e]
@[simp] theorem eqF_int {s t : Int} : eqF (.int s) (.int t) = decide (s = t) := rfl
theorem W_inTup (hf : flatD d = true) (ha : ds.all flatD = true) : W (dInX d (.tup ds) h) Q ↔ Q (.bl (ds.any fun y => eqF y d)) h := by
  have : inD d (.tup ds) h = some (ds.any fun y => eqF y d) := by
    show inSeq d ds h = _
    unfold inSeq
    rw [if_pos ⟨hf, ha⟩]
  unfold dInX
  simp [this]
theorem W_inLst (q : h[n]? = some (.lst ds)) (hf : flatD d = true) (ha : ds.all flatD = true) : W (dInX d (.ref n) h) Q ↔ Q (.bl (ds.any fun y => eqF y d)) h := by
  have : inD d (.ref n) h = some (ds.any fun y => eqF y d) := by
    unfold inD
    simp only [seqOf_at q]
    unfold inSeq
    rw [if_pos ⟨hf, ha⟩]
  unfold dInX
  simp [this]
theorem W_ninLst (q : h[n]? = some (.lst ds)) (hf : flatD d = true) (ha : ds.all flatD = true) : W (dNotInX d (.ref n) h) Q ↔ Q (.bl (!(ds.any fun y => eqF y d))) h := by
  have : inD d (.ref n) h = some (ds.any fun y => eqF y d) := by
    unfold inD
    simp only [seqOf_at q]
    unfold inSeq
    rw [if_pos ⟨hf, ha⟩]
  unfold dNotInX
  simp [this]
theorem W_inDic {kvs : List (D × D)} (q : h[n]? = some (.dic kvs)) (hk : (keyD d).isSome = true) : W (dInX d (.ref n) h) Q ↔ Q (.bl (dlook kvs d).isSome) h := by
  have : inD d (.ref n) h = some (dlook kvs d).isSome := by
    unfold inD seqOf
    simp only [q]
    rw [if_pos hk]
  unfold dInX
  simp [this]
theorem bls_map : ∀ bs : List Bool, blsOf (bs.map D.bl) = some bs
  | [] => rfl
  | b :: bs => by
    show (blsOf (bs.map D.bl)).map _ = _
    rw [bls_map bs]
    rfl
theorem W_all {bs : List Bool} (q : h[n]? = some (.lst (bs.map D.bl))) : W (dAll [.ref n] h) Q ↔ Q (.bl (bs.all id)) h := by
  unfold dAll
  simp [lstOf_at q, bls_map]
theorem W_any {bs : List Bool} (q : h[n]? = some (.lst (bs.map D.bl))) : W (dAny [.ref n] h) Q ↔ Q (.bl (bs.any id)) h := by
  unfold dAny
  simp [lstOf_at q, bls_map]
@[simp] theorem W_isNotB {x y : Bool} : W (dIsNot (.bl x) (.bl y) h) Q ↔ Q (.bl (!decide (x = y))) h := by (first | exact Iff.rfl | (delta W; exact Iff.rfl) | (delta WS; exact Iff.rfl) | (delta W WS; exact Iff.rfl))
@[simp] theorem W_isB {x y : Bool} : W (dIs (.bl x) (.bl y) h) Q ↔ Q (.bl (decide (x = y))) h := by (first | exact Iff.rfl | (delta W; exact Iff.rfl) | (delta WS; exact Iff.rfl) | (delta W WS; exact Iff.rfl))
end
section
variable {en : En} {h : Hd} {a b : XE} {Q : D → Hd → Prop} {QP : List (D × D) → Hd → Prop} {m : XPs}
@[simp] theorem W_xDisp : W (xDisp m en h) Q ↔ W (m en (h ++ [.dic []])) fun ps h1 => W (pairD h.length ps h1) Q := by unfold xDisp; simp
@[simp] theorem W_pNil : W (pNil en h) QP ↔ QP [] h := by (first | exact Iff.rfl | (delta W; exact Iff.rfl) | (delta WS; exact Iff.rfl) | (delta W WS; exact Iff.rfl))
@[simp] theorem W_pCons : W (pCons a b m en h) QP ↔ W (a en h) fun x h1 => W (b en h1) fun y h2 => W (m en h2) fun ps h3 => QP ((x, y) :: ps) h3 := by unfold pCons; simp
theorem W_pairD {n : Nat} {ps : List (D × D)} (q : h[n]? = some (.dic [])) (hk : (ps.all fun p => (keyD p.1).isSome) = true) (hl : ps.length ≤ 15) : W (pairD n ps h) Q ↔ Q (.ref n) (h.set n (.dic (ps.foldl (fun a p => dput a p.1 p.2) []))) := by
  unfold pairD
  rw [if_pos ⟨q, hk, hl⟩]
  (first | exact Iff.rfl | (delta W; exact Iff.rfl) | (delta WS; exact Iff.rfl) | (delta W WS; exact Iff.rfl))
@[simp] theorem W_xDic0 : W (xDic0 en h) Q ↔ Q (.ref h.length) (h ++ [.dic []]) := by (first | exact Iff.rfl | (delta W; exact Iff.rfl) | (delta WS; exact Iff.rfl) | (delta W WS; exact Iff.rfl))
end
end Z
/-! text W4 -/
/-! W4: lists of ints; the source of draws. -/
namespace Z
open PySem PySem.Spec PyProof.Rows L2
theorem rf_ints {h : Hd} {c : Nat} {cs : List Int} (hc : h[c]? = some (.lst (cs.map D.int))) : rf h (.ref c) = some (.list (cs.map PyData.int)) := by
  have : ∀ (f : Nat → Option PyData) (l : List Int), rfsW f (l.map D.int) = some (l.map PyData.int) := by
    intro f l
    induction l with
    | nil => rfl
    | cons i l ih => simp [rfsW, rfW, ih]
  show rfR 8 h c = _
  unfold rfR
  simp only [hc, this, Option.map_some]
theorem shaped_ints (cs : List Int) : SeqAt.shaped (.list (cs.map PyData.int)) = true := by
  have a : ∀ l : List Int, PyData.canLayAll0 (l.map PyData.int) = true := fun l => by
    induction l with
    | nil => rfl
    | cons i l ih => simp [PyData.canLayAll0, PyData.canLay0, ih]
  have b : ∀ l : List Int, PyData.depthAll (l.map PyData.int) = 0 := fun l => by
    induction l with
    | nil => rfl
    | cons i l ih => simp [PyData.depthAll, PyData.depth, ih]
  simp [SeqAt.shaped, PyData.canLay0, PyData.depth, a, b]
theorem W_neInts {h : Hd} {c e : Nat} {cs es : List Int} {Q : D → Hd → Prop} (hc : h[c]? = some (.lst (cs.map D.int))) (he : h[e]? = some (.lst (es.map D.int))) : W (dNe (.ref c) (.ref e) h) Q ↔ Q (.bl (decide (cs ≠ es))) h := by
  have e1 : ∀ l l' : List Int, PyData.eqvAll (l.map PyData.int) (l'.map PyData.int) = decide (l = l') := by
    intro l
    induction l with
    | nil => intro l'; cases l' <;> simp [PyData.eqvAll]
    | cons i l ih => intro l'; cases l' <;> simp [PyData.eqvAll, PyData.eqv, ih, Bool.decide_and]; rfl
  have : eqD (.ref c) (.ref e) h = some (decide (cs = es)) := by
    unfold eqD
    simp only [rf_ints hc, rf_ints he, shaped_ints, and_self, if_true, PyData.eqv, e1]
  unfold dNe
  simp [this]
structure Src (s c N : Nat) (h : Hd) : Prop where
  ne : s ≠ c
  ex : ∃ (cs : List Int) (m n : Int), h[s]? = some (.dic [(.str "cells", .ref c), (.str "mixed", .int m), (.str "draws", .int n)]) ∧ h[c]? = some (.lst (cs.map D.int)) ∧ cs.length ≤ 63 ∧ 0 ≤ n ∧ n + (N : Int) ≤ 2 ^ 40
theorem Src.fr {s c N : Nat} {h h' : Hd} {S : List Nat} (x : Src s c N h) (f : Fr S h h') (hs : s ∉ S) (hc : c ∉ S) : Src s c N h' := by
  obtain ⟨cs, m, n, a, b, l⟩ := x.ex
  exact ⟨x.ne, cs, m, n, f.get hs a, f.get hc b, l⟩
theorem Src.le {s c N M : Nat} {h : Hd} (x : Src s c N h) (l : M ≤ N) : Src s c M h := by
  obtain ⟨cs, m, n, a, b, l2, l3, l4⟩ := x.ex
  exact ⟨x.ne, cs, m, n, a, b, l2, l3, by omega⟩
theorem W_eqInts {h : Hd} {c e : Nat} {cs es : List Int} {Q : D → Hd → Prop} (hc : h[c]? = some (.lst (cs.map D.int))) (he : h[e]? = some (.lst (es.map D.int))) : W (dEq (.ref c) (.ref e) h) Q ↔ Q (.bl (decide (cs = es))) h := by
  have ne := @W_neInts h c e cs es (fun d h' => d = .bl (decide (cs ≠ es)) ∧ h' = h) hc he
  have z := ne.mpr ⟨rfl, rfl⟩
  unfold dNe at z
  unfold dEq
  cases q : eqD (.ref c) (.ref e) h with
  | none => rw [q] at z; (first | exact z.elim | (delta W at z; exact z.elim) | (delta WS at z; exact z.elim))
  | some b =>
    rw [q] at z
    simp only [W_ok] at z
    have z1 : D.bl (!b) = D.bl (decide (cs ≠ es)) := z.1
    injection z1 with z2
    have : b = decide (cs = es) := by
      by_cases hcs : cs = es <;> simp [hcs] at z2 ⊢ <;> exact z2
    rw [← this]
    (first | exact Iff.rfl | (delta W; exact Iff.rfl) | (delta WS; exact Iff.rfl) | (delta W WS; exact Iff.rfl))
theorem Src.lt1 {s c N : Nat} {h : Hd} (x : Src s c N h) : s < h.length := by
  obtain ⟨cs, m, n, a, b, l⟩ := x.ex
  exact get_lt a
theorem Src.lt2 {s c N : Nat} {h : Hd} (x : Src s c N h) : c < h.length := by
  obtain ⟨cs, m, n, a, b, l⟩ := x.ex
  exact get_lt b
theorem atI_nat' {α : Type} {l : List α} {i : Nat} {x : α} (e : l[i]? = some x) : atI l (i : Int) = some x := by
  have := (List.getElem?_eq_some_iff.mp e).1
  unfold atI ixN
  rw [if_pos (by omega), if_pos (by omega)]
  simpa using e
end Z
/-! text W5 -/
/-! W5: comprehensions that map; new objects. -/
namespace Z
open PySem PySem.Spec PyProof.Rows L2
section
variable {α : Type} {xs : List α} {f : α → D} {S : List Nat} {gd : List (Nat × MO)} {tg : XG} {m : XE} {en : En} {h : Hd} {QA : List D → Hd → Prop} {Q : D → Hd → Prop} {ds : List D}
theorem comp_mapI {g : Nat → α → D} (hg : ∀ h', Fr S h h' → gdOk gd h')
    (st : ∀ (i : Nat) (x : α) (h' : Hd), xs[i]? = some x → Fr S h h' → WS (tg (f x) en h') (fun en1 h1 => W (m en1 h1) fun y h2 => y = g i x ∧ Fr S h h2) (fun _ _ => False) NoE NoE)
    (fin : ∀ h', Fr S h h' → QA (xs.mapIdx g) h') : W (compZ gd tg xYes m en (xs.map f) h) QA := by
  refine comp_rule (acc := []) (I := fun i acc h' => Fr S h h' ∧ acc = (xs.mapIdx g).take i) 0 ?_ ⟨Fr.refl, rfl⟩ ?_
  · rintro i d acc h' hd ⟨fr, rfl⟩
    rw [List.getElem?_map] at hd
    obtain ⟨x, hx, rfl⟩ := Option.map_eq_some_iff.mp hd
    refine ⟨hg h' fr, (st i x h' hx fr).imp (fun en1 h1 w => ?_) (fun _ _ z => z) (fun _ _ z => z) (fun _ _ z => z)⟩
    rw [W_yes]
    refine ⟨fun _ => w.imp fun y h2 z => ⟨z.2, ?_⟩, fun z => nomatch z⟩
    rw [z.1, Nat.zero_add]
    exact (take_next (by rw [List.getElem?_mapIdx, hx]; rfl)).symm
  · rintro ys h' ⟨fr, e⟩
    refine ⟨hg h' fr, ?_⟩
    rw [List.nil_append, Nat.zero_add, List.length_map] at e
    have : (xs.mapIdx g).take xs.length = xs.mapIdx g := List.take_of_length_le (by simp)
    rw [e, this]
    exact fin h' fr
theorem comp_map {g : α → D} (hg : ∀ h', Fr S h h' → gdOk gd h')
    (st : ∀ (i : Nat) (x : α) (h' : Hd), xs[i]? = some x → Fr S h h' → WS (tg (f x) en h') (fun en1 h1 => W (m en1 h1) fun y h2 => y = g x ∧ Fr S h h2) (fun _ _ => False) NoE NoE)
    (fin : ∀ h', Fr S h h' → QA (xs.map g) h') : W (compZ gd tg xYes m en (xs.map f) h) QA := by
  refine comp_mapI (g := fun _ x => g x) hg st fun h' fr => ?_
  have : xs.mapIdx (fun _ x => g x) = xs.map g := by
    apply List.ext_getElem?
    intro i
    simp
  rw [this]
  exact fin h' fr
theorem at_new : (h ++ [MO.lst ds])[h.length]? = some (.lst ds) := by simp
@[simp] theorem W_tupNew : W (dTuple [.ref h.length] (h ++ [.lst ds])) Q ↔ Q (.tup ds) (h ++ [.lst ds]) := W_tupLst at_new
@[simp] theorem W_slNew {l u : Option Int} : W (dSl (.ref h.length) l u (h ++ [.lst ds])) Q ↔ W (mkLst (cutL ds l u) (h ++ [.lst ds])) Q := W_slLst at_new
@[simp] theorem W_lenNew : W (dLen [.ref h.length] (h ++ [.lst ds])) Q ↔ Q (.int ds.length) (h ++ [.lst ds]) := W_lenLst at_new
@[simp] theorem W_itsNew {QI : Its → Hd → Prop} : W (itsOf (.ref h.length) (h ++ [.lst ds])) QI ↔ QI ⟨ds, [(h.length, .lst ds)]⟩ (h ++ [.lst ds]) := W_itsLst at_new
@[simp] theorem WS_gRowNew {n : Nat} {gs : XGs} {N B C : En → Hd → Prop} {R : D → Hd → Prop} : WS (gRow n gs (.ref h.length) en (h ++ [.lst ds])) N R B C ↔ ds.length = n ∧ WS (gs ds en (h ++ [.lst ds])) N R B C := WS_gRowL at_new
@[simp] theorem W_enumT {QI : Its → Hd → Prop} : W (enumOf [.tup ds] h) QI ↔ QI ⟨enumD ds, []⟩ h := by (first | exact Iff.rfl | (delta W; exact Iff.rfl) | (delta WS; exact Iff.rfl) | (delta W WS; exact Iff.rfl))
@[simp] theorem W_enumF {QI : Its → Hd → Prop} : W (enumOf [.fl ds] h) QI ↔ QI ⟨enumD ds, []⟩ h := by (first | exact Iff.rfl | (delta W; exact Iff.rfl) | (delta WS; exact Iff.rfl) | (delta W WS; exact Iff.rfl))
theorem W_enumL {n : Nat} {QI : Its → Hd → Prop} (q : h[n]? = some (.lst ds)) : W (enumOf [.ref n] h) QI ↔ QI ⟨enumD ds, [(n, .lst ds)]⟩ h := by
  unfold enumOf
  simp only [q, W_ok]
theorem enumD_map {f : α → D} : enumD (xs.map f) = (xs.mapIdx fun i x => (i, x)).map fun p => .tup [.int (p.1 : Nat), f p.2] := by
  apply List.ext_getElem?
  intro i
  unfold enumD
  simp
  rfl
@[simp] theorem W_mulT {k : Int} : W (dMul (.tup ds) (.int k) h) Q ↔ (ds ≠ [] ∧ 2 ≤ k ∧ k ≤ 1000 ∧ ds.length ≤ 1000) ∧ Q (.tup (List.replicate k.toNat ds).flatten) h := by
  unfold dMul
  simp only [W_iteF]
  (first | exact Iff.rfl | (delta W; exact Iff.rfl) | (delta WS; exact Iff.rfl) | (delta W WS; exact Iff.rfl))
@[simp] theorem W_max {i j : Int} : W (dMax [.int i, .int j] h) Q ↔ Q (.int (if j > i then j else i)) h := by (first | exact Iff.rfl | (delta W; exact Iff.rfl) | (delta WS; exact Iff.rfl) | (delta W WS; exact Iff.rfl))
@[simp] theorem W_min {i j : Int} : W (dMin [.int i, .int j] h) Q ↔ Q (.int (if j < i then j else i)) h := by (first | exact Iff.rfl | (delta W; exact Iff.rfl) | (delta WS; exact Iff.rfl) | (delta W WS; exact Iff.rfl))
end
end Z
/-! text R1 -/
/-! R1: rings: rows, pieces. -/
namespace Z
open PySem PySem.Spec PyProof.Rows L2
inductive Ins where
  | rw (r : Rw)
  | store (g : Nat) (a : Nat)
  | move (c a b l : Nat)
  | alike (g a b l : Nat)
def Ins.d : Ins → D
  | .rw r => r.d
  | .store g a => .tup [.str "store", .int g, .int a]
  | .move c a b l => .tup [.str "move", .int c, .int a, .int b, .int l]
  | .alike g a b l => .tup [.str "alike", .int g, .int a, .int b, .int l]
def oldA (s c : Nat) : Nat := 4 * (s + 2) * c
def newA (s c : Nat) : Nat := oldA s c + (s + 2)
def lookA (s c : Nat) : Nat := oldA s c + 2 * (s + 2)
def bestA (s c : Nat) : Nat := oldA s c + 3 * (s + 2)
def cntRows (old to : Nat) : List Ins := [.rw (.load 24 old), .rw (.load 25 (old + 1)), .rw (.set 26 0), .rw (.op .same 25 25 26), .rw (.op .add 24 24 25), .store 24 to]
def choRows (i old new res : Nat) : List Ins := [.rw (.load 24 (old + 1 + i)), .rw (.load 25 (old + 1)), .rw (.cho 24 25 24 res), .store 24 (new + 1 + i)]
def stepRows (old new i : Nat) (c : Rc) : List Ins := c.rows.map (fun r => Ins.rw (r.mv (old + 1))) ++ choRows i old new c.res
def pieceP (cs : List Rc) (c : Nat) : List Ins :=
  [.rw (.set 24 999999), .store 24 (newA cs.length c + cs.length + 1)] ++ cntRows (oldA cs.length c) (newA cs.length c) ++ (cs.mapIdx fun i r => stepRows (oldA cs.length c) (newA cs.length c) i r).flatten ++ cntRows (oldA cs.length c) (newA cs.length c + cs.length + 1)
def voteRows (news : List Nat) (e len look best src : Nat) : List Ins :=
  [.move 24 src look len, .rw (.load 25 look), .rw (.load 26 (look + len - 1)), .rw (.op .same 26 25 26), .rw (.load 27 best), .rw (.op .less 27 27 25), .rw (.set 28 0)] ++
  (news.map fun nw => [Ins.alike 29 look nw len, .rw (.op .add 28 28 29)]).flatten ++
  [.rw (.set 29 e), .rw (.op .less 28 29 28), .rw (.op .mul 26 26 27), .rw (.op .mul 26 26 28), .move 26 look best len]
def newsOf (s n : Nat) : List Nat := (List.range n).map (newA s)
def pieceQ (s e n c : Nat) : List Ins :=
  [.rw (.set 24 1), .move 24 (oldA s c) (bestA s c) (s + 2)] ++ ((newsOf s n).map fun src => voteRows (newsOf s n) e (s + 2) (lookA s c) (bestA s c) src).flatten ++ [.move 24 (bestA s c) (oldA s c) (s + 2)]
def piecesP (cs : List Rc) (n : Nat) : List (List Ins) := (List.range n).map (pieceP cs)
def piecesQ (s e n : Nat) : List (List Ins) := (List.range n).map (pieceQ s e n)
def ringRows (cs : List Rc) (e n : Nat) : List Ins := (piecesP cs n ++ piecesQ cs.length e n).flatten
def enough (e : Nat) : Nat := if e = 0 then 1 else if e = 1 then 3 else (e + 1) * (e + 1)
/-! ### lengths -/
theorem cnt_len {a b : Nat} : (cntRows a b).length = 6 := rfl
theorem step_len {a b i : Nat} {c : Rc} : (stepRows a b i c).length = c.rows.length + 4 := by unfold stepRows choRows; simp
theorem flatten_le {α : Type} {ls : List (List α)} {m : Nat} (h : ∀ l ∈ ls, l.length ≤ m) : ls.flatten.length ≤ ls.length * m := by
  induction ls with
  | nil => simp
  | cons l ls ih =>
    rw [List.flatten_cons, List.length_append, List.length_cons, Nat.add_mul, Nat.one_mul]
    have a := h l List.mem_cons_self
    have b := ih fun x hx => h x (List.mem_cons_of_mem _ hx)
    omega
theorem flatten_eq {α : Type} {ls : List (List α)} {m : Nat} (h : ∀ l ∈ ls, l.length = m) : ls.flatten.length = ls.length * m := by
  induction ls with
  | nil => simp
  | cons l ls ih =>
    rw [List.flatten_cons, List.length_append, List.length_cons, Nat.add_mul, Nat.one_mul]
    have a := h l List.mem_cons_self
    have b := ih fun x hx => h x (List.mem_cons_of_mem _ hx)
    omega
theorem pieceP_le {cs : List Rc} {c m : Nat} (h : ∀ r ∈ cs, r.rows.length ≤ m) : (pieceP cs c).length ≤ 14 + cs.length * (m + 4) := by
  unfold pieceP
  have : ((cs.mapIdx fun i r => stepRows (oldA cs.length c) (newA cs.length c) i r).flatten).length ≤ cs.length * (m + 4) := by
    have z := flatten_le (ls := cs.mapIdx fun i r => stepRows (oldA cs.length c) (newA cs.length c) i r) (m := m + 4) fun l hl => by
      obtain ⟨i, hi⟩ := List.mem_iff_getElem?.mp hl
      rw [List.getElem?_mapIdx] at hi
      obtain ⟨r, hr, rfl⟩ := Option.map_eq_some_iff.mp hi
      rw [step_len]
      have := h r (List.mem_of_getElem? hr)
      omega
    rwa [List.length_mapIdx] at z
  rw [List.length_append, List.length_append, List.length_append, cnt_len, cnt_len]
  simp only [List.length_cons, List.length_nil]
  omega
theorem vote_len {news : List Nat} {e len look best src : Nat} : (voteRows news e len look best src).length = 12 + 2 * news.length := by
  unfold voteRows
  have := flatten_eq (ls := news.map fun nw => [Ins.alike 29 look nw len, .rw (.op .add 28 28 29)]) (m := 2) fun l hl => by
    obtain ⟨x, _, rfl⟩ := List.mem_map.mp hl
    rfl
  rw [List.length_map] at this
  rw [List.length_append, List.length_append, this]
  simp only [List.length_cons, List.length_nil]
  omega
theorem pieceQ_len {s e n c : Nat} : (pieceQ s e n c).length = 3 + n * (12 + 2 * n) := by
  unfold pieceQ
  have l : (newsOf s n).length = n := by unfold newsOf; simp
  have := flatten_eq (ls := (newsOf s n).map fun src => voteRows (newsOf s n) e (s + 2) (lookA s c) (bestA s c) src) (m := 12 + 2 * n) fun l hl => by
    obtain ⟨x, _, rfl⟩ := List.mem_map.mp hl
    rw [vote_len, l]
  rw [List.length_map, l] at this
  rw [List.length_append, List.length_append, this]
  simp only [List.length_cons, List.length_nil]
  omega
theorem ring_le {cs : List Rc} {e n m : Nat} (h : ∀ r ∈ cs, r.rows.length ≤ m) : (ringRows cs e n).length ≤ n * (14 + cs.length * (m + 4)) + n * (3 + n * (12 + 2 * n)) := by
  unfold ringRows piecesP piecesQ
  rw [List.flatten_append, List.length_append]
  have a := flatten_le (ls := (List.range n).map (pieceP cs)) (m := 14 + cs.length * (m + 4)) fun l hl => by
    obtain ⟨x, _, rfl⟩ := List.mem_map.mp hl
    exact pieceP_le h
  have b := flatten_le (ls := (List.range n).map (pieceQ cs.length e n)) (m := 3 + n * (12 + 2 * n)) fun l hl => by
    obtain ⟨x, _, rfl⟩ := List.mem_map.mp hl
    exact Nat.le_of_eq pieceQ_len
  rw [List.length_map, List.length_range] at a b
  omega
end Z
/-! text W6 -/
/-! W6: rules: stars, extend, instances, two-clause comprehensions, written dicts. -/
namespace Z
open PySem PySem.Spec PyProof.Rows L2
section
variable {en : En} {h : Hd} {Q : D → Hd → Prop} {QA : List D → Hd → Prop} {N B C : En → Hd → Prop} {R : D → Hd → Prop} {d e x : D} {ds es : List D} {n i k : Nat} {mv mo a : XE} {ms mk : XA} {g c : Str} {T : AttrT} {fs : List (Str × D)}
@[simp] theorem W_xStar : W (xStar a ms en h) QA ↔ W (a en h) fun x h1 => ∃ ds, rowOf x h1 = some ds ∧ W (ms en h1) fun es h2 => QA (ds ++ es) h2 := by
  unfold xStar
  simp only [W_bind]
  refine ⟨fun w => w.imp fun x h1 z => ?_, fun w => w.imp fun x h1 z => ?_⟩
  · cases hl : rowOf x h1 with
    | none => rw [hl] at z; (first | exact z.elim | (delta W at z; exact z.elim) | (delta WS at z; exact z.elim))
    | some ds =>
      rw [hl] at z
      exact ⟨ds, rfl, by simpa using z⟩
  · obtain ⟨ds, hl, z⟩ := z
    rw [hl]
    simpa using z
@[simp] theorem rowOf_tup : rowOf (.tup ds) h = some ds := rfl
theorem rowOf_lst (q : h[n]? = some (.lst ds)) : rowOf (.ref n) h = some ds := lstOf_at q
@[simp] theorem rowOf_new : rowOf (.ref h.length) (h ++ [.lst ds]) = some ds := rowOf_lst at_new
theorem W_extend (q : h[n]? = some (.lst ds)) (q2 : h[k]? = some (.lst es)) : W (mExt (.ref n) [.ref k] h) Q ↔ ds.length + es.length ≤ sizeLine ∧ Q .non (h.set n (.lst (ds ++ es))) := by
  unfold mExt mExtend
  simp only [q, q2, W_iteF, W_ok]
theorem W_extendT (q : h[n]? = some (.lst ds)) : W (mExt (.ref n) [.tup es] h) Q ↔ ds.length + es.length ≤ sizeLine ∧ Q .non (h.set n (.lst (ds ++ es))) := by
  unfold mExt
  simp only [q, W_iteF, W_ok]
@[simp] theorem W_noExc {α : Type} {o : Out α} {P : α → Hd → Prop} : W (noExc o) P ↔ W o P := by cases o <;> (first | exact Iff.rfl | (delta W; exact Iff.rfl) | (delta WS; exact Iff.rfl) | (delta W WS; exact Iff.rfl))
@[simp] theorem W_xAttr : W (xAttr T g a en h) Q ↔ W (a en h) fun x h1 => W (attrOf T g x h1) Q := by unfold xAttr; simp
theorem W_attrFld (q : h[i]? = some (.ins c fs)) (hc : c ∈ T.flds) (hl : fs.lookup g = some d) : W (attrOf T g (.ref i) h) Q ↔ Q d h := by
  unfold attrOf
  simp only [q, if_pos hc, hl, W_ok]
theorem W_attrProp {F : Fn} (q : h[i]? = some (.ins c fs)) (hc : c ∉ T.flds) (hl : T.props.lookup c = some F) : W (attrOf T g (.ref i) h) Q ↔ W (F [.ref i] h) Q := by
  unfold attrOf
  simp only [q, if_neg hc, hl, W_noExc]
@[simp] theorem WS_fld {cs : List Str} : WS (sFld cs g mo mv en h) N R B C ↔ W (mv en h) fun d h1 => W (mo en h1) fun x h2 => WS (setAttrM cs g x d en h2) N R B C := by unfold sFld; simp
theorem WS_setAttr {cs : List Str} (q : h[i]? = some (.ins c fs)) (hc : c ∈ cs) (hl : fs.length < 1000) : WS (setAttrM cs g (.ref i) d en h) N R B C ↔ N en (h.set i (.ins c (putD g d fs))) := by
  unfold setAttrM
  simp only [q, if_pos (And.intro hc hl)]
  (first | exact Iff.rfl | (delta W; exact Iff.rfl) | (delta WS; exact Iff.rfl) | (delta W WS; exact Iff.rfl))
theorem WS_setAttrK {cs : List Str} (q : h[i]? = some (.ins c fs)) (hc : c ∈ cs) (hl : fs.length < 1000) (k : ∀ h', Fr [i] h h' → h'[i]? = some (.ins c (putD g d fs)) → N en h') : WS (setAttrM cs g (.ref i) d en h) N R B C :=
  (WS_setAttr q hc hl).mpr (k _ (Fr.set (by simp)) (List.getElem?_set_self (get_lt q)))
@[simp] theorem W_xMake {F : Fn} {ar : Arr} {m : Nat} : W (xMake F ar m c ms en h) Q ↔ W (ms en h) fun ds h1 => W (makeA F ar m 0 c ds [] h1) Q := by unfold xMake; simp
@[simp] theorem W_xMakeK {F : Fn} {ar : Arr} {m l : Nat} : W (xMakeK F ar m l c ms mk en h) Q ↔ W (ms en h) fun ds h1 => W (mk en h1) fun es h2 => W (makeA F ar m l c ds es h2) Q := by unfold xMakeK; simp
theorem W_makeA {F : Fn} {ar : Arr} {m l : Nat} : W (makeA F ar m l c ds es h) Q ↔ W (callA F ar (m + 1) l (.ref h.length :: ds) es (h ++ [.ins c []])) fun d h2 => d = .non ∧ Q (.ref h.length) h2 := by
  unfold makeA
  simp only [W_bind, W_iteF, W_ok]
@[simp] theorem WS_fail : WS (sFail en h) N R B C ↔ False := by (first | exact Iff.rfl | (delta W; exact Iff.rfl) | (delta WS; exact Iff.rfl) | (delta W WS; exact Iff.rfl))
@[simp] theorem W_xGetC {kvs : List (Int × Int)} {m1 m2 : XE} : W (xGetC kvs m1 m2 en h) Q ↔ W (m1 en h) fun x h1 => W (m2 en h1) fun y h2 => W (getC kvs x y h2) Q := by unfold xGetC; simp
@[simp] theorem W_getC {kvs : List (Int × Int)} {j : Int} {y : D} : W (getC kvs (.int j) y h) Q ↔ Q (match kvs.lookup j with
  | some v => .int v
  | none => y) h := by (first | exact Iff.rfl | (delta W; exact Iff.rfl) | (delta WS; exact Iff.rfl) | (delta W WS; exact Iff.rfl))
theorem W_own {L : List (Str × Fn)} {F : Fn} (q : h[i]? = some (.ins c fs)) (hl : L.lookup c = some F) : W (ownF L (.ref i) ds h) Q ↔ W (F (.ref i :: ds) h) Q := by
  unfold ownF
  simp only [q, hl, W_noExc]
theorem W_lenO {L : List (Str × Fn)} : W (lenO L [x] h) Q ↔ W (ownF L x [] h) fun d h1 => ∃ n : Int, d = .int n ∧ (0 ≤ n ∧ n < 2 ^ 63) ∧ Q (.int n) h1 := by
  unfold lenO
  rw [W_bind]
  refine ⟨fun w => w.imp fun d h1 z => ?_, fun w => w.imp fun d h1 z => ?_⟩
  · cases d with
    | int n =>
      have z : W (if 0 ≤ n ∧ n < 2 ^ 63 then Out.ok (D.int n) h1 else .fail) Q := z
      rw [W_iteF, W_ok] at z
      exact ⟨n, rfl, z⟩
    | _ => (first | exact z.elim | (delta W at z; exact z.elim) | (delta WS at z; exact z.elim))
  · obtain ⟨n, rfl, z⟩ := z
    show W (if 0 ≤ n ∧ n < 2 ^ 63 then Out.ok (D.int n) h1 else .fail) Q
    rw [W_iteF, W_ok]
    exact z
@[simp] theorem W_xCallO {L : List (Str × Fn)} : W (xCallO L a ms en h) Q ↔ W (a en h) fun x h1 => isRef x = true ∧ W (ms en h1) fun ds h2 => ds.length = 1 ∧ W (ownF L x ds h2) Q := by unfold xCallO; simp
@[simp] theorem isRef_ref : isRef (.ref n) = true := rfl
theorem W_addLL {a b : Nat} {xs ys : List D} (ha : h[a]? = some (.lst xs)) (hb : h[b]? = some (.lst ys)) : W (dAdd (.ref a) (.ref b) h) Q ↔ W (mkLst (xs ++ ys) h) Q := by
  unfold dAdd
  simp only [ha, hb]
@[simp] theorem W_addNN {xs ys : List D} : W (dAdd (.ref h.length) (.ref (h.length + 1)) (h ++ [.lst xs, .lst ys])) Q ↔ W (mkLst (xs ++ ys) (h ++ [.lst xs, .lst ys])) Q := W_addLL (by simp) (by simp)
theorem W_addLN {a : Nat} {xs ys : List D} (ha : h[a]? = some (.lst xs)) : W (dAdd (.ref a) (.ref h.length) (h ++ [.lst ys])) Q ↔ W (mkLst (xs ++ ys) (h ++ [.lst ys])) Q := W_addLL (by rw [List.getElem?_append_left (get_lt ha)]; exact ha) (by simp)
@[simp] theorem W_xMeth {L : List (Str × MethE)} {nm : Str} : W (xMeth L nm mo ms en h) Q ↔ W (mo en h) fun x h1 => W (methOf L nm ms x en h1) Q := by unfold xMeth; simp
theorem W_meth {L : List (Str × MethE)} {nm : Str} {M : MethE} (q : h[i]? = some (.ins c fs)) (hl : L.lookup c = some M) (hf : fs.lookup nm = none) : W (methOf L nm ms (.ref i) en h) Q ↔ W (ms en h) fun xs h1 => W (callA M.fn M.arr (M.n + 1) 0 (.ref i :: xs) [] h1) Q := by
  unfold methOf
  simp only [q, hl, hf]
  simp
@[simp] theorem WS_gSubT {mi : XE} : WS (gSubT mo mi d en h) N R B C ↔ W (mo en h) fun o h1 => W (mi en h1) fun i h2 => WS (setIt o i d en h2) N R B C := by
  unfold gSubT
  cases mo en h with
  | ok o h1 =>
    rw [W_ok]
    show WS (match mi en h1 with | .ok i h2 => setIt o i d en h2 | _ => .fail) N R B C ↔ W (mi en h1) _
    cases mi en h1 with
    | ok i h2 => (first | exact Iff.rfl | (delta W; exact Iff.rfl) | (delta WS; exact Iff.rfl) | (delta W WS; exact Iff.rfl))
    | _ => (first | exact Iff.rfl | (delta W; exact Iff.rfl) | (delta WS; exact Iff.rfl) | (delta W WS; exact Iff.rfl))
  | _ => (first | exact Iff.rfl | (delta W; exact Iff.rfl) | (delta WS; exact Iff.rfl) | (delta W WS; exact Iff.rfl))
theorem W_mulT1 {xs : List D} {i : Int} : W (dMulT (.tup xs) (.int i) h) Q ↔ if i = 1 ∧ xs ≠ [] then Q (.tup xs) h else W (dMul (.tup xs) (.int i) h) Q := by
  unfold dMulT
  dsimp only
  by_cases e : i = 1 ∧ xs ≠ []
  · rw [if_pos e, if_pos e]
    (first | exact Iff.rfl | (delta W; exact Iff.rfl) | (delta WS; exact Iff.rfl) | (delta W WS; exact Iff.rfl))
  · rw [if_neg e, if_neg e]
theorem W_update {kvs ls : List (D × D)} (q : h[n]? = some (.dic kvs)) (q2 : h[k]? = some (.dic ls)) (ne : n ≠ k) : W (mUpdate (.ref n) [.ref k] h) Q ↔ kvs.length + ls.length ≤ sizeLine ∧ Q .non (h.set n (.dic (ls.foldl (fun a p => dput a p.1 p.2) kvs))) := by
  unfold mUpdate
  simp only [q, q2, ne_eq, ne, not_false_eq_true, true_and, W_iteF, W_ok]
theorem isDic_at {kvs : List (D × D)} (q : h[n]? = some (.dic kvs)) : isDic (.ref n) h = true := by
  unfold isDic
  simp only [q]
@[simp] theorem W_xMethK {L : List (Str × MethE)} {nm : Str} {nk : Nat} : W (xMethK L nm nk mo mk en h) Q ↔ W (mo en h) fun x h1 => W (methOfK L nm nk mk x en h1) Q := by unfold xMethK; simp
theorem W_methK {L : List (Str × MethE)} {nm : Str} {nk : Nat} {M : MethE} (q : h[i]? = some (.ins c fs)) (hl : L.lookup c = some M) (hf : fs.lookup nm = none) : W (methOfK L nm nk mk (.ref i) en h) Q ↔ W (mk en h) fun es h1 => W (callA M.fn M.arr 1 nk [.ref i] es h1) Q := by
  unfold methOfK
  simp only [q, hl, hf]
  simp
@[simp] theorem W_xCallOK {L : List (Str × MethE)} {nk : Nat} : W (xCallOK L nk a mk en h) Q ↔ W (a en h) fun x h1 => isRef x = true ∧ W (mk en h1) fun es h2 => W (ownK L nk x es h2) Q := by unfold xCallOK; simp
theorem W_ownK {L : List (Str × MethE)} {nk : Nat} {M : MethE} (q : h[i]? = some (.ins c fs)) (hl : L.lookup c = some M) : W (ownK L nk (.ref i) es h) Q ↔ W (callA M.fn M.arr 1 nk [.ref i] es h) Q := by
  unfold ownK
  simp only [q, hl, W_noExc]
theorem WS_aug {i : Nat} {f : Int → Int → Int} : WS (sAug i f mv en h) N R B C ↔ ∃ x, en[i]? = some (some (.int x)) ∧ W (mv en h) fun y h1 => ∃ j : Int, y = .int j ∧ N (en.set i (some (.int (f x j)))) h1 := by
  unfold sAug
  cases q : en[i]? with
  | none => simp [WS]
  | some o =>
    cases o with
    | none => simp [WS]
    | some d =>
      cases d with
      | int x =>
        simp only [WS_bindS]
        refine ⟨fun w => ⟨x, rfl, w.imp fun y h1 z => ?_⟩, fun ⟨x', e, w⟩ => ?_⟩
        · cases y with
          | int j => exact ⟨j, rfl, by delta WS at z; exact z⟩
          | _ => (first | exact z.elim | (delta W at z; exact z.elim) | (delta WS at z; exact z.elim))
        · cases e
          refine w.imp fun y h1 z => ?_
          obtain ⟨j, rfl, z⟩ := z
          delta WS
          exact z
      | _ => simp [WS]
@[simp] theorem augAdd_eq {i j : Int} : augAdd i j = i + j := rfl
@[simp] theorem augSub_eq {i j : Int} : augSub i j = i - j := rfl
@[simp] theorem W_isNon : W (dIs x .non h) Q ↔ Q (.bl (decide (x = .non))) h := by (first | exact Iff.rfl | (delta W; exact Iff.rfl) | (delta WS; exact Iff.rfl) | (delta W WS; exact Iff.rfl))
@[simp] theorem W_isNotNon : W (dIsNot x .non h) Q ↔ Q (.bl (!decide (x = .non))) h := by (first | exact Iff.rfl | (delta W; exact Iff.rfl) | (delta WS; exact Iff.rfl) | (delta W WS; exact Iff.rfl))
@[simp] theorem str_beq (a b : String) : (Str.ofString a == Str.ofString b) = decide (a = b) := by
  by_cases h : a = b
  · subst h; simp
  · rw [decide_eq_false h]
    exact beq_eq_false_iff_ne.mpr fun z => h ((str_eq a b).mp z)
theorem str_ofS (a b : String) : (Str.ofString a = Str.ofString b) = (a = b) := propext (str_eq a b)
end
/-! while -/
@[irreducible] def whileZ (t : XT) (b : XS) (n : Nat) (en : En) (h : Hd) : SOut := whileL t b n en h
section
variable {t : XT} {b : XS} {N B C : En → Hd → Prop} {R : D → Hd → Prop}
theorem whileZ_eq {n : Nat} {en : En} {h : Hd} : whileZ t b n en h = whileL t b n en h := by unfold whileZ; rfl
@[simp] theorem WS_while {n : Nat} {en : En} {h : Hd} : WS (whileL t b n en h) N R B C ↔ WS (whileZ t b n en h) N R B C := by rw [whileZ_eq]
theorem while_ruleL {I : Nat → En → Hd → Prop} {g : Nat} (st : ∀ i en h, i < g → I i en h → W (t en h) fun c h1 => c = true ∧ WS (b en h1) (I (i + 1)) R NoE NoE) (fin : ∀ en h, I g en h → W (t en h) fun c h1 => c = false ∧ N en h1) :
    ∀ (n i : Nat) {en : En} {h : Hd}, i ≤ g → g < i + n → I i en h → WS (whileL t b n en h) N R B C
  | 0, i, en, h, l1, l2, _ => absurd l2 (by omega)
  | n + 1, i, en, h, l1, l2, i0 => by
    show WS ((t en h).bindS fun c h1 => if c = true then (match b en h1 with
      | .nx en2 h2 => whileL t b n en2 h2
      | .ct en2 h2 => whileL t b n en2 h2
      | .bk en2 h2 => .nx en2 h2
      | o => o) else .nx en h1) N R B C
    rw [WS_bindS]
    by_cases hi : i < g
    · refine (st i en h hi i0).imp fun c h1 z => ?_
      obtain ⟨rfl, w⟩ := z
      rw [if_pos rfl]
      cases hb : b en h1 with
      | nx en2 h2 => rw [hb, WS_nx] at w; exact while_ruleL st fin n (i + 1) hi (by omega) w
      | rt d h2 => rw [hb] at w; delta WS at w ⊢; exact w
      | ct en2 h2 => rw [hb] at w; (first | (delta WS at w; exact w.elim) | (delta W at w; exact w.elim) | exact w.elim)
      | bk en2 h2 => rw [hb] at w; (first | (delta WS at w; exact w.elim) | (delta W at w; exact w.elim) | exact w.elim)
      | fail => rw [hb] at w; (first | (delta WS at w; exact w.elim) | (delta W at w; exact w.elim) | exact w.elim)
      | exc c fs h2 => rw [hb] at w; (first | (delta WS at w; exact w.elim) | (delta W at w; exact w.elim) | exact w.elim)
    · obtain rfl : i = g := by omega
      refine (fin en h i0).imp fun c h1 z => ?_
      obtain ⟨rfl, w⟩ := z
      delta WS
      exact w
theorem while_rule {I : Nat → En → Hd → Prop} (g : Nat) {n : Nat} {en : En} {h : Hd} (hn : g < n) (st : ∀ i en h, i < g → I i en h → W (t en h) fun c h1 => c = true ∧ WS (b en h1) (I (i + 1)) R NoE NoE) (i0 : I 0 en h) (fin : ∀ en h, I g en h → W (t en h) fun c h1 => c = false ∧ N en h1) :
    WS (whileZ t b n en h) N R B C := by
  rw [whileZ_eq]
  exact while_ruleL st fin n 0 (Nat.zero_le _) (by omega) i0
end
/-- two-clause comprehensions over lists of new lists: all in one row -/
@[irreducible] def comp2Z (gd : List (Nat × MO)) (g : XG) (t : XT) (mi : XI) (g1 : XG) (t1 : XT) (m : XE) (ws1 : List Nat) (en : En) (ds : List D) (h : Hd) : Out (List D) := comp2L gd g t mi g1 t1 m ws1 en ds h
section
variable {gd : List (Nat × MO)} {g g1 : XG} {t t1 : XT} {mi mi1 : XI} {m : XE} {ws1 own : List Nat} {en : En} {h : Hd} {Q : D → Hd → Prop} {QA : List D → Hd → Prop}
theorem comp2Z_eq {ds : List D} : comp2Z gd g t mi g1 t1 m ws1 en ds h = comp2L gd g t mi g1 t1 m ws1 en ds h := by unfold comp2Z; rfl
@[simp] theorem W_xComp2 : W (xComp2 mi g t mi1 g1 t1 m own ws1 en h) Q ↔ W (mi en h) fun it h1 => W (comp2Z it.gd g t mi1 g1 t1 m ws1 (wipeE en own) it.ds h1) fun ys h2 => W (mkLst ys h2) Q := by unfold xComp2; simp [comp2Z_eq]
/-- by an invariant over the outer walk -/
theorem comp2_rule {I : Nat → List D → Hd → Prop} : ∀ {ds : List D} (k : Nat) {acc : List D} {h : Hd} {QA : List D → Hd → Prop},
    (∀ i d acc h, ds[i]? = some d → I (k + i) acc h → gdOk gd h ∧ WS (g d en h) (fun en1 h1 => W (t en1 h1) fun b h2 => b = true ∧ W (mi en1 h2) fun it h3 => W (compZ it.gd g1 t1 m (wipeE en1 ws1) it.ds h3) fun ys h4 => I (k + i + 1) (acc ++ ys) h4) (fun _ _ => False) NoE NoE) → I k acc h →
    (∀ ys h, I (k + ds.length) (acc ++ ys) h → gdOk gd h ∧ QA ys h) → W (comp2Z gd g t mi g1 t1 m ws1 en ds h) QA
  | [], k, acc, h, QA, st, i0, fin => by
    rw [comp2Z_eq]
    unfold comp2L
    rw [W_iteF, W_ok]
    exact fin [] h (by simpa using i0)
  | d :: ds, k, acc, h, QA, st, i0, fin => by
    obtain ⟨g0, w1⟩ := st 0 d acc h rfl i0
    rw [comp2Z_eq]
    unfold comp2L
    rw [if_pos g0]
    cases hg : g d en h with
    | nx en1 h1 =>
      rw [hg] at w1
      dsimp only
      have w2 : W (t en1 h1) fun b h2 => b = true ∧ W (mi en1 h2) fun it h3 => W (compZ it.gd g1 t1 m (wipeE en1 ws1) it.ds h3) fun ys h4 => I (k + 0 + 1) (acc ++ ys) h4 := by rw [WS_nx] at w1; exact w1
      cases ht : t en1 h1 with
      | ok b h2 =>
        rw [ht, W_ok] at w2
        obtain ⟨hb, w3⟩ := w2
        subst hb
        dsimp only
        cases hm : mi en1 h2 with
        | ok it h3 =>
          rw [hm, W_ok] at w3
          have w4 : W (compZ it.gd g1 t1 m (wipeE en1 ws1) it.ds h3) fun ys h4 => I (k + 0 + 1) (acc ++ ys) h4 := w3
          rw [compZ_eq] at w4
          dsimp only
          cases hc : compL it.gd g1 t1 m (wipeE en1 ws1) it.ds h3 with
          | ok ys h4 =>
            rw [hc, W_ok] at w4
            have w5 : I (k + 1) (acc ++ ys) h4 := w4
            have w6 := comp2_rule (ds := ds) (k + 1) (acc := acc ++ ys) (QA := fun zs h => QA (ys ++ zs) h) (fun i d acc h e z => by
              have := st (i + 1) d acc h (by simpa using e) (by rw [show k + (i + 1) = k + 1 + i by omega]; exact z)
              rw [show k + (i + 1) + 1 = k + 1 + i + 1 by omega] at this
              exact this) w5 (fun zs h z => fin (ys ++ zs) h (by rw [List.length_cons, show k + (ds.length + 1) = k + 1 + ds.length by omega, ← List.append_assoc]; exact z))
            rw [comp2Z_eq] at w6
            dsimp only
            cases hz : comp2L gd g t mi g1 t1 m ws1 en ds h4 with
            | ok zs h5 => rw [hz] at w6; (first | exact w6 | (delta WS at w6 ⊢; exact w6) | (delta W at w6 ⊢; exact w6) | (delta W WS at w6 ⊢; exact w6) | (delta WS at w6; exact w6) | (delta W at w6; exact w6) | (delta W; exact w6) | (delta WS; exact w6))
            | fail => rw [hz] at w6; (first | (delta WS at w6; exact w6.elim) | (delta W at w6; exact w6.elim) | exact w6.elim)
            | exc c fs hx => rw [hz] at w6; (first | (delta WS at w6; exact w6.elim) | (delta W at w6; exact w6.elim) | exact w6.elim)
          | fail => rw [hc] at w4; (first | (delta WS at w4; exact w4.elim) | (delta W at w4; exact w4.elim) | exact w4.elim)
          | exc c fs hx => rw [hc] at w4; (first | (delta WS at w4; exact w4.elim) | (delta W at w4; exact w4.elim) | exact w4.elim)
        | fail => rw [hm] at w3; (first | (delta WS at w3; exact w3.elim) | (delta W at w3; exact w3.elim) | exact w3.elim)
        | exc c fs hx => rw [hm] at w3; (first | (delta WS at w3; exact w3.elim) | (delta W at w3; exact w3.elim) | exact w3.elim)
      | fail => rw [ht] at w2; (first | (delta WS at w2; exact w2.elim) | (delta W at w2; exact w2.elim) | exact w2.elim)
      | exc c fs hx => rw [ht] at w2; (first | (delta WS at w2; exact w2.elim) | (delta W at w2; exact w2.elim) | exact w2.elim)
    | rt d h1 => rw [hg] at w1; (first | (delta WS at w1; exact w1.elim) | (delta W at w1; exact w1.elim) | exact w1.elim)
    | bk en1 h1 => rw [hg] at w1; (first | (delta WS at w1; exact w1.elim) | (delta W at w1; exact w1.elim) | exact w1.elim)
    | ct en1 h1 => rw [hg] at w1; (first | (delta WS at w1; exact w1.elim) | (delta W at w1; exact w1.elim) | exact w1.elim)
    | fail => rw [hg] at w1; (first | (delta WS at w1; exact w1.elim) | (delta W at w1; exact w1.elim) | exact w1.elim)
    | exc c fs h2 => rw [hg] at w1; (first | (delta WS at w1; exact w1.elim) | (delta W at w1; exact w1.elim) | exact w1.elim)
end
end Z
/-! text WD -/
/-! WD: the deck of draws: a list of the cells, a mixed number, the number of draws. -/
namespace Z
open PySem PySem.Spec PyProof.Rows L2
structure Deck (d c N : Nat) (h : Hd) : Prop where
  ne : d ≠ c
  ex : ∃ (cs : List Int) (m n : Int), h[d]? = some (.lst [.ref c, .int m, .int n]) ∧ h[c]? = some (.lst (cs.map D.int)) ∧ cs.length ≤ 63 ∧ 0 ≤ n ∧ n + (N : Int) ≤ 2 ^ 40
theorem Deck.fr {d c N : Nat} {h h' : Hd} {S : List Nat} (x : Deck d c N h) (f : Fr S h h') (hd : d ∉ S) (hc : c ∉ S) : Deck d c N h' := by
  obtain ⟨cs, m, n, a, b, l⟩ := x.ex
  exact ⟨x.ne, cs, m, n, f.get hd a, f.get hc b, l⟩
theorem Deck.le {d c N M : Nat} {h : Hd} (x : Deck d c N h) (l : M ≤ N) : Deck d c M h := by
  obtain ⟨cs, m, n, a, b, l2, l3, l4⟩ := x.ex
  exact ⟨x.ne, cs, m, n, a, b, l2, l3, by omega⟩
theorem Deck.lt1 {d c N : Nat} {h : Hd} (x : Deck d c N h) : d < h.length := by
  obtain ⟨cs, m, n, a, b, l⟩ := x.ex
  exact get_lt a
theorem Deck.lt2 {d c N : Nat} {h : Hd} (x : Deck d c N h) : c < h.length := by
  obtain ⟨cs, m, n, a, b, l⟩ := x.ex
  exact get_lt b
theorem ixN_2 {n : Nat} : ixN (n + 3) 2 = some 2 := by
  unfold ixN
  rw [if_pos (by decide), if_pos (by omega)]
  rfl
end Z
/-! text WN -/
/-! WN: pairs of a count and a state: sets of them sorted, lists of them sorted, in. -/
namespace Z
open PySem PySem.Spec PyProof.Rows L2 Zs
abbrev Pr := Int × List Int
def prD (p : Pr) : D := .tup [.int p.1, words p.2]
def prP (p : Pr) : PyData := .tuple [.int p.1, .tuple (p.2.map PyData.int)]
def lePr : Pr → Pr → Bool := PySem.W.dataLe false prP
def uniqPr (l : List Pr) : List Pr := l.foldl (fun acc p => if p ∈ acc then acc else acc ++ [p]) []
def sortPr (l : List Pr) : List Pr := l.mergeSort lePr
theorem keyPs_ints : ∀ l : List Int, keyPs (l.map PyData.int) = some (l.map NestedKey.num)
  | [] => rfl
  | i :: l => by rw [List.map_cons, keyPs, keyPs_ints l]; rfl
theorem keyP_pr (p : Pr) : keyP (prP p) = some (.tup [.num p.1, .tup (p.2.map NestedKey.num)]) := by
  unfold prP
  rw [keyP, keyPs, keyPs, keyPs, keyP, keyP, keyPs_ints]
  rfl
theorem dp_ints (l : List Int) : PyData.depthAll (l.map PyData.int) = 0 := by
  induction l with
  | nil => rfl
  | cons i l ih => simp [PyData.depthAll, PyData.depth, ih]
theorem dp_pr (p : Pr) : (prP p).depth = 2 := by simp [prP, PyData.depth, PyData.depthAll, dp_ints]
theorem keyOk_pr (p : Pr) : keyOk (prP p) = true := by
  have e := keyP_pr p
  have d := dp_pr p
  unfold keyOk
  show ((keyP (prP p)).isSome && decide ((prP p).depth ≤ 8)) = true
  rw [e, d]
  rfl
theorem alike_intsA : ∀ xs ys : List Int, PySem.W.alikeAll (xs.map PyData.int) (ys.map PyData.int) = true
  | [], _ => by simp [PySem.W.alikeAll]
  | _ :: _, [] => by simp [PySem.W.alikeAll]
  | x :: xs, y :: ys => by rw [List.map_cons, List.map_cons, PySem.W.alikeAll, alike_intsA xs ys]; simp [PySem.W.alike]
theorem alike_pr (p q : Pr) : PySem.W.alike (prP p) (prP q) = true := by simp [prP, PySem.W.alike, PySem.W.alikeAll, alike_intsA]
theorem alikeL_pr (l : List Pr) : alikeL (l.map prP) = true := by
  unfold alikeL
  rw [Bool.and_eq_true, Bool.and_eq_true, Bool.or_eq_true]
  refine ⟨⟨List.all_eq_true.mpr fun p hp => List.all_eq_true.mpr fun q hq => ?_, List.all_eq_true.mpr fun p hp => decide_eq_true ?_⟩, .inl (List.all_eq_true.mpr fun p hp => ?_)⟩
  · obtain ⟨a, _, rfl⟩ := List.mem_map.mp hp
    obtain ⟨b, _, rfl⟩ := List.mem_map.mp hq
    exact alike_pr a b
  · obtain ⟨a, _, rfl⟩ := List.mem_map.mp hp
    rw [dp_pr]
    decide
  · obtain ⟨a, _, rfl⟩ := List.mem_map.mp hp
    rfl
theorem tDs_ints : ∀ l : List Int, tD.tDs (l.map PyData.int) = l.map D.int
  | [] => rfl
  | i :: l => by rw [List.map_cons, tD.tDs, tDs_ints l]; rfl
theorem tD_pr (p : Pr) : tD (prP p) = prD p := by
  unfold prP prD words
  rw [tD, tD.tDs, tD.tDs, tD.tDs, tD, tD, tDs_ints]
theorem rfs_ints {f : Nat → Option PyData} (l : List Int) : rfsW f (l.map D.int) = some (l.map PyData.int) := by
  induction l with
  | nil => rfl
  | cons i l ih => simp [rfsW, rfW, ih]
theorem rf_prD {f : Nat → Option PyData} (p : Pr) : rfW f (prD p) = some (prP p) := by
  unfold prD prP words
  simp [rfW, rfsW, rfs_ints]
theorem rfs_pr {f : Nat → Option PyData} (l : List Pr) : rfsW f (l.map prD) = some (l.map prP) := by
  induction l with
  | nil => rfl
  | cons p l ih => rw [List.map_cons, rfsW, rf_prD, ih]; rfl
theorem eqv_intsA : ∀ l l' : List Int, PyData.eqvAll (l.map PyData.int) (l'.map PyData.int) = decide (l = l')
  | [], l' => by cases l' <;> simp [PyData.eqvAll]
  | i :: l, [] => by simp [PyData.eqvAll]
  | i :: l, j :: l' => by
    rw [List.map_cons, List.map_cons, PyData.eqvAll, eqv_intsA l l', PyData.eqv]
    by_cases h : i = j <;> by_cases h2 : l = l' <;> simp [h, h2]
theorem eqv_pr (p q : Pr) : PyData.eqv (prP p) (prP q) = decide (p = q) := by
  obtain ⟨a, s⟩ := p
  obtain ⟨b, t⟩ := q
  unfold prP
  simp only [PyData.eqv, PyData.eqvAll, eqv_intsA, Bool.and_true]
  by_cases h : a = b <;> by_cases h2 : s = t <;> simp [h, h2]
theorem prP_inj {p q : Pr} (e : prP p = prP q) : p = q := by
  have := eqv_pr p q
  rw [e, eqv_pr q q, decide_eq_true rfl] at this
  exact of_decide_eq_true this.symm
theorem keyP_prInj {p q : Pr} : keyP (prP p) = keyP (prP q) ↔ p = q := by
  refine ⟨fun e => prP_inj (keyP_inj _ _ _ (keyP_pr p) (by rw [← e]; exact keyP_pr p)), fun e => by rw [e]⟩
theorem uniq_pr (l : List Pr) : uniqP (l.map prP) = (uniqPr l).map prP := by
  have : ∀ (l acc : List Pr), (l.map prP).foldl addP (acc.map prP) = (l.foldl (fun acc p => if p ∈ acc then acc else acc ++ [p]) acc).map prP := by
    intro l
    induction l with
    | nil => intro acc; rfl
    | cons p l ih =>
      intro acc
      rw [List.map_cons, List.foldl_cons, List.foldl_cons, ← ih]
      congr 1
      unfold addP
      have e : ((acc.map prP).any fun q => decide (keyP q = keyP (prP p))) = decide (p ∈ acc) := by
        rw [List.any_map, Bool.eq_iff_iff, List.any_eq_true, decide_eq_true_iff]
        constructor
        · rintro ⟨x, hx, e⟩
          have := of_decide_eq_true e
          rw [keyP_prInj] at this
          rw [← this]
          exact hx
        · intro hp
          exact ⟨p, hp, decide_eq_true rfl⟩
      rw [e]
      by_cases hp : p ∈ acc
      · simp [hp]
      · simp [hp]
  exact this l []
theorem sort_pr (l : List Pr) : ((l.map prP).mergeSort (PySem.W.dataLe false id)).map tD = (sortPr l).map prD := by
  have s1 : (l.mergeSort lePr).map prP = (l.map prP).mergeSort (PySem.W.dataLe false id) := List.map_mergeSort (s := PySem.W.dataLe false (id : PyData → PyData)) (fun a _ b _ => by rfl)
  rw [← s1, List.map_map]
  exact List.map_congr_left fun p _ => tD_pr p
theorem zip_pr (l : List Pr) : (l.map prD).zip (l.map prP) = l.map fun p => (prD p, prP p) := by
  induction l with
  | nil => rfl
  | cons p l ih => simp only [List.map_cons, List.zip_cons_cons, ih]
theorem sortT_pr (l : List Pr) : sortT ((l.map prD).zip (l.map prP)) = (sortPr l).map prD := by
  have s1 : (l.mergeSort lePr).map (fun p => (prD p, prP p)) = (l.map fun p => (prD p, prP p)).mergeSort (PySem.W.dataLe false fun b : D × PyData => b.2) := List.map_mergeSort (s := PySem.W.dataLe false fun b : D × PyData => b.2) (fun a _ b _ => by rfl)
  unfold sortT
  rw [zip_pr, ← s1, List.map_map]
  rfl
theorem sortPr_len (l : List Pr) : (sortPr l).length = l.length := List.length_mergeSort _
theorem uniqPr_le (l : List Pr) : (uniqPr l).length ≤ l.length := by
  have := uniqP_len (l.map prP)
  rwa [uniq_pr, List.length_map, List.length_map] at this
section
variable {h : Hd} {Q : D → Hd → Prop} {n : Nat}
theorem W_sortSet {l : List Pr} (hl : l.length ≤ 4) : W (sortSet (l.map prD) h) Q ↔ Q (.ref h.length) (h ++ [.lst ((sortPr (uniqPr l)).map prD)]) := by
  have c : ((l.map prP).length ≤ 4 ∧ l.map prD = (l.map prP).map tD) ∧ (l.map prP).all keyOk = true ∧ alikeL (l.map prP) = true := by
    refine ⟨⟨by rw [List.length_map]; exact hl, ?_⟩, List.all_eq_true.mpr fun p hp => ?_, alikeL_pr l⟩
    · rw [List.map_map]
      exact List.map_congr_left fun p _ => (tD_pr p).symm
    · obtain ⟨a, _, rfl⟩ := List.mem_map.mp hp
      exact keyOk_pr a
  unfold sortSet
  simp only [rfs_pr]
  rw [if_pos c, uniq_pr, sort_pr]
  unfold mkLst
  have hz : ((sortPr (uniqPr l)).map prD).length ≤ sizeLine := by
    have := uniqPr_le l
    rw [List.length_map, sortPr_len, sizeLine_eq]
    omega
  rw [if_pos hz, W_ok]
theorem W_sortedPr {l : List Pr} (q : h[n]? = some (.lst (l.map prD))) (hl : l.length ≤ sizeLine) : W (dSortedX [.ref n] h) Q ↔ Q (.ref h.length) (h ++ [.lst ((sortPr l).map prD)]) := by
  unfold dSortedX
  simp only [q]
  unfold dSorted
  simp only [lstOf_at q, rfs_pr, alikeL_pr, if_true]
  rw [sortT_pr]
  unfold mkLst
  have hz : ((sortPr l).map prD).length ≤ sizeLine := by rw [List.length_map, sortPr_len]; exact hl
  rw [if_pos hz, W_ok]
theorem can_intsA (l : List Int) : PyData.canLayAll0 (l.map PyData.int) = true := by
  induction l with
  | nil => rfl
  | cons i l ih => simp [PyData.canLayAll0, PyData.canLay0, ih]
theorem shaped_pr (p : Pr) : SeqAt.shaped (prP p) = true := by
  unfold SeqAt.shaped
  rw [dp_pr]
  simp [prP, PyData.canLay0, PyData.canLayAll0, can_intsA]
theorem shaped_prs (l : List Pr) : SeqAt.shaped (.list (l.map prP)) = true := by
  have a : PyData.canLayAll0 (l.map prP) = true := by
    induction l with
    | nil => rfl
    | cons p l ih => simp [PyData.canLayAll0, ih, prP, PyData.canLay0, can_intsA]
  have b : PyData.depthAll (l.map prP) ≤ 2 := depthAll_of fun p hp => by
    obtain ⟨x, _, rfl⟩ := List.mem_map.mp hp
    rw [dp_pr]
    exact Nat.le_refl _
  unfold SeqAt.shaped
  rw [Bool.and_eq_true]
  refine ⟨a, decide_eq_true ?_⟩
  show PyData.depthAll (l.map prP) + 1 ≤ 64
  omega
theorem W_notInPr {l : List Pr} {p : Pr} (q : h[n]? = some (.lst (l.map prD))) : W (dNotInX (prD p) (.ref n) h) Q ↔ Q (.bl (!decide (p ∈ l))) h := by
  have e1 : inD (prD p) (.ref n) h = none := by
    unfold inD
    rw [seqOf_at q]
    show inSeq (prD p) _ h = none
    unfold inSeq
    rw [if_neg (fun z => nomatch z.1)]
  have e2 : rf h (prD p) = some (prP p) := rf_prD p
  have e3 : rf h (.ref n) = some (.list (l.map prP)) := by
    show rfR 8 h n = _
    unfold rfR
    simp only [q, rfs_pr, Option.map_some]
  have e4 : ((l.map prP).any fun z => PyData.eqv z (prP p)) = decide (p ∈ l) := by
    rw [List.any_map, Bool.eq_iff_iff, List.any_eq_true, decide_eq_true_iff]
    constructor
    · rintro ⟨x, hx, e⟩
      have e : PyData.eqv (prP x) (prP p) = true := e
      rw [eqv_pr] at e
      rw [← of_decide_eq_true e]
      exact hx
    · intro hp
      exact ⟨p, hp, by show PyData.eqv (prP p) (prP p) = true; rw [eqv_pr, decide_eq_true rfl]⟩
  unfold dNotInX
  simp only [e1]
  unfold inDeep
  simp only [e2, e3]
  rw [if_pos ⟨shaped_pr p, shaped_prs l⟩, e4]
  simp only [W_ok]
theorem W_xSortC {mi : XI} {g : XG} {m : XE} {own : List Nat} {en : En} : W (xSortC mi g m own en h) Q ↔ W (mi en h) fun it h1 => W (compZ it.gd g xYes m (wipeE en own) it.ds h1) fun ys h2 => W (sortSet ys h2) Q := by
  unfold xSortC
  simp only [W_bind, compZ_eq]
end
end Z
/-! text PB -/
namespace Lw
open PySem Z L2
theorem lt_of_at {α : Type} {l : List α} {i : Nat} {x : α} (e : l[i]? = some x) : i < l.length := (List.getElem?_eq_some_iff.mp e).1
theorem atI_nat {α : Type} {l : List α} {i : Nat} {x : α} (e : l[i]? = some x) : atI l (i : Int) = some x := by
  have := lt_of_at e
  unfold atI ixN
  rw [if_pos (by omega), if_pos (by omega)]
  simpa using e
/-- the loop's state -/
theorem goals_lt {size : Nat} {rows : List Rw} (h : rowsOk size [] rows) : ∀ i, ∀ g ∈ goals [] (rows.take i), g < 24 := by
  intro i
  induction i with
  | zero => intro g hg; simp [goals] at hg
  | succ i ih =>
    intro g hg
    cases e : rows[i]? with
    | none =>
      rw [List.take_of_length_le (by have := List.getElem?_eq_none_iff.mp e; omega), ← List.take_of_length_le (List.getElem?_eq_none_iff.mp e)] at hg
      exact ih g hg
    | some r =>
      rw [goals_next e] at hg
      rcases List.mem_cons.mp hg with rfl | hg
      · have := rowsOk_at h e
        cases r <;> exact this.1
      · exact ih g hg
theorem row_goal {r : Rw} {h : Hd} {Q : D → Hd → Prop} : W (dIx r.d (.int 1) h) Q ↔ Q (.int r.goal) h := by
  cases r <;> simp [Rw.d, Rw.goal]
/-- the loop's state -/
def Op7.pn (o : Op7) : PyData := .str o.nm
def Rw.p : Rw → PyData
  | .set g w => .tuple [.str "set", .int g, .int w]
  | .load g a => .tuple [.str "load", .int g, .int a]
  | .cho g t o e => .tuple [.str "choose", .int g, .int t, .int o, .int e]
  | .op o g a b => .tuple [.str o.nm, .int g, .int a, .int b]
def Rc.p (c : Rc) : PyData := .tuple [.tuple (c.rows.map Rw.p), .int c.res]
theorem pd_row (r : Rw) : pd r.d = some (Rw.p r) := by cases r <;> rfl
theorem pd_rc (c : Rc) : pd c.d = some (Rc.p c) := by
  have : pds (c.rows.map Rw.d) = some (c.rows.map Rw.p) := pds_of _ _ fun r _ => pd_row r
  have e := pd_tup this
  show (match rfW (fun _ => none) (D.tup (c.rows.map Rw.d)), (some [PyData.int c.res] : Option (List PyData)) with | some p, some ps => some (p :: ps) | _, _ => none).map PyData.tuple = _
  rw [show rfW (fun _ => none) (D.tup (c.rows.map Rw.d)) = some (.tuple (c.rows.map Rw.p)) from e]
  rfl
theorem pd_rcs (cs : List Rc) : pd (.tup (cs.map Rc.d)) = some (.tuple (cs.map Rc.p)) := pd_tup (pds_of _ _ fun c _ => pd_rc c)
theorem canAll {ps : List PyData} : (∀ p ∈ ps, p.canLay0 = true) → PyData.canLayAll0 ps = true := by
  induction ps with
  | nil => intro _; rfl
  | cons p ps ih =>
    intro h
    show (p.canLay0 && PyData.canLayAll0 ps) = true
    rw [h p List.mem_cons_self, ih fun q hq => h q (List.mem_cons_of_mem _ hq)]
    rfl
theorem depAll {ps : List PyData} {n : Nat} : (∀ p ∈ ps, p.depth ≤ n) → PyData.depthAll ps ≤ n := by
  induction ps with
  | nil => intro _; exact Nat.zero_le _
  | cons p ps ih => exact fun h => Nat.max_le.mpr ⟨h p List.mem_cons_self, ih fun q hq => h q (List.mem_cons_of_mem _ hq)⟩
theorem ok_set : (PyData.str "set").canLay0 = true := by decide +kernel
theorem ok_load : (PyData.str "load").canLay0 = true := by decide +kernel
theorem ok_cho : (PyData.str "choose").canLay0 = true := by decide +kernel
theorem ok_op (o : Op7) : (PyData.str o.nm).canLay0 = true := by cases o <;> decide +kernel
theorem can_row (r : Rw) : (Rw.p r).canLay0 = true ∧ (Rw.p r).depth ≤ 1 := by
  cases r with
  | set g w => exact ⟨by show ((PyData.str "set").canLay0 && (true && (true && true))) = true; rw [ok_set]; rfl, Nat.le_refl _⟩
  | load g w => exact ⟨by show ((PyData.str "load").canLay0 && (true && (true && true))) = true; rw [ok_load]; rfl, Nat.le_refl _⟩
  | cho g w a b => exact ⟨by show ((PyData.str "choose").canLay0 && (true && (true && (true && (true && true))))) = true; rw [ok_cho]; rfl, Nat.le_refl _⟩
  | op o g a b => exact ⟨by show ((PyData.str o.nm).canLay0 && (true && (true && (true && true)))) = true; rw [ok_op]; rfl, Nat.le_refl _⟩
theorem can_rc (c : Rc) : (Rc.p c).canLay0 = true ∧ (Rc.p c).depth ≤ 3 := by
  have a : PyData.canLayAll0 (c.rows.map Rw.p) = true := canAll fun p hp => by
    obtain ⟨r, _, rfl⟩ := List.mem_map.mp hp
    exact (can_row r).1
  have b : PyData.depthAll (c.rows.map Rw.p) ≤ 1 := depAll fun p hp => by
    obtain ⟨r, _, rfl⟩ := List.mem_map.mp hp
    exact (can_row r).2
  refine ⟨?_, ?_⟩
  · show (PyData.canLayAll0 (c.rows.map Rw.p) && (true && true)) = true
    rw [a]
    rfl
  · show max (PyData.depthAll (c.rows.map Rw.p) + 1) (max 0 0) + 1 ≤ 3
    omega
theorem shaped_rcs (cs : List Rc) : SeqAt.shaped (.tuple (cs.map Rc.p)) = true := by
  have a : PyData.canLayAll0 (cs.map Rc.p) = true := canAll fun p hp => by
    obtain ⟨r, _, rfl⟩ := List.mem_map.mp hp
    exact (can_rc r).1
  have b : PyData.depthAll (cs.map Rc.p) ≤ 3 := depAll fun p hp => by
    obtain ⟨r, _, rfl⟩ := List.mem_map.mp hp
    exact (can_rc r).2
  unfold SeqAt.shaped
  rw [Bool.and_eq_true]
  refine ⟨a, decide_eq_true ?_⟩
  show PyData.depthAll (cs.map Rc.p) + 1 ≤ 64
  omega
end Lw
/-! text P2 -/
namespace Lw
open PySem Z L2
theorem is_integer_w {i : Int} {h : Hd} {Q : D → Hd → Prop} (k : Q (.bl true) h) : W (F_is_integer [.int i] h) Q := by
  simp [F_is_integer, B_is_integer, startE, W_xVar]
  exact k
theorem is_below_w {i b : Int} {h : Hd} {Q : D → Hd → Prop} (h0 : 0 ≤ i) (h1 : i < b) (k : Q (.bl true) h) : W (F_is_number_below [.int i, .int b] h) Q := by
  simp [F_is_number_below, B_is_number_below, startE, W_xVar, callA, arrD]
  refine is_integer_w ?_
  simp [W_xVar, h0, h1, k]
  exact fun e => absurd e (by omega)
theorem is_register_w {g : Nat} {h : Hd} {Q : D → Hd → Prop} (h1 : g < 24) (k : Q (.bl true) h) : W (F_is_register [.int g] h) Q := by
  simp [F_is_register, B_is_register, startE, W_xVar, callA, arrD]
  exact is_below_w (by omega) (by omega) k
theorem is_word_w {w : Int} {h : Hd} {Q : D → Hd → Prop} (h1 : Wd w) (k : Q (.bl true) h) : W (F_is_word [.int w] h) Q := by
  obtain ⟨a, b⟩ := h1
  simp [F_is_word, B_is_word, startE, W_xVar, callA, arrD]
  refine is_integer_w ?_
  have : w ≤ 999999 := by omega
  simp [W_xVar, a, this, k]
  exact fun e => absurd e (by omega)
theorem many_sources_w {o : Op7} {h : Hd} {Q : D → Hd → Prop} (k : Q (.int 2) h) : W (F_many_sources [.str o.nm] h) Q := by
  cases o <;> simp [F_many_sources, B_many_sources, startE, W_xVar, W_ite, Op7.nm, str_eq, W_inTup, sizeLine, k]
theorem many_choose_w {h : Hd} {Q : D → Hd → Prop} (k : Q (.int 3) h) : W (F_many_sources [.str "choose"] h) Q := by
  simp [F_many_sources, B_many_sources, startE, W_xVar, W_ite, str_eq, W_inTup, sizeLine, k]
/-- known registers as a dict -/
def Known (kvs : List (D × D)) (kn : List Nat) : Prop := ∀ g ∈ kn, (dlook kvs (.int g)).isSome = true
theorem srcs_w {gs kn : List Nat} {kvs : List (D × D)} {K n : Nat} {a b c e f g : Option D} {h : Hd} {QA : List D → Hd → Prop} (hg : ∀ x ∈ gs, x ∈ kn) (h24 : ∀ x ∈ kn, x < 24) (hk : h[K]? = some (.dic kvs)) (hn : h[n]? = some (.lst (gs.map fun (x : Nat) => D.int x))) (hK : Known kvs kn)
    (k : QA ((List.replicate gs.length true).map D.bl) h) : W (compZ [(n, .lst (gs.map fun (x : Nat) => D.int x))] (gNm 6) xYes (xAndV (xFn F_is_register [.inl 0] 1 (xCons (xVar 6) xNil)) (xOp dInX (xVar 6) (xVar 2))) [a, b, some (.ref K), c, e, f, g] (gs.map fun (x : Nat) => D.int x) h) QA := by
  refine comp_rule (I := fun i acc h' => h' = h ∧ acc = (List.replicate i true).map D.bl) 0 ?_ ⟨rfl, rfl⟩ ?_
  · rintro i d acc h' hd ⟨rfl, rfl⟩
    rw [List.getElem?_map] at hd
    obtain ⟨x, hx, rfl⟩ := Option.map_eq_some_iff.mp hd
    have xm := hg x (List.mem_of_getElem? hx)
    refine ⟨gdOk_one.mpr hn, ?_⟩
    simp only [WS_gNm, W_yes, W_xAndV, W_xFn, W_xCons, W_xNil, W_xOp]
    refine ⟨fun _ => ?_, fun z => nomatch z⟩
    rw [W_xVar]
    refine ⟨_, rfl, ?_⟩
    refine is_register_w (h24 x xm) ?_
    rw [boolIs]
    refine ⟨fun _ => ?_, fun z => nomatch z⟩
    rw [W_xVar]
    refine ⟨_, rfl, ?_⟩
    rw [W_xVar]
    refine ⟨_, rfl, ?_⟩
    rw [W_inDic hk rfl, hK x xm]
    simp [List.replicate_succ']
  · rintro ys h' ⟨rfl, e⟩
    refine ⟨gdOk_one.mpr hn, ?_⟩
    have : ys = (List.replicate gs.length true).map D.bl := by simpa using e
    rw [this]
    exact k
theorem is_row_w {r : Rw} {size K : Nat} {kn : List Nat} {kvs : List (D × D)} {h : Hd} {Q : D → Hd → Prop} (ok : r.ok size kn) (hk : h[K]? = some (.dic kvs)) (hK : Known kvs kn) (h24 : ∀ x ∈ kn, x < 24) (k : ∀ h', Fr [] h h' → Q (.bl true) h') : W (F_is_recipe_row [r.d, .int size, .ref K] h) Q := by
  have hkl := get_lt hk
  have e2 : ∀ g, (h ++ g)[K]? = some (.dic kvs) := fun g => (List.getElem?_append_left hkl).trans hk
  cases r with
  | set g w =>
    simp [F_is_recipe_row, B_is_recipe_row, startE, W_xVar, W_ite, Rw.d, callA, arrD]
    refine is_register_w ok.1 ?_
    simp [W_xVar, str_eq, W_inTup, sizeLine]
    have e3 : (h ++ [.lst [.int w]])[h.length]? = some (.lst [.int w]) := by simp
    simp [W_lenLst e3, W_ixLst e3]
    exact is_word_w ok.2 (k _ Fr.app)
  | load g a =>
    simp [F_is_recipe_row, B_is_recipe_row, startE, W_xVar, W_ite, Rw.d, callA, arrD]
    refine is_register_w ok.1 ?_
    simp [W_xVar, str_eq, W_inTup, sizeLine]
    have e3 : (h ++ [.lst [.int a]])[h.length]? = some (.lst [.int a]) := by simp
    simp [W_lenLst e3, W_ixLst e3]
    exact is_below_w (by omega) (by have := ok.2; omega) (k _ Fr.app)
  | cho g t o e =>
    simp [F_is_recipe_row, B_is_recipe_row, startE, W_xVar, W_ite, Rw.d, callA, arrD]
    refine is_register_w ok.1 ?_
    simp [W_xVar, str_eq, W_inTup, sizeLine]
    have e3 : (h ++ [.lst [.int t, .int o, .int e]])[h.length]? = some (.lst [.int t, .int o, .int e]) := by simp
    refine many_choose_w ?_
    simp [-W_compCons, W_itsLst e3]
    refine srcs_w (gs := [t, o, e]) (kn := kn) (by simp [ok.2.1, ok.2.2.1, ok.2.2.2]) h24 (e2 _) e3 hK ?_
    have e5 : (h ++ [.lst [.int t, .int o, .int e]] ++ [.lst ((List.replicate 3 true).map D.bl)])[(h ++ [MO.lst [.int t, .int o, .int e]]).length]? = some (.lst ((List.replicate 3 true).map D.bl)) := by simp
    refine ⟨by simp, (W_all e5).mpr ?_⟩
    rw [List.append_assoc]
    exact k _ Fr.app
  | op o g a b =>
    have n1 : o.nm ≠ Str.ofString "set" := by cases o <;> simp [Op7.nm, str_eq]
    have n2 : o.nm ≠ Str.ofString "load" := by cases o <;> simp [Op7.nm, str_eq]
    simp [F_is_recipe_row, B_is_recipe_row, startE, W_xVar, W_ite, Rw.d, callA, arrD]
    refine is_register_w ok.1 ?_
    simp [W_xVar, Ne.symm n1, Ne.symm n2, W_inTup, sizeLine]
    have e3 : (h ++ [.lst [.int a, .int b]])[h.length]? = some (.lst [.int a, .int b]) := by simp
    refine many_sources_w ?_
    simp [-W_compCons, W_itsLst e3]
    refine srcs_w (gs := [a, b]) (kn := kn) (by simp [ok.2.1, ok.2.2]) h24 (e2 _) e3 hK ?_
    have e5 : (h ++ [.lst [.int a, .int b]] ++ [.lst ((List.replicate 2 true).map D.bl)])[(h ++ [MO.lst [.int a, .int b]]).length]? = some (.lst ((List.replicate 2 true).map D.bl)) := by simp
    refine ⟨by simp, (W_all e5).mpr ?_⟩
    rw [List.append_assoc]
    exact k _ Fr.app
end Lw
/-! text P3 -/
namespace Lw
open PySem Z L2
structure IR (c : Rc) (size : Nat) (h : Hd) (i : Nat) (en : En) (h' : Hd) : Prop where
  en : ∃ a, en = [some c.d, some (.int size), some (.tup (c.rows.map Rw.d)), some (.int c.res), some (.ref h.length), a]
  fr : Fr [] h h'
  dc : ∃ kvs, h'[h.length]? = some (.dic kvs) ∧ kvs.length ≤ i ∧ Known kvs (goals [] (c.rows.take i))
theorem Known.put {kvs : List (D × D)} {kn : List Nat} (h : Known kvs kn) (g : Nat) (v : D) : Known (dput kvs (.int g) v) (g :: kn) := fun x hx => by
  rw [dlook_put]
  split
  · rfl
  · rename_i ne
    exact h x ((List.mem_cons.mp hx).resolve_left fun e => ne (by rw [e]))
theorem is_recipe_w {c : Rc} {size : Nat} {h : Hd} {Q : D → Hd → Prop} (ok : c.ok size) (hl : c.rows.length ≤ 2000) (k : ∀ h', Fr [] h h' → Q (.bl true) h') : W (F_is_recipe [c.d, .int size] h) Q := by
  simp [F_is_recipe, B_is_recipe, startE, W_xVar, W_ite, Rc.d, callA, arrD, xDic0]
  refine for_rule (I := IR c size h) 0 ?_ ⟨⟨_, rfl⟩, Fr.app, [], by simp, Nat.le_refl _, fun _ hg => by simp [goals] at hg⟩ ?_
  · intro i d en h1 hd I
    obtain ⟨⟨a, rfl⟩, fr, kvs, hk, kl, rg⟩ := I
    rw [Nat.zero_add] at kl rg
    rw [Nat.zero_add]
    rw [List.getElem?_map] at hd
    obtain ⟨r, hr, rfl⟩ := Option.map_eq_some_iff.mp hd
    have il := lt_of_at hr
    have hkl := get_lt hk
    refine ⟨by simp, ?_⟩
    simp [W_xVar, W_ite, callA, arrD]
    refine is_row_w (rowsOk_at ok.rows hr) hk rg (goals_lt ok.rows i) fun h2 f2 => ?_
    have hk2 := f2.get (by simp) hk
    simp [W_xVar, row_goal, WS_setDic hk2, keyD, sizeLine]
    refine ⟨by omega, ⟨_, rfl⟩, ?_, _, List.getElem?_set_self (get_lt hk2), Nat.le_trans length_dput (by omega), ?_⟩
    · exact Fr.fresh (((fr.trans f2).mono (T := [h.length]) (by simp)).trans (Fr.set (by simp))) (Nat.le_refl _)
    · rw [goals_next hr]
      exact rg.put _ _
  · rintro en h1 ⟨⟨a, rfl⟩, fr, kvs, hk, kl, rg⟩
    rw [Nat.zero_add, List.length_map] at rg
    have lt := goals_lt ok.rows c.rows.length
    rw [List.take_length] at rg lt
    have rm : c.res ∈ goals [] c.rows := goals_mem.mpr (.inr ok.res)
    refine ⟨by simp, ?_⟩
    simp [W_xVar, callA, arrD]
    refine is_register_w (lt _ rm) ?_
    simp [W_xVar]
    rw [W_inDic hk rfl, rg _ rm]
    exact k h1 fr
theorem is_recipes_w {cs : List Rc} {h : Hd} {Q : D → Hd → Prop} (hc : ∀ c ∈ cs, c.ok cs.length ∧ c.rows.length ≤ 2000) (hl : cs.length ≤ 1000) (h0 : cs ≠ []) (k : ∀ h', Fr [] h h' → Q (.bl true) h') : W (F_is_recipes [.tup (cs.map Rc.d)] h) Q := by
  have ne : W (dNe (.tup (cs.map Rc.d)) (.tup []) h) (fun x h1 => x = .bl true ∧ h1 = h) := by
    have e : eqD (.tup (cs.map Rc.d)) (.tup []) h = some false := by
      unfold eqD
      simp only [rf_pd (pd_rcs cs), show rf h (.tup []) = some (.tuple []) from rfl]
      rw [if_pos ⟨shaped_rcs cs, by decide +kernel⟩]
      cases cs with
      | nil => exact absurd rfl h0
      | cons c cs => rfl
    unfold dNe
    rw [e]
    simp
  simp [F_is_recipes, B_is_recipes, startE, W_xVar, sizeLine]
  refine ne.imp ?_
  rintro x h1 ⟨rfl, rfl⟩
  simp [W_xVar]
  refine comp_rule (acc := []) (I := fun i acc h' => Fr [] h1 h' ∧ acc = (List.replicate i true).map D.bl) 0 ?_ ⟨Fr.refl, rfl⟩ ?_
  · rintro i d acc h' hd ⟨fr, rfl⟩
    rw [List.getElem?_map] at hd
    obtain ⟨c, hx, rfl⟩ := Option.map_eq_some_iff.mp hd
    refine ⟨by simp, ?_⟩
    simp [W_xVar, callA, arrD]
    have z := hc c (List.mem_of_getElem? hx)
    refine is_recipe_w z.1 z.2 fun h2 f2 => ⟨fr.trans f2, ?_⟩
    simp [List.replicate_succ']
  · rintro ys h' ⟨fr, e⟩
    refine ⟨by simp, ?_⟩
    have e : ys = (List.replicate cs.length true).map D.bl := by simpa using e
    subst e
    have e3 : (h' ++ [.lst ((List.replicate cs.length true).map D.bl)])[h'.length]? = some (.lst ((List.replicate cs.length true).map D.bl)) := by simp
    refine ⟨by simp; omega, (W_all e3).mpr ?_⟩
    have : (List.replicate cs.length true).all id = true := by simp
    rw [this]
    exact k _ (fr.trans Fr.app)
end Lw
/-! text PR1 -/
namespace Lw
open PySem Z L2
/-- a new list of rows -/
structure NewR (rs : List Ins) (h : Hd) (n : Nat) (h' : Hd) : Prop where
  fr : Fr [] h h'
  at_ : h'[n]? = some (.lst (rs.map Ins.d))
  ge : h.length ≤ n
/-- a list of rows so far -/
structure AtL (h : Hd) (n : Nat) (A B : List Ins) : Prop where
  at_ : h[n]? = some (.lst (A.map Ins.d))
  eq : A = B
theorem counting_rows_w {a b : Nat} {h : Hd} {Q : D → Hd → Prop} (k : ∀ n h', NewR (cntRows a b) h n h' → Q (.ref n) h') : W (F_counting_rows [.int a, .int b] h) Q := by
  simp [F_counting_rows, B_counting_rows, startE, W_xVar, sizeLine]
  exact k _ _ ⟨Fr.app, by simp [cntRows, Ins.d, Rw.d, Op7.nm], by simp⟩
theorem choosing_rows_w {i a b r : Nat} {h : Hd} {Q : D → Hd → Prop} (k : ∀ n h', NewR (choRows i a b r) h n h' → Q (.ref n) h') : W (F_choosing_rows [.int i, .int a, .int b, .int r] h) Q := by
  simp [F_choosing_rows, B_choosing_rows, startE, W_xVar, sizeLine]
  exact k _ _ ⟨Fr.app, by simp [choRows, Ins.d, Rw.d, Op7.nm], by simp⟩
theorem placed_row_w {r : Rw} {b : Nat} {h : Hd} {Q : D → Hd → Prop} (k : Q (Ins.rw (r.mv (b + 1))).d h) : W (F_placed_row [r.d, .int b] h) Q := by
  simp [F_placed_row, B_placed_row, startE, W_xVar, W_ite]
  cases r with
  | set g w => simp [Rw.d, str_eq]; exact k
  | load g a =>
    simp [Rw.d, str_eq, sizeLine]
    have e : ((b : Int) + 1 + (a : Int)) = ((a + (b + 1) : Nat) : Int) := by omega
    rw [e]
    exact k
  | cho g t o e => simp [Rw.d, str_eq]; exact k
  | op o g a c =>
    have : o.nm ≠ Str.ofString "load" := by cases o <;> simp [Op7.nm, str_eq]
    simp [Rw.d, this]
    exact k
theorem store_addresses_w {s c : Nat} {h : Hd} {Q : D → Hd → Prop} (hs : s < 1000) (hc : c < 1000) (k : Q (.tup [.int (oldA s c), .int (newA s c), .int (lookA s c), .int (bestA s c)]) h) : W (F_store_addresses [.int s, .int c] h) Q := by
  simp [F_store_addresses, B_store_addresses, startE, W_xVar, sizeLine]
  refine ⟨?_, ?_⟩
  · omega
  · have e1 : (4 : Int) * ((s : Int) + 2) * (c : Int) = ((oldA s c : Nat) : Int) := by simp [oldA]
    rw [e1]
    simpa [newA, lookA, bestA] using k
theorem is_number_w {v a b : Int} {h : Hd} {Q : D → Hd → Prop} (ha : a ≤ v) (hb : v ≤ b) (k : Q (.bl true) h) : W (F_is_number [.int v, .int a, .int b] h) Q := by
  simp [F_is_number, B_is_number, startE, W_xVar]
  refine ⟨fun _ => ?_, fun z => absurd z (by omega)⟩
  rw [decide_eq_true hb]
  exact k
theorem enough_w {e : Nat} {h : Hd} {Q : D → Hd → Prop} (he : e < 100) (k : Q (.int (enough e)) h) : W (F_enough_copies [.int e] h) Q := by
  simp [F_enough_copies, B_enough_copies, startE, W_xVar]
  refine ⟨by omega, ?_⟩
  unfold enough at k
  by_cases h0 : e = 0
  · subst h0; exact k
  · by_cases h1 : e = 1
    · subst h1; exact k
    · rw [if_neg h0, if_neg h1] at k
      have : List.lookup (e : Int) [(0, 1), (1, (3 : Int))] = none := by
        rw [List.lookup_cons, beq_eq_false_iff_ne.mpr (show (e : Int) ≠ 0 by omega), List.lookup_cons, beq_eq_false_iff_ne.mpr (show (e : Int) ≠ 1 by omega)]
        rfl
      rw [this]
      simpa using k
@[simp] theorem cut4_2 {a b c d : D} : cutL [a, b, c, d] none (some 2) = [a, b] := rfl
theorem piece_p_w {cs : List Rc} {c : Nat} {h : Hd} {Q : D → Hd → Prop} (hz : cs.length ≤ 100) (hc : c < 100) (hl : ∀ r ∈ cs, r.rows.length ≤ 2000) (k : ∀ n h', NewR (pieceP cs c) h n h' → Q (.ref n) h') : W (F_piece_p [.tup (cs.map Rc.d), .int c] h) Q := by
  simp [F_piece_p, B_piece_p, startE, W_xVar, sizeLine, callA, arrD]
  refine store_addresses_w (by omega) (by omega) ?_
  simp [sizeLine, W_xVar]
  refine counting_rows_w fun n0 h1 N1 => ?_
  refine ⟨_, rowOf_lst N1.at_, by simp [cntRows], ?_⟩
  have fl : ∀ i, (((cs.mapIdx fun i r => stepRows (oldA cs.length c) (newA cs.length c) i r).take i).flatten).length ≤ 200400 := fun i => by
    have := flatten_le (ls := (cs.mapIdx fun i r => stepRows (oldA cs.length c) (newA cs.length c) i r).take i) (m := 2004) fun l hl' => by
      obtain ⟨j, hj⟩ := List.mem_iff_getElem?.mp (List.mem_of_mem_take hl')
      rw [List.getElem?_mapIdx] at hj
      obtain ⟨r, hr, rfl⟩ := Option.map_eq_some_iff.mp hj
      rw [step_len]
      have := hl r (List.mem_of_getElem? hr)
      omega
    have l2 : ((cs.mapIdx fun i r => stepRows (oldA cs.length c) (newA cs.length c) i r).take i).length ≤ 100 := by
      rw [List.length_take, List.length_mapIdx]
      omega
    have := Nat.mul_le_mul_right 2004 l2
    omega
  have ecs : enumD (cs.map Rc.d) = (cs.mapIdx fun i x => (i, x)).map fun p => .tup [.int (p.1 : Nat), Rc.d p.2] := enumD_map
  rw [ecs]
  have lm : ((cs.mapIdx fun i x => (i, x)).map fun p => D.tup [.int (p.1 : Nat), Rc.d p.2]).length = cs.length := by simp
  generalize hP : [Ins.rw (.set 24 999999), .store 24 (newA cs.length c + cs.length + 1)] ++ cntRows (oldA cs.length c) (newA cs.length c) = P
  have lP : P.length = 8 := by rw [← hP]; rfl
  have eP : D.tup [D.str (Str.ofString "set"), D.int 24, D.int 999999] :: D.tup [D.str (Str.ofString "store"), D.int 24, D.int (↑(newA cs.length c) + ↑cs.length + 1)] :: List.map Ins.d (cntRows (oldA cs.length c) (newA cs.length c)) = P.map Ins.d := by
    rw [← hP]
    simp [Ins.d, Rw.d]
  rw [eP]
  refine for_rule (I := fun i en h' => Fr [] h h' ∧ (∃ a6 a7 a8 a9 : Option D, en = [some (D.tup (cs.map Rc.d)), some (D.int c), some (D.int cs.length), some (D.int (oldA cs.length c)), some (D.int (newA cs.length c)), some (D.ref h1.length), a6, a7, a8, a9]) ∧
    ∃ A : List Ins, AtL h' h1.length A (P ++ ((cs.mapIdx fun i r => stepRows (oldA cs.length c) (newA cs.length c) i r).take i).flatten)) 0 ?_ ⟨N1.fr.trans Fr.app, ⟨_, _, _, _, rfl⟩, P, by simp, by simp⟩ ?_
  · rintro i d en h' hd ⟨f1, ⟨a6, a7, a8, a9, rfl⟩, A, ⟨e1, eA⟩⟩
    rw [Nat.zero_add] at eA ⊢
    rw [List.getElem?_map, List.getElem?_mapIdx] at hd
    obtain ⟨p, hp, rfl⟩ := Option.map_eq_some_iff.mp hd
    obtain ⟨r, hr, rfl⟩ := Option.map_eq_some_iff.mp hp
    have lh := N1.fr.len
    have lA : A.length ≤ 200408 := by
      rw [eA, List.length_append, lP]
      have := fl i
      omega
    have hlr := hl r (List.mem_of_getElem? hr)
    refine ⟨by simp, ?_⟩
    simp [W_xVar, callA, arrD, sizeLine, Rc.d, isLst_at e1]
    refine comp_map (S := []) (g := fun r => (Ins.rw (Rw.mv (oldA cs.length c + 1) r)).d) (fun _ _ => by simp) (fun j x h2 hx fr => ?_) fun h2 fr => ?_
    · simp [W_xVar, callA, arrD]
      exact placed_row_w ⟨rfl, fr⟩
    · have e2 := fr.get (by simp) e1
      have hk1 := get_lt e2
      have e3 : ∀ g, (h2 ++ [MO.lst g])[h1.length]? = some (.lst (A.map Ins.d)) := fun g => by
        rw [List.getElem?_append_left hk1]
        exact e2
      refine ⟨by simp; omega, ?_⟩
      rw [W_extend (e3 _) at_new]
      refine ⟨by simp [sizeLine]; omega, ?_⟩
      have eB : A.map Ins.d ++ (r.rows.map fun r => (Ins.rw (Rw.mv (oldA cs.length c + 1) r)).d) = (A ++ r.rows.map fun r => Ins.rw (Rw.mv (oldA cs.length c + 1) r)).map Ins.d := by simp
      rw [eB]
      generalize hB : A ++ (r.rows.map fun r => Ins.rw (Rw.mv (oldA cs.length c + 1) r)) = Bs
      have lB : Bs.length ≤ 202408 := by
        rw [← hB, List.length_append, List.length_map]
        omega
      have fr2 : Fr [] h ((h2 ++ [MO.lst (r.rows.map fun r => (Ins.rw (Rw.mv (oldA cs.length c + 1) r)).d)]).set h1.length (.lst (Bs.map Ins.d))) := Fr.fresh (i := h1.length) (((f1.trans fr).trans Fr.app).mono (T := [h1.length]) (by simp) |>.trans (Fr.set (by simp))) lh
      have e4 : ((h2 ++ [MO.lst (r.rows.map fun r => (Ins.rw (Rw.mv (oldA cs.length c + 1) r)).d)]).set h1.length (.lst (Bs.map Ins.d)))[h1.length]? = some (.lst (Bs.map Ins.d)) := List.getElem?_set_self (by simp; omega)
      generalize (h2 ++ [MO.lst (r.rows.map fun r => (Ins.rw (Rw.mv (oldA cs.length c + 1) r)).d)]).set h1.length (.lst (Bs.map Ins.d)) = h3 at fr2 e4
      simp [W_xVar, callA, arrD, sizeLine, isLst_at e4]
      refine choosing_rows_w fun n4 h4 N4 => ?_
      have e5 := N4.fr.get (by simp) e4
      rw [W_extend e5 N4.at_]
      refine ⟨by simp [sizeLine, choRows]; omega, Fr.fresh (i := h1.length) ((fr2.trans N4.fr).mono (T := [h1.length]) (by simp) |>.trans (Fr.set (by simp))) lh, Bs ++ choRows i (oldA cs.length c) (newA cs.length c) r.res, ⟨?_, ?_⟩⟩
      · rw [List.getElem?_set_self (get_lt e5), List.map_append]
      · rw [← hB, eA, Z.take_next (x := stepRows (oldA cs.length c) (newA cs.length c) i r) (by rw [List.getElem?_mapIdx, hr]; rfl), List.flatten_append]
        simp [stepRows]
  · rintro en h' ⟨f1, ⟨a6, a7, a8, a9, rfl⟩, A, ⟨e1, eA⟩⟩
    rw [Nat.zero_add, lm, List.take_of_length_le (by simp)] at eA
    have lA : A.length ≤ 200408 := by
      rw [eA, List.length_append, lP]
      have := fl cs.length
      rw [List.take_of_length_le (by simp)] at this
      omega
    refine ⟨by simp, ?_⟩
    simp [W_xVar, callA, arrD, sizeLine, rowOf_lst e1]
    have e2 : ((newA cs.length c : Nat) : Int) + (cs.length : Int) + 1 = ((newA cs.length c + cs.length + 1 : Nat) : Int) := by simp
    rw [e2]
    refine counting_rows_w fun n3 h3 N3 => ?_
    refine ⟨_, rowOf_lst N3.at_, by simp [cntRows]; omega, ?_⟩
    refine k _ _ ⟨f1.trans (N3.fr.trans Fr.app), ?_, ?_⟩
    · rw [at_new, eA, ← hP]
      simp [pieceP]
    · have := (f1.trans N3.fr).len
      omega
theorem vote_rows_w {news : List Nat} {e len look best src K : Nat} {h : Hd} {Q : D → Hd → Prop} (hK : h[K]? = some (.lst (news.map fun (x : Nat) => D.int x))) (hl : 0 < len) (ln : news.length ≤ 100) (k : ∀ n h', NewR (voteRows news e len look best src) h n h' → Q (.ref n) h') :
    W (F_vote_rows [.ref K, .int e, .int len, .int look, .int best, .int src] h) Q := by
  have ll : ((look : Int) + (len : Int) - 1) = ((look + len - 1 : Nat) : Int) := by omega
  simp [F_vote_rows, B_vote_rows, startE, W_xVar, sizeLine, ll]
  have hk := get_lt hK
  generalize hP0 : [Ins.move 24 src look len, .rw (.load 25 look), .rw (.load 26 (look + len - 1))] = P0
  have e0 : [D.tup [D.str (Str.ofString "move"), D.int 24, D.int ↑src, D.int ↑look, D.int ↑len], D.tup [D.str (Str.ofString "load"), D.int 25, D.int ↑look], D.tup [D.str (Str.ofString "load"), D.int 26, D.int ↑(look + len - 1)]] = P0.map Ins.d := by
    rw [← hP0]
    simp [Ins.d, Rw.d]
  rw [e0]
  have q1 : ∀ g, (h ++ [MO.lst (P0.map Ins.d), MO.lst g])[h.length]? = some (.lst (P0.map Ins.d)) := fun g => by simp
  have q2 : ∀ g, (h ++ [MO.lst (P0.map Ins.d), MO.lst g])[h.length + 1]? = some (.lst g) := fun g => by simp
  rw [W_extend (q1 _) (q2 _)]
  have l0 : P0.length = 3 := by rw [← hP0]; rfl
  refine ⟨isLst_at at_new, by simp [sizeLine, l0], ?_⟩
  generalize hP1 : P0 ++ [Ins.rw (.op .same 26 25 26), .rw (.load 27 best), .rw (.op .less 27 27 25), .rw (.set 28 0)] = P1
  have e1 : P0.map Ins.d ++ [D.tup [D.str (Str.ofString "same"), D.int 26, D.int 25, D.int 26], D.tup [D.str (Str.ofString "load"), D.int 27, D.int ↑best], D.tup [D.str (Str.ofString "less"), D.int 27, D.int 27, D.int 25], D.tup [D.str (Str.ofString "set"), D.int 28, D.int 0]] = P1.map Ins.d := by
    rw [← hP1]
    simp [Ins.d, Rw.d, Op7.nm]
  rw [e1]
  have l1 : P1.length = 7 := by rw [← hP1]; simp [l0]
  generalize hH : (h ++ [MO.lst (P0.map Ins.d), MO.lst [D.tup [D.str (Str.ofString "same"), D.int 26, D.int 25, D.int 26], D.tup [D.str (Str.ofString "load"), D.int 27, D.int ↑best], D.tup [D.str (Str.ofString "less"), D.int 27, D.int 27, D.int 25], D.tup [D.str (Str.ofString "set"), D.int 28, D.int 0]]]).set h.length (.lst (P1.map Ins.d)) = h1
  have f1 : Fr [] h h1 := by
    rw [← hH]
    exact Fr.fresh (i := h.length) (Fr.app.trans (Fr.set (by simp))) (Nat.le_refl _)
  have a1 : h1[h.length]? = some (.lst (P1.map Ins.d)) := by
    rw [← hH]
    exact List.getElem?_set_self (by simp)
  have k1 := f1.get (by simp) hK
  simp [W_xVar, W_itsLst k1]
  have fl : ∀ i, (((news.map fun nw => [Ins.alike 29 look nw len, .rw (.op .add 28 28 29)]).take i).flatten).length ≤ 200 := fun i => by
    have := flatten_le (ls := (news.map fun nw => [Ins.alike 29 look nw len, .rw (.op .add 28 28 29)]).take i) (m := 2) fun l hl' => by
      obtain ⟨x, _, rfl⟩ := List.mem_map.mp (List.mem_of_mem_take hl')
      simp
    have l2 : ((news.map fun nw => [Ins.alike 29 look nw len, .rw (.op .add 28 28 29)]).take i).length ≤ 100 := by
      rw [List.length_take, List.length_map]
      omega
    omega
  refine for_rule (I := fun i en h' => Fr [] h h' ∧ (∃ a7 : Option D, en = [some (D.ref K), some (D.int e), some (D.int len), some (D.int look), some (D.int best), some (D.int src), some (D.ref h.length), a7]) ∧
    ∃ A : List Ins, AtL h' h.length A (P1 ++ ((news.map fun nw => [Ins.alike 29 look nw len, .rw (.op .add 28 28 29)]).take i).flatten)) 0 ?_ ⟨f1, ⟨_, rfl⟩, P1, a1, by simp⟩ ?_
  · rintro i d en h' hd ⟨f2, ⟨a7, rfl⟩, A, ⟨e2, eA⟩⟩
    rw [Nat.zero_add] at eA ⊢
    rw [List.getElem?_map] at hd
    obtain ⟨nw, hn, rfl⟩ := Option.map_eq_some_iff.mp hd
    have lA : A.length ≤ 207 := by
      rw [eA, List.length_append, l1]
      have := fl i
      omega
    refine ⟨gdOk_one.mpr (f2.get (by simp) hK), ?_⟩
    simp [W_xVar, sizeLine, isLst_at e2]
    have hk2 := get_lt e2
    have e3 : ∀ g, (h' ++ [MO.lst g])[h.length]? = some (.lst (A.map Ins.d)) := fun g => by
      rw [List.getElem?_append_left hk2]
      exact e2
    rw [W_extend (e3 _) at_new]
    refine ⟨by simp [sizeLine]; omega, Fr.fresh (i := h.length) ((f2.trans Fr.app).mono (T := [h.length]) (by simp) |>.trans (Fr.set (by simp))) (Nat.le_refl _), A ++ [Ins.alike 29 look nw len, .rw (.op .add 28 28 29)], ?_, ?_⟩
    · rw [List.getElem?_set_self (by simp; omega), List.map_append]
      simp [Ins.d, Rw.d, Op7.nm]
    · rw [eA, Z.take_next (x := [Ins.alike 29 look nw len, .rw (.op .add 28 28 29)]) (by rw [List.getElem?_map, hn]; rfl), List.flatten_append]
      simp
  · rintro en h' ⟨f2, ⟨a7, rfl⟩, A, ⟨e2, eA⟩⟩
    rw [Nat.zero_add, List.length_map, List.take_of_length_le (by simp)] at eA
    have lA : A.length ≤ 207 := by
      rw [eA, List.length_append, l1]
      have := fl news.length
      rw [List.take_of_length_le (by simp)] at this
      omega
    refine ⟨gdOk_one.mpr (f2.get (by simp) hK), ?_⟩
    simp [W_xVar, sizeLine, isLst_at e2]
    have hk2 := get_lt e2
    have e3 : ∀ g, (h' ++ [MO.lst g])[h.length]? = some (.lst (A.map Ins.d)) := fun g => by
      rw [List.getElem?_append_left hk2]
      exact e2
    rw [W_extend (e3 _) at_new]
    refine ⟨by simp [sizeLine]; omega, ?_⟩
    generalize hB : A ++ [Ins.rw (.set 29 e), .rw (.op .less 28 29 28), .rw (.op .mul 26 26 27), .rw (.op .mul 26 26 28)] = Bs
    have eB : A.map Ins.d ++ [D.tup [D.str (Str.ofString "set"), D.int 29, D.int ↑e], D.tup [D.str (Str.ofString "less"), D.int 28, D.int 29, D.int 28], D.tup [D.str (Str.ofString "mul"), D.int 26, D.int 26, D.int 27], D.tup [D.str (Str.ofString "mul"), D.int 26, D.int 26, D.int 28]] = Bs.map Ins.d := by
      rw [← hB]
      simp [Ins.d, Rw.d, Op7.nm]
    rw [eB]
    have lB : Bs.length ≤ 211 := by
      rw [← hB, List.length_append]
      simp
      omega
    generalize hG : (h' ++ [MO.lst [D.tup [D.str (Str.ofString "set"), D.int 29, D.int ↑e], D.tup [D.str (Str.ofString "less"), D.int 28, D.int 29, D.int 28], D.tup [D.str (Str.ofString "mul"), D.int 26, D.int 26, D.int 27], D.tup [D.str (Str.ofString "mul"), D.int 26, D.int 26, D.int 28]]]).set h.length (.lst (Bs.map Ins.d)) = h3
    have f3 : Fr [] h h3 := by
      rw [← hG]
      exact Fr.fresh (i := h.length) ((f2.trans Fr.app).mono (T := [h.length]) (by simp) |>.trans (Fr.set (by simp))) (Nat.le_refl _)
    have a3 : h3[h.length]? = some (.lst (Bs.map Ins.d)) := by
      rw [← hG]
      exact List.getElem?_set_self (by simp; omega)
    simp [rowOf_lst a3]
    refine ⟨by omega, k _ _ ⟨f3.trans Fr.app, ?_, f3.len⟩⟩
    rw [at_new, ← hB, eA, ← hP1, ← hP0]
    simp [voteRows, Ins.d]
theorem intsFrom0 {n : Nat} : Z.intsFrom 0 n = (List.range n).map fun (x : Nat) => D.int x := by
  unfold Z.intsFrom
  simp
theorem piece_q_w {s e n c : Nat} {h : Hd} {Q : D → Hd → Prop} (hs : s ≤ 100) (hc : c < 100) (hn : n ≤ 100) (k : ∀ m h', NewR (pieceQ s e n c) h m h' → Q (.ref m) h') : W (F_piece_q [.int s, .int e, .int n, .int c] h) Q := by
  have sa : ∀ {c : Nat} {h : Hd} {Q : D → Hd → Prop}, c < 100 → Q (.tup [.int (oldA s c), .int (newA s c), .int (lookA s c), .int (bestA s c)]) h → W (F_store_addresses [.int s, .int c] h) Q := fun hc k => store_addresses_w (by omega) (by omega) k
  simp [F_piece_q, B_piece_q, startE, W_xVar, sizeLine, callA, arrD]
  refine sa hc ?_
  simp
  refine sa hc ?_
  simp
  refine sa hc ?_
  simp
  refine ⟨by omega, ?_⟩
  rw [intsFrom0]
  refine comp_map (S := []) (g := fun (c : Nat) => D.int (newA s c)) (fun _ _ => by simp) (fun j x h2 hx fr => ?_) fun h2 fr => ?_
  · have xl : x < n := by
      have := (List.getElem?_eq_some_iff.mp hx).1
      rw [List.getElem?_range (by simpa using this)] at hx
      cases hx
      simpa using this
    simp [W_xVar, callA, arrD]
    refine sa (by omega) ?_
    simp
    exact fr
  · have f0 : Fr [] h h2 := Fr.app.trans fr
    have en : (List.range n).map (fun (c : Nat) => D.int (newA s c)) = (newsOf s n).map fun (x : Nat) => D.int x := by
      unfold newsOf
      rw [List.map_map]
      rfl
    have ln : (newsOf s n).length = n := by unfold newsOf; simp
    rw [en]
    generalize hN : newsOf s n = nw at ln
    generalize hP : [Ins.rw (.set 24 1), .move 24 (oldA s c) (bestA s c) (s + 2)] = P
    have eP : [D.tup [D.str (Str.ofString "set"), D.int 24, D.int 1], D.tup [D.str (Str.ofString "move"), D.int 24, D.int ↑(oldA s c), D.int ↑(bestA s c), D.int (↑s + 2)]] = P.map Ins.d := by
      rw [← hP]
      simp [Ins.d, Rw.d]
    have q1 : (h2 ++ [MO.lst (nw.map fun (x : Nat) => D.int x), MO.lst (P.map Ins.d)])[h2.length]? = some (.lst (nw.map fun (x : Nat) => D.int x)) := by simp
    have q2 : (h2 ++ [MO.lst (nw.map fun (x : Nat) => D.int x), MO.lst (P.map Ins.d)])[h2.length + 1]? = some (.lst (P.map Ins.d)) := by simp
    have lP : P.length = 2 := by rw [← hP]; rfl
    refine ⟨by simp; omega, ?_⟩
    rw [eP, W_itsLst q1]
    have f1 : Fr [] h (h2 ++ [MO.lst (nw.map fun (x : Nat) => D.int x), MO.lst (P.map Ins.d)]) := f0.trans Fr.app
    have hh := f0.len
    generalize (h2 ++ [MO.lst (nw.map fun (x : Nat) => D.int x), MO.lst (P.map Ins.d)]) = h3 at q1 q2 f1
    have fl : ∀ i, (((nw.map fun src => voteRows nw e (s + 2) (lookA s c) (bestA s c) src).take i).flatten).length ≤ 100 * 212 := fun i => by
      have := flatten_le (ls := (nw.map fun src => voteRows nw e (s + 2) (lookA s c) (bestA s c) src).take i) (m := 212) fun l hl' => by
        obtain ⟨x, _, rfl⟩ := List.mem_map.mp (List.mem_of_mem_take hl')
        rw [vote_len]
        omega
      have l2 : ((nw.map fun src => voteRows nw e (s + 2) (lookA s c) (bestA s c) src).take i).length ≤ 100 := by
        rw [List.length_take, List.length_map]
        omega
      omega
    refine for_rule (I := fun i en h' => Fr [] h h' ∧ h'[h2.length]? = some (.lst (nw.map fun (x : Nat) => D.int x)) ∧ (∃ a10 a11 a12 : Option D, en = [some (D.int s), some (D.int e), some (D.int n), some (D.int c), some (D.int (oldA s c)), some (D.int (lookA s c)), some (D.int (bestA s c)), some (D.int ((s : Int) + 2)), some (D.ref h2.length), some (D.ref (h2.length + 1)), a10, a11, a12]) ∧
      ∃ A : List Ins, AtL h' (h2.length + 1) A (P ++ ((nw.map fun src => voteRows nw e (s + 2) (lookA s c) (bestA s c) src).take i).flatten)) 0 ?_ ⟨f1, q1, ⟨_, _, _, rfl⟩, P, q2, by simp⟩ ?_
    · rintro i d en h' hd ⟨f2, q3, ⟨a10, a11, a12, rfl⟩, A, ⟨e2, eA⟩⟩
      rw [Nat.zero_add] at eA ⊢
      rw [List.getElem?_map] at hd
      obtain ⟨x, hx, rfl⟩ := Option.map_eq_some_iff.mp hd
      have lA : A.length ≤ 21202 := by
        rw [eA, List.length_append, lP]
        have := fl i
        omega
      refine ⟨gdOk_one.mpr q3, ?_⟩
      simp [W_xVar, callA, arrD, sizeLine, isLst_at e2]
      rw [show (s : Int) + 2 = ((s + 2 : Nat) : Int) by simp]
      refine vote_rows_w q3 (by omega) (by omega) fun m h4 N4 => ?_
      have e5 := N4.fr.get (by simp) e2
      have q5 := N4.fr.get (by simp) q3
      rw [W_extend e5 N4.at_]
      refine ⟨by simp [sizeLine, vote_len]; omega, Fr.fresh (i := h2.length + 1) ((f2.trans N4.fr).mono (T := [h2.length + 1]) (by simp) |>.trans (Fr.set (by simp))) (by omega), ?_, A ++ voteRows nw e (s + 2) (lookA s c) (bestA s c) x, ?_, ?_⟩
      · rw [List.getElem?_set_ne (by omega)]
        exact q5
      · rw [List.getElem?_set_self (get_lt e5), List.map_append]
      · rw [eA, Z.take_next (x := voteRows nw e (s + 2) (lookA s c) (bestA s c) x) (by rw [List.getElem?_map, hx]; rfl), List.flatten_append]
        simp
    · rintro en h' ⟨f2, q3, ⟨a10, a11, a12, rfl⟩, A, ⟨e2, eA⟩⟩
      rw [Nat.zero_add, List.length_map, List.take_of_length_le (by simp)] at eA
      have lA : A.length ≤ 21202 := by
        rw [eA, List.length_append, lP]
        have := fl nw.length
        rw [List.take_of_length_le (by simp)] at this
        omega
      refine ⟨gdOk_one.mpr q3, ?_⟩
      simp [W_xVar, sizeLine, rowOf_lst e2]
      refine ⟨by omega, k _ _ ⟨f2.trans Fr.app, ?_, f2.len⟩⟩
      rw [at_new, eA, ← hP]
      simp [pieceQ, Ins.d, hN]
end Lw
/-! text PR2 -/
set_option maxHeartbeats 4000000
namespace Lw
open PySem Z L2
def ringO (cs : List Rc) (e n : Nat) : MO := .ins "Ring" [("recipes_given", .tup (cs.map Rc.d)), ("faults_withstood", .int e), ("copy_count", .int n), ("piece_lengths", .tup [.int (pieceP cs 0).length, .int (pieceQ cs.length e n 0).length]), ("row_list", .tup ((ringRows cs e n).map Ins.d))]
/-- lists of rows, one behind the other -/
structure PcsAt (h : Hd) (ns : List Nat) (ps : List (List Ins)) : Prop where
  len : ns.length = ps.length
  at_ : ∀ (j n : Nat) (p : List Ins), ns[j]? = some n → ps[j]? = some p → h[n]? = some (.lst (p.map Ins.d))
theorem PcsAt.fr {h h' : Hd} {ns : List Nat} {ps : List (List Ins)} {S : List Nat} (x : PcsAt h ns ps) (f : Fr S h h') (hS : ∀ n ∈ ns, n ∉ S) : PcsAt h' ns ps := ⟨x.len, fun j n p h1 h2 => f.get (hS n (List.mem_of_getElem? h1)) (x.at_ j n p h1 h2)⟩
theorem PcsAt.snoc {h : Hd} {ns : List Nat} {ps : List (List Ins)} {n : Nat} {p : List Ins} (x : PcsAt h ns ps) (q : h[n]? = some (.lst (p.map Ins.d))) : PcsAt h (ns ++ [n]) (ps ++ [p]) := by
  refine ⟨by simp [x.len], fun j m r h1 h2 => ?_⟩
  by_cases hj : j < ns.length
  · rw [List.getElem?_append_left hj] at h1
    rw [List.getElem?_append_left (by rw [← x.len]; exact hj)] at h2
    exact x.at_ j m r h1 h2
  · have hl : j < (ns ++ [n]).length := (List.getElem?_eq_some_iff.mp h1).1
    have ej : j = ns.length := by simp at hl; omega
    subst ej
    rw [List.getElem?_append_right (Nat.le_refl _)] at h1
    rw [x.len, List.getElem?_append_right (Nat.le_refl _)] at h2
    simp at h1 h2
    subst h1 h2
    exact q
theorem PcsAt.app {h : Hd} {ns ms : List Nat} {ps qs : List (List Ins)} (x : PcsAt h ns ps) (y : PcsAt h ms qs) : PcsAt h (ns ++ ms) (ps ++ qs) := by
  refine ⟨by simp [x.len, y.len], fun j m r h1 h2 => ?_⟩
  by_cases hj : j < ns.length
  · rw [List.getElem?_append_left hj] at h1
    rw [List.getElem?_append_left (by rw [← x.len]; exact hj)] at h2
    exact x.at_ j m r h1 h2
  · rw [List.getElem?_append_right (by omega)] at h1
    rw [List.getElem?_append_right (by rw [← x.len]; omega), ← x.len] at h2
    exact y.at_ _ m r h1 h2
/-- all rows of lists of rows -/
theorem all_rows {a b c d e f g : Option D} {ns : List Nat} {ps : List (List Ins)} {K : Nat} {h : Hd} {QA : List D → Hd → Prop} (x : PcsAt h ns ps) (hK : h[K]? = some (.lst (ns.map D.ref))) (k : ∀ h', Fr [] h h' → QA (ps.flatten.map Ins.d) h') :
    W (comp2Z [(K, .lst (ns.map D.ref))] (gNm 7) xYes (xIter (xVar 7)) (gNm 8) xYes (xVar 8) [8] [a, b, c, d, e, f, g, none, none] (ns.map D.ref) h) QA := by
  refine comp2_rule (acc := []) (I := fun i acc h' => Fr [] h h' ∧ acc = ((ps.take i).flatten).map Ins.d) 0 ?_ ⟨Fr.refl, rfl⟩ ?_
  · rintro i0 dd acc h' hd ⟨fr, rfl⟩
    rw [List.getElem?_map] at hd
    obtain ⟨n, hn, rfl⟩ := Option.map_eq_some_iff.mp hd
    have il := (List.getElem?_eq_some_iff.mp hn).1
    obtain ⟨p, hp⟩ : ∃ p, ps[i0]? = some p := ⟨_, List.getElem?_eq_getElem (by rw [← x.len]; exact il)⟩
    have q := fr.get (by simp) (x.at_ i0 n _ hn hp)
    refine ⟨gdOk_one.mpr (fr.get (by simp) hK), ?_⟩
    simp [W_xVar, W_itsLst q]
    refine comp_map (S := []) (f := Ins.d) (g := Ins.d) (fun h2 f2 => gdOk_one.mpr (f2.get (by simp) q)) (fun j r h2 hx f2 => ?_) fun h2 f2 => ?_
    · simp [W_xVar]
      exact f2
    · refine ⟨fr.trans f2, ?_⟩
      have := Z.take_next (l := ps.map (List.map Ins.d)) (i := i0) (x := p.map Ins.d) (by rw [List.getElem?_map, hp]; rfl)
      simp [this]
  · rintro ys h' ⟨fr, e⟩
    refine ⟨gdOk_one.mpr (fr.get (by simp) hK), ?_⟩
    rw [List.nil_append, Nat.zero_add, List.length_map, x.len, List.take_of_length_le (Nat.le_refl _)] at e
    rw [e]
    exact k h' fr
theorem fld_ne {a b : String} (h : a ≠ b) : (Str.ofString a == Str.ofString b) = false := by rw [str_beq]; exact decide_eq_false h
def ringC (h : Hd) (r : Nat) (fs : List (Str × D)) : Prop := h[r]? = some (.ins "Ring" fs)
/-- what is left of __init__ when the copies are told -/
theorem init_tail {cs : List Rc} {e n r : Nat} {h0 h : Hd} {Q : D → Hd → Prop} {cp : D} (f0 : Fr [r] h0 h) (hr : h[r]? = some (.ins "Ring" [("recipes_given", .tup (cs.map Rc.d)), ("faults_withstood", .int e), ("copy_count", .int n)])) (hz : cs.length ≤ 30) (hl : ∀ c ∈ cs, c.rows.length ≤ 2000) (hn : 1 ≤ n ∧ n ≤ 16)
    (k : ∀ h', Fr [r] h0 h' → h'[r]? = some (ringO cs e n) → Q .non h') :
    WS (sSeq (sAsg (xComp (xIts rangeOf1 (xCons (xAttr T_copy_count "copy_count" (xVar 0)) xNil)) (gNm 6) xYes (xFn F_piece_p [.inl 0, .inl 1] 2 (xCons (xVar 1) (xCons (xVar 6) xNil))) [6]) (gNm 4))
  (sSeq (sAsg (xComp (xIts rangeOf1 (xCons (xAttr T_copy_count "copy_count" (xVar 0)) xNil)) (gNm 6) xYes (xFn F_piece_q [.inl 0, .inl 1, .inl 2, .inl 3] 4 (xCons (xCall dLen (xCons (xVar 1) xNil)) (xCons (xVar 2) (xCons (xAttr T_copy_count "copy_count" (xVar 0)) (xCons (xVar 6) xNil))))) [6]) (gNm 5))
  (sSeq (sFld Z_piece_lengths "piece_lengths" (xVar 0) (xTup (xCons (xCall dLen (xCons (xOp dIx (xVar 4) (xC (.int 0))) xNil)) (xCons (xCall dLen (xCons (xOp dIx (xVar 5) (xC (.int 0))) xNil)) xNil))))
  (sFld Z_row_list "row_list" (xVar 0) (xCall dTuple (xCons (xComp2 (xIter (xOp dAdd (xVar 4) (xVar 5))) (gNm 7) xYes (xIter (xVar 7)) (gNm 8) xYes (xVar 8) [7, 8] [8]) xNil))))) [some (.ref r), some (.tup (cs.map Rc.d)), some (.int e), some cp, none, none, none, none, none] h) (fun _ h1 => Q .non h1) Q NoE NoE := by
  have lr : (List.range n).length = n := List.length_range
  have att : ∀ {h' : Hd} {Q' : D → Hd → Prop}, Fr [] h h' → (W (attrOf T_copy_count "copy_count" (.ref r) h') Q' ↔ Q' (.int n) h') := fun f => W_attrFld (f.get (by simp) hr) (by simp [T_copy_count]) (by simp [List.lookup])
  have hrl := get_lt hr
  simp [W_xVar, att Fr.refl, callA, arrD]
  refine ⟨by omega, ?_⟩
  rw [intsFrom0]
  have mk : ∀ (F : Nat → List Ins) (m : XE) (en : En) (h1 : Hd) (QA : List D → Hd → Prop), Fr [] h h1 → (∀ (c : Nat) (h' : Hd) (Q' : D → Hd → Prop), c < 100 → Fr [] h h' → (∀ n h'', NewR (F c) h' n h'' → Q' (.ref n) h'') → W (m (en.set 6 (some (.int c))) h') Q') →
      (∀ (ns : List Nat) (h2 : Hd), Fr [] h1 h2 → PcsAt h2 ns ((List.range n).map F) → (∀ x ∈ ns, h1.length ≤ x) → QA (ns.map D.ref) h2) → W (compZ [] (gNm 6) xYes m en ((List.range n).map fun (x : Nat) => D.int x) h1) QA := by
    intro F m en h1 QA fh1 run fin
    refine comp_rule (acc := []) (I := fun i acc h' => Fr [] h1 h' ∧ ∃ ns : List Nat, acc = ns.map D.ref ∧ PcsAt h' ns (((List.range n).map F).take i) ∧ ∀ x ∈ ns, h1.length ≤ x) 0 ?_ ⟨Fr.refl, [], rfl, ⟨rfl, fun _ _ _ z => nomatch z⟩, fun _ z => nomatch z⟩ ?_
    · rintro i d acc h' hd ⟨fr, ns, rfl, pc, ge⟩
      rw [List.getElem?_map] at hd
      obtain ⟨c, hc, rfl⟩ := Option.map_eq_some_iff.mp hd
      have il : i < n := by
        have := (List.getElem?_eq_some_iff.mp hc).1
        omega
      rw [List.getElem?_range il] at hc
      cases hc
      refine ⟨by simp, ?_⟩
      simp only [WS_gNm, W_yes]
      refine ⟨fun _ => ?_, fun z => nomatch z⟩
      refine run i h' _ (by omega) (fh1.trans fr) fun m2 h2 N2 => ⟨fr.trans N2.fr, ns ++ [m2], by simp, ?_, fun x hx => ?_⟩
      · rw [Nat.zero_add, Z.take_next (x := F i) (by rw [List.getElem?_map, List.getElem?_range il]; rfl)]
        rw [Nat.zero_add] at pc
        exact (pc.fr N2.fr (by simp)).snoc N2.at_
      · rcases List.mem_append.mp hx with hx | hx
        · exact ge x hx
        · rw [List.mem_singleton.mp hx]
          have := fr.len
          have := N2.ge
          omega
    · rintro ys h' ⟨fr, ns, e1, pc, ge⟩
      rw [Nat.zero_add, List.length_map, lr, List.take_of_length_le (by simp)] at pc
      rw [List.nil_append] at e1
      subst e1
      exact ⟨by simp, fin ns h' fr pc ge⟩
  refine mk (pieceP cs) _ _ h _ Fr.refl (fun c h' Q' hc fr kk => ?_) fun ns h2 f2 pc ge => ?_
  · simp [W_xVar, callA, arrD]
    exact piece_p_w (by omega) hc hl kk
  · have l1 : ns.length = n := by rw [pc.len]; simp
    have f3 : Fr [] h (h2 ++ [MO.lst (ns.map D.ref)]) := f2.trans Fr.app
    simp [W_xVar, att f3, callA, arrD, sizeLine]
    refine ⟨by omega, by omega, ?_⟩
    rw [intsFrom0]
    refine mk (pieceQ cs.length e n) _ _ _ _ f3 (fun c h' Q' hc fr kk => ?_) fun ms h4 f4 pd ge2 => ?_
    · simp [W_xVar, callA, arrD, att fr]
      exact piece_q_w (by omega) hc (by omega) kk
    · have l2 : ms.length = n := by rw [pd.len]; simp
      have q4 := f4.get (by simp) (show (h2 ++ [MO.lst (ns.map D.ref)])[h2.length]? = some (.lst (ns.map D.ref)) from at_new)
      have k4 := get_lt q4
      obtain ⟨n0, ns', en⟩ : ∃ n0 ns', ns = n0 :: ns' := by
        cases ns with
        | nil => simp at l1; omega
        | cons a b => exact ⟨a, b, rfl⟩
      obtain ⟨m0, ms', em⟩ : ∃ m0 ms', ms = m0 :: ms' := by
        cases ms with
        | nil => simp at l2; omega
        | cons a b => exact ⟨a, b, rfl⟩
      generalize hH : (h4 ++ [MO.lst (ms.map D.ref)]) = h5
      have q5 : h5[h2.length]? = some (.lst (ns.map D.ref)) := by
        rw [← hH, List.getElem?_append_left k4]
        exact q4
      have q6 : h5[h4.length]? = some (.lst (ms.map D.ref)) := by
        rw [← hH]
        exact at_new
      have f5 : Fr [] h4 h5 := by
        rw [← hH]
        exact Fr.app
      have f2' : Fr [] h h5 := f3.trans (f4.trans f5)
      have pc5 : PcsAt h5 ns ((List.range n).map (pieceP cs)) := (pc.fr (Fr.app.trans (f4.trans f5)) (by simp))
      have pd5 : PcsAt h5 ms ((List.range n).map (pieceQ cs.length e n)) := pd.fr f5 (by simp)
      have rg : (List.range n)[0]? = some 0 := List.getElem?_range (by omega)
      have p0 := pc5.at_ 0 n0 (pieceP cs 0) (by rw [en]; rfl) (by rw [List.getElem?_map, rg]; rfl)
      have p1 := pd5.at_ 0 m0 (pieceQ cs.length e n 0) (by rw [em]; rfl) (by rw [List.getElem?_map, rg]; rfl)
      have i0 : atI (ns.map D.ref) 0 = some (.ref n0) := by rw [en]; simp
      have i1 : atI (ms.map D.ref) 0 = some (.ref m0) := by rw [em]; simp
      have r5 := f2'.get (by simp) hr
      have nr : ∀ x ∈ ns ++ ms, x ≠ r := fun x hx => by
        rcases List.mem_append.mp hx with hx | hx
        · have := ge x hx
          omega
        · have := ge2 x hx
          have := f3.len
          omega
      have fh2 := f2.len
      have fh4 := (f3.trans f4).len
      simp [W_ixLst q5, i0, W_lenLst p0, W_ixLst q6, i1, W_lenLst p1, sizeLine]
      refine ⟨by omega, WS_setAttrK r5 (by simp [Z_piece_lengths]) (by simp) fun h6 f6 r6 => ?_⟩
      have q7 := f6.get (by simp; omega) q5
      have q8 := f6.get (by simp; omega) q6
      simp [W_xVar, W_addLL q7 q8, sizeLine]
      refine ⟨by omega, ?_⟩
      have pc6 : PcsAt (h6 ++ [MO.lst ((ns ++ ms).map D.ref)]) (ns ++ ms) ((List.range n).map (pieceP cs) ++ (List.range n).map (pieceQ cs.length e n)) :=
        ((pc5.app pd5).fr f6 (fun x hx => by simp; exact nr x hx)).fr (S := []) Fr.app (by simp)
      have eL : ns.map D.ref ++ ms.map D.ref = (ns ++ ms).map D.ref := by simp
      rw [eL]
      refine all_rows pc6 at_new fun h7 f7 => ?_
      have r7 := f7.get (by simp) (show (h6 ++ [MO.lst ((ns ++ ms).map D.ref)])[r]? = _ by rw [List.getElem?_append_left (get_lt r6)]; exact r6)
      have ll : (ringRows cs e n).length ≤ 16777216 := by
        have := ring_le (cs := cs) (e := e) (n := n) (m := 2000) hl
        have a1 : n * (14 + cs.length * (2000 + 4)) ≤ 16 * (14 + 30 * 2004) := Nat.mul_le_mul hn.2 (by omega)
        have a2 : n * (12 + 2 * n) ≤ 16 * 44 := Nat.mul_le_mul hn.2 (by omega)
        have a3 : n * (3 + n * (12 + 2 * n)) ≤ 16 * (3 + 704) := Nat.mul_le_mul hn.2 (by omega)
        omega
      have r8 := (Fr.app (S := []) (h := h7) (g := [MO.lst (((List.range n).map (pieceP cs) ++ (List.range n).map (pieceQ cs.length e n)).flatten.map Ins.d)])).get (by simp) r7
      refine ⟨by rw [List.length_map]; exact ll, WS_setAttrK r8 (by simp [Z_row_list]) (by simp [putD, str_ofS]) fun h8 f8 r9 => ?_⟩
      refine k h8 ((f0.trans (f2'.mono (by simp))).trans (f6.trans ((Fr.app.trans f7).mono (by simp) |>.trans ((Fr.app (S := [r])).trans f8)))) ?_
      rw [r9]
      simp [ringO, putD, str_ofS, ringRows, piecesP, piecesQ]
/-- the initialization -/
theorem init_w {cs : List Rc} {e n r : Nat} {cp : D} {h : Hd} {Q : D → Hd → Prop} (hr : h[r]? = some (.ins "Ring" [])) (hz : cs.length ≤ 30) (hne : cs ≠ []) (hc : ∀ c ∈ cs, c.ok cs.length ∧ c.rows.length ≤ 2000) (he : e ≤ 3) (hn : 1 ≤ n ∧ n ≤ 16) (hcp : cp = .int n ∨ cp = .non ∧ n = enough e)
    (k : ∀ h', Fr [r] h h' → h'[r]? = some (ringO cs e n) → Q .non h') : W (F_Ring___init__ [.ref r, .tup (cs.map Rc.d), .int e, cp] h) Q := by
  simp [F_Ring___init__, B_Ring___init__, startE, W_xVar, sizeLine, callA, arrD]
  refine is_recipes_w (fun c hc' => hc c hc') (by omega) hne fun h1 f1 => ?_
  simp
  refine is_number_w (by omega) (by omega) ?_
  simp
  have hr1 := f1.get (by simp) hr
  have hl : ∀ c ∈ cs, c.rows.length ≤ 2000 := fun c hc' => (hc c hc').2
  rcases hcp with rfl | ⟨rfl, rfl⟩
  · simp
    refine is_number_w (by omega) (by omega) ?_
    simp
    refine WS_setAttrK hr1 (by simp [Z_recipes_given]) (by simp) fun h2 f2 r2 => ?_
    simp [W_xVar]
    refine WS_setAttrK r2 (by simp [Z_faults_withstood]) (by simp [putD]) fun h3 f3 r3 => ?_
    simp [W_xVar, callA, arrD]
    refine WS_setAttrK r3 (by simp [Z_copy_count]) (by simp [putD, str_ofS]) fun h4 f4 r4 => ?_
    have := init_tail (h0 := h) (Q := Q) (cp := .int n) ((((f1.mono (by simp)).trans f2).trans f3).trans f4) (by rw [r4]; simp [putD, str_ofS]) hz hl hn k
    simpa [W_xVar, sizeLine, callA, arrD] using this
  · simp
    refine WS_setAttrK hr1 (by simp [Z_recipes_given]) (by simp) fun h2 f2 r2 => ?_
    simp [W_xVar]
    refine WS_setAttrK r2 (by simp [Z_faults_withstood]) (by simp [putD]) fun h3 f3 r3 => ?_
    simp [W_xVar, callA, arrD]
    refine enough_w (by omega) ?_
    refine WS_setAttrK r3 (by simp [Z_copy_count]) (by simp [putD, str_ofS]) fun h4 f4 r4 => ?_
    have := init_tail (h0 := h) (Q := Q) (cp := .non) ((((f1.mono (by simp)).trans f2).trans f3).trans f4) (by rw [r4]; simp [putD, str_ofS]) hz hl hn k
    simpa [W_xVar, sizeLine, callA, arrD] using this
end Lw
/-! text Psz -/
set_option maxHeartbeats 2000000
namespace Lw
open PySem Z L2
/-- a state of so many words -/
structure StOk (size : Nat) (st : List Int) : Prop where
  len : st.length = size
  wd : ∀ x ∈ st, Wd x
def wp (st : List Int) : PyData := .tuple (st.map PyData.int)
def shw (st : List Int) : Str := (wp st).shown
theorem pd_words (st : List Int) : pd (words st) = some (wp st) := pd_tup (pds_of _ _ fun _ _ => rfl)
theorem sz_words {st : List Int} {size : Nat} (o : StOk size st) (hz : size ≤ 30) : Sz (wp st) 1 663 := by
  have := Sz.tup (dep := 0) (len := 20) (ps := st.map PyData.int) fun p hp => by
    obtain ⟨x, hx, rfl⟩ := List.mem_map.mp hp
    have := o.wd x hx
    exact Sz.int this.1 (by have := this.2; omega)
  refine this.le (by omega) ?_
  rw [List.length_map, o.len]
  omega
theorem W_reprW {st : List Int} {size : Nat} {h : Hd} {Q : D → Hd → Prop} (o : StOk size st) (hz : size ≤ 30) : W (dRepr [words st] h) Q ↔ Q (.str (shw st)) h := W_repr (rf_pd (pd_words st)) (sz_words o hz) (by decide) (by decide)
theorem W_reprL {sts : List (List Int)} {size n : Nat} {h : Hd} {Q : D → Hd → Prop} (o : ∀ st ∈ sts, StOk size st) (hz : size ≤ 30) (hl : sts.length ≤ 2) (q : h[n]? = some (.lst (sts.map words))) : W (dRepr [.ref n] h) Q ↔ Q (.str (PyData.list (sts.map wp)).shown) h := by
  refine W_repr (rf_lst q (pds_of _ _ fun st _ => pd_words st)) (Sz.lst (dep := 1) (len := 663) fun p hp => ?_) (by decide) ?_
  · obtain ⟨st, hs, rfl⟩ := List.mem_map.mp hp
    exact sz_words (o st hs) hz
  · rw [List.length_map]
    have : sts.length * (663 + 2) ≤ 2 * 665 := Nat.mul_le_mul hl (Nat.le_refl _)
    show _ ≤ 2 ^ 24
    omega
theorem next_ok {cs : List Rc} {st : List Int} {size : Nat} (o : StOk size st) (hl : cs.length = size) (hc : ∀ c ∈ cs, c.ok size) : StOk size (nextW cs st) := by
  unfold nextW
  split
  · exact o
  · refine ⟨by rw [List.length_map, hl], fun x hx => ?_⟩
    obtain ⟨c, hc', rfl⟩ := List.mem_map.mp hx
    exact val_wd o.wd (hc c hc')
theorem sz_row {r : Rw} {size : Nat} {kn : List Nat} (k24 : ∀ g ∈ kn, g < 24) (o : r.ok size kn) (hz : size ≤ 30) : Sz (Rw.p r) 1 113 := by
  have s : ∀ x : Str, (PyData.str x).shown.length ≤ 20 → Sz (.str x) 0 20 := fun x hx => ⟨rfl, rfl, Nat.le_refl _, hx⟩
  have n : ∀ g : Nat, g < 30 → Sz (.int (g : Int)) 0 20 := fun g hg => Sz.int (by omega) (by omega)
  cases r with
  | set g w =>
    have hg := o.1
    exact (Sz.tup (dep := 0) (len := 20) fun p hp => by
      simp only [List.mem_cons, List.not_mem_nil, or_false] at hp
      rcases hp with rfl | rfl | rfl
      · exact s _ (by decide +kernel)
      · exact n _ (by omega)
      · exact Sz.int o.2.1 (by have := o.2.2; omega)).le (by decide) (by simp)
  | load g a =>
    have hg := o.1
    have ha := o.2
    exact (Sz.tup (dep := 0) (len := 20) fun p hp => by
      simp only [List.mem_cons, List.not_mem_nil, or_false] at hp
      rcases hp with rfl | rfl | rfl
      · exact s _ (by decide +kernel)
      · exact n _ (by omega)
      · exact n _ (by omega)).le (by decide) (by simp)
  | cho g t a b =>
    have hg := o.1
    have h1 := k24 _ o.2.1
    have h2 := k24 _ o.2.2.1
    have h3 := k24 _ o.2.2.2
    exact (Sz.tup (dep := 0) (len := 20) fun p hp => by
      simp only [List.mem_cons, List.not_mem_nil, or_false] at hp
      rcases hp with rfl | rfl | rfl | rfl | rfl
      · exact s _ (by decide +kernel)
      all_goals exact n _ (by omega)).le (by decide) (by simp)
  | op q g a b =>
    have hg := o.1
    have h1 := k24 _ o.2.1
    have h2 := k24 _ o.2.2
    exact (Sz.tup (dep := 0) (len := 20) fun p hp => by
      simp only [List.mem_cons, List.not_mem_nil, or_false] at hp
      rcases hp with rfl | rfl | rfl | rfl
      · cases q <;> exact s _ (by decide +kernel)
      all_goals exact n _ (by omega)).le (by decide) (by simp)
theorem sz_rcs {cs : List Rc} {size : Nat} (hl : cs.length = size) (hz : size ≤ 30) (hc : ∀ c ∈ cs, c.ok size ∧ c.rows.length ≤ 400) : Sz (.tuple (cs.map Rc.p)) 4 3000000 := by
  have rc : ∀ c ∈ cs, Sz (Rc.p c) 3 93000 := fun c hcc => by
    obtain ⟨o, l⟩ := hc c hcc
    have rows : Sz (.tuple (c.rows.map Rw.p)) 2 46003 := by
      refine (Sz.tup (dep := 1) (len := 113) fun p hp => ?_).le (by decide) (by rw [List.length_map]; omega)
      obtain ⟨r, hr, rfl⟩ := List.mem_map.mp hp
      obtain ⟨i, hi⟩ := List.mem_iff_getElem?.mp hr
      exact sz_row (goals_lt o.rows i) (rowsOk_at o.rows hi) hz
    have res : c.res < 24 := by
      have := goals_lt o.rows c.rows.length
      rw [List.take_length] at this
      exact this _ (goals_mem.mpr (.inr o.res))
    refine (Sz.tup (dep := 2) (len := 46003) fun p hp => ?_).le (by decide) (by simp)
    simp only [List.mem_cons, List.not_mem_nil, or_false] at hp
    rcases hp with rfl | rfl
    · exact rows
    · exact (Sz.int (by omega) (by omega)).le (by decide) (by decide)
  refine (Sz.tup (dep := 3) (len := 93000) fun p hp => ?_).le (by decide) (by rw [List.length_map, hl]; omega)
  obtain ⟨c, hcc, rfl⟩ := List.mem_map.mp hp
  exact rc c hcc
end Lw
/-! text PR3 -/
set_option maxHeartbeats 4000000
namespace Lw
open PySem Z L2
def Ins.p : Ins → PyData
  | .rw r => Rw.p r
  | .store g a => .tuple [.str "store", .int g, .int a]
  | .move c a b l => .tuple [.str "move", .int c, .int a, .int b, .int l]
  | .alike g a b l => .tuple [.str "alike", .int g, .int a, .int b, .int l]
theorem pd_ins (r : Ins) : pd r.d = some (Ins.p r) := by
  cases r with
  | rw r => exact pd_row r
  | _ => rfl
theorem pd_rows (rs : List Ins) : pd (.tup (rs.map Ins.d)) = some (.tuple (rs.map Ins.p)) := pd_tup (pds_of _ _ fun r _ => pd_ins r)
def SzI (r : Ins) : Prop := Sz (Ins.p r) 1 113
theorem sz5 {ps : List PyData} (hl : ps.length ≤ 5) (h : ∀ p ∈ ps, Sz p 0 20) : Sz (.tuple ps) 1 113 := (Sz.tup (dep := 0) (len := 20) h).le (by decide) (by omega)
theorem szS (x : Str) (hx : (PyData.str x).shown.length ≤ 20) : Sz (.str x) 0 20 := ⟨rfl, rfl, Nat.le_refl _, hx⟩
theorem szN (g : Nat) (hg : g < 100000) : Sz (.int (g : Int)) 0 20 := Sz.int (by omega) (by omega)
theorem all3 {a b c : PyData} {P : PyData → Prop} (x : P a) (y : P b) (z : P c) : ∀ p ∈ [a, b, c], P p := fun p hp => by
  simp only [List.mem_cons, List.not_mem_nil, or_false] at hp
  rcases hp with rfl | rfl | rfl <;> assumption
theorem all4 {a b c d : PyData} {P : PyData → Prop} (x : P a) (y : P b) (z : P c) (w : P d) : ∀ p ∈ [a, b, c, d], P p := fun p hp => by
  simp only [List.mem_cons, List.not_mem_nil, or_false] at hp
  rcases hp with rfl | rfl | rfl | rfl <;> assumption
theorem all5 {a b c d e : PyData} {P : PyData → Prop} (x : P a) (y : P b) (z : P c) (w : P d) (v : P e) : ∀ p ∈ [a, b, c, d, e], P p := fun p hp => by
  simp only [List.mem_cons, List.not_mem_nil, or_false] at hp
  rcases hp with rfl | rfl | rfl | rfl | rfl <;> assumption
theorem sI_load {g a : Nat} (h1 : g < 100000) (h2 : a < 100000) : SzI (.rw (.load g a)) := sz5 (by simp) (all3 (szS _ (by decide +kernel)) (szN _ h1) (szN _ h2))
theorem sI_set {g : Nat} {w : Int} (h1 : g < 100000) (h2 : 0 ≤ w) (h3 : w < 100000000) : SzI (.rw (.set g w)) := sz5 (by simp) (all3 (szS _ (by decide +kernel)) (szN _ h1) (Sz.int h2 (by omega)))
theorem sI_cho {g t a b : Nat} (h1 : g < 100000) (h2 : t < 100000) (h3 : a < 100000) (h4 : b < 100000) : SzI (.rw (.cho g t a b)) := sz5 (by simp) (all5 (szS _ (by decide +kernel)) (szN _ h1) (szN _ h2) (szN _ h3) (szN _ h4))
theorem sI_op {o : Op7} {g a b : Nat} (h1 : g < 100000) (h3 : a < 100000) (h4 : b < 100000) : SzI (.rw (.op o g a b)) := sz5 (by simp) (all4 (by cases o <;> exact szS _ (by decide +kernel)) (szN _ h1) (szN _ h3) (szN _ h4))
theorem sI_store {g a : Nat} (h1 : g < 100000) (h2 : a < 100000) : SzI (.store g a) := sz5 (by simp) (all3 (szS _ (by decide +kernel)) (szN _ h1) (szN _ h2))
theorem sI_move {g t a b : Nat} (h1 : g < 100000) (h2 : t < 100000) (h3 : a < 100000) (h4 : b < 100000) : SzI (.move g t a b) := sz5 (by simp) (all5 (szS _ (by decide +kernel)) (szN _ h1) (szN _ h2) (szN _ h3) (szN _ h4))
theorem sI_alike {g t a b : Nat} (h1 : g < 100000) (h2 : t < 100000) (h3 : a < 100000) (h4 : b < 100000) : SzI (.alike g t a b) := sz5 (by simp) (all5 (szS _ (by decide +kernel)) (szN _ h1) (szN _ h2) (szN _ h3) (szN _ h4))
theorem old_le {s c : Nat} (hs : s ≤ 30) (hc : c < 16) : oldA s c ≤ 2048 := by
  unfold oldA
  have := Nat.mul_le_mul (show 4 * (s + 2) ≤ 128 by omega) (show c ≤ 16 by omega)
  omega
theorem sI_cnt {a b : Nat} (ha : a < 90000) (hb : b < 90000) : ∀ r ∈ cntRows a b, SzI r := fun r hr => by
  simp only [cntRows, List.mem_cons, List.not_mem_nil, or_false] at hr
  rcases hr with rfl | rfl | rfl | rfl | rfl | rfl
  · exact sI_load (by omega) (by omega)
  · exact sI_load (by omega) (by omega)
  · exact sI_set (by omega) (by omega) (by omega)
  · exact sI_op (by omega) (by omega) (by omega)
  · exact sI_op (by omega) (by omega) (by omega)
  · exact sI_store (by omega) (by omega)
theorem sI_cho4 {i a b res : Nat} (hi : i < 1000) (ha : a < 90000) (hb : b < 90000) (hr : res < 90000) : ∀ r ∈ choRows i a b res, SzI r := fun r hr => by
  simp only [choRows, List.mem_cons, List.not_mem_nil, or_false] at hr
  rcases hr with rfl | rfl | rfl | rfl
  · exact sI_load (by omega) (by omega)
  · exact sI_load (by omega) (by omega)
  · exact sI_cho (by omega) (by omega) (by omega) (by omega)
  · exact sI_store (by omega) (by omega)
theorem sI_mv {r : Rw} {b size : Nat} {kn : List Nat} (k24 : ∀ g ∈ kn, g < 24) (o : r.ok size kn) (hz : size ≤ 30) (hb : b < 90000) : SzI (.rw (r.mv b)) := by
  cases r with
  | set g w => exact sI_set (by have := o.1; omega) o.2.1 (by have := o.2.2; omega)
  | load g a => exact sI_load (by have := o.1; omega) (by have := o.2; omega)
  | cho g t x y => exact sI_cho (by have := o.1; omega) (by have := k24 _ o.2.1; omega) (by have := k24 _ o.2.2.1; omega) (by have := k24 _ o.2.2.2; omega)
  | op q g x y => exact sI_op (by have := o.1; omega) (by have := k24 _ o.2.1; omega) (by have := k24 _ o.2.2; omega)
theorem rc_res_lt {c : Rc} {size : Nat} (o : c.ok size) : c.res < 24 := by
  have := goals_lt o.rows c.rows.length
  rw [List.take_length] at this
  exact this _ (goals_mem.mpr (.inr o.res))
theorem sI_P {cs : List Rc} {c : Nat} (hz : cs.length ≤ 30) (hc : c < 16) (ho : ∀ r ∈ cs, r.ok cs.length) : ∀ r ∈ pieceP cs c, SzI r := fun r hr => by
  have lo := old_le hz hc
  have ln : newA cs.length c ≤ 2080 := by unfold newA; omega
  unfold pieceP at hr
  rw [List.mem_append, List.mem_append, List.mem_append] at hr
  rcases hr with ((hr | hr) | hr) | hr
  · simp only [List.mem_cons, List.not_mem_nil, or_false] at hr
    rcases hr with rfl | rfl
    · exact sI_set (by omega) (by omega) (by omega)
    · exact sI_store (by omega) (by omega)
  · exact sI_cnt (by omega) (by omega) r hr
  · obtain ⟨l, hl, hr⟩ := List.mem_flatten.mp hr
    obtain ⟨i, hi⟩ := List.mem_iff_getElem?.mp hl
    rw [List.getElem?_mapIdx] at hi
    obtain ⟨q, hq, rfl⟩ := Option.map_eq_some_iff.mp hi
    have il := lt_of_at hq
    have o := ho q (List.mem_of_getElem? hq)
    unfold stepRows at hr
    rcases List.mem_append.mp hr with hr | hr
    · obtain ⟨x, hx, rfl⟩ := List.mem_map.mp hr
      obtain ⟨j, hj⟩ := List.mem_iff_getElem?.mp hx
      exact sI_mv (goals_lt o.rows j) (rowsOk_at o.rows hj) hz (by omega)
    · exact sI_cho4 (by omega) (by omega) (by omega) (by have := rc_res_lt o; omega) r hr
  · exact sI_cnt (by omega) (by omega) r hr
theorem sI_vote {news : List Nat} {e len look best src : Nat} (hn : ∀ x ∈ news, x < 90000) (he : e < 90000) (hl : len < 1000) (hk : look < 90000) (hb : best < 90000) (hs : src < 90000) : ∀ r ∈ voteRows news e len look best src, SzI r := fun r hr => by
  unfold voteRows at hr
  rw [List.mem_append, List.mem_append] at hr
  rcases hr with (hr | hr) | hr
  · simp only [List.mem_cons, List.not_mem_nil, or_false] at hr
    rcases hr with rfl | rfl | rfl | rfl | rfl | rfl | rfl
    · exact sI_move (by omega) (by omega) (by omega) (by omega)
    · exact sI_load (by omega) (by omega)
    · exact sI_load (by omega) (by omega)
    · exact sI_op (by omega) (by omega) (by omega)
    · exact sI_load (by omega) (by omega)
    · exact sI_op (by omega) (by omega) (by omega)
    · exact sI_set (by omega) (by omega) (by omega)
  · obtain ⟨l, hl', hr⟩ := List.mem_flatten.mp hr
    obtain ⟨x, hx, rfl⟩ := List.mem_map.mp hl'
    have := hn x hx
    simp only [List.mem_cons, List.not_mem_nil, or_false] at hr
    rcases hr with rfl | rfl
    · exact sI_alike (by omega) (by omega) (by omega) (by omega)
    · exact sI_op (by omega) (by omega) (by omega)
  · simp only [List.mem_cons, List.not_mem_nil, or_false] at hr
    rcases hr with rfl | rfl | rfl | rfl | rfl
    · exact sI_set (by omega) (by omega) (by omega)
    · exact sI_op (by omega) (by omega) (by omega)
    · exact sI_op (by omega) (by omega) (by omega)
    · exact sI_op (by omega) (by omega) (by omega)
    · exact sI_move (by omega) (by omega) (by omega) (by omega)
theorem sI_Q {s e n c : Nat} (hs : s ≤ 30) (hn : n ≤ 16) (hc : c < 16) (he : e ≤ 3) : ∀ r ∈ pieceQ s e n c, SzI r := fun r hr => by
  have lo := old_le hs hc
  have lk : lookA s c ≤ 3000 := by unfold lookA; omega
  have lb : bestA s c ≤ 3000 := by unfold bestA; omega
  have nn : ∀ x ∈ newsOf s n, x < 90000 := fun x hx => by
    unfold newsOf at hx
    obtain ⟨i, hi, rfl⟩ := List.mem_map.mp hx
    have := List.mem_range.mp hi
    have := old_le hs (c := i) (by omega)
    unfold newA
    omega
  unfold pieceQ at hr
  rw [List.mem_append, List.mem_append] at hr
  rcases hr with (hr | hr) | hr
  · simp only [List.mem_cons, List.not_mem_nil, or_false] at hr
    rcases hr with rfl | rfl
    · exact sI_set (by omega) (by omega) (by omega)
    · exact sI_move (by omega) (by omega) (by omega) (by omega)
  · obtain ⟨l, hl', hr⟩ := List.mem_flatten.mp hr
    obtain ⟨x, hx, rfl⟩ := List.mem_map.mp hl'
    exact sI_vote nn (by omega) (by omega) (by omega) (by omega) (nn x hx) r hr
  · simp only [List.mem_cons, List.not_mem_nil, or_false] at hr
    subst hr
    exact sI_move (by omega) (by omega) (by omega) (by omega)
theorem sI_ring {cs : List Rc} {e n : Nat} (hz : cs.length ≤ 30) (hn : n ≤ 16) (he : e ≤ 3) (ho : ∀ r ∈ cs, r.ok cs.length) : ∀ r ∈ ringRows cs e n, SzI r := fun r hr => by
  unfold ringRows at hr
  obtain ⟨l, hl, hr⟩ := List.mem_flatten.mp hr
  unfold piecesP piecesQ at hl
  rcases List.mem_append.mp hl with hl | hl
  · obtain ⟨c, hc, rfl⟩ := List.mem_map.mp hl
    have := List.mem_range.mp hc
    exact sI_P hz (by omega) ho r hr
  · obtain ⟨c, hc, rfl⟩ := List.mem_map.mp hl
    have := List.mem_range.mp hc
    exact sI_Q hz hn (by omega) he r hr
def shr (rs : List Ins) : Str := (PyData.tuple (rs.map Ins.p)).shown
theorem W_reprR {cs : List Rc} {e n : Nat} {h : Hd} {Q : D → Hd → Prop} (hz : cs.length ≤ 30) (hn : n ≤ 16) (he : e ≤ 3) (ho : ∀ r ∈ cs, r.ok cs.length) (l : (ringRows cs e n).length ≤ 100000) : W (dRepr [.tup ((ringRows cs e n).map Ins.d)] h) Q ↔ Q (.str (shr (ringRows cs e n))) h := by
  refine W_repr (rf_pd (pd_rows _)) (Sz.tup (dep := 1) (len := 113) fun p hp => ?_) (by decide) ?_
  · obtain ⟨r, hr, rfl⟩ := List.mem_map.mp hp
    exact sI_ring hz hn he ho r hr
  · rw [List.length_map]
    show _ ≤ 2 ^ 24
    omega
theorem W_reprI {r : Ins} {h : Hd} {Q : D → Hd → Prop} (s : SzI r) : W (dRepr [r.d] h) Q ↔ Q (.str (Ins.p r).shown) h := W_repr (rf_pd (pd_ins r)) s (by decide) (by decide)
theorem ring_le2 {cs : List Rc} {e n m M : Nat} (h : ∀ r ∈ cs, r.rows.length ≤ m) (hn : n ≤ 16) (hM : cs.length * (m + 4) ≤ M) (hM2 : M ≤ 5000) : (ringRows cs e n).length ≤ 100000 := by
  have := ring_le (e := e) (n := n) h
  have a1 : n * (14 + cs.length * (m + 4)) ≤ 16 * (14 + 5000) := Nat.mul_le_mul hn (by omega)
  have a2 : n * (12 + 2 * n) ≤ 16 * 44 := Nat.mul_le_mul hn (by omega)
  have a3 : n * (3 + n * (12 + 2 * n)) ≤ 16 * (3 + 704) := Nat.mul_le_mul hn (by omega)
  omega
end Lw
/-! text PAn -/
namespace Lw
open PySem Z L2
/-- a new ring -/
theorem ring_new {cs : List Rc} {e n : Nat} {cp : D} {h : Hd} {Q : D → Hd → Prop} (hz : cs.length ≤ 30) (hne : cs ≠ []) (hc : ∀ c ∈ cs, c.ok cs.length ∧ c.rows.length ≤ 2000) (he : e ≤ 3) (hn : 1 ≤ n ∧ n ≤ 16) (hcp : cp = .int n ∨ cp = .non ∧ n = enough e)
    (k : ∀ h', Fr [] h h' → h'[h.length]? = some (ringO cs e n) → Q .non h') : W (F_Ring___init__ [.ref h.length, .tup (cs.map Rc.d), .int e, cp] (h ++ [.ins "Ring" []])) Q :=
  init_w (by simp) hz hne hc he hn hcp fun h' f q => k h' (Fr.fresh (i := h.length) ((Fr.app (S := [h.length])).trans f) (Nat.le_refl _)) q
theorem enough_le {e : Nat} (h : e ≤ 3) : 1 ≤ enough e ∧ enough e ≤ 16 := by
  rcases (by omega : e = 0 ∨ e = 1 ∨ e = 2 ∨ e = 3) with rfl | rfl | rfl | rfl <;> decide
end Lw
/-! text PM1 -/
/-! PM1: stores, memories of stores, what a copy holds. -/
namespace Lw
open PySem Z L2
/-- a store: its words, cut -/
def stD (c : Int) (st : List Int) (c2 : Int) : D := .tup [.int c, words st, .int c2]
theorem W_whole {c c2 : Int} {st : List Int} {h : Hd} {Q : D → Hd → Prop} : W (F_is_whole [stD c st c2] h) Q ↔ Q (.bl (decide (c = c2))) h := by
  simp [F_is_whole, B_is_whole, startE, W_xVar, stD]
theorem cut_mid {α : Type} {pre s post : List α} : cutL (pre ++ (s ++ post)) (some (pre.length : Int)) (some ((pre.length + s.length : Nat) : Int)) = s := by
  unfold cutL
  rw [HT.sIx_nat, HT.sIx_nat, Nat.min_eq_left (by simp), Nat.min_eq_left (by simp), List.drop_left, Nat.add_sub_cancel_left]
  exact List.take_left
theorem cut_in {α : Type} {c c2 : α} {st : List α} : cutL (c :: (st ++ [c2])) (some 1) (some (-1)) = st := by
  unfold cutL
  have e1 : HT.sIx (c :: (st ++ [c2])).length 0 (some 1) = 1 := by
    rw [show (some (1 : Int)) = some ((1 : Nat) : Int) from rfl, HT.sIx_nat]
    exact Nat.min_eq_left (by simp)
  have e2 : HT.sIx (c :: (st ++ [c2])).length (c :: (st ++ [c2])).length (some (-1)) = st.length + 1 := by
    unfold HT.sIx
    simp only []
    rw [if_pos (by decide)]
    simp
    omega
  rw [e1, e2]
  simp
theorem lastD2 {α : Type} {f : α → D} {l : List α} {x : α} : atI ((l ++ [x]).map f) (-1) = some (f x) := by
  unfold atI ixN
  rw [if_neg (by decide), if_pos (by simp; omega)]
  rw [show ((-1 : Int) + (((l ++ [x]).map f).length : Int)).toNat = l.length by simp; omega]
  simp
/-- what the rows of a recipe are, while it is drawn -/
theorem last_store {c c2 : Int} {st : List Int} : atI (D.int c :: (st.map D.int ++ [D.int c2])) (-1) = some (.int c2) := by
  have := lastD2 (f := D.int) (l := c :: st) (x := c2)
  simpa using this
theorem store_at_w {pre post st : List Int} {c c2 : Int} {a l : Int} {h : Hd} {Q : D → Hd → Prop} (ha : a = pre.length) (hl : l = ((st.length + 2 : Nat) : Int)) (k : Q (stD c st c2) h) : W (F_store_at [words (pre ++ ((c :: (st ++ [c2])) ++ post)), .int a, .int l] h) Q := by
  subst ha hl
  have e1 : cutL (List.map D.int (pre ++ c :: (st ++ c2 :: post))) (some (pre.length : Int)) (some ((pre.length : Int) + ((st.length : Int) + 2))) = D.int c :: (st.map D.int ++ [D.int c2]) := by
    have eL : List.map D.int (pre ++ c :: (st ++ c2 :: post)) = pre.map D.int ++ (((c :: (st ++ [c2])).map D.int) ++ post.map D.int) := by simp
    have eN : (pre.length : Int) + ((st.length : Int) + 2) = (((pre.map D.int).length + ((c :: (st ++ [c2])).map D.int).length : Nat) : Int) := by simp; omega
    have := cut_mid (pre := pre.map D.int) (s := (c :: (st ++ [c2])).map D.int) (post := post.map D.int)
    rw [eL, eN, show (some (pre.length : Int)) = some ((pre.map D.int).length : Int) by simp]
    exact this.trans (by simp)
  have e2 : cutL (D.int c :: (st.map D.int ++ [D.int c2])) (some 1) (some (-1)) = st.map D.int := cut_in
  unfold words
  simp only [F_store_at, B_store_at]
  simp [startE, W_xVar, -List.map_append, -List.map_cons]
  rw [e1, e2, last_store]
  exact ⟨_, by simp, _, rfl, by decide, k⟩
/-- a store: count, state, count behind -/
structure Sto where
  c : Int
  st : List Int
  c2 : Int
def Sto.ws (s : Sto) : List Int := s.c :: (s.st ++ [s.c2])
def Sto.d (s : Sto) : D := stD s.c s.st s.c2
def memW (ms : List Sto) : List Int := (ms.map Sto.ws).flatten
theorem mem_cut {size : Nat} : ∀ {ms : List Sto} {j : Nat} {s : Sto}, (∀ s ∈ ms, s.st.length = size) → ms[j]? = some s → ∃ pre post, memW ms = pre ++ (s.ws ++ post) ∧ pre.length = (size + 2) * j
  | [], j, s, _, h => by simp at h
  | t :: ms, 0, s, hl, h => by
    cases h
    exact ⟨[], memW ms, by simp [memW], by simp⟩
  | t :: ms, j + 1, s, hl, h => by
    obtain ⟨pre, post, e, l⟩ := mem_cut (ms := ms) (j := j) (s := s) (fun x hx => hl x (List.mem_cons_of_mem _ hx)) (by simpa using h)
    refine ⟨t.ws ++ pre, post, ?_, ?_⟩
    · show t.ws ++ memW ms = _
      rw [e, List.append_assoc]
    · have := hl t List.mem_cons_self
      rw [List.length_append, l, Nat.mul_succ]
      simp [Sto.ws, this]
      omega
theorem ring_size_w {cs : List Rc} {e n r : Nat} {h : Hd} {Q : D → Hd → Prop} (q : h[r]? = some (ringO cs e n)) : W (attrOf T_size "size" (.ref r) h) Q ↔ Q (.int cs.length) h := by
  rw [W_attrProp (F := F_Ring_size) q (by simp [T_size]) (by simp [T_size, List.lookup])]
  simp [F_Ring_size, B_Ring_size, startE, W_xVar]
  rw [W_attrFld (d := .tup (cs.map Rc.d)) q (by simp [T_recipes_given]) (by simp [List.lookup, str_ofS])]
  simp
theorem stores_of_w {cs : List Rc} {e n r i : Nat} {ms : List Sto} {s0 s1 : Sto} {h : Hd} {Q : D → Hd → Prop} (q : h[r]? = some (ringO cs e n)) (hl : ∀ s ∈ ms, s.st.length = cs.length) (h0 : ms[4 * i]? = some s0) (h1 : ms[4 * i + 1]? = some s1) (hi : i ≤ 16) (k : Q (.tup [s0.d, s1.d]) h) : W (F_stores_of [.ref r, words (memW ms), .int i] h) Q := by
  obtain ⟨p0, q0, e0, l0⟩ := mem_cut hl h0
  obtain ⟨p1, q1, e1, l1⟩ := mem_cut hl h1
  have z0 := hl s0 (List.mem_of_getElem? h0)
  have z1 := hl s1 (List.mem_of_getElem? h1)
  have m0 : 4 * ((cs.length : Int) + 2) * (i : Int) = (((cs.length + 2) * (4 * i) : Nat) : Int) := by
    simp
    rw [Int.mul_comm 4, Int.mul_assoc]
  simp [F_stores_of, B_stores_of, startE, W_xVar, ring_size_w q, callA, arrD]
  refine ⟨.inr (by omega), ?_⟩
  rw [m0]
  have a0 : W (F_store_at [words (memW ms), .int (((cs.length + 2) * (4 * i) : Nat) : Int), .int ((cs.length : Int) + 2)] h) fun d h' => d = s0.d ∧ h' = h := by
    rw [e0]
    exact store_at_w (by rw [l0]) (by rw [z0]; simp) ⟨rfl, rfl⟩
  have a1 : W (F_store_at [words (memW ms), .int ((((cs.length + 2) * (4 * i) : Nat) : Int) + ((cs.length : Int) + 2)), .int ((cs.length : Int) + 2)] h) fun d h' => d = s1.d ∧ h' = h := by
    rw [e1]
    refine store_at_w ?_ (by rw [z1]; simp) ⟨rfl, rfl⟩
    rw [l1, Nat.mul_add (cs.length + 2) (4 * i) 1]
    simp
  refine a0.imp fun d h' z => ?_
  obtain ⟨rfl, rfl⟩ := z
  refine a1.imp fun d h' z => ?_
  obtain ⟨rfl, rfl⟩ := z
  exact ⟨by decide, k⟩
theorem memW_app {a b : List Sto} : memW (a ++ b) = memW a ++ memW b := by simp [memW]
theorem memW_len {size : Nat} : ∀ {ms : List Sto}, (∀ s ∈ ms, s.st.length = size) → (memW ms).length = ms.length * (size + 2)
  | [], _ => by simp [memW]
  | t :: ms, hl => by
    have := memW_len (ms := ms) fun x hx => hl x (List.mem_cons_of_mem _ hx)
    have e : memW (t :: ms) = t.ws ++ memW ms := rfl
    rw [e, List.length_append, this, List.length_cons, Nat.succ_mul]
    have := hl t List.mem_cons_self
    simp [Sto.ws, this]
    omega
def StoOk (size : Nat) (x : Sto) : Prop := x.st.length = size ∧ ∀ y ∈ x.ws, Wd y
theorem StoOk.c0 {size : Nat} {x : Sto} (o : StoOk size x) : 0 ≤ x.c := (o.2 x.c (by simp [Sto.ws])).1
theorem memW_wd {size : Nat} {ms : List Sto} (mo : ∀ x ∈ ms, StoOk size x) : ∀ y ∈ memW ms, Wd y := fun y hy => by
  obtain ⟨l, hl, hy⟩ := List.mem_flatten.mp hy
  obtain ⟨x, hx, rfl⟩ := List.mem_map.mp hl
  exact (mo x hx).2 y hy
/-- the pairs of whole stores -/
def wholes (l : List Sto) : List Pr := (l.filter fun s => decide (s.c = s.c2)).map fun s => (s.c, s.st)
def heldP (s0 s1 : Sto) : List Pr := sortPr (uniqPr (wholes [s0, s1]))
theorem wholes_le {l : List Sto} : (wholes l).length ≤ l.length := by
  unfold wholes
  rw [List.length_map]
  exact List.length_filter_le _ _
theorem held_w {cs : List Rc} {e n r i : Nat} {ms : List Sto} {s0 s1 : Sto} {h : Hd} {Q : D → Hd → Prop} (q : h[r]? = some (ringO cs e n)) (hl : ∀ s ∈ ms, s.st.length = cs.length) (h0 : ms[4 * i]? = some s0) (h1 : ms[4 * i + 1]? = some s1) (hi : i ≤ 16) (k : ∀ h', Fr [] h h' → Q (.tup ((heldP s0 s1).map Z.prD)) h') : W (F_held [.ref r, words (memW ms), .int i] h) Q := by
  simp [F_held, B_held, startE, W_xVar, callA, arrD]
  refine stores_of_w q hl h0 h1 hi ?_
  have w : ∀ {s : Sto} {h : Hd} {Q : D → Hd → Prop}, W (F_is_whole [s.d] h) Q ↔ Q (.bl (decide (s.c = s.c2))) h := W_whole
  have wh : W (compZ [] (gNm 4) (xTrue (xFn F_is_whole [.inl 0] 1 (xCons (xVar 4) xNil))) (xVar 4) [some (.ref r), some (words (memW ms)), some (.int i), none, none, none, none, none] [s0.d, s1.d] h) fun ys h' => ys = ([s0, s1].filter fun s => decide (s.c = s.c2)).map Sto.d ∧ h' = h := by
    simp [W_xVar, callA, arrD, w]
    by_cases c0 : s0.c = s0.c2 <;> by_cases c1 : s1.c = s1.c2 <;> simp [c0, c1]
  simp [-W_compCons, -W_compNil]
  refine wh.imp fun ys h' z => ?_
  obtain ⟨rfl, hh⟩ := z
  rw [hh]
  generalize hL : ([s0, s1].filter fun s => decide (s.c = s.c2)) = L
  have hw : wholes [s0, s1] = L.map fun s => (s.c, s.st) := by rw [← hL]; rfl
  have lL : L.length ≤ 2 := by rw [← hL]; exact List.length_filter_le _ _
  refine ⟨by simp [sizeLine]; omega, ?_⟩
  simp [W_xSortC, W_xVar]
  have e1 : (h ++ [MO.lst (L.map Sto.d)])[h.length]? = some (.lst (L.map Sto.d)) := at_new
  refine comp_map (g := fun s : Sto => Z.prD (s.c, s.st)) (S := []) (fun h' f => gdOk_one.mpr (f.get (by simp) e1)) (fun i s h' hs f => ?_) fun h' f => ?_
  · simp [Sto.d, stD, W_xVar, sizeLine, Z.prD]
    exact f
  · have e2 : L.map (fun s : Sto => Z.prD (s.c, s.st)) = (wholes [s0, s1]).map Z.prD := by
      rw [hw, List.map_map]
      rfl
    rw [e2, W_sortSet (l := wholes [s0, s1]) (Nat.le_trans wholes_le (by simp))]
    simp
    exact k _ ((Fr.app (S := [])).trans (f.trans Fr.app))
end Lw
/-! text WE -/
set_option maxHeartbeats 2000000
/-! WE: a source of draws: a dict of cells, a mixed number, the number of draws. -/
namespace Z
open PySem PySem.Spec PyProof.Rows L2
structure SrcD (s c N : Nat) (h : Hd) : Prop where
  ne : s ≠ c
  ex : ∃ (cs : List Int) (m n : Int), h[s]? = some (.dic [(.str "cells", .ref c), (.str "mixed", .int m), (.str "drawn", .int n)]) ∧ h[c]? = some (.lst (cs.map D.int)) ∧ cs.length ≤ 63 ∧ 0 ≤ n ∧ n + (N : Int) ≤ 2 ^ 40
theorem SrcD.fr {s c N : Nat} {h h' : Hd} {S : List Nat} (x : SrcD s c N h) (f : Fr S h h') (hs : s ∉ S) (hc : c ∉ S) : SrcD s c N h' := by
  obtain ⟨cs, m, n, a, b, l⟩ := x.ex
  exact ⟨x.ne, cs, m, n, f.get hs a, f.get hc b, l⟩
theorem SrcD.le {s c N M : Nat} {h : Hd} (x : SrcD s c N h) (l : M ≤ N) : SrcD s c M h := by
  obtain ⟨cs, m, n, a, b, l2, l3, l4⟩ := x.ex
  exact ⟨x.ne, cs, m, n, a, b, l2, l3, by omega⟩
theorem SrcD.lt1 {s c N : Nat} {h : Hd} (x : SrcD s c N h) : s < h.length := by
  obtain ⟨cs, m, n, a, b, l⟩ := x.ex
  exact get_lt a
theorem SrcD.lt2 {s c N : Nat} {h : Hd} (x : SrcD s c N h) : c < h.length := by
  obtain ⟨cs, m, n, a, b, l⟩ := x.ex
  exact get_lt b
end Z
/-! text U1 -/
namespace Lw
open PySem Z L2
theorem draw_w {s c N : Nat} {b : Int} {h : Hd} {Q : D → Hd → Prop} (S : SrcD s c N h) (hN : 1 ≤ N) (h0 : 0 < b) (h1 : b < 1073741824) (k : ∀ v h', 0 ≤ v → v < b → SrcD s c (N - 1) h' → Fr [s, c] h h' → Q (.int v) h') : W (F__law_draw [.ref s, .int b] h) Q := by
  obtain ⟨ne, cs, m, n, hs, hc, l, n0, nN⟩ := S
  have ls := get_lt hs
  have lc := get_lt hc
  have bd : ∀ k : Int, 0 ≤ k → k ≤ 100000 → k * (n + 1) < 18446744073709551616 := fun k k0 k1 => by
    have := Int.mul_le_mul_of_nonneg_right k1 (show 0 ≤ n + 1 by omega)
    omega
  have bd0 : ∀ k : Int, 0 ≤ k → -18446744073709551616 < k * (n + 1) := fun k k0 => by
    have := Int.mul_nonneg k0 (show 0 ≤ n + 1 by omega)
    omega
  generalize hX : (MO.dic [(.str "cells", .ref c), (.str "mixed", .int m), (.str "drawn", .int (n + 1))]) = X
  have hs2 : (h.set s X)[s]? = some (.dic [(.str "cells", .ref c), (.str "mixed", .int m), (.str "drawn", .int (n + 1))]) := by
    rw [List.getElem?_set_self ls, hX]
  have hs3 : (h.set s X ++ [.lst []])[s]? = some (.dic [(.str "cells", .ref c), (.str "mixed", .int m), (.str "drawn", .int (n + 1))]) := by
    rw [List.getElem?_append_left (by simpa using ls), hs2]
  have hc3 : (h.set s X ++ [.lst []])[c]? = some (.lst (cs.map D.int)) := by
    rw [List.getElem?_append_left (by simpa using lc), List.getElem?_set_ne ne, hc]
  have he3 : (h.set s X ++ [.lst []])[h.length]? = some (.lst (([] : List Int).map D.int)) := by
    simp
  have f1 : Fr [s, c] h (h.set s X ++ [.lst []]) := (Fr.set (by simp)).trans Fr.app
  have md : ∀ x y : Int, 0 < y → y < 18446744073709551616 → -18446744073709551616 < x % y ∧ x % y < 18446744073709551616 := fun x y h1 h2 => by
    have := Int.emod_nonneg x (show y ≠ 0 by omega)
    have := Int.emod_lt_of_pos x h1
    omega
  have fin : ∀ (w : Int) (h' : Hd), SrcD s c (N - 1) h' → Fr [s, c] h h' → Q (.int (w % b)) h' := fun w h' q1 q2 => k _ _ (Int.emod_nonneg _ (by omega)) (Int.emod_lt_of_pos _ h0) q1 q2
  simp [F__law_draw, B__law_draw, startE, W_xVar, W_ixDic hs, WS_setDic hs, keyD, dlook, str_eq, W_ixDic hs2, sizeLine, dput, hX, W_neInts hc3 he3, W_ixDic hs3, isLst_at hc3, W_pop hc3, bd, bd0, h0, md]
  refine ⟨fun hne => ?_, fun he => ?_⟩
  · have lp : 0 < cs.length := List.length_pos_iff.mpr hne
    refine ⟨_, ⟨_, List.getElem?_eq_getElem (by omega), rfl⟩, ?_⟩
    generalize cs[cs.length - 1]'(by omega) = y
    have md2 : (cs.map D.int).dropLast = cs.dropLast.map D.int := List.map_dropLast.symm
    generalize hY : (h.set s X ++ [MO.lst []]) = Y at *
    have lcY := get_lt hc3
    have hs4 : (Y.set c (.lst (cs.map D.int).dropLast))[s]? = some (.dic [(.str "cells", .ref c), (.str "mixed", .int m), (.str "drawn", .int (n + 1))]) := by
      rw [List.getElem?_set_ne (Ne.symm ne), hs3]
    have hc4 : (Y.set c (.lst (cs.map D.int).dropLast))[c]? = some (.lst (cs.map D.int).dropLast) := List.getElem?_set_self lcY
    have f2 : ∀ z, Fr [s, c] h (Y.set c z) := fun z => f1.trans (Fr.set (by simp))
    simp [W_ixDic hs4, keyD, dlook, str_eq, isLst_at hc4, W_append hc4, sizeLine, h0, h1, bd, bd0, md]
    refine ⟨fun hy => ⟨by omega, fin _ _ ⟨ne, cs.dropLast ++ [y / b], m, n + 1, ?_, ?_, ?_, by omega, by omega⟩ (f2 _)⟩, fun hy => fin _ _ ⟨ne, cs.dropLast, m, n + 1, hs4, hc4.trans (by rw [md2]), by rw [List.length_dropLast]; omega, by omega, by omega⟩ (f2 _)⟩
    · rw [List.getElem?_set_ne (Ne.symm ne), hs3]
    · rw [List.getElem?_set_self lcY, md2]
      simp
    · rw [List.length_append, List.length_dropLast, List.length_singleton]
      omega
  · refine fin _ _ ⟨ne, cs, m, n + 1, hs3, hc3, l, by omega, by omega⟩ f1
theorem pick_w {s c N n : Nat} {ds : List D} {h : Hd} {Q : D → Hd → Prop} (S : SrcD s c N h) (hN : 1 ≤ N) (hn : h[n]? = some (.lst ds)) (ns : n ≠ s) (nc : n ≠ c) (h0 : ds ≠ []) (hl : ds.length < 1000000) (k : ∀ d h', d ∈ ds → SrcD s c (N - 1) h' → Fr [s, c] h h' → Q d h') : W (F__law_pick [.ref s, .ref n] h) Q := by
  simp [F__law_pick, B__law_pick, startE, W_xVar, callA, arrD, W_lenLst hn]
  have lp : 0 < ds.length := List.length_pos_iff.mpr h0
  refine draw_w S hN (by omega) (by omega) fun v h' v0 v1 S' f => ?_
  have hn' := f.get (by simp [ns, nc]) hn
  have hv : v.toNat < ds.length := by omega
  have e : ds[v.toNat]? = some ds[v.toNat] := List.getElem?_eq_getElem hv
  have e2 : atI ds v = some ds[v.toNat] := by
    have := atI_nat' e
    rwa [Int.toNat_of_nonneg v0] at this
  rw [W_ixLst hn']
  exact ⟨_, e2, k _ _ (List.getElem_mem hv) S' f⟩
theorem draw_n {s c N b : Nat} {h : Hd} {Q : D → Hd → Prop} (S : SrcD s c N h) (hN : 1 ≤ N) (h0 : 0 < b) (h1 : b < 1073741824) (k : ∀ (v : Nat) h', v < b → SrcD s c (N - 1) h' → Fr [s, c] h h' → Q (.int v) h') : W (F__law_draw [.ref s, .int b] h) Q := by
  refine draw_w S hN (by omega) (by omega) fun v h' v0 v1 S' f => ?_
  have := k v.toNat h' (by omega) S' f
  rwa [Int.toNat_of_nonneg v0] at this
theorem pick_new {s c N : Nat} {ds : List D} {h : Hd} {Q : D → Hd → Prop} (S : SrcD s c N h) (hN : 1 ≤ N) (h0 : ds ≠ []) (hl : ds.length < 1000000) (k : ∀ d h', d ∈ ds → SrcD s c (N - 1) h' → Fr [s, c] h h' → Q d h') : W (F__law_pick [.ref s, .ref h.length] (h ++ [.lst ds])) Q := by
  have l1 := S.lt1
  have l2 := S.lt2
  exact pick_w (S.fr (S := []) Fr.app (by simp) (by simp)) hN at_new (by omega) (by omega) h0 hl fun d h' hd S' f => k d h' hd S' ((Fr.app (S := [s, c])).trans f)
end Lw
/-! text U2 -/
namespace Lw
open PySem Z L2
theorem deck_w {ns : List Int} {h : Hd} {Q : D → Hd → Prop} (hl : ns.length ≤ 63) (k : ∀ s c h', SrcD s c (2 ^ 39) h' → Fr [] h h' → Q (.ref s) h') : W (F__law_deck [.fl (ns.map D.int)] h) Q := by
  have cut : cutL (ns.map D.int) none (some 63) = ns.map D.int := by
    show cutL (ns.map D.int) none (some ((63 : Nat) : Int)) = _
    unfold cutL
    rw [HT.sIx_nat, HT.sIx_none, List.drop_zero, Nat.sub_zero]
    exact List.take_of_length_le (by simp; omega)
  have e0 : (h ++ [MO.lst (ns.map D.int)])[h.length]? = some (.lst (ns.map D.int)) := by simp
  have e1 : (h ++ [MO.lst (ns.map D.int), MO.lst (ns.map D.int)])[h.length + 1]? = some (.lst (ns.map D.int)) := by simp
  simp [F__law_deck, B__law_deck, startE, W_xVar, sizeLine, cut, W_listLst e0, W_itsLst e1]
  refine ⟨by omega, ?_⟩
  refine for_rule (I := fun i en h' => h' = h ++ [MO.lst (ns.map D.int), MO.lst (ns.map D.int)] ∧ ∃ (m : Int) (a : Option D), 0 ≤ m ∧ m < 2147483647 ∧ en = [some (.fl (ns.map D.int)), some (.ref (h.length + 1)), some (.int m), a]) 0 ?_ ⟨rfl, _, none, by decide, by decide, rfl⟩ ?_
  · rintro i d en h' hd ⟨rfl, m, a, m0, m1, rfl⟩
    rw [List.getElem?_map] at hd
    obtain ⟨x, hx, rfl⟩ := Option.map_eq_some_iff.mp hd
    refine ⟨gdOk_one.mpr e1, ?_⟩
    simp [W_xVar]
    omega
  · rintro en h' ⟨rfl, m, a, m0, m1, rfl⟩
    refine ⟨gdOk_one.mpr e1, ?_⟩
    have e2 : ∀ g, (h ++ MO.lst (ns.map D.int) :: MO.lst (ns.map D.int) :: g)[h.length + 1]? = some (.lst (ns.map D.int)) := fun g => by simp
    simp [W_xVar, lstOf_at (e2 _), sizeLine]
    have e3 : (h ++ [MO.lst (ns.map D.int), MO.lst (ns.map D.int), MO.dic [], MO.lst (ns.map D.int).reverse])[h.length + 2]? = some (.dic []) := by simp
    rw [W_pairD e3 rfl (by simp)]
    refine ⟨by omega, k _ (h.length + 3) _ ⟨by omega, ns.reverse, m, 0, ?_, ?_, by simpa using hl, by decide, by decide⟩ ?_⟩
    · rw [List.getElem?_set_self (by simp)]
      simp [dput, str_eq]
    · rw [List.getElem?_set_ne (by omega)]
      simp
    · exact Fr.fresh (i := h.length + 2) (Fr.app.trans (Fr.set List.mem_cons_self)) (by omega)
end Lw
/-! text C1 -/
set_option maxHeartbeats 4000000
namespace Lw
open PySem Z L2
theorem cut_rule {x y : XS} {en : En} {h : Hd} {N B C : En → Hd → Prop} {R : D → Hd → Prop} (J : En → Hd → Prop) (a : WS (x en h) J R B C) (b : ∀ en h, J en h → WS (y en h) N R B C) : WS (sSeq x y en h) N R B C := by
  rw [WS_seq]
  exact a.imp b (fun _ _ z => z) (fun _ _ z => z) (fun _ _ z => z)
theorem WS_seqA {x y z : XS} {en : En} {h : Hd} {N B C : En → Hd → Prop} {R : D → Hd → Prop} : WS (sSeq x (sSeq y z) en h) N R B C ↔ WS (sSeq (sSeq x y) z en h) N R B C := by simp only [WS_seq]
theorem ints_from0 {n : Nat} : Z.intsFrom 0 n = (List.range n).map fun (x : Nat) => D.int x := by
  unfold Z.intsFrom
  simp
theorem sort_rf {h : Hd} {a : Nat} {xs : List (List Int)} (ha : h[a]? = some (.lst (xs.map words))) : rf h (.ref a) = some (.list (xs.map wp)) := rf_lst ha (pds_of words wp fun _ _ => pd_words _)
theorem shaped_wps (xs : List (List Int)) : SeqAt.shaped (.list (xs.map wp)) = true := by
  have c1 : ∀ l : List Int, PyData.canLayAll0 (l.map PyData.int) = true := fun l => by
    induction l with
    | nil => rfl
    | cons i l ih => simp [PyData.canLayAll0, PyData.canLay0, ih]
  have d1 : ∀ l : List Int, PyData.depthAll (l.map PyData.int) = 0 := fun l => by
    induction l with
    | nil => rfl
    | cons i l ih => simp [PyData.depthAll, PyData.depth, ih]
  have c2 : ∀ l : List (List Int), PyData.canLayAll0 (l.map wp) = true := fun l => by
    induction l with
    | nil => rfl
    | cons i l ih => simp [PyData.canLayAll0, PyData.canLay0, ih, wp, c1]
  have d2 : ∀ l : List (List Int), PyData.depthAll (l.map wp) ≤ 1 := fun l => by
    induction l with
    | nil => simp [PyData.depthAll]
    | cons i l ih => simp [PyData.depthAll, PyData.depth, wp, d1]; omega
  have := d2 xs
  unfold SeqAt.shaped
  rw [Bool.and_eq_true]
  refine ⟨c2 xs, decide_eq_true ?_⟩
  show PyData.depthAll (xs.map wp) + 1 ≤ 64
  omega
theorem W_neNilW {h : Hd} {a b : Nat} {xs : List (List Int)} {Q : D → Hd → Prop} (ha : h[a]? = some (.lst (xs.map words))) (hb : h[b]? = some (.lst [])) : W (dNe (.ref a) (.ref b) h) Q ↔ Q (.bl (decide (xs ≠ []))) h := by
  have : eqD (.ref a) (.ref b) h = some (decide (xs = [])) := by
    unfold eqD
    simp only [sort_rf ha, sort_rf (xs := []) hb, shaped_wps, and_self, if_true]
    cases xs <;> simp [PyData.eqv, PyData.eqvAll]
  unfold dNe
  simp [this]
structure SJ (s c N E size cnt : Nat) (h0 : Hd) (en : En) (h : Hd) : Prop where
  ex : ∃ (a4 a5 a6 : Option D), en = [some (.ref s), some (.int size), some (.ref E), some (.int cnt), a4, a5, a6] ∧ SrcD s c N h ∧ Fr [s, c] h0 h
theorem store_w {s c N E size : Nat} {ms : List Sto} {h : Hd} {Q : D → Hd → Prop} (S : SrcD s c N h) (hN : 20 ≤ N) (q : h[E]? = some (.lst ((ms.map Sto.ws).map words))) (hE : E ≠ s ∧ E ≠ c) (mo : ∀ x ∈ ms, StoOk size x) (hz : 1 ≤ size ∧ size ≤ 4) (lm : ms.length ≤ 100)
    (k : ∀ (x : Sto) h', StoOk size x → SrcD s c (N - 20) h' → Fr [s, c] h h' → Q (words x.ws) h') : W (F__law_store [.ref s, .int size, .ref E] h) Q := by
  simp only [F__law_store, B__law_store, W_body, startE]
  refine ⟨rfl, ?_⟩
  have ls := S.lt1
  have lc := S.lt2
  have lE := get_lt q
  refine cut_rule (fun en h' => en = [some (.ref s), some (.int size), some (.ref E), none, none, none, none] ∧ SrcD s c (N - 1) h' ∧ Fr [s, c] h h') ?_ fun en1 h1 j1 => ?_
  · simp [W_xVar, callA, arrD, sizeLine]
    have f0 : Fr [] h (h ++ [MO.lst []]) := Fr.app
    have q0 := f0.get (by simp) q
    have S0 := S.fr f0 (by simp) (by simp)
    rw [W_neNilW q0 (by simp)]
    generalize h ++ [MO.lst []] = h0 at f0 q0 S0
    simp
    refine ⟨fun hne => ?_, fun he => ⟨S0.le (by omega), f0.mono (by simp)⟩⟩
    refine draw_n (b := 4) S0 (by omega) (by omega) (by omega) fun v h1 hv S1 f1 => ?_
    have q1 := f1.get (by simp [hE]) q0
    simp
    refine ⟨fun v0 => ?_, fun v0 => ⟨S1, (f0.mono (by simp)).trans f1⟩⟩
    refine pick_w S1 (by omega) q1 hE.1 hE.2 (by simpa using hne) (by simp; omega) fun d h2 hd S2 f2 => ?_
    obtain ⟨w, hw, rfl⟩ := List.mem_map.mp hd
    obtain ⟨x, hx, rfl⟩ := List.mem_map.mp hw
    exact k x h2 (mo x hx) (S2.le (by omega)) (((f0.mono (by simp)).trans f1).trans f2)
  · obtain ⟨rfl, S1, f1⟩ := j1
    simp [W_xVar, callA, arrD, sizeLine]
    refine draw_n (b := 1000000) S1 (by omega) (by omega) (by omega) fun v h2 hv S2 f2 => ?_
    refine pick_new S2 (by omega) (by simp) (by simp) fun d h3 hd S3 f3 => ?_
    obtain ⟨cnt, rfl, cl⟩ : ∃ m : Nat, d = .int m ∧ m < 1000000 := by
      simp only [List.mem_cons, List.not_mem_nil, or_false] at hd
      rcases hd with rfl | rfl | rfl | rfl | rfl | rfl
      · exact ⟨0, rfl, by omega⟩
      · exact ⟨1, rfl, by omega⟩
      · exact ⟨2, rfl, by omega⟩
      · exact ⟨999998, rfl, by omega⟩
      · exact ⟨999999, rfl, by omega⟩
      · exact ⟨v, rfl, by omega⟩
    rw [ints_from0]
    have f13 := (f1.trans f2).trans f3
    refine ⟨by omega, ?_⟩
    refine comp_rule (acc := []) (I := fun i acc h' => ∃ st : List Int, acc = st.map D.int ∧ st.length = i ∧ (∀ y ∈ st, Wd y) ∧ SrcD s c (N - 3 - i) h' ∧ Fr [s, c] h h') 0 ?_ ⟨[], rfl, rfl, (fun _ z => nomatch z), S3.le (by omega), f13⟩ ?_
    · rintro i d acc h4 hd ⟨st, rfl, sl, so, S4, f4⟩
      have il := lt_of_at hd
      rw [List.length_map, List.length_range] at il
      refine ⟨by simp, ?_⟩
      simp [W_xVar, callA, arrD, sizeLine]
      refine pick_new S4 (by omega) (by simp) (by simp) fun d h5 hd S5 f5 => ?_
      obtain ⟨y, rfl, yl⟩ : ∃ m : Nat, d = .int m ∧ m < 1000000 := by
        simp only [List.mem_cons, List.not_mem_nil, or_false] at hd
        rcases hd with rfl | rfl | rfl | rfl | rfl | rfl
        · exact ⟨0, rfl, by omega⟩
        · exact ⟨0, rfl, by omega⟩
        · exact ⟨1, rfl, by omega⟩
        · exact ⟨7, rfl, by omega⟩
        · exact ⟨999999, rfl, by omega⟩
        · exact ⟨cnt, rfl, by omega⟩
      refine ⟨st ++ [(y : Int)], by simp, by simp; omega, fun z hz => ?_, S5.le (by omega), f4.trans f5⟩
      rcases List.mem_append.mp hz with hz | hz
      · exact so z hz
      · rw [List.mem_singleton.mp hz]
        exact ⟨by omega, by omega⟩
    · rintro ys h4 ⟨st, e, sl, so, S4, f4⟩
      rw [List.nil_append] at e
      subst e
      rw [Nat.zero_add, List.length_map, List.length_range] at sl S4
      refine ⟨by simp, by simp; omega, ?_⟩
      have f5 : Fr [] h4 (h4 ++ [MO.lst (st.map D.int)]) := Fr.app
      have S5 := S4.fr f5 (by simp) (by simp)
      generalize h4 ++ [MO.lst (st.map D.int)] = h5 at f5 S5
      simp
      refine draw_n (b := 3) S5 (by omega) (by omega) (by omega) fun u h6 hu S6 f6 => ?_
      have f7 : ∀ X, Fr [] h6 (h6 ++ [X]) := fun X => Fr.app
      have q7 : ∀ X, (h6 ++ [X])[h6.length]? = some X := fun X => by simp
      have S7 : ∀ X, SrcD s c (N - 3 - size - 1) (h6 ++ [X]) := fun X => S6.fr (f7 X) (by simp) (by simp)
      refine draw_n (b := 4) (S7 _) (by omega) (by omega) (by omega) fun w h8 hw S8 f8 => ?_
      have l6 : h6.length ≠ s ∧ h6.length ≠ c := by
        have := S6.lt1
        have := S6.lt2
        omega
      have q8 := f8.get (by simp [l6]) (q7 _)
      rw [W_ixLst q8]
      have fF := ((f4.trans (f5.mono (by simp))).trans f6).trans (((f7 (.lst [D.int (cnt : Int), D.int cnt, D.int (((cnt : Int) + 1) % 1000000), D.int (u : Int)])).mono (T := [s, c]) (by simp)).trans f8)
      obtain ⟨c2, e2, w2⟩ : ∃ c2 : Int, atI [D.int (cnt : Int), D.int cnt, D.int (((cnt : Int) + 1) % 1000000), D.int (u : Int)] (w : Int) = some (.int c2) ∧ Wd c2 := by
        rcases (by omega : w = 0 ∨ w = 1 ∨ w = 2 ∨ w = 3) with rfl | rfl | rfl | rfl
        · exact ⟨cnt, rfl, by omega, by omega⟩
        · exact ⟨cnt, rfl, by omega, by omega⟩
        · exact ⟨((cnt : Int) + 1) % 1000000, rfl, by omega, by omega⟩
        · exact ⟨u, rfl, by omega, by omega⟩
      refine ⟨_, e2, by omega, by omega, ?_⟩
      have := k ⟨cnt, st, c2⟩ h8 ⟨sl, fun z hz => ?_⟩ (S8.le (by omega)) fF
      · simpa [Sto.ws, words] using this
      · simp only [Sto.ws, List.mem_cons, List.mem_append, List.not_mem_nil, or_false] at hz
        rcases hz with rfl | hz | rfl
        · exact ⟨by omega, by omega⟩
        · exact so z hz
        · exact w2
end Lw
/-! text C2 -/
namespace Lw
open PySem Z L2
structure MI (s c N F E size many : Nat) (h0 : Hd) (i : Nat) (en : En) (h : Hd) : Prop where
  ex : ∃ (ms : List Sto) (a5 : Option D), en = [some (.ref s), some (.int size), some (.int many), some (.ref E), some (.ref F), a5] ∧ SrcD s c (N - 20 * i) h ∧ Fr [s, c] h0 h ∧ h[E]? = some (.lst ((ms.map Sto.ws).map words)) ∧ h[F]? = some (.lst ((memW ms).map D.int)) ∧ ms.length = i ∧ ∀ x ∈ ms, StoOk size x
theorem last_ws {ms : List Sto} {x : Sto} : atI (((ms ++ [x]).map Sto.ws).map words) (-1) = some (words x.ws) := by
  have := lastD2 (f := words) (l := ms.map Sto.ws) (x := x.ws)
  simpa using this
theorem memory_w {s c N size many : Nat} {h : Hd} {Q : D → Hd → Prop} (S : SrcD s c N h) (hN : 1500 ≤ N) (hz : 1 ≤ size ∧ size ≤ 4) (hm : 1 ≤ many ∧ many ≤ 16)
    (k : ∀ (ms : List Sto) h', ms.length = 4 * many → (∀ x ∈ ms, StoOk size x) → SrcD s c (N - 1400) h' → Fr [s, c] h h' → Q (words (memW ms)) h') : W (F__law_memory [.ref s, .int size, .int many] h) Q := by
  simp [F__law_memory, B__law_memory, startE, W_xVar, callA, arrD, sizeLine]
  rw [ints_from0]
  have ls := S.lt1
  have lc := S.lt2
  have f0 : ∀ X Y : MO, Fr [] h (h ++ [X, Y]) := fun X Y => Fr.app
  have e4 : (4 * (many : Int)).toNat = 4 * many := by omega
  rw [e4]
  refine ⟨by omega, for_rule (I := MI s c N (h.length + 1) h.length size many h) 0 ?_ ⟨[], _, rfl, S.fr (f0 _ _) (by simp) (by simp), (f0 _ _).mono (by simp), by simp, by simp [memW], rfl, fun _ z => nomatch z⟩ ?_⟩
  · rintro i dd en h2 hdd ⟨ms, a5, rfl, S2, f2, eE, eF, ml, mo⟩
    have il := lt_of_at hdd
    rw [List.length_map, List.length_range] at il
    rw [Nat.zero_add] at S2 ml ⊢
    refine ⟨by simp, ?_⟩
    simp [W_xVar, callA, arrD, sizeLine, isLst_at eE]
    refine store_w S2 (by omega) eE (by omega) mo hz (by omega) fun x h3 ox S3 f3 => ?_
    have eE3 := f3.get (by simp; omega) eE
    have eF3 := f3.get (by simp; omega) eF
    rw [W_append eE3]
    refine ⟨by simp [sizeLine]; omega, ?_⟩
    have f4 : ∀ X, Fr [h.length] h3 (h3.set h.length X) := fun X => Fr.set (by simp)
    have eE4 : (h3.set h.length (.lst ((ms.map Sto.ws).map words ++ [words x.ws])))[h.length]? = some (.lst (((ms ++ [x]).map Sto.ws).map words)) := by
      rw [List.getElem?_set_self (get_lt eE3)]
      simp
    have f4 := f4 (.lst ((ms.map Sto.ws).map words ++ [words x.ws]))
    have eF4 := f4.get (by simp) eF3
    generalize h3.set h.length (.lst ((ms.map Sto.ws).map words ++ [words x.ws])) = h4 at f4 eE4 eF4
    rw [W_ixLst eE4]
    refine ⟨isLst_at eF4, _, last_ws, ?_⟩
    rw [show words x.ws = .tup (x.ws.map D.int) from rfl, W_extendT eF4]
    have ml' := memW_len fun x hx => (mo x hx).1
    have mle : (memW ms).length ≤ 400 := by
      rw [ml', ml]
      have := Nat.mul_le_mul (show i ≤ 64 by omega) (show size + 2 ≤ 6 by omega)
      omega
    have lx : x.ws.length = size + 2 := by simp [Sto.ws, ox.1]
    have f5 : ∀ X, Fr [h.length + 1] h4 (h4.set (h.length + 1) X) := fun X => Fr.set (by simp)
    refine ⟨by simp [sizeLine]; omega, ms ++ [x], _, rfl, ?_, ?_, (f5 _).get (by simp) eE4, ?_, by simp [ml], fun y hy => ?_⟩
    · exact ((S3.fr f4 (by simp; omega) (by simp; omega)).fr (f5 _) (by simp; omega) (by simp; omega)).le (by omega)
    · have f6 := f2.trans f3
      have f7 := Fr.fresh (i := h.length) ((f6.mono (T := [h.length, s, c]) (by simp)).trans (f4.mono (by simp))) (Nat.le_refl _)
      exact Fr.fresh (i := h.length + 1) ((f7.mono (T := [h.length + 1, s, c]) (by simp)).trans ((f5 _).mono (by simp))) (by omega)
    · rw [List.getElem?_set_self (get_lt eF4), memW_app]
      simp [memW]
    · rcases List.mem_append.mp hy with hy | hy
      · exact mo y hy
      · rw [List.mem_singleton.mp hy]
        exact ox
  · rintro en h2 ⟨ms, a5, rfl, S2, f2, eE, eF, ml, mo⟩
    rw [Nat.zero_add, List.length_map, List.length_range] at S2 ml
    refine ⟨by simp, ?_⟩
    simp [W_xVar, W_tupLst eF]
    exact k ms h2 ml mo (S2.le (by omega)) f2
end Lw
/-! text C3 -/
namespace Lw
open PySem Z L2
theorem mem_at {size j : Nat} {ms : List Sto} {s : Sto} (hl : ∀ s ∈ ms, s.st.length = size) (hs : ms[j]? = some s) : atI ((memW ms).map D.int) (((size + 2) * j : Nat) : Int) = some (.int s.c) ∧ atI ((memW ms).map D.int) (((size + 2) * j + size + 1 : Nat) : Int) = some (.int s.c2) ∧ cutL ((memW ms).map D.int) (some (((size + 2) * j + 1 : Nat) : Int)) (some (((size + 2) * j + size + 1 : Nat) : Int)) = s.st.map D.int := by
  obtain ⟨pre, post, e, l⟩ := mem_cut hl hs
  have z := hl s (List.mem_of_getElem? hs)
  rw [← l, e]
  refine ⟨atI_nat' ?_, atI_nat' ?_, ?_⟩
  · rw [List.getElem?_map, List.getElem?_append_right (Nat.le_refl _), Nat.sub_self]
    simp [Sto.ws]
  · rw [List.getElem?_map, List.getElem?_append_right (by omega), show pre.length + size + 1 - pre.length = size + 1 by omega, List.getElem?_append_left (by simp [Sto.ws, z])]
    simp [Sto.ws, ← z]
  · have := cut_mid (pre := (pre ++ [s.c]).map D.int) (s := s.st.map D.int) (post := ([s.c2] ++ post).map D.int)
    have e2 : (pre ++ (s.ws ++ post)).map D.int = (pre ++ [s.c]).map D.int ++ (s.st.map D.int ++ ([s.c2] ++ post).map D.int) := by simp [Sto.ws]
    rw [e2]
    rw [← z]
    simpa [Nat.add_right_comm] using this
theorem uniqPr_snoc {l : List Pr} {p : Pr} : uniqPr (l ++ [p]) = if p ∈ uniqPr l then uniqPr l else uniqPr l ++ [p] := by
  unfold uniqPr
  rw [List.foldl_append]
  rfl
structure DI (size i F : Nat) (ms : List Sto) (s0 s1 : Sto) (h0 : Hd) (j : Nat) (en : En) (h : Hd) : Prop where
  ex : ∃ (a5 a6 : Option D), en = [some (words (memW ms)), some (.int size), some (.int i), some (.ref F), some (.int (((size + 2) * (4 * i) : Nat) : Int)), a5, a6] ∧ Fr [] h0 h ∧ h[F]? = some (.lst ((uniqPr (wholes ([s0, s1].take j))).map Z.prD))
theorem due_w {size i : Nat} {ms : List Sto} {s0 s1 : Sto} {h : Hd} {Q : D → Hd → Prop} (hl : ∀ s ∈ ms, s.st.length = size) (h0 : ms[4 * i]? = some s0) (h1 : ms[4 * i + 1]? = some s1) (hi : i ≤ 16) (hz : size ≤ 10) (k : ∀ h', Fr [] h h' → Q (.tup ((heldP s0 s1).map Z.prD)) h') : W (F__law_due [words (memW ms), .int size, .int i] h) Q := by
  have m0 : 4 * ((size : Int) + 2) * (i : Int) = (((size + 2) * (4 * i) : Nat) : Int) := by
    simp
    rw [Int.mul_comm 4, Int.mul_assoc]
  simp [F__law_due, B__law_due, startE, W_xVar, callA, arrD, sizeLine]
  refine ⟨.inr (by omega), ?_⟩
  rw [m0]
  have m1 : (((size + 2) * (4 * i) : Nat) : Int) + (size : Int) + 2 = (((size + 2) * (4 * i + 1) : Nat) : Int) := by
    rw [Nat.mul_add (size + 2) (4 * i) 1]
    simp
    omega
  rw [m1]
  have stp : ∀ (B : En → Hd → Prop) (j : Nat) (s : Sto) (n : Nat) en h2, [s0, s1][j]? = some s → ms[n]? = some s → DI size i h.length ms s0 s1 h j en h2 → WS ((sSeq (sAsg (xTup (xCons (xOp dIx (xVar 0) (xVar 5)) (xCons (xSl (xVar 0) (oSome (xOp dAdd (xVar 5) (xC (.int 1)))) (oSome (xOp dAdd (xOp dAdd (xVar 5) (xVar 1)) (xC (.int 1))))) xNil))) (gNm 6))
  (sIf (xAnd (xTrue (xOp dEq (xOp dIx (xVar 0) (xVar 5)) (xOp dIx (xVar 0) (xOp dAdd (xOp dAdd (xVar 5) (xVar 1)) (xC (.int 1)))))) (xTrue (xOp dNotInX (xVar 6) (xVar 3)))) (sDrop (xBm isLst mAppend (xVar 3) (xCons (xVar 6) xNil))) sNext)) (en.set 5 (some (.int (((size + 2) * n : Nat) : Int)))) h2) (DI size i h.length ms s0 s1 h (j + 1)) Q B (DI size i h.length ms s0 s1 h (j + 1)) := by
    rintro B j s n en h2 hj hn ⟨a5, a6, rfl, f2, eF⟩
    obtain ⟨x1, x2, x3⟩ := mem_at hl hn
    have c1 : (((size + 2) * n : Nat) : Int) + (size : Int) + 1 = (((size + 2) * n + size + 1 : Nat) : Int) := by omega
    have c2 : (((size + 2) * n : Nat) : Int) + 1 = (((size + 2) * n + 1 : Nat) : Int) := by omega
    generalize hA : (((size + 2) * n : Nat) : Int) = A at x1 c1 c2
    generalize hB : (((size + 2) * n + size + 1 : Nat) : Int) = B at x2 x3 c1
    generalize hC : (((size + 2) * n + 1 : Nat) : Int) = C at x3 c2
    simp [W_xVar, sizeLine, words]
    have tk : [s0, s1].take (j + 1) = [s0, s1].take j ++ [s] := Z.take_next hj
    have wt : wholes ([s0, s1].take (j + 1)) = wholes ([s0, s1].take j) ++ if s.c = s.c2 then [(s.c, s.st)] else [] := by
      rw [tk]
      unfold wholes
      rw [List.filter_append, List.map_append]
      by_cases e : s.c = s.c2 <;> simp [e]
    rw [c1, c2]
    refine ⟨_, x1, ?_⟩
    rw [x3]
    refine ⟨_, x1, _, x2, ?_⟩
    simp
    refine ⟨fun e => ?_, fun e => ?_⟩
    · rw [show D.tup [.int s.c, .tup (s.st.map D.int)] = Z.prD (s.c, s.st) from rfl, W_notInPr eF]
      rw [if_pos e] at wt
      simp
      have le : (uniqPr (wholes ([s0, s1].take j))).length ≤ 2 := by
        refine Nat.le_trans (uniqPr_le _) (Nat.le_trans wholes_le ?_)
        rw [List.length_take]
        exact Nat.min_le_right _ _
      refine ⟨fun hn => ?_, fun hp => ⟨_, _, rfl, f2, ?_⟩⟩
      · refine ⟨isLst_at eF, ?_⟩
        rw [W_append eF]
        refine ⟨by simp [sizeLine]; omega, _, _, rfl, Fr.fresh (i := h.length) ((f2.mono (by simp)).trans (Fr.set (by simp))) (Nat.le_refl _), ?_⟩
        rw [List.getElem?_set_self (get_lt eF), wt, uniqPr_snoc, if_neg hn]
        simp
      · rw [wt, uniqPr_snoc, if_pos hp]
        exact eF
    · refine ⟨_, _, rfl, f2, ?_⟩
      rw [wt, if_neg e, List.append_nil]
      exact eF
  refine for_rule (I := DI size i h.length ms s0 s1 h) 0 ?_ ⟨_, _, rfl, Fr.app, by simp [uniqPr, wholes]⟩ ?_
  · intro j d en h2 hd j2
    rw [Nat.zero_add] at j2 ⊢
    have jl := lt_of_at hd
    refine ⟨by simp, ?_⟩
    rw [WS_gNm]
    rcases (by simp at jl; omega : j = 0 ∨ j = 1) with rfl | rfl
    · cases hd
      exact stp _ 0 s0 (4 * i) en h2 rfl h0 j2
    · cases hd
      exact stp _ 1 s1 (4 * i + 1) en h2 rfl h1 j2
  · rintro en h2 ⟨a5, a6, rfl, f2, eF⟩
    refine ⟨by simp, ?_⟩
    have e2 : [s0, s1].take (0 + [D.int (((size + 2) * (4 * i) : Nat) : Int), D.int (((size + 2) * (4 * i + 1) : Nat) : Int)].length) = [s0, s1] := rfl
    rw [e2] at eF
    have le : (uniqPr (wholes [s0, s1])).length ≤ 2 := Nat.le_trans (uniqPr_le _) wholes_le
    simp [W_xVar]
    rw [W_sortedPr eF (by simp [sizeLine]; omega)]
    simp
    exact k _ (f2.trans Fr.app)
end Lw
/-! text PL -/
namespace Lw
open PySem Z L2
theorem sz_wide {x : List Int} (o : ∀ y ∈ x, Wd y) (l : x.length ≤ 1000) : Sz (wp x) 1 22003 := by
  refine (Sz.tup (dep := 0) (len := 20) fun p hp => ?_).le (by decide) (by simp; omega)
  obtain ⟨i, hi, rfl⟩ := List.mem_map.mp hp
  have := o i hi
  unfold Wd at this
  exact Sz.int (by omega) (by omega)
theorem W_reprWide {x : List Int} {h : Hd} {Q : D → Hd → Prop} (o : ∀ y ∈ x, Wd y) (l : x.length ≤ 1000) : W (dRepr [words x] h) Q ↔ Q (.str (wp x).shown) h := W_repr (rf_pd (pd_words x)) (sz_wide o l) (by decide) (by decide)
theorem mem_uniqPr {p : Pr} : ∀ {l : List Pr}, p ∈ uniqPr l → p ∈ l := by
  intro l
  have : ∀ (l acc : List Pr), p ∈ l.foldl (fun acc p => if p ∈ acc then acc else acc ++ [p]) acc → p ∈ acc ∨ p ∈ l := by
    intro l
    induction l with
    | nil => intro acc h; exact .inl h
    | cons x l ih =>
      intro acc h
      rw [List.foldl_cons] at h
      rcases ih _ h with h | h
      · by_cases hx : x ∈ acc
        · rw [if_pos hx] at h
          exact .inl h
        · rw [if_neg hx] at h
          rcases List.mem_append.mp h with h | h
          · exact .inl h
          · exact .inr (by rw [List.mem_singleton.mp h]; exact List.mem_cons_self)
      · exact .inr (List.mem_cons_of_mem _ h)
  intro h
  rcases this l [] h with h | h
  · exact nomatch h
  · exact h
theorem mem_heldP {s0 s1 : Sto} {p : Pr} (h : p ∈ heldP s0 s1) : p = (s0.c, s0.st) ∨ p = (s1.c, s1.st) := by
  unfold heldP sortPr at h
  rw [List.mem_mergeSort] at h
  have := mem_uniqPr h
  unfold wholes at this
  obtain ⟨s, hs, rfl⟩ := List.mem_map.mp this
  have := (List.mem_filter.mp hs).1
  simp only [List.mem_cons, List.not_mem_nil, or_false] at this
  rcases this with rfl | rfl
  · exact .inl rfl
  · exact .inr rfl
theorem heldP_le {s0 s1 : Sto} : (heldP s0 s1).length ≤ 2 := by
  unfold heldP
  rw [sortPr_len]
  exact Nat.le_trans (uniqPr_le _) wholes_le
theorem rfs_pdP (p : Pr) : pds [.int p.1, words p.2] = some [.int p.1, .tuple (p.2.map PyData.int)] := by
  have := pd_words p.2
  unfold wp at this
  show rfsW (fun _ => none) [.int p.1, words p.2] = _
  have e : rfW (fun _ => none) (words p.2) = some (.tuple (p.2.map PyData.int)) := this
  simp [rfsW, e, rfW]
theorem pd_pr (p : Pr) : pd (Z.prD p) = some (Z.prP p) := by
  unfold Z.prD Z.prP
  exact pd_tup (rfs_pdP p)
theorem sz_pr {size : Nat} {s : Sto} (o : StoOk size s) (hz : size ≤ 10) : Sz (Z.prP (s.c, s.st)) 2 500 := by
  have a : Sz (.tuple (s.st.map PyData.int)) 1 230 := by
    refine (Sz.tup (dep := 0) (len := 20) fun p hp => ?_).le (by decide) (by rw [List.length_map, o.1]; omega)
    obtain ⟨i, hi, rfl⟩ := List.mem_map.mp hp
    have := o.2 i (by simp [Sto.ws, hi])
    unfold Wd at this
    exact Sz.int (by omega) (by omega)
  have b := o.2 s.c (by simp [Sto.ws])
  unfold Wd at b
  unfold Z.prP
  refine (Sz.tup (dep := 1) (len := 230) fun p hp => ?_).le (by decide) (by simp)
  simp only [List.mem_cons, List.not_mem_nil, or_false] at hp
  rcases hp with rfl | rfl
  · exact (Sz.int (by omega) (by omega)).le (by decide) (by decide)
  · exact a
theorem W_reprH {size : Nat} {s0 s1 : Sto} {h : Hd} {Q : D → Hd → Prop} (o0 : StoOk size s0) (o1 : StoOk size s1) (hz : size ≤ 10) : W (dRepr [.tup ((heldP s0 s1).map Z.prD)] h) Q ↔ Q (.str (PyData.tuple ((heldP s0 s1).map Z.prP)).shown) h := by
  refine W_repr (rf_pd (pd_tup (pds_of Z.prD Z.prP fun p _ => pd_pr p))) (Sz.tup (dep := 2) (len := 500) fun p hp => ?_) (by decide) ?_
  · obtain ⟨x, hx, rfl⟩ := List.mem_map.mp hp
    rcases mem_heldP hx with rfl | rfl
    · exact sz_pr o0 hz
    · exact sz_pr o1 hz
  · have := heldP_le (s0 := s0) (s1 := s1)
    rw [List.length_map]
    simp [sizeLine]
    omega
def plainCs (size : Nat) : List Rc := (List.range size).map fun k => ⟨[.load 0 k], 0⟩
theorem plain_w {size : Nat} {h : Hd} {Q : D → Hd → Prop} (hz : size ≤ 10) (k : ∀ h', Fr [] h h' → Q (.tup ((plainCs size).map Rc.d)) h') : W (F__law_plain_recipes [.int size] h) Q := by
  simp [F__law_plain_recipes, B__law_plain_recipes, startE, W_xVar, sizeLine]
  rw [ints_from0]
  refine ⟨by omega, ?_⟩
  refine comp_map (S := []) (g := fun x : Nat => Rc.d ⟨[.load 0 x], 0⟩) (fun _ _ => by simp) (fun i x h' hx f => ?_) fun h' f => ?_
  · simp [W_xVar, sizeLine, Rc.d, Rw.d]
    exact f
  · refine ⟨by simp; omega, ?_⟩
    have e : (List.range size).map (fun x : Nat => Rc.d ⟨[.load 0 x], 0⟩) = (plainCs size).map Rc.d := by
      unfold plainCs
      rw [List.map_map]
      rfl
    rw [e]
    exact k _ (f.trans Fr.app)
theorem plain_ok {size : Nat} : ∀ c ∈ plainCs size, c.ok size ∧ c.rows.length ≤ 2000 := fun c hc => by
  obtain ⟨k, hk, rfl⟩ := List.mem_map.mp hc
  have := List.mem_range.mp hk
  exact ⟨⟨⟨⟨by decide, this⟩, trivial⟩, ⟨_, List.mem_cons_self, rfl⟩⟩, by simp⟩
structure LO (sc : D) (s c : Nat) (i : Nat) (en : En) (h : Hd) : Prop where
  ex : ∃ (a2 a3 a4 a5 a6 a7 a8 a9 : Option D), en = [some sc, some (.ref s), a2, a3, a4, a5, a6, a7, a8, a9] ∧ SrcD s c (2 ^ 39 - 10000 * i) h
structure LI (sc : D) (s c M size many r e : Nat) (ms : List Sto) (j : Nat) (en : En) (h : Hd) : Prop where
  ex : ∃ (a2 a8 a9 : Option D), en = [some sc, some (.ref s), a2, some (.int size), some (.int many), some (.ref r), some (words (memW ms)), some (.str (wp (memW ms)).shown), a8, a9] ∧ SrcD s c M h ∧ h[r]? = some (ringO (plainCs size) e many)
theorem keeps : Keeps 63 F_law := by
  intro ns hl
  have w : W (F_law [.fl (ns.map D.int)] []) fun d _ => d = .bl true := by
    simp [F_law, B_law, startE, W_xVar, callA, arrD, sizeLine]
    refine deck_w hl fun s c h0 S0 f0 => ?_
    have l6 : (Z.intsFrom 0 6).length = 6 := rfl
    refine for_rule (I := LO (.fl (ns.map D.int)) s c) 0 ?_ ⟨_, _, _, _, _, _, _, _, rfl, S0⟩ ?_
    · rintro i d en h hd ⟨a2, a3, a4, a5, a6, a7, a8, a9, rfl, S⟩
      have il := lt_of_at hd
      rw [l6] at il
      rw [Nat.zero_add] at S ⊢
      obtain ⟨M, hM⟩ : ∃ M : Nat, M = 2 ^ 39 - 10000 * i := ⟨_, rfl⟩
      rw [← hM] at S
      refine ⟨by simp, ?_⟩
      rw [WS_gNm]
      simp [W_xVar, callA, arrD, sizeLine]
      refine draw_n (b := 4) S (by omega) (by omega) (by omega) fun u h1 hu S1 f1 => ?_
      simp
      refine draw_n (b := 16) S1 (by omega) (by omega) (by omega) fun v h2 hv S2 f2 => ?_
      have cu : (1 : Int) + u = ((1 + u : Nat) : Int) := by simp
      have cv : (1 : Int) + v = ((1 + v : Nat) : Int) := by simp
      simp
      rw [cu, cv]
      have z1 : 1 ≤ 1 + u ∧ 1 + u ≤ 4 := by omega
      have m1 : 1 ≤ 1 + v ∧ 1 + v ≤ 16 := by omega
      generalize 1 + u = size at z1
      generalize 1 + v = many at m1
      refine plain_w (by omega) fun h3 f3 => ?_
      have S3 := S2.fr f3 (by simp) (by simp)
      refine draw_n (b := 4) S3 (by omega) (by omega) (by omega) fun e h4 he S4 f4 => ?_
      simp
      rw [W_makeA]
      simp [callA, arrD]
      have pl : (plainCs size).length = size := by simp [plainCs]
      have hne : plainCs size ≠ [] := fun z => by rw [z] at pl; simp at pl; omega
      refine ring_new (by omega) hne (fun c hc => by rw [pl]; exact plain_ok c hc) (by omega) (by omega) (.inl rfl) fun h5 f5 q5 => ⟨rfl, ?_⟩
      have S5 := S4.fr f5 (by simp) (by simp)
      have l1 := S4.lt1
      have l2 := S4.lt2
      have rs : h4.length ≠ s ∧ h4.length ≠ c := by omega
      refine memory_w S5 (by omega) z1 m1 fun ms h6 ml mo S6 f6 => ?_
      have q6 := f6.get (by simp [rs]) q5
      have mw := memW_wd mo
      have mle : (memW ms).length ≤ 1000 := by
        rw [memW_len fun x hx => (mo x hx).1, ml]
        have := Nat.mul_le_mul (show 4 * many ≤ 64 by omega) (show size + 2 ≤ 6 by omega)
        omega
      rw [W_reprWide mw mle]
      rw [ints_from0]
      refine ⟨by omega, ?_⟩
      have mo2 : ∀ x ∈ ms, x.st.length = size := fun x hx => (mo x hx).1
      refine for_rule (I := LI (.fl (ns.map D.int)) s c (M - 5000) size many h4.length e ms) 0 ?_ ⟨_, _, _, rfl, S6.le (by omega), q6⟩ ?_
      · rintro j d en h hd ⟨a2, a8, a9, rfl, S, q⟩
        rw [List.getElem?_map] at hd
        obtain ⟨x, hx, rfl⟩ := Option.map_eq_some_iff.mp hd
        have jl := (List.getElem?_eq_some_iff.mp hx).1
        rw [List.length_range] at jl
        rw [List.getElem?_range jl] at hx
        cases hx
        refine ⟨by simp, ?_⟩
        have e0 : ms[4 * j]? = some ms[4 * j] := List.getElem?_eq_getElem (by omega)
        have e1 : ms[4 * j + 1]? = some ms[4 * j + 1] := List.getElem?_eq_getElem (by omega)
        have o0 := mo _ (List.mem_of_getElem? e0)
        have o1 := mo _ (List.mem_of_getElem? e1)
        generalize ms[4 * j] = s0 at e0 o0
        generalize ms[4 * j + 1] = s1 at e1 o1
        simp [W_xVar, callA, arrD]
        refine due_w mo2 e0 e1 (by omega) (by omega) fun h7 f7 => ?_
        rw [W_reprH o0 o1 (by omega)]
        have q7 := f7.get (by simp) q
        refine held_w q7 (by rw [pl]; exact mo2) e0 e1 (by omega) fun h8 f8 => ?_
        rw [W_reprH o0 o1 (by omega)]
        first | simp | skip
        have q8 := f8.get (by simp) q7
        refine held_w q8 (by rw [pl]; exact mo2) e0 e1 (by omega) fun h9 f9 => ?_
        rw [W_reprH o0 o1 (by omega)]
        simp
        have f79 := (f7.trans f8).trans f9
        exact ⟨_, _, _, rfl, S.fr f79 (by simp) (by simp), f79.get (by simp) q⟩
      · rintro en h ⟨a2, a8, a9, rfl, S, q⟩
        refine ⟨by simp, ?_⟩
        simp [W_xVar]
        rw [W_reprWide mw mle]
        simp
        exact ⟨_, _, _, _, _, _, _, _, rfl, S.le (by omega)⟩
    · rintro en h ⟨a2, a3, a4, a5, a6, a7, a8, a9, rfl, S⟩
      exact ⟨by simp, by simp⟩
  obtain ⟨d, h1, e, rfl⟩ := W.ok_of w
  exact ⟨h1, e⟩
end Lw
/-! text EL -/
set_option maxHeartbeats 0
open PySem PySem.W PySem.Calls PyProof.Rows
theorem PySem.Challenge.cw_struckring_k28_what_copies_hold_holds : PySem.Challenge.rw_struckring_k28_what_copies_hold.Holds := by
  w_on; o_law
  refine HandSHeadRun.head_any (r := OpenLaw.row PySem.Challenge.rw_struckring_k28_what_copies_hold) (q := view (OpenLaw.row PySem.Challenge.rw_struckring_k28_what_copies_hold).prog [66]) (H := Lw.hk) (ob := Lw.ob) (M := 20000) (loose := Lw.names) (d := HandSHeadRun.topDef (OpenLaw.row PySem.Challenge.rw_struckring_k28_what_copies_hold).prog 66) (kwd := []) Lw.ob_eq
    (by kernel_rfl) (fun s => by kernel_rfl) Lw.run (by kernel_rfl) (by kernel_rfl) (by kernel_rfl) (by rfl) (by first | assumption | decide +kernel) (by decide +kernel) ⟨rfl, rfl, rfl, rfl, rfl, by decide +kernel⟩ ?hw ?hc
  case hw => w_witness2
  case hc =>
    refine Z.walkM (l := PySem.Challenge.rw_struckring_k28_what_copies_hold) (n := 63) (k := 63) (x := "_law_script") (F := Lw.F_law) rfl (by decide) (by kernel_rfl) ⟨⟨rfl, by decide, by decide⟩, rfl⟩ ?F Lw.keeps
    intro w mg fa h Y G hmg0
    obtain ⟨K, KX, c⟩ := Y
    have hmg : mg ("law" : PySem.Str) = some (.ref fa) := by
      have e : (HandSHeadRun.topDef (OpenLaw.row PySem.Challenge.rw_struckring_k28_what_copies_hold).prog 66).name = ("law" : PySem.Str) := by kernel_rfl
      rw [← e]
      exact hmg0
    have e := hmg.symm.trans (He.glo_ok KX G (c.fact 28 (f := .fa (.glo "law")) rfl))
    cases e
    obtain ⟨fd, Fd⟩ := c.def_ 30 (d := Lw.d_law) rfl
    have b := L2.FunD.bindsA (ps := ["_law_script"]) Fd fun _ _ _ _ _ _ us hl => match us, hl with | [_], _ => rfl
    refine ⟨K, fun x => He.ga K x, fd, KX, fun s v => b s [v] rfl, fun base KB GB => ?_⟩
    rw [Lw.E_law]
    exact Z.def_tr (Γ := Lw.G_law) Fd (Lw.tt_law KB GB c) (Lw.cs_ok KB GB c) (Lw.fr_ok KB GB c) Lw.sc_law rfl rfl Lw.tr_law
