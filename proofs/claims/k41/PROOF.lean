import PyProof.Rows.All
import Wide.All
import OpenK.AllK
import Wide.FinOn
import HandS.ForMost
import HandS.ForExc
import HandS.Flow
import HandS.Style
import HandS.TupAny
import HandS.TupMul
import HandS.IsInst
import HandS.Deep
import HandS.Zip
import HandS.Strs
import HandS.Walk
import HandS.Conv
import HandS.Wide
import HandS.More
import KE.SortData
import KE.DataCmp
import KE.DataMinMax
import KE.KDictKeyed
import KE.KIndexOf
import HandS.Sort
import HandS.Defaults
import HandS.SortInts
import HandS.TryOnly
import HandS.TryMany
import HandS.SuiteRaise
import HandS.RaiseFrom
import PyProof.ListRange
import HandS.ExcOwn
import HandS.ExcValue
import HandS.ExcIs
import HandS.ExcField
import HandS.ExcInit
import HandS.TupSets
import HandS.Lambda
import HandS.EndTab
import KE.DataFind
import KE.GoesEnum
import KE.GoesZip
import KE.GoesMore
import PySem.Challenge.RW_signsback_k41_places_lead
set_option Elab.async false
set_option linter.all false
set_option maxRecDepth 100000
set_option maxHeartbeats 2000000
namespace DL
open PySem PySem.Spec PyProof.Rows L2

/-- deep values: tuples (and frozen lists) are trees; what may change stands at an address -/
inductive D where
  | non | bl (b : Bool) | int (i : Int) | str (x : Str) | tup (ds : List D) | lst (ds : List D) | emp | scr (ns : List Int) | ref (a : Addr)
  deriving Inhabited
/-- what may change -/
inductive DO where
  | lst (ds : List D) | dK (kvs : List (Key × D)) | dT (kvs : List (List Key × D)) | dN (kvs : List (NestedKey × Int)) | ins (C : Addr) (fs : List (Str × D)) | exn (c : Str) (fs : List (Str × D)) | clo (k : Nat) (ds : List D)
  deriving Inhabited
abbrev DH := Addr → Option DO
def updD (T : DH) (a : Addr) (o : DO) : DH := fun b => if b = a then some o else T b
def ersD (T : DH) (a : Addr) : DH := fun b => if b = a then none else T b
theorem updD_same {T : DH} {a : Addr} {o : DO} : updD T a o a = some o := by unfold updD; rw [if_pos rfl]
theorem updD_ne {T : DH} {a b : Addr} {o : DO} (h : b ≠ a) : updD T a o b = T b := by unfold updD; rw [if_neg h]
theorem updD_none {T : DH} {a b : Addr} {o : DO} (h : updD T a o b = none) : b ≠ a ∧ T b = none := by
  unfold updD at h; split at h
  · cases h
  · exact ⟨by assumption, h⟩
theorem ersD_none {T : DH} {a b : Addr} (h : T b = none) : ersD T a b = none := by unfold ersD; split <;> first | rfl | exact h
theorem ersD_some {T : DH} {a b : Addr} {o : DO} (h : ersD T a b = some o) : b ≠ a ∧ T b = some o := by
  unfold ersD at h; split at h
  · cases h
  · exact ⟨by assumption, h⟩
theorem updD_updD {T : DH} {a : Addr} {o u : DO} : updD (updD T a o) a u = updD T a u := by
  funext b; unfold updD; split <;> rfl
theorem updD_self {T : DH} {a : Addr} {o : DO} (h : T a = some o) : updD T a o = T := by
  funext b; unfold updD; split
  · subst b; exact h.symm
  · rfl

/-- the written part, and addresses that no value may tell of -/
abbrev KZ := (PySem.W.Frag × (Str → Option Value)) × (Addr → Prop)
mutual
/-- the value v is d -/
def RelD (K : KZ) (T : DH) (H : Hp) : D → V → Prop
  | .non, v => v = .non
  | .bl b, v => v = .bl b
  | .int i, v => v = .int i
  | .str x, v => v = .str x
  | .tup ds, v => ∃ a vs, v = .ref a ∧ H a = some (.tup vs) ∧ (T a = none ∧ ¬ K.2 a) ∧ RelDs K T H ds vs
  | .lst ds, v => ∃ a vs, v = .ref a ∧ H a = some (.lst vs) ∧ (T a = none ∧ ¬ K.2 a) ∧ RelDs K T H ds vs
  | .emp, v => ∃ a, v = .ref a ∧ H a = some (.dK []) ∧ (T a = none ∧ ¬ K.2 a)
  | .scr ns, v => ∃ a, v = .ref a ∧ ((Rd H a (.lst (ns.map V.int)) ∧ T a = none ∧ ¬ K.2 a) ∨ SqL K.1.1 (fun _ => none) a (ns.map V.int))
  | .ref a, v => v = .ref a
def RelDs (K : KZ) (T : DH) (H : Hp) : List D → List V → Prop
  | [], vs => vs = []
  | d :: ds, vs => ∃ v r, vs = v :: r ∧ RelD K T H d v ∧ RelDs K T H ds r
end

/-- the defs that make lambdas (asm.py puts a law's own list here) -/
def lamNames : List Str := ["law"]
/-- the name of a def's lambdas -/
def qualL (x : Str) : Str := (x ++ (".<locals>." : String)) ++ ("<lambda>" : String)
/-- a table of code objects -/
def IsTab (K : PySem.W.Frag) (P : Addr) (q : Str) : Prop := ∃ x ∈ lamNames, ∃ c, PySem.W.tabIn K x = some (c, P) ∧ q = qualL x
/-- all that is not tracked stays (but tables of code objects may grow), and stays untracked -/
def Fr (T : DH) (H : Hp) (T' : DH) (H' : Hp) : Prop := ∀ a o, H a = some o → T a = none → (∀ ps, o ≠ .tbl ps) → H' a = some o ∧ T' a = none
/-- .. all -/
def FrS (T : DH) (H : Hp) (T' : DH) (H' : Hp) : Prop := ∀ a o, H a = some o → T a = none → H' a = some o ∧ T' a = none
theorem FrS.fr {T T' : DH} {H H' : Hp} (f : FrS T H T' H') : Fr T H T' H' := fun a o h t _ => f a o h t
theorem Fr.refl {T : DH} {H : Hp} : Fr T H T H := fun _ _ h t _ => ⟨h, t⟩
theorem Fr.trans {T T1 T2 : DH} {H H1 H2 : Hp} (a : Fr T H T1 H1) (b : Fr T1 H1 T2 H2) : Fr T H T2 H2 := fun c o h t n => let ⟨h1, t1⟩ := a c o h t n; b c o h1 t1 n
/-- the function of a lambda: k its place among the text's lambdas, us what it has captured -/
def encV (k : Nat) (us : List Value) : Obj := { cls := .none, data := .fields (Value.int k 0 :: us).toArray }
def LamO (p : Addr) (o : Obj) (k : Nat) (us : List Value) : HO := .frz o (.ext fun h => h.get? p = some o ∨ h.get? p = some (encV k us))
def isFun (o : Obj) : Bool := match o.data with
  | .func _ => true
  | _ => false
theorem LamO_inj {h : Heap} {p : Addr} {o o' : Obj} {k k' : Nat} {us us' : List Value} (ha : h.get? p = some o) (fo : isFun o = true) (e : LamO p o k us = LamO p o' k' us') : o = o' ∧ k = k' ∧ us = us' := by
  unfold LamO at e
  injection e with e1 e2
  injection e2 with e3
  subst e1
  have hg : (h.update p fun _ => encV k us).get? p = some (encV k us) := Heap.get?_update_self (fun _ => encV k us) ha rfl
  have e4 := congrFun e3 (h.update p fun _ => encV k us)
  have e5 : (h.update p fun _ => encV k us).get? p = some o ∨ (h.update p fun _ => encV k us).get? p = some (encV k' us') := e4 ▸ (.inr hg : (h.update p fun _ => encV k us).get? p = some o ∨ (h.update p fun _ => encV k us).get? p = some (encV k us))
  rcases e5 with e5 | e5
  · rw [hg] at e5
    have := Option.some.inj e5
    subst this
    cases fo
  · rw [hg] at e5
    have := Option.some.inj e5
    unfold encV at this
    injection this with a1 a2 a3 a4
    injection a3 with a5
    have a6 := congrArg Array.toList a5
    simp only [List.cons.injEq] at a6
    obtain ⟨b1, b2⟩ := a6
    injection b1 with c1 c2
    exact ⟨rfl, by omega, b2⟩
theorem rd_fr {T T' : DH} {H H' : Hp} {a : Addr} {u : HO} (f : Fr T H T' H') (t : T a = none) (n : ∀ ps, u ≠ .tbl ps) (r : Rd H a u) : Rd H' a u ∧ T' a = none := by
  rcases r with r | ⟨o, r⟩
  · exact ⟨.inl (f a _ r t n).1, (f a _ r t n).2⟩
  · exact ⟨.inr ⟨o, (f a _ r t (fun _ z => by cases z)).1⟩, (f a _ r t (fun _ z => by cases z)).2⟩
theorem sqK {K : PySem.W.Frag} {H : Hp} {a : Addr} {xs : List V} (h : SqL K (fun _ => none) a xs) : SqL K H a xs := by
  rcases h with (h | ⟨o, h⟩) | h
  · cases h
  · cases h
  · exact .inr h
mutual
theorem RelD.fr {K : KZ} {T T' : DH} {H H' : Hp} (f : Fr T H T' H') : ∀ {d : D} {v : V}, RelD K T H d v → RelD K T' H' d v
  | .non, _, h => h
  | .bl _, _, h => h
  | .int _, _, h => h
  | .str _, _, h => h
  | .tup ds, _, h => by
    obtain ⟨a, vs, e, h1, h2, h3⟩ := h
    exact ⟨a, vs, e, (f a _ h1 h2.1 nofun).1, ⟨(f a _ h1 h2.1 nofun).2, h2.2⟩, RelDs.fr f h3⟩
  | .lst ds, _, h => by
    obtain ⟨a, vs, e, h1, h2, h3⟩ := h
    exact ⟨a, vs, e, (f a _ h1 h2.1 nofun).1, ⟨(f a _ h1 h2.1 nofun).2, h2.2⟩, RelDs.fr f h3⟩
  | .emp, _, h => by
    obtain ⟨a, e, h1, h2⟩ := h
    exact ⟨a, e, (f a _ h1 h2.1 nofun).1, ⟨(f a _ h1 h2.1 nofun).2, h2.2⟩⟩
  | .scr ns, _, h => by
    obtain ⟨a, e, ⟨h1, h2⟩ | h⟩ := h
    · exact ⟨a, e, .inl ⟨(rd_fr f h2.1 (fun _ z => by cases z) h1).1, (rd_fr f h2.1 (fun _ z => by cases z) h1).2, h2.2⟩⟩
    · exact ⟨a, e, .inr h⟩
  | .ref _, _, h => h
theorem RelDs.fr {K : KZ} {T T' : DH} {H H' : Hp} (f : Fr T H T' H') : ∀ {ds : List D} {vs : List V}, RelDs K T H ds vs → RelDs K T' H' ds vs
  | [], _, h => h
  | d :: ds, _, h => by
    obtain ⟨v, r, e, h1, h2⟩ := h
    exact ⟨v, r, e, RelD.fr f h1, RelDs.fr f h2⟩
end
section
variable {K : KZ} {T T' : DH} {H H' : Hp}
theorem RelDs.length : ∀ {ds : List D} {vs : List V}, RelDs K T H ds vs → vs.length = ds.length
  | [], _, h => by have e : _ = [] := h; subst e; rfl
  | d :: ds, _, h => by
    obtain ⟨v, r, e, h1, h2⟩ := h
    subst e
    simp [RelDs.length h2]
theorem RelDs.get : ∀ {ds : List D} {vs : List V} {i : Nat} {d : D}, RelDs K T H ds vs → ds[i]? = some d → ∃ v, vs[i]? = some v ∧ RelD K T H d v
  | [], _, _, _, _, e => by simp at e
  | d :: ds, _, 0, _, h, e => by
    obtain ⟨v, r, e1, h1, h2⟩ := h
    subst e1
    simp at e; subst e
    exact ⟨v, rfl, h1⟩
  | d :: ds, _, i + 1, _, h, e => by
    obtain ⟨v, r, e1, h1, h2⟩ := h
    subst e1
    obtain ⟨u, h3, h4⟩ := RelDs.get (i := i) h2 (by simpa using e)
    exact ⟨u, by simpa using h3, h4⟩
theorem RelDs.getV {ds : List D} {vs : List V} {i : Nat} {v : V} (h : RelDs K T H ds vs) (e : vs[i]? = some v) : ∃ d, ds[i]? = some d ∧ RelD K T H d v := by
  have hl : i < ds.length := by rw [← h.length]; exact (List.getElem?_eq_some_iff.mp e).1
  obtain ⟨u, h1, h2⟩ := h.get (List.getElem?_eq_getElem hl)
  rw [e] at h1; cases h1
  exact ⟨_, List.getElem?_eq_getElem hl, h2⟩
theorem RelDs.append : ∀ {ds es : List D} {vs us : List V}, RelDs K T H ds vs → RelDs K T H es us → RelDs K T H (ds ++ es) (vs ++ us)
  | [], _, _, _, h, g => by have e : _ = [] := h; subst e; exact g
  | d :: ds, _, _, _, h, g => by
    obtain ⟨v, r, e, h1, h2⟩ := h
    subst e
    exact ⟨v, r ++ _, rfl, h1, RelDs.append h2 g⟩
theorem RelDs.one {d : D} {v : V} (h : RelD K T H d v) : RelDs K T H [d] [v] := ⟨v, [], rfl, h, rfl⟩
theorem RelDs.take : ∀ {ds : List D} {vs : List V} (n : Nat), RelDs K T H ds vs → RelDs K T H (ds.take n) (vs.take n)
  | _, _, 0, _ => rfl
  | [], _, _ + 1, h => by have e : _ = [] := h; subst e; rfl
  | d :: ds, _, n + 1, h => by
    obtain ⟨v, r, e, h1, h2⟩ := h
    subst e
    exact ⟨v, r.take n, rfl, h1, RelDs.take n h2⟩
theorem RelDs.drop : ∀ {ds : List D} {vs : List V} (n : Nat), RelDs K T H ds vs → RelDs K T H (ds.drop n) (vs.drop n)
  | _, _, 0, h => h
  | [], _, _ + 1, h => by have e : _ = [] := h; subst e; rfl
  | d :: ds, _, n + 1, h => by
    obtain ⟨v, r, e, h1, h2⟩ := h
    subst e
    exact RelDs.drop n h2
theorem RelDs.set {d : D} {v : V} (h : RelD K T H d v) : ∀ {ds : List D} {vs : List V} (n : Nat), RelDs K T H ds vs → RelDs K T H (ds.set n d) (vs.set n v)
  | [], _, _, g => by have e : _ = [] := g; subst e; rfl
  | x :: ds, _, 0, g => by
    obtain ⟨w, r, e, h1, h2⟩ := g
    subst e
    exact ⟨v, r, rfl, h, h2⟩
  | x :: ds, _, n + 1, g => by
    obtain ⟨w, r, e, h1, h2⟩ := g
    subst e
    exact ⟨w, r.set n v, rfl, h1, RelDs.set h n h2⟩
theorem RelDs.reverse {ds : List D} {vs : List V} (h : RelDs K T H ds vs) : RelDs K T H ds.reverse vs.reverse := by
  induction ds generalizing vs with
  | nil => have e : _ = [] := h; subst e; rfl
  | cons d ds ih =>
    obtain ⟨v, r, e, h1, h2⟩ := h
    subst e
    rw [List.reverse_cons, List.reverse_cons]
    exact (ih h2).append (.one h1)
theorem RelDs.rep {ds : List D} {vs : List V} (h : RelDs K T H ds vs) : ∀ k : Nat, RelDs K T H (List.replicate k ds).flatten (List.replicate k vs).flatten
  | 0 => rfl
  | k + 1 => by simp only [List.replicate_succ, List.flatten_cons]; exact h.append (RelDs.rep h k)
theorem RelDs.eraseIdx : ∀ {ds : List D} {vs : List V} (n : Nat), RelDs K T H ds vs → RelDs K T H (ds.eraseIdx n) (vs.eraseIdx n)
  | [], _, _, g => by have e : _ = [] := g; subst e; rfl
  | x :: ds, _, 0, g => by
    obtain ⟨w, r, e, h1, h2⟩ := g
    subst e
    exact h2
  | x :: ds, _, n + 1, g => by
    obtain ⟨w, r, e, h1, h2⟩ := g
    subst e
    exact ⟨w, r.eraseIdx n, rfl, h1, RelDs.eraseIdx n h2⟩
theorem RelDs.dropLast {ds : List D} {vs : List V} (h : RelDs K T H ds vs) : RelDs K T H ds.dropLast vs.dropLast := by
  rw [List.dropLast_eq_take, List.dropLast_eq_take, h.length]; exact h.take _
theorem RelDs.ints : ∀ {ns : List Int} {vs : List V}, RelDs K T H (ns.map D.int) vs → vs = ns.map V.int
  | [], _, h => h
  | n :: ns, _, h => by
    obtain ⟨v, r, e, h1, h2⟩ := h
    have h1 : v = .int n := h1
    rw [e, h1, RelDs.ints h2]; rfl
theorem RelDs.ofInts : ∀ (ns : List Int), RelDs K T H (ns.map D.int) (ns.map V.int)
  | [] => rfl
  | n :: ns => ⟨_, _, rfl, rfl, RelDs.ofInts ns⟩
theorem RelDs.strs : ∀ {xs : List Str} {vs : List V}, RelDs K T H (xs.map D.str) vs → vs = xs.map V.str
  | [], _, h => h
  | n :: ns, _, h => by
    obtain ⟨v, r, e, h1, h2⟩ := h
    have h1 : v = .str n := h1
    rw [e, h1, RelDs.strs h2]; rfl
theorem RelDs.ofStrs : ∀ (ns : List Str), RelDs K T H (ns.map D.str) (ns.map V.str)
  | [] => rfl
  | n :: ns => ⟨_, _, rfl, rfl, RelDs.ofStrs ns⟩
theorem RelDs.bls : ∀ {xs : List Bool} {vs : List V}, RelDs K T H (xs.map D.bl) vs → vs = xs.map V.bl
  | [], _, h => h
  | n :: ns, _, h => by
    obtain ⟨v, r, e, h1, h2⟩ := h
    have h1 : v = .bl n := h1
    rw [e, h1, RelDs.bls h2]; rfl

/-- pairs of keys and values -/
def RelKs {κ : Type} (K : KZ) (T : DH) (H : Hp) : List (κ × D) → List (κ × V) → Prop
  | [], ws => ws = []
  | p :: ps, ws => ∃ v r, ws = (p.1, v) :: r ∧ RelD K T H p.2 v ∧ RelKs K T H ps r
theorem RelKs.fr {κ : Type} (f : Fr T H T' H') : ∀ {ps : List (κ × D)} {ws : List (κ × V)}, RelKs K T H ps ws → RelKs K T' H' ps ws
  | [], _, h => h
  | p :: ps, _, h => by
    obtain ⟨v, r, e, h1, h2⟩ := h
    exact ⟨v, r, e, h1.fr f, RelKs.fr f h2⟩
theorem RelKs.length {κ : Type} : ∀ {ps : List (κ × D)} {ws : List (κ × V)}, RelKs K T H ps ws → ws.length = ps.length
  | [], _, h => by have e : _ = [] := h; subst e; rfl
  | p :: ps, _, h => by
    obtain ⟨v, r, e, h1, h2⟩ := h
    subst e; simp [RelKs.length h2]
theorem RelKs.keys {κ : Type} : ∀ {ps : List (κ × D)} {ws : List (κ × V)}, RelKs K T H ps ws → ws.map (·.1) = ps.map (·.1)
  | [], _, h => by have e : _ = [] := h; subst e; rfl
  | p :: ps, _, h => by
    obtain ⟨v, r, e, h1, h2⟩ := h
    subst e; simp [RelKs.keys h2]

/-! dicts with nested tuples of numbers as keys, numbers as values -/
mutual
def numK : NestedKey → Bool
  | .num _ => true
  | .tup ks => numKs ks
  | _ => false
def numKs : List NestedKey → Bool
  | [] => true
  | k :: ks => numK k && numKs ks
end
mutual
def ofK : NestedKey → D
  | .none => .non
  | .num i => .int i
  | .text x => .str x
  | .tup ks => .tup (ofKs ks)
def ofKs : List NestedKey → List D
  | [] => []
  | k :: ks => ofK k :: ofKs ks
end
/-- a key that may stand in such a dict -/
def isNK : NestedKey → Bool
  | .tup ks => numKs ks && decide (NestedKey.depth (.tup ks) ≤ 8)
  | _ => false
def XsN : List (NestedKey × Int) → List Addr → List (NestedKey × Addr × Value) → Prop
  | [], [], xs => xs = []
  | p :: ps, b :: bs, xs => ∃ t r, xs = (p.1, b, .int p.2 t) :: r ∧ XsN ps bs r
  | _, _, _ => False
def dnO (a : Addr) (kvs : List (NestedKey × Int)) (as : List Addr) : HO := .ext fun h => kvs.length ≤ sizeLine ∧ (a == sysModules) = false ∧ (∀ p ∈ kvs, isNK p.1 = true) ∧ (kvs.map (·.1)).Nodup ∧
  ∃ P w xs o es ep, h.get? a = some o ∧ o.ExactDict ∧ o.data = .dict es ep ∧ XsN kvs as xs ∧ es.toList = xs.map (entryOfKey (nestedKind P w))
/-- a caught exception, its class, its dict -/
def ExK (cls : Value) (dd : Option Addr) (a : Addr) : HO := .ext fun h => ∃ (oe : Obj) (vs : Array Value), h.get? a = some oe ∧ Zc cls dd oe ∧ oe.data = .fields vs
def ExR (K : KZ) (T : DH) (H : Hp) (fs : List (Str × D)) (dd : Option Addr) : Prop := (fs = [] ∧ dd = none) ∨ ∃ d ws, dd = some d ∧ H d = some (.xd ws) ∧ (T d = none ∧ ¬ K.2 d) ∧ RelKs K T H fs ws
theorem ExR.fr {fs : List (Str × D)} {dd : Option Addr} (f : Fr T H T' H') (h : ExR K T H fs dd) : ExR K T' H' fs dd := by
  rcases h with h | ⟨d, ws, e, h1, h2, h3⟩
  · exact .inl h
  · exact .inr ⟨d, ws, e, (f d _ h1 h2.1 nofun).1, ⟨(f d _ h1 h2.1 nofun).2, h2.2⟩, h3.fr f⟩
def ObR (K : KZ) (T : DH) (H : Hp) (a : Addr) : DO → Prop
  | .dN kvs => ∃ as : List Addr, H a = some (dnO a kvs as) ∧ RelDs K T H (kvs.map fun p => ofK p.1) (as.map V.ref)
  | .lst ds => ∃ vs, H a = some (.lst vs) ∧ RelDs K T H ds vs
  | .dK kvs => ∃ ws, H a = some (.dK ws) ∧ RelKs K T H kvs ws
  | .dT kvs => ∃ ws, H a = some (.dT ws) ∧ RelKs K T H kvs ws
  | .ins C fs => ∃ dx ws, H a = some (.ins C dx ws) ∧ RelKs K T H fs ws
  | .exn c fs => ∃ C dd, K.1.2 c = some (.ref C) ∧ H a = some (ExK (.ref C) dd a) ∧ ExR K T H fs dd
  | .clo k ds => ∃ o us vs, isFun o = true ∧ H a = some (LamO a o k us) ∧ Vals vs us ∧ RelDs K T H ds vs
/-- a table: each code object that it tells bears the name q -/
def TabD (K : KZ) (T : DH) (H : Hp) (P : Addr) (q : Str) : Prop := ∃ ps : Array Value, H P = some (.tbl ps) ∧ (T P = none ∧ ¬ K.2 P) ∧ TriplesOk ps.toList ∧ ∀ (pos : Pos) (cv : Value), codeAmong pos ps.toList = some cv → ∃ c, cv = .ref c ∧ H c = some (LamX.CodeO c q) ∧ (T c = none ∧ ¬ K.2 c)
theorem TabD.frS {P : Addr} {q : Str} (f : FrS T H T' H') (h : TabD K T H P q) : TabD K T' H' P q := by
  obtain ⟨ps, h1, h2, h3, h4⟩ := h
  refine ⟨ps, (f _ _ h1 h2.1).1, ⟨(f _ _ h1 h2.1).2, h2.2⟩, h3, fun pos cv hc => ?_⟩
  obtain ⟨c, e, h5, h6⟩ := h4 pos cv hc
  exact ⟨c, e, (f _ _ h5 h6.1).1, (f _ _ h5 h6.1).2, h6.2⟩
structure RelH (K : KZ) (T : DH) (H : Hp) : Prop where
  ob : ∀ a o, T a = some o → ObR K T H a o
  hid : ∀ a, K.2 a → (∃ o, H a = some o) ∧ T a = none
  tab : ∀ P q, IsTab K.1.1 P q → TabD K T H P q
theorem ObR.fr {a : Addr} {o : DO} (f : Fr T H T' H') (h : ObR K T H a o) (e : H' a = H a) : ObR K T' H' a o := by
  cases o with
  | lst ds => obtain ⟨vs, h1, h2⟩ := h; exact ⟨vs, e.trans h1, h2.fr f⟩
  | dK kvs => obtain ⟨vs, h1, h2⟩ := h; exact ⟨vs, e.trans h1, h2.fr f⟩
  | dT kvs => obtain ⟨vs, h1, h2⟩ := h; exact ⟨vs, e.trans h1, h2.fr f⟩
  | dN kvs => obtain ⟨vs, h1, h2⟩ := h; exact ⟨vs, e.trans h1, h2.fr f⟩
  | ins C fs => obtain ⟨dx, vs, h1, h2⟩ := h; exact ⟨dx, vs, e.trans h1, h2.fr f⟩
  | exn c fs => obtain ⟨C, dd, h0, h1, h2⟩ := h; exact ⟨C, dd, h0, e.trans h1, h2.fr f⟩
  | clo k ds => obtain ⟨o, us, vs, h0, h1, h2, h3⟩ := h; exact ⟨o, us, vs, h0, e.trans h1, h2, h3.fr f⟩
theorem ObR.there {a : Addr} {o : DO} (h : ObR K T H a o) : ∃ u, H a = some u := by
  cases o with
  | lst ds => obtain ⟨vs, h1, h2⟩ := h; exact ⟨_, h1⟩
  | dK kvs => obtain ⟨vs, h1, h2⟩ := h; exact ⟨_, h1⟩
  | dT kvs => obtain ⟨vs, h1, h2⟩ := h; exact ⟨_, h1⟩
  | dN kvs => obtain ⟨vs, h1, h2⟩ := h; exact ⟨_, h1⟩
  | ins C fs => obtain ⟨dx, vs, h1, h2⟩ := h; exact ⟨_, h1⟩
  | exn c fs => obtain ⟨C, dd, h0, h1, h2⟩ := h; exact ⟨_, h1⟩
  | clo k ds => obtain ⟨o, us, vs, h0, h1, h2, h3⟩ := h; exact ⟨_, h1⟩
theorem RelH.free {p : Addr} (r : RelH K T H) (hp : H p = none) : T p = none := by
  cases e : T p with
  | none => rfl
  | some o => obtain ⟨u, h⟩ := (r.ob p o e).there; rw [hp] at h; cases h
/-- a new object that is not tracked -/
theorem frS_new {p : Addr} {u : HO} (hp : H p = none) : FrS T H T (upd H p u) := fun a o h t => ⟨by rw [upd_ne (ne_of_none h hp)]; exact h, t⟩
theorem fr_new {p : Addr} {u : HO} (hp : H p = none) : Fr T H T (upd H p u) := (frS_new hp).fr
theorem RelH.nothid {p : Addr} (r : RelH K T H) (hp : H p = none) : ¬ K.2 p := fun z => by
  obtain ⟨⟨o, e⟩, _⟩ := r.hid p z
  rw [hp] at e; cases e
theorem RelH.new {p : Addr} {u : HO} (r : RelH K T H) (hp : H p = none) : RelH K T (upd H p u) := ⟨fun a o e => by
  obtain ⟨w, hw⟩ := (r.ob a o e).there
  exact (r.ob a o e).fr (fr_new hp) (upd_ne (ne_of_none hw hp)), fun a z => by
  obtain ⟨⟨o, e⟩, t⟩ := r.hid a z
  exact ⟨⟨o, by rw [upd_ne (ne_of_none e hp)]; exact e⟩, t⟩, fun P q z => (r.tab P q z).frS (frS_new hp)⟩
/-- a new object that is tracked -/
theorem frS_newT {p : Addr} {u : HO} {o : DO} (hp : H p = none) : FrS T H (updD T p o) (upd H p u) := fun a w h t =>
  have n := ne_of_none h hp
  ⟨by rw [upd_ne n]; exact h, by rw [updD_ne n]; exact t⟩
theorem fr_newT {p : Addr} {u : HO} {o : DO} (hp : H p = none) : Fr T H (updD T p o) (upd H p u) := (frS_newT hp).fr
theorem RelH.newT {p : Addr} {u : HO} {o : DO} (r : RelH K T H) (hp : H p = none) (ok : ObR K (updD T p o) (upd H p u) p o) : RelH K (updD T p o) (upd H p u) := ⟨fun a w e => by
  by_cases ha : a = p
  · subst ha; rw [updD_same] at e; cases e; exact ok
  · rw [updD_ne ha] at e
    exact (r.ob a w e).fr (fr_newT hp) (upd_ne ha), fun a z => by
  obtain ⟨⟨o, e⟩, t⟩ := r.hid a z
  have n := ne_of_none e hp
  exact ⟨⟨o, by rw [upd_ne n]; exact e⟩, by rw [updD_ne n]; exact t⟩, fun P q z => (r.tab P q z).frS (frS_newT hp)⟩
/-- a tracked object is changed -/
theorem frS_wr {p : Addr} {u : HO} {o o' : DO} (hp : T p = some o) : FrS T H (updD T p o') (upd H p u) := fun a w h t => by
  have n : a ≠ p := fun e => by subst e; rw [hp] at t; cases t
  exact ⟨by rw [upd_ne n]; exact h, by rw [updD_ne n]; exact t⟩
theorem fr_wr {p : Addr} {u : HO} {o o' : DO} (hp : T p = some o) : Fr T H (updD T p o') (upd H p u) := (frS_wr hp).fr
theorem RelH.wr {p : Addr} {u : HO} {o o' : DO} (r : RelH K T H) (hp : T p = some o) (ok : ObR K (updD T p o') (upd H p u) p o') : RelH K (updD T p o') (upd H p u) := ⟨fun a w e => by
  by_cases ha : a = p
  · subst ha; rw [updD_same] at e; cases e; exact ok
  · rw [updD_ne ha] at e
    exact (r.ob a w e).fr (fr_wr hp) (upd_ne ha), fun a z => by
  obtain ⟨⟨o, e⟩, t⟩ := r.hid a z
  have n : a ≠ p := fun q => by subst q; rw [hp] at t; cases t
  exact ⟨⟨o, by rw [upd_ne n]; exact e⟩, by rw [updD_ne n]; exact t⟩, fun P q z => (r.tab P q z).frS (frS_wr hp)⟩
/-- fewer tracked objects -/
def Sub (T0 T : DH) : Prop := ∀ a o, T0 a = some o → T a = some o
theorem Sub.refl {T : DH} : Sub T T := fun _ _ h => h
theorem Sub.trans {T0 T1 T2 : DH} (a : Sub T0 T1) (b : Sub T1 T2) : Sub T0 T2 := fun c o h => b c o (a c o h)
theorem Sub.noneOf {T0 T : DH} (s : Sub T0 T) {a : Addr} (h : T a = none) : T0 a = none := by
  cases e : T0 a with
  | none => rfl
  | some o => rw [s a o e] at h; cases h
theorem Sub.frS {T0 T : DH} (s : Sub T0 T) : FrS T H T0 H := fun a o h t => ⟨h, s.noneOf t⟩
theorem Sub.fr {T0 T : DH} (s : Sub T0 T) : Fr T H T0 H := s.frS.fr
theorem Sub.upd {T0 T : DH} {p : Addr} {o : DO} (s : Sub T0 T) (hp : T0 p = none) : Sub T0 (updD T p o) := fun a u e => by
  have n : a ≠ p := fun z => by subst z; rw [hp] at e; cases e
  rw [updD_ne n]; exact s a u e
theorem Sub.upds {T0 T : DH} {p : Addr} {o : DO} (s : Sub T0 T) : Sub (updD T0 p o) (updD T p o) := fun a u e => by
  unfold updD at e ⊢; split at e
  · rw [if_pos (by assumption)]; exact e
  · rw [if_neg (by assumption)]; exact s a u e
theorem Sub.ers {T : DH} {p : Addr} : Sub (ersD T p) T := fun a u e => (ersD_some e).2
theorem RelH.sub {T0 : DH} (r : RelH K T H) (s : Sub T0 T) : RelH K T0 H := ⟨fun a o e => (r.ob a o (s a o e)).fr s.fr rfl, fun a z => ⟨(r.hid a z).1, s.noneOf (r.hid a z).2⟩, fun P q z => (r.tab P q z).frS s.frS⟩
end

/-! ### one more hidden address -/
def hidK (K : KZ) (p : Addr) : KZ := (K.1, fun a => K.2 a ∨ a = p)
mutual
theorem RelD.hide {K : KZ} {T : DH} {H : Hp} {p : Addr} (hp : H p = none) : ∀ {d : D} {v : V}, RelD K T H d v → RelD (hidK K p) T H d v
  | .non, _, h => h
  | .bl _, _, h => h
  | .int _, _, h => h
  | .str _, _, h => h
  | .tup ds, _, h => by
    obtain ⟨a, vs, e, h1, h2, h3⟩ := h
    exact ⟨a, vs, e, h1, ⟨h2.1, fun z => z.elim h2.2 fun q => (ne_of_none h1 hp) q⟩, RelDs.hide hp h3⟩
  | .lst ds, _, h => by
    obtain ⟨a, vs, e, h1, h2, h3⟩ := h
    exact ⟨a, vs, e, h1, ⟨h2.1, fun z => z.elim h2.2 fun q => (ne_of_none h1 hp) q⟩, RelDs.hide hp h3⟩
  | .emp, _, h => by
    obtain ⟨a, e, h1, h2⟩ := h
    exact ⟨a, e, h1, ⟨h2.1, fun z => z.elim h2.2 fun q => (ne_of_none h1 hp) q⟩⟩
  | .scr ns, _, h => by
    obtain ⟨a, e, ⟨h1, h2⟩ | h⟩ := h
    · refine ⟨a, e, .inl ⟨h1, h2.1, fun z => z.elim h2.2 fun q => ?_⟩⟩
      rcases h1 with h1 | ⟨o, h1⟩
      · exact (ne_of_none h1 hp) q
      · exact (ne_of_none h1 hp) q
    · exact ⟨a, e, .inr h⟩
  | .ref _, _, h => h
theorem RelDs.hide {K : KZ} {T : DH} {H : Hp} {p : Addr} (hp : H p = none) : ∀ {ds : List D} {vs : List V}, RelDs K T H ds vs → RelDs (hidK K p) T H ds vs
  | [], _, h => h
  | d :: ds, _, h => by
    obtain ⟨v, r, e, h1, h2⟩ := h
    exact ⟨v, r, e, RelD.hide hp h1, RelDs.hide hp h2⟩
end
mutual
theorem RelD.show {K : KZ} {T : DH} {H : Hp} {p : Addr} : ∀ {d : D} {v : V}, RelD (hidK K p) T H d v → RelD K T H d v
  | .non, _, h => h
  | .bl _, _, h => h
  | .int _, _, h => h
  | .str _, _, h => h
  | .tup ds, _, h => by
    obtain ⟨a, vs, e, h1, h2, h3⟩ := h
    exact ⟨a, vs, e, h1, ⟨h2.1, fun z => h2.2 (.inl z)⟩, RelDs.show h3⟩
  | .lst ds, _, h => by
    obtain ⟨a, vs, e, h1, h2, h3⟩ := h
    exact ⟨a, vs, e, h1, ⟨h2.1, fun z => h2.2 (.inl z)⟩, RelDs.show h3⟩
  | .emp, _, h => by
    obtain ⟨a, e, h1, h2⟩ := h
    exact ⟨a, e, h1, ⟨h2.1, fun z => h2.2 (.inl z)⟩⟩
  | .scr ns, _, h => by
    obtain ⟨a, e, ⟨h1, h2⟩ | h⟩ := h
    · exact ⟨a, e, .inl ⟨h1, h2.1, fun z => h2.2 (.inl z)⟩⟩
    · exact ⟨a, e, .inr h⟩
  | .ref _, _, h => h
theorem RelDs.show {K : KZ} {T : DH} {H : Hp} {p : Addr} : ∀ {ds : List D} {vs : List V}, RelDs (hidK K p) T H ds vs → RelDs K T H ds vs
  | [], _, h => h
  | d :: ds, _, h => by
    obtain ⟨v, r, e, h1, h2⟩ := h
    exact ⟨v, r, e, RelD.show h1, RelDs.show h2⟩
end
mutual
theorem RelD.stir {K : KZ} {T : DH} {H : Hp} {p : Addr} {u : HO} : ∀ {d : D} {v : V}, RelD (hidK K p) T H d v → RelD (hidK K p) T (upd H p u) d v
  | .non, _, h => h
  | .bl _, _, h => h
  | .int _, _, h => h
  | .str _, _, h => h
  | .tup ds, _, h => by
    obtain ⟨a, vs, e, h1, h2, h3⟩ := h
    exact ⟨a, vs, e, by rw [upd_ne fun q => h2.2 (.inr q)]; exact h1, h2, RelDs.stir h3⟩
  | .lst ds, _, h => by
    obtain ⟨a, vs, e, h1, h2, h3⟩ := h
    exact ⟨a, vs, e, by rw [upd_ne fun q => h2.2 (.inr q)]; exact h1, h2, RelDs.stir h3⟩
  | .emp, _, h => by
    obtain ⟨a, e, h1, h2⟩ := h
    exact ⟨a, e, by rw [upd_ne fun q => h2.2 (.inr q)]; exact h1, h2⟩
  | .scr ns, _, h => by
    obtain ⟨a, e, ⟨h1, h2⟩ | h⟩ := h
    · refine ⟨a, e, .inl ⟨?_, h2⟩⟩
      have n : a ≠ p := fun q => h2.2 (.inr q)
      rcases h1 with h1 | ⟨o, h1⟩
      · exact .inl (by rw [upd_ne n]; exact h1)
      · exact .inr ⟨o, by rw [upd_ne n]; exact h1⟩
    · exact ⟨a, e, .inr h⟩
  | .ref _, _, h => h
theorem RelDs.stir {K : KZ} {T : DH} {H : Hp} {p : Addr} {u : HO} : ∀ {ds : List D} {vs : List V}, RelDs (hidK K p) T H ds vs → RelDs (hidK K p) T (upd H p u) ds vs
  | [], _, h => h
  | d :: ds, _, h => by
    obtain ⟨v, r, e, h1, h2⟩ := h
    exact ⟨v, r, e, RelD.stir h1, RelDs.stir h2⟩
end
section
variable {K : KZ} {T : DH} {H : Hp} {p : Addr} {u : HO}
theorem RelKs.hide {κ : Type} (hp : H p = none) : ∀ {ps : List (κ × D)} {ws : List (κ × V)}, RelKs K T H ps ws → RelKs (hidK K p) T H ps ws
  | [], _, h => h
  | q :: ps, _, h => by obtain ⟨v, r, e, h1, h2⟩ := h; exact ⟨v, r, e, h1.hide hp, RelKs.hide hp h2⟩
theorem RelKs.show {κ : Type} : ∀ {ps : List (κ × D)} {ws : List (κ × V)}, RelKs (hidK K p) T H ps ws → RelKs K T H ps ws
  | [], _, h => h
  | q :: ps, _, h => by obtain ⟨v, r, e, h1, h2⟩ := h; exact ⟨v, r, e, h1.show, RelKs.show h2⟩
theorem RelKs.stir {κ : Type} : ∀ {ps : List (κ × D)} {ws : List (κ × V)}, RelKs (hidK K p) T H ps ws → RelKs (hidK K p) T (upd H p u) ps ws
  | [], _, h => h
  | q :: ps, _, h => by obtain ⟨v, r, e, h1, h2⟩ := h; exact ⟨v, r, e, h1.stir, RelKs.stir h2⟩
theorem ObR.map {K' : KZ} {H' : Hp} {a : Addr} {o : DO} (h : ObR K T H a o) (e : H' a = H a) (k1 : K'.1 = K.1) (x : ∀ d u, H d = some u → T d = none → ¬ K.2 d → H' d = some u ∧ ¬ K'.2 d) (f : ∀ ds vs, RelDs K T H ds vs → RelDs K' T H' ds vs) (g : ∀ {κ : Type} (ps : List (κ × D)) (ws : List (κ × V)), RelKs K T H ps ws → RelKs K' T H' ps ws) : ObR K' T H' a o := by
  cases o with
  | lst ds => obtain ⟨vs, h1, h2⟩ := h; exact ⟨vs, e.trans h1, f _ _ h2⟩
  | dK kvs => obtain ⟨vs, h1, h2⟩ := h; exact ⟨vs, e.trans h1, g _ _ h2⟩
  | dT kvs => obtain ⟨vs, h1, h2⟩ := h; exact ⟨vs, e.trans h1, g _ _ h2⟩
  | dN kvs => obtain ⟨vs, h1, h2⟩ := h; exact ⟨vs, e.trans h1, f _ _ h2⟩
  | ins C fs => obtain ⟨dx, vs, h1, h2⟩ := h; exact ⟨dx, vs, e.trans h1, g _ _ h2⟩
  | exn c fs =>
    obtain ⟨C, dd, h0, h1, h2⟩ := h
    refine ⟨C, dd, by rw [k1]; exact h0, e.trans h1, ?_⟩
    rcases h2 with h2 | ⟨d, ws, e1, h3, h4, h5⟩
    · exact .inl h2
    · exact .inr ⟨d, ws, e1, (x d _ h3 h4.1 h4.2).1, ⟨h4.1, (x d _ h3 h4.1 h4.2).2⟩, g _ _ h5⟩
  | clo k ds => obtain ⟨o, us, vs, h0, h1, h2, h3⟩ := h; exact ⟨o, us, vs, h0, e.trans h1, h2, f _ _ h3⟩
theorem TabD.hide {P : Addr} {q : Str} (hp : H p = none) (h : TabD K T H P q) : TabD (hidK K p) T H P q := by
  obtain ⟨ps, h1, h2, h3, h4⟩ := h
  refine ⟨ps, h1, ⟨h2.1, fun z => z.elim h2.2 (ne_of_none h1 hp)⟩, h3, fun pos cv hc => ?_⟩
  obtain ⟨c, e, h5, h6⟩ := h4 pos cv hc
  exact ⟨c, e, h5, h6.1, fun z => z.elim h6.2 (ne_of_none h5 hp)⟩
theorem TabD.stir {P : Addr} {q : Str} {u : HO} (h : TabD (hidK K p) T H P q) : TabD (hidK K p) T (upd H p u) P q := by
  obtain ⟨ps, h1, h2, h3, h4⟩ := h
  refine ⟨ps, by rw [upd_ne fun z => h2.2 (.inr z)]; exact h1, h2, h3, fun pos cv hc => ?_⟩
  obtain ⟨c, e, h5, h6⟩ := h4 pos cv hc
  exact ⟨c, e, by rw [upd_ne fun z => h6.2 (.inr z)]; exact h5, h6⟩
theorem TabD.show {P : Addr} {q : Str} (h : TabD (hidK K p) T H P q) : TabD K T H P q := by
  obtain ⟨ps, h1, h2, h3, h4⟩ := h
  refine ⟨ps, h1, ⟨h2.1, fun z => h2.2 (.inl z)⟩, h3, fun pos cv hc => ?_⟩
  obtain ⟨c, e, h5, h6⟩ := h4 pos cv hc
  exact ⟨c, e, h5, h6.1, fun z => h6.2 (.inl z)⟩
/-- a new object is laid, and hidden -/
theorem RelH.newHid (r : RelH K T H) (hp : H p = none) : RelH (hidK K p) T (upd H p u) := ⟨fun a o e => by
  obtain ⟨w, hw⟩ := (r.ob a o e).there
  exact (r.ob a o e).map (upd_ne (ne_of_none hw hp)) rfl (fun d u h1 _ h3 => ⟨by rw [upd_ne (ne_of_none h1 hp)]; exact h1, fun z => z.elim h3 fun q => ne_of_none h1 hp q⟩) (fun ds vs x => (x.hide hp).stir) (fun ps ws x => (x.hide hp).stir), fun a z => by
  rcases z with z | rfl
  · obtain ⟨⟨o, e⟩, t⟩ := r.hid a z
    exact ⟨⟨o, by rw [upd_ne (ne_of_none e hp)]; exact e⟩, t⟩
  · exact ⟨⟨u, upd_same⟩, r.free hp⟩, fun P q z => ((r.tab P q z).hide hp).stir⟩
/-- the hidden object changes -/
theorem RelH.stir (r : RelH (hidK K p) T H) : RelH (hidK K p) T (upd H p u) := ⟨fun a o e => by
  have n : a ≠ p := fun q => by
    subst q
    rw [(r.hid a (.inr rfl)).2] at e; cases e
  exact (r.ob a o e).map (upd_ne n) rfl (fun d u h1 _ h3 => ⟨by rw [upd_ne fun q => h3 (.inr q)]; exact h1, h3⟩) (fun _ _ => RelDs.stir) (fun _ _ => RelKs.stir), fun a z => by
  obtain ⟨⟨o, e⟩, t⟩ := r.hid a z
  by_cases n : a = p
  · subst n; exact ⟨⟨u, upd_same⟩, t⟩
  · exact ⟨⟨o, by rw [upd_ne n]; exact e⟩, t⟩, fun P q z => (r.tab P q z).stir⟩
theorem RelH.show (r : RelH (hidK K p) T H) : RelH K T H := ⟨fun a o e => (r.ob a o e).map rfl rfl (fun d u h1 _ h3 => ⟨h1, fun z => h3 (.inl z)⟩) (fun _ _ => RelDs.show) (fun _ _ => RelKs.show), fun a z => r.hid a (.inl z), fun P q z => (r.tab P q z).show⟩
end
/-- the hidden object is told of from now on -/
theorem adopt_none {T : DH} {p a : Addr} {o : DO} (h : T a = none) (n : a ≠ p) : updD T p o a = none := by rw [updD_ne n]; exact h
mutual
theorem RelD.adopt {K : KZ} {T : DH} {H : Hp} {p : Addr} {o : DO} : ∀ {d : D} {v : V}, RelD (hidK K p) T H d v → RelD K (updD T p o) H d v
  | .non, _, h => h
  | .bl _, _, h => h
  | .int _, _, h => h
  | .str _, _, h => h
  | .tup ds, _, h => by
    obtain ⟨a, vs, e, h1, h2, h3⟩ := h
    exact ⟨a, vs, e, h1, ⟨adopt_none h2.1 fun q => h2.2 (.inr q), fun z => h2.2 (.inl z)⟩, RelDs.adopt h3⟩
  | .lst ds, _, h => by
    obtain ⟨a, vs, e, h1, h2, h3⟩ := h
    exact ⟨a, vs, e, h1, ⟨adopt_none h2.1 fun q => h2.2 (.inr q), fun z => h2.2 (.inl z)⟩, RelDs.adopt h3⟩
  | .emp, _, h => by
    obtain ⟨a, e, h1, h2⟩ := h
    exact ⟨a, e, h1, ⟨adopt_none h2.1 fun q => h2.2 (.inr q), fun z => h2.2 (.inl z)⟩⟩
  | .scr ns, _, h => by
    obtain ⟨a, e, ⟨h1, h2⟩ | h⟩ := h
    · exact ⟨a, e, .inl ⟨h1, adopt_none h2.1 fun q => h2.2 (.inr q), fun z => h2.2 (.inl z)⟩⟩
    · exact ⟨a, e, .inr h⟩
  | .ref _, _, h => h
theorem RelDs.adopt {K : KZ} {T : DH} {H : Hp} {p : Addr} {o : DO} : ∀ {ds : List D} {vs : List V}, RelDs (hidK K p) T H ds vs → RelDs K (updD T p o) H ds vs
  | [], _, h => h
  | d :: ds, _, h => by
    obtain ⟨v, r, e, h1, h2⟩ := h
    exact ⟨v, r, e, RelD.adopt h1, RelDs.adopt h2⟩
end
section
variable {K : KZ} {T : DH} {H : Hp} {p : Addr} {o : DO}
theorem RelKs.adopt {κ : Type} : ∀ {ps : List (κ × D)} {ws : List (κ × V)}, RelKs (hidK K p) T H ps ws → RelKs K (updD T p o) H ps ws
  | [], _, h => h
  | q :: ps, _, h => by obtain ⟨v, r, e, h1, h2⟩ := h; exact ⟨v, r, e, h1.adopt, RelKs.adopt h2⟩
theorem RelH.adopt (r : RelH (hidK K p) T H) (nz : ¬ K.2 p) (h : ObR K (updD T p o) H p o) : RelH K (updD T p o) H := ⟨fun a w e => by
  by_cases n : a = p
  · subst n; rw [updD_same] at e; cases e; exact h
  · rw [updD_ne n] at e
    have x := r.ob a w e
    cases w with
    | lst ds => obtain ⟨vs, h1, h2⟩ := x; exact ⟨vs, h1, h2.adopt⟩
    | dK kvs => obtain ⟨vs, h1, h2⟩ := x; exact ⟨vs, h1, h2.adopt⟩
    | dT kvs => obtain ⟨vs, h1, h2⟩ := x; exact ⟨vs, h1, h2.adopt⟩
    | dN kvs => obtain ⟨vs, h1, h2⟩ := x; exact ⟨vs, h1, h2.adopt⟩
    | ins C fs => obtain ⟨dx, vs, h1, h2⟩ := x; exact ⟨dx, vs, h1, h2.adopt⟩
    | exn c fs =>
      obtain ⟨C, dd, h0, h1, h2⟩ := x
      refine ⟨C, dd, h0, h1, ?_⟩
      rcases h2 with h2 | ⟨d, ws, e1, h3, h4, h5⟩
      · exact .inl h2
      · exact .inr ⟨d, ws, e1, h3, ⟨adopt_none h4.1 fun q => h4.2 (.inr q), fun z => h4.2 (.inl z)⟩, h5.adopt⟩
    | clo k ds => obtain ⟨o, us, vs, h0, h1, h2, h3⟩ := x; exact ⟨o, us, vs, h0, h1, h2, h3.adopt⟩, fun a z => by
  have n : a ≠ p := fun q => by subst q; exact nz z
  exact ⟨(r.hid a (.inl z)).1, by rw [updD_ne n]; exact (r.hid a (.inl z)).2⟩, fun P q z => by
  obtain ⟨ps, h1, h2, h3, h4⟩ := r.tab P q z
  refine ⟨ps, h1, ⟨adopt_none h2.1 fun z => h2.2 (.inr z), fun z => h2.2 (.inl z)⟩, h3, fun pos cv hc => ?_⟩
  obtain ⟨c, e, h5, h6⟩ := h4 pos cv hc
  exact ⟨c, e, h5, adopt_none h6.1 fun z => h6.2 (.inr z), fun z => h6.2 (.inl z)⟩⟩
/-- what Z tells, Z' tells -/
def Better (K K' : KZ) (T : DH) (H : Hp) : Prop := ∀ d v, RelD K T H d v → RelD K' T H d v
theorem Better.refl : Better K K T H := fun _ _ h => h
theorem Better.all {K' : KZ} (b : Better K K' T H) : ∀ {ds : List D} {vs : List V}, RelDs K T H ds vs → RelDs K' T H ds vs
  | [], _, h => h
  | d :: ds, _, h => by
    obtain ⟨v, r, e, h1, h2⟩ := h
    exact ⟨v, r, e, b _ _ h1, Better.all b h2⟩
theorem Better.hide (hp : H p = none) : Better K (hidK K p) T H := fun _ _ h => h.hide hp
end
/-! ### environments -/
abbrev DEnv := List (Option D)
def RelEnv (K : KZ) (T : DH) (H : Hp) (de : DEnv) (st : L2.St) : Prop := de.length = st.length ∧ ∀ (i : Nat) (d : D), de[i]? = some (some d) → ∃ v, st[i]? = some (some v) ∧ RelD K T H d v
section
variable {K : KZ} {T T' : DH} {H H' : Hp} {de : DEnv} {st : L2.St}
theorem RelEnv.fr (f : Fr T H T' H') (r : RelEnv K T H de st) : RelEnv K T' H' de st := ⟨r.1, fun i d e => let ⟨v, h1, h2⟩ := r.2 i d e; ⟨v, h1, h2.fr f⟩⟩
theorem RelEnv.set {d : D} {v : V} (r : RelEnv K T H de st) (h : RelD K T H d v) (i : Nat) : RelEnv K T H (de.set i (some d)) (st.set i (some v)) := by
  refine ⟨by simp [r.1], fun j x e => ?_⟩
  by_cases hj : i = j
  · subst hj
    have hi : i < de.length := by
      have := (List.getElem?_eq_some_iff.mp e).1
      simpa using this
    rw [List.getElem?_set_self hi] at e
    cases e
    exact ⟨v, by rw [List.getElem?_set_self (by rw [← r.1]; exact hi)], h⟩
  · rw [List.getElem?_set_ne hj] at e
    obtain ⟨w, h1, h2⟩ := r.2 j x e
    exact ⟨w, by rw [List.getElem?_set_ne hj]; exact h1, h2⟩
theorem RelEnv.setNone (r : RelEnv K T H de st) (i : Nat) (w : Option V) : RelEnv K T H (de.set i none) (st.set i w) := by
  refine ⟨by simp [r.1], fun j x e => ?_⟩
  by_cases hj : i = j
  · subst hj
    have hi : i < de.length := by
      have := (List.getElem?_eq_some_iff.mp e).1
      simpa using this
    rw [List.getElem?_set_self hi] at e
    cases e
  · rw [List.getElem?_set_ne hj] at e
    obtain ⟨v, h1, h2⟩ := r.2 j x e
    exact ⟨v, by rw [List.getElem?_set_ne hj]; exact h1, h2⟩
/-- the deep side of wipe -/
def wipeD (de : DEnv) : List Nat → DEnv
  | [] => de
  | v :: vs => (wipeD de vs).set v none
theorem RelEnv.wipe (r : RelEnv K T H de st) : ∀ vs : List Nat, RelEnv K T H (wipeD de vs) (wipe st vs)
  | [] => r
  | v :: vs => (RelEnv.wipe r vs).setNone v _
/-- slots forgotten by both -/
theorem RelEnv.map {K' : KZ} (r : RelEnv K T H de st) (f : ∀ d v, RelD K T H d v → RelD K' T' H' d v) : RelEnv K' T' H' de st := ⟨r.1, fun i d e => let ⟨v, h1, h2⟩ := r.2 i d e; ⟨v, h1, f d v h2⟩⟩
theorem RelEnv.weak {de' : DEnv} (r : RelEnv K T H de st) (hl : de'.length = de.length) (h : ∀ (i : Nat) (d : D), de'[i]? = some (some d) → de[i]? = some (some d)) : RelEnv K T H de' st := ⟨hl.trans r.1, fun i d e => r.2 i d (h i d e)⟩
end
end DL

set_option linter.all false
set_option maxRecDepth 100000
set_option maxHeartbeats 2000000
namespace DL
open PySem PySem.Spec L2

/-! ### the terms: a Python body in short, names by their places -/
inductive Tgt where
  | nm (i : Nat) | tp (ts : List Tgt)
inductive Bop where
  | add | sub | mul | fdiv | mod | pow
  deriving DecidableEq
inductive Cop where
  | eq | ne | lt | le | gt | ge | isN | notN | isin | notin
  deriving DecidableEq
inductive Ty where
  | int | bool | str | tuple | list | dict | cls (x : Str)
  deriving DecidableEq
inductive Bfn where
  | len | abs | min | max | sum | int | str | repr | list | tuple | sorted | dict | all | lrange | sset | lset
  deriving DecidableEq
inductive Mth where
  | append | extend | pop | insert | index | count | join | split | upper | get | reverse | clear | update
  deriving DecidableEq
mutual
inductive IE where
  | kN | kB (b : Bool) | kI (i : Int) | kS (s : Str)
  | var (i : Nat)
  | gli (x : Str) (n : Int) | gls (x : Str) (s : Str)
  | tup (es : List IE)
  | lst (m : Bool) (es : List IE)
  | dnew (t : Nat)
  | dem
  | dic (k v : IE)
  | dsp (ks : List Key) (vs : List IE)
  | inr (x a b : IE)
  | bin (o : Bop) (m : Bool) (a b : IE)
  | neg (a : IE)
  | not (a : IE)
  | and (a b : IE)
  | or (a b : IE)
  | cmp (o : Cop) (a b : IE)
  | chn (o p : Cop) (a b c : IE)
  | ife (c : IT) (a b : IE)
  | ix (a i : IE)
  | sl (m : Bool) (a : IE) (lo hi : Option IE)
  | rev (m : Bool) (a : IE)
  | fn (f : Bfn) (m : Bool) (es : List IE)
  | sset (l m : Bool) (a : IE)
  | isi (a : IE) (t : Ty)
  | isx (a : IE) (ks cs : List Str)
  | fld (a : IE) (c f : Str)
  | rgl (t m : Bool) (a : Option IE) (b : IE)
  | rlen (a b : IE)
  | call (f : Nat) (es : List IE)
  | callF (f n : Nat) (ks : List Str) (arr : List (Nat ⊕ Int)) (es zs : List IE)
  | mth (k : Mth) (m : Bool) (o : IE) (es : List IE)
  | lc (m : Bool) (tg : Tgt) (own : List (Str × Nat)) (it : II) (cs : Option IT) (e : IE)
  | lamc (f k : Nat) (vs : List Nat)
/-- tests -/
inductive IT where
  | tv (e : IE) | tnot (t : IT) | tand (a b : IT) | tor (a b : IT)
  | tcmp (o : Cop) (a b : IE) | tchn (o p : Cop) (a b c : IE) | tchn3 (o p q : Cop) (a b c d : IE) | tinr (x a b : IE)
inductive II where
  | seq (e : IE) | rng1 (a : IE) | rng2 (a b : IE) | rngW (a b : IE) | rng3 (a b c : IE) | enum (e : IE) | zip (a b : IE) | items (e : IE)
end
/-- what an except clause does -/
inductive HK where
  | ret (e : IE) | set (i : Nat) (e : IE) | keep (i j : Nat) | fld (i j : Nat) (c f : Str) | rz (c : Str)
inductive IS where
  | pass
  | expr (e : IE)
  | ret (e : IE)
  | retN
  | set (i : Nat) (e : IE)
  | unp (t : Tgt) (e : IE)
  | par (i j : Nat) (a b : IE)
  | put (o i e : IE)
  | aug (o i e : IE)
  | ite (c : IT) (a b : List IS)
  | for_ (t : Tgt) (it : II) (body : List IS)
  | while_ (c : IT) (body : List IS)
  | setAct (i j : Nat)
  | raise (c : Str)
  | raiseA (c : Str) (fs : List Str) (es : List IE)
  | try_ (ks cs : List Str) (body : List IS) (h : HK)
  | never

/-! ### readings -/
structure Exn where
  c : Str
  fs : List (Str × D)
abbrev DQ := D → DH → Prop
abbrev EQ := Exn → DH → Prop
abbrev DSp := List D → DH → DQ → EQ → Prop
abbrev TDE := DEnv → DH → DQ → EQ → Prop
abbrev TDT := DEnv → DH → (Bool → DH → Prop) → EQ → Prop
abbrev TDA := DEnv → DH → (List D → DH → Prop) → EQ → Prop
/-- what a loop walks: the items, and the list that must stay as it is -/
structure Src where
  xs : List D
  at_ : Option (Addr × DO)
def Src.ok (s : Src) (T : DH) : Prop := match s.at_ with
  | none => True
  | some (a, o) => T a = some o
abbrev TDI := DEnv → DH → (Src → DH → Prop) → EQ → Prop
structure DEnds where
  nx : DEnv → DH → Prop
  rt : DQ
  ex : Exn → DEnv → DH → Prop
abbrev TDS := DEnds → DEnv → DH → Prop

/-- a new list: frozen, or at a new address -/
def newL (m : Bool) (ds : List D) (T : DH) (Q : DQ) : Prop := match m with
  | true => ∀ p, T p = none → Q (.ref p) (updD T p (.lst ds))
  | false => Q (.lst ds) T
def lstD (T : DH) : D → Option (List D)
  | .lst ds => some ds
  | .ref a => match T a with
    | some (.lst ds) => some ds
    | _ => none
  | _ => none
def seqD (T : DH) : D → Option (List D)
  | .tup ds => some ds
  | .scr ns => some (ns.map D.int)
  | .lst ds => some ds
  | .ref a => match T a with
    | some (.lst ds) => some ds
    | _ => none
  | _ => none
def keyD : D → Option Key
  | .int i => some (.inl i)
  | .str x => some (.inr x)
  | _ => none
def dK (k : Key) : D := match k with
  | .inl i => .int i
  | .inr x => .str x
def keysD : D → Option (List Key)
  | .tup ds => ds.mapM keyD
  | _ => none
mutual
/-- a nested key of numbers -/
def keyN : D → Option NestedKey
  | .int i => some (.num i)
  | .tup ds => (keyNs ds).map .tup
  | _ => none
def keyNs : List D → Option (List NestedKey)
  | [] => some []
  | d :: ds => match keyN d, keyNs ds with
    | some k, some ks => some (k :: ks)
    | _, _ => none
end
def keyT (d : D) : Option NestedKey := match keyN d with
  | some k => if isNK k = true then some k else none
  | none => none
section
variable {κ α : Type} [DecidableEq κ]
def getK : List (κ × α) → κ → Option α
  | [], _ => none
  | p :: r, k => if p.1 = k then some p.2 else getK r k
def putKD (kvs : List (κ × α)) (k : κ) (v : α) : List (κ × α) := if (kvs.any fun kv => decide (kv.1 = k)) = true then kvs.map (fun kv => if kv.1 = k then (kv.1, v) else kv) else kvs ++ [(k, v)]
end
/-- a frozen list or a tuple -/
def frzSeq : D → Option (List D)
  | .tup ds => some ds
  | .lst ds => some ds
  | _ => none
def numbered (ds : List D) : List D := (List.range ds.length).zipWith (fun (k : Nat) d => D.tup [.int k, d]) ds
/-- enumerate(x) -/
def enumD (x : D) (T : DH) (S : Src → DH → Prop) : Prop := match x with
  | .ref a => ∃ ds, T a = some (.lst ds) ∧ S ⟨numbered ds, some (a, .lst ds)⟩ T
  | x => ∃ ds, frzSeq x = some ds ∧ S ⟨numbered ds, none⟩ T
/-- a look-up in a dict -/
def dget (T : DH) (d k : D) : Option (Option D) := match d with
  | .ref a => match T a with
    | some (.dK kvs) => match keyD k with
      | some j => some (getK kvs j)
      | none => none
    | some (.dT kvs) => match keysD k with
      | some j => some (getK kvs j)
      | none => none
    | some (.dN kvs) => match keyT k with
      | some j => some ((getK kvs j).map D.int)
      | none => none
    | _ => none
  | _ => none
def isDic (T : DH) (d : D) : Bool := match d with
  | .ref a => match T a with
    | some (.dK _) => true
    | some (.dT _) => true
    | some (.dN _) => true
    | _ => false
  | _ => false

def isDicP (T : DH) (d : D) : Bool := match d with
  | .ref a => match T a with
    | some (.dK _) => true
    | some (.dT _) => true
    | _ => false
  | _ => false
/-- truth -/
def truD (T : DH) : D → Option Bool
  | .non => some false
  | .bl b => some b
  | .int i => some (i != 0)
  | .str x => if x.length ≤ sizeLine then some ((x.length : Int) != 0) else none
  | .tup ds => some (!ds.isEmpty)
  | .lst ds => some (!ds.isEmpty)
  | .emp => some false
  | .scr ns => some (!ns.isEmpty)
  | .ref a => match T a with
    | some (.lst ds) => some (!ds.isEmpty)
    | some (.dK kvs) => some (!kvs.isEmpty)
    | _ => none
def szOk : D → Prop
  | .str x => x.length ≤ sizeLine
  | _ => True

mutual
/-- data as the library compares it; lists at addresses looked up once -/
def pyD (T : DH) : D → Option PyData
  | .non => some .none
  | .bl b => some (.bool b)
  | .int i => some (.int i)
  | .str x => some (.str x)
  | .tup ds => (pyDs T ds).map .tuple
  | .lst ds => (pyDs T ds).map .list
  | .emp => none
  | .scr ns => some (.list (ns.map .int))
  | .ref _ => none
def pyDs (T : DH) : List D → Option (List PyData)
  | [] => some []
  | d :: ds => match pyD T d, pyDs T ds with
    | some x, some xs => some (x :: xs)
    | _, _ => none
end
mutual
/-- .. what stands at addresses told by rf -/
def pyW (rf : Addr → Option PyData) : D → Option PyData
  | .non => some .none
  | .bl b => some (.bool b)
  | .int i => some (.int i)
  | .str x => some (.str x)
  | .tup ds => (pyWs rf ds).map .tuple
  | .lst ds => (pyWs rf ds).map .list
  | .emp => none
  | .scr ns => some (.list (ns.map .int))
  | .ref a => rf a
def pyWs (rf : Addr → Option PyData) : List D → Option (List PyData)
  | [] => some []
  | d :: ds => match pyW rf d, pyWs rf ds with
    | some x, some xs => some (x :: xs)
    | _, _ => none
end
def rfN (T : DH) : Nat → Addr → Option PyData
  | 0, _ => none
  | n + 1, a => match T a with
    | some (.lst ds) => (pyWs (rfN T n) ds).map .list
    | _ => none
/-- lists at addresses too, four deep -/
def pyT (T : DH) (d : D) : Option PyData := pyW (rfN T 4) d
mutual
/-- .. empty dicts too (for repr) -/
def pyV (rf : Addr → Option PyData) : D → Option PyData
  | .non => some .none
  | .bl b => some (.bool b)
  | .int i => some (.int i)
  | .str x => some (.str x)
  | .tup ds => (pyVs rf ds).map .tuple
  | .lst ds => (pyVs rf ds).map .list
  | .emp => some (.dict [])
  | .scr ns => some (.list (ns.map .int))
  | .ref a => rf a
def pyVs (rf : Addr → Option PyData) : List D → Option (List PyData)
  | [] => some []
  | d :: ds => match pyV rf d, pyVs rf ds with
    | some x, some xs => some (x :: xs)
    | _, _ => none
end
def rfV (T : DH) : Nat → Addr → Option PyData
  | 0, _ => none
  | n + 1, a => match T a with
    | some (.lst ds) => (pyVs (rfV T n) ds).map .list
    | _ => none
def pyR (T : DH) (d : D) : Option PyData := pyV (rfV T 4) d

def dAdd (m : Bool) (x y : D) (T : DH) (Q : DQ) : Prop := match x, y with
  | .int i, .int j => Q (.int (i + j)) T
  | .str i, .str j => i.length + j.length ≤ sizeLine ∧ Q (.str (i ++ j)) T
  | .tup i, .tup j => i.length + j.length ≤ sizeLine ∧ Q (.tup (i ++ j)) T
  | x, y => ∃ i j, lstD T x = some i ∧ lstD T y = some j ∧ i.length + j.length ≤ sizeLine ∧ newL m (i ++ j) T Q
def dSub (x y : D) (T : DH) (Q : DQ) : Prop := match x, y with
  | .int i, .int j => Q (.int (i - j)) T
  | _, _ => False
def repS (s : Str) (k : Nat) : Str := ⟨(List.replicate k s.cps).foldl (· ++ ·) #[]⟩
def dMul (m : Bool) (x y : D) (T : DH) (Q : DQ) : Prop := match x, y with
  | .int i, .int j => i.natAbs.log2 + j.natAbs.log2 < 1000000 ∧ Q (.int (i * j)) T
  | .tup ds, .int k => (ds ≠ [] ∧ 2 ≤ k ∧ k ≤ 1000 ∧ ds.length ≤ 1000 ∧ Q (.tup (List.replicate k.toNat ds).flatten) T) ∨ (k = 1 ∧ Q (.tup ds) T) ∨ (k = 0 ∧ ds ≠ [] ∧ Q (.tup []) T)
  | .str s, .int k => 0 ≤ k ∧ k ≤ 1000 ∧ s.length ≤ 1000 ∧ Q (.str (repS s k.toNat)) T
  | x, .int k => ∃ i, lstD T x = some i ∧ -(2 ^ 63) ≤ k ∧ k < 2 ^ 63 ∧ i.length * k.toNat ≤ sizeLine ∧ newL m (List.replicate k.toNat i).flatten T Q
  | _, _ => False
def dFdiv (x y : D) (T : DH) (Q : DQ) : Prop := match x, y with
  | .int i, .int j => (0 < j ∧ j.natAbs.log2 < 9000) ∧ Q (.int (i / j)) T
  | _, _ => False
def dMod (x y : D) (T : DH) (Q : DQ) : Prop := match x, y with
  | .int i, .int j => 0 < j ∧ Q (.int (i % j)) T
  | _, _ => False
def dPow (x y : D) (T : DH) (Q : DQ) : Prop := match x, y with
  | .int i, .int j => (0 ≤ j ∧ j ≤ 1000000 ∧ i.natAbs < 2 ^ 64) ∧ Q (.int (i ^ j.toNat)) T
  | _, _ => False
def dBin (o : Bop) (m : Bool) (x y : D) (T : DH) (Q : DQ) : Prop := match o with
  | .add => dAdd m x y T Q
  | .sub => dSub x y T Q
  | .mul => dMul m x y T Q
  | .fdiv => dFdiv x y T Q
  | .mod => dMod x y T Q
  | .pow => dPow x y T Q

def dEq (T : DH) (x y : D) (k : Bool → Prop) : Prop := match x, y with
  | .int i, .int j => k (decide (i = j))
  | .str i, .str j => k (decide (i = j))
  | .bl i, .bl j => k (decide (i = j))
  | x, y => (∃ p q, pyT T x = some p ∧ pyT T y = some q ∧ SeqAt.shaped p = true ∧ SeqAt.shaped q = true ∧ k (PyData.eqv p q)) ∨
      (∃ ds es, lstD T x = some ds ∧ lstD T y = some es ∧ ds.length ≠ es.length ∧ k false) ∨ (∃ ds, x = .tup ds ∧ y = .tup [] ∧ k ds.isEmpty)
def dIn (T : DH) (x y : D) (k : Bool → Prop) : Prop := match y with
  | .str s => match x with
    | .str z => k (!(Builtin.Str.occurrences s z 0 s.length 1).isEmpty)
    | _ => False
  | y => (isDic T y = true ∧ ∃ o, dget T y x = some o ∧ k o.isSome) ∨
    (∃ p ys qs, pyT T x = some p ∧ seqD T y = some ys ∧ pyDs T ys = some qs ∧ SeqAt.shaped p = true ∧ SeqAt.shaped (.list qs) = true ∧ k (qs.any fun z => PyData.eqv z p))
def isNonD : D → Bool
  | .non => true
  | _ => false
def dOrd (f : Int → Int → Bool) (g : PyData → PyData → Bool) (T : DH) (x y : D) (k : Bool → Prop) : Prop := match x, y with
  | .int i, .int j => k (f i j)
  | x, y => ∃ p q, pyT T x = some p ∧ pyT T y = some q ∧ PySem.W.alike p q = true ∧ p ≠ .none ∧ p.depth ≤ 64 ∧ k (g p q)
def dIsN (x y : D) (k : Bool → Prop) : Prop := match y with
  | .non => k (isNonD x)
  | .bl b => ∃ c, x = .bl c ∧ k (decide (c = b))
  | _ => False
def dCmp (o : Cop) (x y : D) (T : DH) (Q : DQ) : Prop := match o with
  | .lt => dOrd (fun i j => decide (i < j)) (fun p q => PySem.W.dataLt p q) T x y fun b => Q (.bl b) T
  | .le => dOrd (fun i j => decide (i ≤ j)) (fun p q => !PySem.W.dataLt q p) T x y fun b => Q (.bl b) T
  | .gt => dOrd (fun i j => decide (j < i)) (fun p q => PySem.W.dataLt q p) T x y fun b => Q (.bl b) T
  | .ge => dOrd (fun i j => decide (j ≤ i)) (fun p q => !PySem.W.dataLt p q) T x y fun b => Q (.bl b) T
  | .eq => dEq T x y fun b => Q (.bl b) T
  | .ne => dEq T x y fun b => Q (.bl (!b)) T
  | .isN => dIsN x y fun b => Q (.bl b) T
  | .notN => dIsN x y fun b => Q (.bl (!b)) T
  | .isin => dIn T x y fun b => Q (.bl b) T
  | .notin => dIn T x y fun b => Q (.bl (!b)) T
def dIx (x i : D) (T : DH) (Q : DQ) : Prop := match x, i with
  | .str s, .int n => s.length ≤ sizeLine ∧ ∃ c, atI s.cps.toList n = some c ∧ Q (.str ⟨#[c]⟩) T
  | x, i => (isDic T x = true ∧ ∃ d, dget T x i = some (some d) ∧ Q d T) ∨ (∃ ds n d, i = .int n ∧ seqD T x = some ds ∧ atI ds n = some d ∧ Q d T)
def cutD {α : Type} (xs : List α) (lo hi : Option Int) : List α := (xs.drop (HT.sIx xs.length 0 lo)).take (HT.sIx xs.length xs.length hi - HT.sIx xs.length 0 lo)
def dSl (m : Bool) (x : D) (lo hi : Option Int) (T : DH) (Q : DQ) : Prop := match x with
  | .tup ds => Q (.tup (cutD ds lo hi)) T
  | .str s => s.length ≤ sizeLine ∧ Q (.str ⟨(cutD s.cps.toList lo hi).toArray⟩) T
  | .scr ns => newL m (cutD (ns.map D.int) lo hi) T Q
  | x => ∃ ds, lstD T x = some ds ∧ newL m (cutD ds lo hi) T Q
def dRev (m : Bool) (x : D) (T : DH) (Q : DQ) : Prop := match x with
  | .tup ds => Q (.tup ds.reverse) T
  | x => ∃ ds, lstD T x = some ds ∧ newL m ds.reverse T Q
/-- x in range(a, b) -/
def dInr (x a b : D) (k : Bool → Prop) : Prop := match x, a, b with
  | .int i, .int lo, .int hi => k (decide (lo ≤ i ∧ i < hi))
  | _, _, _ => False
def dNeg (x : D) (T : DH) (Q : DQ) : Prop := match x with
  | .int i => Q (.int (-i)) T
  | _ => False
def tyD (T : DH) : D → Option Ty
  | .int _ => some .int
  | .bl _ => some .bool
  | .str _ => some .str
  | .tup _ => some .tuple
  | .lst _ => some .list
  | .emp => some .dict
  | .ref a => match T a with
    | some (.lst _) => some .list
    | some (.dK _) => some .dict
    | some (.dT _) => some .dict
    | _ => none
  | _ => none
/-- isinstance against a built-in class -/
def dIsi (T : DH) (x : D) (t : Ty) (Q : DQ) : Prop := match x with
  | .non => Q (.bl false) T
  | x => ∃ u, tyD T x = some u ∧ Q (.bl (decide (u = t) || (decide (u = .bool) && decide (t = .int)))) T
def lenD (T : DH) : D → Option Nat
  | .str x => some x.length
  | .ref a => match T a with
    | some (.lst ds) => some ds.length
    | some (.dK kvs) => some kvs.length
    | _ => none
  | d => (seqD T d).map List.length
def intsD : List D → Option (List Int)
  | [] => some []
  | .int i :: r => (intsD r).map (i :: ·)
  | _ => none
def strsD : List D → Option (List Str)
  | [] => some []
  | .str i :: r => (strsD r).map (i :: ·)
  | _ => none
/-- sorted(set(xs)) of numbers; len(set(xs)) of texts -/
def dSset (l m : Bool) (x : D) (T : DH) (Q : DQ) : Prop := match l with
  | false => ∃ ds ns, lstD T x = some ds ∧ intsD ds = some ns ∧ ns.length < 4000 ∧ (∃ b : List Int, b.length < 64 ∧ ∀ k ∈ ns, k ∈ b) ∧ ∀ ks : List Int, ks.Pairwise (· < ·) → (∀ k, k ∈ ks ↔ k ∈ ns) → newL m (ks.map .int) T Q
  | true => ∃ ds, lstD T x = some ds ∧ ((∃ ns, strsD ds = some ns ∧ ns.length < 4000 ∧ ∀ n : Nat, n ≤ ns.length → (n = ns.length ↔ ns.Nodup) → Q (.int n) T) ∨
    (∃ ks, ds = ofKs ks ∧ (∀ k ∈ ks, isNK k = true) ∧ ks.length < 4900 ∧ ∀ n : Nat, n ≤ ks.length → (n = ks.length ↔ ks.Nodup) → Q (.int n) T))
def dLen (xs : List D) (T : DH) (Q : DQ) : Prop := match xs with
  | [x] => szOk x ∧ ∃ n, lenD T x = some n ∧ Q (.int n) T
  | _ => False
def dAbs (xs : List D) (T : DH) (Q : DQ) : Prop := match xs with
  | [.int i] => Q (.int (if i < 0 then -i else i)) T
  | _ => False
/-- data of one form -/
def alikes (ps : List PyData) : Prop := (∀ p ∈ ps, ∀ q ∈ ps, PySem.W.alike p q = true) ∧ (∀ p ∈ ps, p ≠ .none) ∧ PyData.depthAll ps ≤ 60
def dMin (xs : List D) (T : DH) (Q : DQ) : Prop := match xs with
  | [.int i, .int j] => Q (.int (if j < i then j else i)) T
  | [x] => ∃ ds p ps, lstD T x = some ds ∧ pyDs T ds = some (p :: ps) ∧ alikes (p :: ps) ∧ ∀ d ∈ ds, pyD T d = some (PySem.W.minD p ps) → Q d T
  | _ => False
def dMax (xs : List D) (T : DH) (Q : DQ) : Prop := match xs with
  | [.int i, .int j] => Q (.int (if j > i then j else i)) T
  | [x] => ∃ ds p ps, lstD T x = some ds ∧ pyDs T ds = some (p :: ps) ∧ alikes (p :: ps) ∧ ∀ d ∈ ds, pyD T d = some (PySem.W.maxD p ps) → Q d T
  | _ => False
/-- what sorted walks: a sequence, or a dict with few numbers as keys -/
def encD (T : DH) (d : D) : PyData := (pyD T d).getD .none
def sortD (T : DH) (ds : List D) : List D := ds.mergeSort (PySem.W.dataLe false (encD T))
def dSorted (m : Bool) (xs : List D) (T : DH) (Q : DQ) : Prop := match xs with
  | [x] => (∃ ds ps, lstD T x = some ds ∧ pyDs T ds = some ps ∧ alikes ps ∧ ((∀ p ∈ ps, ∃ y r, p = .tuple (y :: r)) ∨ ∀ p ∈ ps, ∀ r, p ≠ .tuple r) ∧ newL m (sortD T ds) T Q) ∨
    (∃ (a : Addr) (kvs : List (Key × D)) (ks : List Int), x = .ref a ∧ T a = some (.dK kvs) ∧ kvs.map (·.1) = ks.map Sum.inl ∧ ks.length < 64 ∧ newL m ((ks.mergeSort (fun i j => decide (i ≤ j))).map .int) T Q)
  | _ => False
def dAll (xs : List D) (T : DH) (Q : DQ) : Prop := match xs with
  | [x] => ∃ (ds : List D) (bs : List Bool), lstD T x = some ds ∧ ds = bs.map D.bl ∧ Q (.bl (bs.all id)) T
  | _ => False
def dSum (xs : List D) (T : DH) (Q : DQ) : Prop := match xs with
  | [x] => ∃ ds ns, lstD T x = some ds ∧ intsD ds = some ns ∧ Q (.int ns.sum) T
  | _ => False
def dInt (xs : List D) (T : DH) (Q : DQ) : Prop := match xs with
  | [.int i] => Q (.int i) T
  | [.bl b] => Q (.int (if b then 1 else 0)) T
  | _ => False
def dStr (xs : List D) (T : DH) (Q : DQ) : Prop := match xs with
  | [.int i] => i.natAbs.log2 < 1920 ∧ Q (.str (toString i)) T
  | _ => False
def dList (m : Bool) (xs : List D) (T : DH) (Q : DQ) : Prop := match xs with
  | [x] => ∃ ds, seqD T x = some ds ∧ newL m ds T Q
  | _ => False
def dTuple (xs : List D) (T : DH) (Q : DQ) : Prop := match xs with
  | [x] => ∃ ds, seqD T x = some ds ∧ Q (.tup ds) T
  | _ => False
def isObD : D → Bool
  | .tup _ => true
  | .lst _ => true
  | .emp => true
  | .scr _ => true
  | .ref _ => true
  | _ => false
def dRepr (xs : List D) (T : DH) (Q : DQ) : Prop := match xs with
  | [x] => (∃ p, pyT T x = some p ∧ SeqAt.shaped p = true ∧ p.showable = true ∧ p.shown.length ≤ sizeLine ∧ Q (.str p.shown) T) ∨
      (isObD x = true ∧ ∃ p, pyR T x = some p ∧ p.depth ≤ 70 ∧ p.showable = true ∧ p.shown.length ≤ sizeLine ∧ Q (.str p.shown) T)
  | _ => False
/-- dict(pairs) -/
def dicD (kvs : List (Key × D)) : List (Key × D) := kvs.foldl (fun acc kv => putKD acc kv.1 kv.2) []
def dDict (xs : List D) (T : DH) (Q : DQ) : Prop := match xs with
  | [.lst ds] => ∃ kvs : List (Key × D), ds = kvs.map (fun kv => D.tup [dK kv.1, kv.2]) ∧ ∀ p, T p = none → Q (.ref p) (updD T p (.dK (dicD kvs)))
  | _ => False
def dFn (f : Bfn) (m : Bool) (xs : List D) (T : DH) (Q : DQ) : Prop := match f with
  | .len => dLen xs T Q
  | .abs => dAbs xs T Q
  | .min => dMin xs T Q
  | .max => dMax xs T Q
  | .sum => dSum xs T Q
  | .int => dInt xs T Q
  | .str => dStr xs T Q
  | .list => dList m xs T Q
  | .tuple => dTuple xs T Q
  | .repr => dRepr xs T Q
  | .sorted => dSorted m xs T Q
  | .dict => dDict xs T Q
  | .all => dAll xs T Q
  | _ => False

/-- list(range(a, b)), tuple(range(a, b)) -/
def intsFrom (a b : Int) : List Int := (List.range (b - a).toNat).map fun (i : Nat) => a + i
def rgD (t m : Bool) (a b : Int) (T : DH) (Q : DQ) : Prop := match t with
  | true => Q (.tup ((intsFrom a b).map .int)) T
  | false => newL m ((intsFrom a b).map .int) T Q
/-! ### storing -/
mutual
def bindT : Tgt → D → DEnv → Option DEnv
  | .nm i, d, de => some (de.set i (some d))
  | .tp ts, .tup ds, de => bindTs ts ds de
  | _, _, _ => none
def bindTs : List Tgt → List D → DEnv → Option DEnv
  | [], [], de => some de
  | t :: ts, d :: ds, de => match bindT t d de with
    | some de1 => bindTs ts ds de1
    | none => none
  | _, _, _ => none
end
def dPut (o i v : D) (T : DH) (k : DH → Prop) : Prop := match o with
  | .ref a => match T a with
    | some (.lst ds) => ∃ n j, i = .int n ∧ ixN ds.length n = some j ∧ k (updD T a (.lst (ds.set j v)))
    | some (.dK kvs) => ∃ j, keyD i = some j ∧ kvs.length < sizeLine ∧ k (updD T a (.dK (putKD kvs j v)))
    | some (.dT kvs) => ∃ j, keysD i = some j ∧ kvs.length < sizeLine ∧ k (updD T a (.dT (putKD kvs j v)))
    | some (.dN kvs) => ∃ j n, keyT i = some j ∧ v = .int n ∧ kvs.length < sizeLine ∧ k (updD T a (.dN (putKD kvs j n)))
    | _ => False
  | _ => False
/-- o[i] of a changing list, by a number from 0 on -/
def dGetI (o i : D) (T : DH) (Q : DQ) : Prop := match o with
  | .ref a => ∃ ds n d, T a = some (.lst ds) ∧ i = .int n ∧ 0 ≤ n ∧ n < 2 ^ 63 ∧ ds[n.toNat]? = some d ∧ Q d T
  | _ => False
def dAppend (o : D) (xs : List D) (T : DH) (Q : DQ) : Prop := match o, xs with
  | .ref a, [x] => ∃ ds, T a = some (.lst ds) ∧ ds.length < sizeLine ∧ Q .non (updD T a (.lst (ds ++ [x])))
  | _, _ => False
def extD (T : DH) (x : D) : Option (List D) := match x with
  | .tup ds => some ds
  | x => lstD T x
def dExtend (o : D) (xs : List D) (T : DH) (Q : DQ) : Prop := match o, xs with
  | .ref a, [x] => ∃ ds es, T a = some (.lst ds) ∧ extD T x = some es ∧ ds.length + es.length ≤ sizeLine ∧ Q .non (updD T a (.lst (ds ++ es)))
  | _, _ => False
def dPop (o : D) (xs : List D) (T : DH) (Q : DQ) : Prop := match o, xs with
  | .ref a, [] => ∃ ds d, T a = some (.lst ds) ∧ ds[ds.length - 1]? = some d ∧ Q d (updD T a (.lst ds.dropLast))
  | .ref a, [.int i] => ∃ ds j d, T a = some (.lst ds) ∧ -(2 ^ 63) ≤ i ∧ i < 2 ^ 63 ∧ seqIndex? i ds.length = some j ∧ ds[j]? = some d ∧ Q d (updD T a (.lst (ds.eraseIdx j)))
  | _, _ => False
def dReverse (o : D) (xs : List D) (T : DH) (Q : DQ) : Prop := match o, xs with
  | .ref a, [] => ∃ ds, T a = some (.lst ds) ∧ Q .non (updD T a (.lst ds.reverse))
  | _, _ => False
def dClear (o : D) (xs : List D) (T : DH) (Q : DQ) : Prop := match o, xs with
  | .ref a, [] => ∃ ds, T a = some (.lst ds) ∧ Q .non (updD T a (.lst []))
  | _, _ => False
def dInsert (o : D) (xs : List D) (T : DH) (Q : DQ) : Prop := match o, xs with
  | .ref a, [.int i, x] => ∃ ds, T a = some (.lst ds) ∧ ds.length < sizeLine ∧ 0 ≤ i ∧ i < 2 ^ 63 ∧ Q .non (updD T a (.lst (ds.take i.toNat ++ [x] ++ ds.drop i.toNat)))
  | _, _ => False
def dJoin (o : D) (xs : List D) (T : DH) (Q : DQ) : Prop := match o, xs with
  | .str s, [x] => ∃ ds zs, seqD T x = some ds ∧ strsD ds = some zs ∧ (zs.map (·.length)).sum + zs.length * s.length ≤ 16777216 ∧ Q (.str (Str.join s zs)) T
  | _, _ => False
def up1 (c : Nat) : Nat := if 97 ≤ c ∧ c ≤ 122 then c - 32 else c
def dUpper (o : D) (xs : List D) (T : DH) (Q : DQ) : Prop := match o, xs with
  | .str s, [] => (∀ c ∈ s.cps.toList, c < 128) ∧ s.length ≤ 1000000 ∧ Q (.str ⟨s.cps.map up1⟩) T
  | _, _ => False
def dIndexM (o : D) (xs : List D) (T : DH) (Q : DQ) : Prop := match xs with
  | [y] => ∃ ds qs p j z, lstD T o = some ds ∧ pyDs T ds = some qs ∧ pyT T y = some p ∧ SeqAt.shaped (.list qs) = true ∧ SeqAt.shaped p = true ∧ qs[j]? = some z ∧ PyData.eqv z p = true ∧ (∀ (m : Nat) (z' : PyData), m < j → qs[m]? = some z' → PyData.eqv z' p = false) ∧ Q (.int (j : Nat)) T
  | _ => False
def dCountM (o : D) (xs : List D) (T : DH) (Q : DQ) : Prop := match xs with
  | [y] => ∃ ds qs p, lstD T o = some ds ∧ pyDs T ds = some qs ∧ pyT T y = some p ∧ SeqAt.shaped (.list qs) = true ∧ SeqAt.shaped p = true ∧ Q (.int ((qs.countP fun z => PyData.eqv z p : Nat) : Int)) T
  | _ => False
def dGetM (o : D) (xs : List D) (T : DH) (Q : DQ) : Prop := match xs with
  | [k] => isDicP T o = true ∧ ∃ r, dget T o k = some r ∧ Q (r.getD .non) T
  | [k, x] => isDicP T o = true ∧ ∃ r, dget T o k = some r ∧ Q (r.getD x) T
  | _ => False
def dMth (k : Mth) (m : Bool) (o : D) (xs : List D) (T : DH) (Q : DQ) : Prop := match k with
  | .append => dAppend o xs T Q
  | .extend => dExtend o xs T Q
  | .pop => dPop o xs T Q
  | .reverse => dReverse o xs T Q
  | .clear => dClear o xs T Q
  | .insert => dInsert o xs T Q
  | .index => dIndexM o xs T Q
  | .count => dCountM o xs T Q
  | .join => dJoin o xs T Q
  | .upper => dUpper o xs T Q
  | .get => dGetM o xs T Q
  | _ => False
def isStrD : D → Bool
  | .str _ => true
  | _ => false
/-- what a method is called on -/
def mthOk (k : Mth) (T : DH) (o : D) : Prop := match k with
  | .join => isStrD o = true
  | .split => isStrD o = true
  | .upper => isStrD o = true
  | .get => isDicP T o = true
  | .update => isDicP T o = true
  | _ => ∃ ds, lstD T o = some ds

/-- {}: with plain keys, tuples of plain keys, nested tuples of numbers -/
def newDict : Nat → DO
  | 0 => .dK []
  | 1 => .dT []
  | _ => .dN []
/-- {k: v, ..} -/
def dspD (ks : List Key) (ds : List D) : List (Key × D) := (ks.zip ds).foldl (fun acc kv => putKD acc kv.1 kv.2) []
/-! ### exceptions -/
def excN : List Str := ["NoWriting", "Crossed", "NoPlace", "NoEdition", "NoBar", "NoCut", "Parted", "NoSound", "Full", "Held", "NoPin", "NoDeed", "NoText", "NoRow"]
/-- whether an error of the class c is one of d -/
def isEx (d c : Str) : Bool := decide (d = c) || (decide (d = "PlayError") || decide (d = "ValueError"))
/-- an error that an except clause lets by (one whose context is known may not) -/
def thru (c : Str) : Prop := decide (c = "NoBar") = false
def cD : IE → D
  | .kB b => .bl b
  | _ => .non
def hkD (h : HK) (x : Exn) (D : DEnds) (de : DEnv) (T : DH) : Prop := match h with
  | .ret e => D.rt (cD e) T
  | .set i e => D.nx (de.set i (some (cD e))) T
  | .keep i j => ∀ a, T a = none → D.nx ((de.set i (some (.ref a))).set j none) (updD T a (.exn x.c x.fs))
  | .fld i j c f => x.c = c ∧ ∃ d, x.fs.lookup f = some d ∧ D.nx ((de.set i (some d)).set j none) T
  | .rz c => D.ex ⟨c, []⟩ de T
/-- isinstance of an error -/
def dIsx (x : D) (ks cs : List Str) (T : DH) (Q : DQ) : Prop := match x with
  | .ref a => match T a with
    | some (.exn c _) => c ∈ ks ∧ Q (.bl (cs.any fun d => isEx d c)) T
    | _ => False
  | _ => False
def dFld (x : D) (k f : Str) (T : DH) (Q : DQ) : Prop := match x with
  | .ref a => match T a with
    | some (.exn c fs) => c = k ∧ ∃ d, fs.lookup f = some d ∧ Q d T
    | _ => False
  | _ => False
/-- the arguments of a call, defaults and keywords put in order -/
def arrD (arr : List (Nat ⊕ Int)) (xs : List D) : List D := arr.map fun a => match a with
  | .inl i => xs.getD i .non
  | .inr k => .int k
/-! ### the evaluation -/
/-- the loop of a comprehension -/
def lcL (g : Tgt) (src : Src) (ct : TDT) (ce : TDE) (de : DEnv) : List D → List D → DH → (List D → DH → Prop) → Prop
  | [], acc, T, Q => src.ok T ∧ Q acc T
  | x :: xs, acc, T, Q => src.ok T ∧ ∃ de1, bindT g x de = some de1 ∧ ct de1 T (fun b T1 => if b = true then ce de1 T1 (fun y T2 => acc.length < sizeLine ∧ lcL g src ct ce de xs (acc ++ [y]) T2 Q) (fun _ _ => False) else lcL g src ct ce de xs acc T1 Q) (fun _ _ => False)
/-- the contract of the k-th lambda's body; of what a def was handed to call -/
def lamIx (k : Nat) : Nat := 1000 + k
def actIx : Nat := 100000
def withAct (G : Nat → DSp) (p : Addr) : Nat → DSp := fun f => if f = actIx then fun ds T Q E => ds = [.ref p] ∧ ∃ k es, T p = some (.clo k es) ∧ G (lamIx k) es T Q E else G f
/-- the values of names -/
def evV : List Nat → DEnv → (List D → Prop) → Prop
  | [], _, q => q []
  | i :: r, de, q => ∃ d, de[i]? = some (some d) ∧ evV r de fun ds => q (d :: ds)
variable (G : Nat → DSp)
mutual
def evE : IE → DEnv → DH → DQ → EQ → Prop
  | .kN, _, T, Q, _ => Q .non T
  | .kB b, _, T, Q, _ => Q (.bl b) T
  | .kI i, _, T, Q, _ => Q (.int i) T
  | .kS s, _, T, Q, _ => Q (.str s) T
  | .var i, de, T, Q, _ => ∃ d, de[i]? = some (some d) ∧ Q d T
  | .gli _ n, _, T, Q, _ => Q (.int n) T
  | .gls _ s, _, T, Q, _ => Q (.str s) T
  | .tup es, de, T, Q, E => evEs es de T (fun ds T1 => Q (.tup ds) T1) E
  | .lst m es, de, T, Q, E => evEs es de T (fun ds T1 => newL m ds T1 Q) E
  | .dnew t, _, T, Q, _ => ∀ p, T p = none → Q (.ref p) (updD T p (newDict t))
  | .dem, _, T, Q, _ => Q .emp T
  | .dic k v, de, T, Q, E => evE k de T (fun x T1 => evE v de T1 (fun y T2 => ∃ j, keyD x = some j ∧ ∀ p, T2 p = none → Q (.ref p) (updD T2 p (.dK [(j, y)]))) E) E
  | .dsp ks vs, de, T, Q, E => evEs vs de T (fun ds T1 => ∀ p, T1 p = none → Q (.ref p) (updD T1 p (.dK (dspD ks ds)))) E
  | .inr x a b, de, T, Q, E => evE x de T (fun x T1 => evE a de T1 (fun y T2 => evE b de T2 (fun z T3 => dInr x y z fun k => Q (.bl k) T3) E) E) E
  | .bin o m a b, de, T, Q, E => evE a de T (fun x T1 => evE b de T1 (fun y T2 => dBin o m x y T2 Q) E) E
  | .neg a, de, T, Q, E => evE a de T (fun x T1 => dNeg x T1 Q) E
  | .not a, de, T, Q, E => evE a de T (fun x T1 => ∃ b, truD T1 x = some b ∧ Q (.bl (!b)) T1) E
  | .and a b, de, T, Q, E => evE a de T (fun x T1 => ∃ k, truD T1 x = some k ∧ if k = true then evE b de T1 Q E else Q x T1) E
  | .or a b, de, T, Q, E => evE a de T (fun x T1 => ∃ k, truD T1 x = some k ∧ if k = true then Q x T1 else evE b de T1 Q E) E
  | .cmp o a b, de, T, Q, E => evE a de T (fun x T1 => evE b de T1 (fun y T2 => dCmp o x y T2 Q) E) E
  | .chn o p a b c, de, T, Q, E => evE a de T (fun x T1 => evE b de T1 (fun y T2 => dCmp o x y T2 fun r T3 => ∃ k, r = .bl k ∧ if k = true then evE c de T3 (fun z T4 => dCmp p y z T4 Q) E else Q (.bl false) T3) E) E
  | .ife c a b, de, T, Q, E => evT c de T (fun k T1 => if k = true then evE a de T1 Q E else evE b de T1 Q E) E
  | .ix a i, de, T, Q, E => evE a de T (fun x T1 => evE i de T1 (fun y T2 => dIx x y T2 Q) E) E
  | .sl m a lo hi, de, T, Q, E => evE a de T (fun x T1 => evO lo de T1 (fun l T2 => evO hi de T2 (fun h T3 => dSl m x l h T3 Q) E) E) E
  | .rev m a, de, T, Q, E => evE a de T (fun x T1 => dRev m x T1 Q) E
  | .fn f m es, de, T, Q, E => evEs es de T (fun xs T1 => dFn f m xs T1 Q) E
  | .sset l m a, de, T, Q, E => evE a de T (fun x T1 => dSset l m x T1 Q) E
  | .isi a t, de, T, Q, E => evE a de T (fun x T1 => dIsi T1 x t Q) E
  | .isx a ks cs, de, T, Q, E => evE a de T (fun x T1 => dIsx x ks cs T1 Q) E
  | .fld a c f, de, T, Q, E => evE a de T (fun x T1 => dFld x c f T1 Q) E
  | .rgl t m a b, de, T, Q, E => evO a de T (fun lo T1 => evE b de T1 (fun y T2 => ∃ j, y = .int j ∧ RgOk (lo.getD 0) j ∧ rgD t m (lo.getD 0) j T2 Q) E) E
  | .rlen a b, de, T, Q, E => evE a de T (fun x T1 => evE b de T1 (fun y T2 => ∃ i j, x = .int i ∧ y = .int j ∧ j - i < 2 ^ 62 ∧ Q (.int (j - i).toNat) T2) E) E
  | .call f es, de, T, Q, E => evEs es de T (fun xs T1 => G f xs T1 Q E) E
  | .callF f _ _ arr es zs, de, T, Q, E => evEs es de T (fun xs T1 => evEs zs de T1 (fun ws T2 => G f (arrD arr (xs ++ ws)) T2 Q E) E) E
  | .mth k m o es, de, T, Q, E => evE o de T (fun x T1 => mthOk k T1 x ∧ evEs es de T1 (fun xs T2 => dMth k m x xs T2 Q) E) E
  | .lc m g own it cs e, de, T, Q, E => evI it de T (fun src T1 => lcL g src (evC cs) (evE e) (wipeD de (own.map (·.2))) src.xs [] T1 (fun ds T2 => newL m ds T2 Q)) E
  | .lamc f k vs, de, T, Q, E => evV vs de fun ds => ∀ p, T p = none → G f [.ref p] (updD T p (.clo k ds)) Q E
termination_by structural x => x
/-- as a test -/
def evT : IT → DEnv → DH → (Bool → DH → Prop) → EQ → Prop
  | .tnot a, de, T, Q, E => evT a de T (fun b T1 => Q (!b) T1) E
  | .tand a b, de, T, Q, E => evT a de T (fun k T1 => if k = true then evT b de T1 Q E else Q false T1) E
  | .tor a b, de, T, Q, E => evT a de T (fun k T1 => if k = true then Q true T1 else evT b de T1 Q E) E
  | .tv e, de, T, Q, E => evE e de T (fun x T1 => ∃ b, truD T1 x = some b ∧ Q b T1) E
  | .tcmp o a b, de, T, Q, E => evE a de T (fun x T1 => evE b de T1 (fun y T2 => dCmp o x y T2 fun r T3 => ∃ k, r = .bl k ∧ Q k T3) E) E
  | .tchn o p a b c, de, T, Q, E => evE a de T (fun x T1 => evE b de T1 (fun y T2 => dCmp o x y T2 fun r T3 => ∃ k, r = .bl k ∧ if k = true then evE c de T3 (fun z T4 => dCmp p y z T4 fun r2 T5 => ∃ k2, r2 = .bl k2 ∧ Q k2 T5) E else Q false T3) E) E
  | .tchn3 o p q a b c d, de, T, Q, E => evE a de T (fun x T1 => evE b de T1 (fun y T2 => dCmp o x y T2 fun r T3 => ∃ k, r = .bl k ∧ if k = true then evE c de T3 (fun z T4 => dCmp p y z T4 fun r2 T5 => ∃ k2, r2 = .bl k2 ∧ if k2 = true then evE d de T5 (fun w T6 => dCmp q z w T6 fun r3 T7 => ∃ k3, r3 = .bl k3 ∧ Q k3 T7) E else Q false T5) E else Q false T3) E) E
  | .tinr x a b, de, T, Q, E => evE x de T (fun x T1 => evE a de T1 (fun y T2 => evE b de T2 (fun z T3 => dInr x y z fun k => Q k T3) E) E) E
termination_by structural x => x
def evEs : List IE → DEnv → DH → (List D → DH → Prop) → EQ → Prop
  | [], _, T, Q, _ => Q [] T
  | e :: es, de, T, Q, E => evE e de T (fun x T1 => evEs es de T1 (fun xs T2 => Q (x :: xs) T2) E) E
termination_by structural x => x
def evO : Option IE → DEnv → DH → (Option Int → DH → Prop) → EQ → Prop
  | none, _, T, Q, _ => Q none T
  | some e, de, T, Q, E => evE e de T (fun x T1 => ∃ i, x = .int i ∧ Q (some i) T1) E
termination_by structural x => x
def evC : Option IT → DEnv → DH → (Bool → DH → Prop) → EQ → Prop
  | none, _, T, Q, _ => Q true T
  | some c, de, T, Q, E => evT c de T Q E
termination_by structural x => x
def evI : II → DEnv → DH → (Src → DH → Prop) → EQ → Prop
  | .seq e, de, T, S, E => evE e de T (fun x T1 => match x with
      | .tup ds => S ⟨ds, none⟩ T1
      | .lst ds => S ⟨ds, none⟩ T1
      | .scr ns => S ⟨ns.map D.int, none⟩ T1
      | .str s => S ⟨s.cps.toList.map fun c => D.str ⟨#[c]⟩, none⟩ T1
      | .ref a => ∃ ds, T1 a = some (.lst ds) ∧ S ⟨ds, some (a, .lst ds)⟩ T1
      | _ => False) E
  | .rng1 a, de, T, S, E => evE a de T (fun x T1 => ∃ n, x = .int n ∧ -(2 ^ 62) ≤ n ∧ n < 2 ^ 62 ∧ S ⟨(List.range n.toNat).map fun (i : Nat) => D.int i, none⟩ T1) E
  | .rng2 a b, de, T, S, E => evE a de T (fun x T1 => evE b de T1 (fun y T2 => ∃ i j, x = .int i ∧ y = .int j ∧ (-(2 ^ 62) ≤ i ∧ i < 2 ^ 62 ∧ -(2 ^ 62) ≤ j ∧ j < 2 ^ 62) ∧ S ⟨(List.range (j - i).toNat).map fun (k : Nat) => D.int (i + k), none⟩ T2) E) E
  | .rngW a b, de, T, S, E => evE a de T (fun x T1 => evE b de T1 (fun y T2 => ∃ i j, x = .int i ∧ y = .int j ∧ S ⟨(List.range (j - i).toNat).map fun (k : Nat) => D.int (i + k), none⟩ T2) E) E
  | .rng3 a b c, de, T, S, E => evE a de T (fun x T1 => evE b de T1 (fun y T2 => evE c de T2 (fun z T3 => ∃ i j, x = .int i ∧ y = .int j ∧ z = .int (-1) ∧ (-(2 ^ 62) ≤ i ∧ i < 2 ^ 62 ∧ -(2 ^ 62) ≤ j ∧ j < 2 ^ 62) ∧ S ⟨(List.range (i - j).toNat).map fun (k : Nat) => D.int (i - k), none⟩ T3) E) E) E
  | .enum e, de, T, S, E => evE e de T (fun x T1 => enumD x T1 S) E
  | .zip a b, de, T, S, E => evE a de T (fun x T1 => evE b de T1 (fun y T2 => ∃ ds es, frzSeq x = some ds ∧ frzSeq y = some es ∧ S ⟨ds.zipWith (fun d e => D.tup [d, e]) es, none⟩ T2) E) E
  | .items _, _, _, _, _ => False
termination_by structural x => x
end
/-- the loop of a for -/
def forL (g : Tgt) (src : Src) (body : TDS) (D : DEnds) : List DL.D → DEnv → DH → Prop
  | [], de, T => src.ok T ∧ D.nx de T
  | x :: xs, de, T => src.ok T ∧ ∃ de1, bindT g x de = some de1 ∧ body { D with nx := fun de2 T2 => forL g src body D xs de2 T2 } de1 T
mutual
def evS : IS → DEnds → DEnv → DH → Prop
  | .pass, D, de, T => D.nx de T
  | .expr e, D, de, T => evE G e de T (fun _ T1 => D.nx de T1) (fun x T1 => D.ex x de T1)
  | .ret e, D, de, T => evE G e de T D.rt (fun x T1 => D.ex x de T1)
  | .retN, D, de, T => D.rt .non T
  | .set i e, D, de, T => evE G e de T (fun d T1 => D.nx (de.set i (some d)) T1) (fun x T1 => D.ex x de T1)
  | .unp t e, D, de, T => evE G e de T (fun d T1 => ∃ de1, bindT t d de = some de1 ∧ D.nx de1 T1) (fun x T1 => D.ex x de T1)
  | .par i j a b, D, de, T => evE G a de T (fun x T1 => evE G b de T1 (fun y T2 => D.nx ((de.set i (some x)).set j (some y)) T2) (fun x T1 => D.ex x de T1)) (fun x T1 => D.ex x de T1)
  | .put o i e, D, de, T => evE G e de T (fun v T1 => evE G o de T1 (fun x T2 => evE G i de T2 (fun y T3 => dPut x y v T3 fun T4 => D.nx de T4) (fun x T1 => D.ex x de T1)) (fun x T1 => D.ex x de T1)) (fun x T1 => D.ex x de T1)
  | .aug o i e, D, de, T => evE G o de T (fun x T1 => evE G i de T1 (fun y T2 => dGetI x y T2 fun z T3 => evE G e de T3 (fun v T4 => ∃ j k, z = .int j ∧ v = .int k ∧ dPut x y (.int (j + k)) T4 fun T5 => D.nx de T5) (fun x T1 => D.ex x de T1)) (fun x T1 => D.ex x de T1)) (fun x T1 => D.ex x de T1)
  | .ite c a b, D, de, T => evT G c de T (fun k T1 => if k = true then evSs a D de T1 else evSs b D de T1) (fun x T1 => D.ex x de T1)
  | .for_ g it body, D, de, T => evI G it de T (fun src T1 => forL g src (evSs body) D src.xs de T1) (fun x T1 => D.ex x de T1)
  | .while_ c body, D, de, T => ∃ W : Nat → DEnv → DH → Prop, (∃ m, W m de T) ∧ ∀ m de T, W m de T →
      evT G c de T (fun k T1 => if k = true then evSs body { D with nx := fun de2 T2 => ∃ m', m' < m ∧ W m' de2 T2 } de T1 else D.nx de T1) (fun x T1 => D.ex x de T1)
  | .setAct i j, D, de, T => ∃ d, de[j]? = some (some d) ∧ G actIx [d] T (fun v T1 => D.nx (de.set i (some v)) T1) (fun x T1 => D.ex x de T1)
  | .raise c, D, de, T => D.ex ⟨c, []⟩ de T
  | .raiseA c fs es, D, de, T => evEs G es de T (fun ds T1 => D.ex ⟨c, (fs.zip ds).reverse⟩ de T1) (fun x T1 => D.ex x de T1)
  | .try_ ks cs body h, D, de, T => evSs body { D with ex := fun x de1 T1 => x.c ∈ ks ∧ if (cs.any fun d => isEx d x.c) = true then hkD h x D de1 T1 else thru x.c ∧ D.ex x de1 T1 } de T
  | .never, _, _, _ => False
termination_by structural x => x
def evSs : List IS → DEnds → DEnv → DH → Prop
  | [], D, de, T => D.nx de T
  | s :: r, D, de, T => evS s { D with nx := fun de1 T1 => evSs r D de1 T1 } de T
termination_by structural x => x
end
end DL

set_option linter.all false
set_option maxRecDepth 100000
set_option maxHeartbeats 4000000
namespace DL
open PySem PySem.Spec L2

/-! ### errors: those of one class have no context -/
def nbC (K : PySem.W.Frag) (cls : Value) : Prop := ∃ C cd, cls = .ref C ∧ PySem.W.clsIn K C = some cd ∧ cd.name = "NoBar"
def wOut (K : PySem.W.Frag) (W : WX) : WX := fun cls d σ H => W cls d σ H ∧ ¬ nbC K cls
structure Takes (X : Cx) (W : WX) : Prop where
  a : L2.Takes X (wOut X.K W)
  n : L2N.Takes X W
def CXD (K : PySem.W.Frag) (P : Program) (w : World) : CXT := fun outer H s E u s' =>
  L2.CX P w outer H s (fun cls d H' => E cls d H' ∧ ¬ nbC K cls) u s' ∨ L2N.CX P w outer H s E u s'
theorem sky_imp {B : Heap} {l : List Env} {a L : Addr} {Z Z' : Obj → Prop} {h : Heap} (z : ∀ o, Z o → Z' o) (x : Sky B l a Z L h) : Sky B l a Z' L h := by
  rcases x with ⟨h1, h2, h3, oe, vs, h4, h5, h6, h7⟩ | x | x
  · exact .inl ⟨h1, h2, h3, oe, vs, h4, z _ h5, h6, h7⟩
  · exact .inr (.inl (L2H.flyingZ_imp z x))
  · exact .inr (.inr ⟨x.1, x.2.1, x.2.2.1, L2H.tracedZ_imp z x.2.2.2⟩)
theorem takes_L2 {X : Cx} {W : WX} (t : L2.Takes X W) : Takes X W :=
  ⟨t.imp fun _ _ _ _ h => h.1, fun u s' ⟨a, B, sI, pins, σ, H, cls, d, e, I, nb, up, sky, na, os, ag, w⟩ => t u s' ⟨a, B, sI, pins, σ, H, cls, d, e, I, nb, up, sky_imp (fun _ z => z.zc) sky, na, os, ag, w⟩⟩
theorem passAtD {X : Cx} {W : WX} (tk : Takes X W) (σ : L2.St) : PassesAt (CXD X.K X.prog X.w) X σ (WE W σ) := fun _ _ _ e s' I c => by
  rcases c with c | c
  · exact tk.a e s' (L2.XE.of_call I (fun _ _ _ h => h) c)
  · exact tk.n e s' (L2N.XE.of_call I (fun _ _ _ h => h) c)
theorem takes_ofD {X : Cx} {E : XK} (hs : X.stack = X.env :: X.outer) (hf : X.env.frame = some X.env.locals) (hex : X.ex = []) {E₁ : Value → Shared → Prop}
    (hx : X.xe = fun e s' => wpAny (model X.prog X.w) X.A (leaving X.env e) (fun _ s'' => CXD X.K X.prog X.w X.outer X.H_0 X.s_0 E e s'') E₁ s') : Takes X (fun cls d _ H => E cls d H) := by
  refine ⟨fun u s' x => ?_, fun u s' x => ?_⟩
  · rw [hx]
    exact wpAny_mono (L2.XE.leave (E := fun cls d H => E cls d H ∧ ¬ nbC X.K cls) hs hf hex (fun _ _ _ _ h => h) x) (fun _ _ h => .inl h) fun _ _ h => h
  · rw [hx]
    exact wpAny_mono (L2N.XE.leave (E := E) hs hf hex (fun _ _ _ _ h => h) x) (fun _ _ h => .inr h) fun _ _ h => h
/-- the context of a lambda's body -/
def lamD (X : Cx) (A : Around) (outer : List Env) (s : Shared) (H : Hp) (E : XK) (scope : Scope) (f c' : Addr) : Cx :=
  (LamX.lamCx X A outer s H E scope f c').wish fun e s' => wpAny (model X.prog X.w) (A.deeper (LamX.lamEnv X scope s.heap.objs.size f c')) (leaving (LamX.lamEnv X scope s.heap.objs.size f c') e) (fun _ s'' => CXD X.K X.prog X.w outer H s E e s'') (fun e' s'' => CXD X.K X.prog X.w outer H s E e' s'') s'
/-! ### judgements -/
def RelX (K : KZ) (mg : Str → Option Value) (T : DH) (H : Hp) (x : Exn) (cls : Value) (dd : Option Addr) : Prop :=
  ∃ C, cls = .ref C ∧ mg x.c = some (.ref C) ∧ ExR K T H x.fs dd
/-- reached: what a continuation in the abstract heap is handed -/
def ThenE (X : Cx) (Z : Addr → Prop) (T : DH) (H : Hp) (Qd : DQ) (Q : VK) : Prop := ∀ d T' v H', Qd d T' → Fr T H T' H' → RelD ((X.K, X.mg), Z) T' H' d v → RelH ((X.K, X.mg), Z) T' H' → Q v H'
def ThenX (X : Cx) (Z : Addr → Prop) (T : DH) (H : Hp) (E : EQ) (W : WX) (σ : L2.St) : Prop := ∀ x T' cls dd H', E x T' → Fr T H T' H' → RelH ((X.K, X.mg), Z) T' H' → RelX ((X.K, X.mg), Z) X.mg T' H' x cls dd → W cls dd σ H'
theorem ThenX.fr {X : Cx} {Z : Addr → Prop} {T T1 : DH} {H H1 : Hp} {E : EQ} {W : WX} {σ : L2.St} (f : Fr T H T1 H1) (h : ThenX X Z T H E W σ) : ThenX X Z T1 H1 E W σ := fun x T' cls dd H' e g r rx => h x T' cls dd H' e (f.trans g) r rx
def lE (X : Cx) (W : WX) (t : TDE) : TE := fun σ H Q => ∃ Z de T Qd E, RelEnv ((X.K, X.mg), Z) T H de σ ∧ RelH ((X.K, X.mg), Z) T H ∧ t de T Qd E ∧ ThenE X Z T H Qd Q ∧ ThenX X Z T H E W σ
def lT (X : Cx) (W : WX) (t : TDT) : TT := fun σ H Q => ∃ Z de T Qd E, RelEnv ((X.K, X.mg), Z) T H de σ ∧ RelH ((X.K, X.mg), Z) T H ∧ t de T Qd E ∧ (∀ b T' H', Qd b T' → Fr T H T' H' → RelH ((X.K, X.mg), Z) T' H' → Q b H') ∧ ThenX X Z T H E W σ
def lA (X : Cx) (W : WX) (n : Nat) (t : TDA) : TA := fun σ H Q => ∃ Z de T Qd E, RelEnv ((X.K, X.mg), Z) T H de σ ∧ RelH ((X.K, X.mg), Z) T H ∧ t de T Qd E ∧ (∀ ds T' vs H', Qd ds T' → ds.length = n → Fr T H T' H' → RelDs ((X.K, X.mg), Z) T' H' ds vs → RelH ((X.K, X.mg), Z) T' H' → Q vs H') ∧ ThenX X Z T H E W σ
def DE (X : Cx) (e : Expr) (t : TDE) : Prop := ∀ W, Takes X W → PE X e (lE X W t)
def DT (X : Cx) (e : Expr) (t : TDT) : Prop := ∀ W, Takes X W → PT X e (lT X W t)
def DA (X : Cx) (es : List Expr) (n : Nat) (t : TDA) : Prop := ∀ W, Takes X W → PA X es (lA X W n t)
theorem PE_wk {X : Cx} {e : Expr} {t t' : TE} (h : PE X e t) (w : ∀ σ H Q, t' σ H Q → t σ H Q) : PE X e t' := ⟨fun pins s σ H Q I q => h.run pins s σ H Q I (w σ H Q q)⟩
theorem PT_wk {X : Cx} {e : Expr} {t t' : TT} (h : PT X e t) (w : ∀ σ H Q, t' σ H Q → t σ H Q) : PT X e t' := ⟨fun pins s σ H Q I q => h.run pins s σ H Q I (w σ H Q q)⟩
theorem PA_wk {X : Cx} {e : List Expr} {t t' : TA} (h : PA X e t) (w : ∀ σ H Q, t' σ H Q → t σ H Q) : PA X e t' := ⟨fun pos pins s σ H Q I q => h.run pos pins s σ H Q I (w σ H Q q)⟩
theorem PS_wk {X : Cx} {e : Stmt} {t t' : TS} (h : PS X e t) (w : ∀ D σ H, t' D σ H → t D σ H) : PS X e t' := ⟨fun pins s σ H D I q => h.run pins s σ H D I (w D σ H q)⟩
theorem PSs_wk {X : Cx} {e : List Stmt} {t t' : TS} (h : PSs X e t) (w : ∀ D σ H, t' D σ H → t D σ H) : PSs X e t' := ⟨fun pins s σ H D I q => h.run pins s σ H D I (w D σ H q)⟩

/-- an operator by deep values -/
def l2 (X : Cx) (d : D → D → DH → DQ → Prop) : R2 := fun x y H Q => ∃ Z T dx dy Qd, RelH ((X.K, X.mg), Z) T H ∧ RelD ((X.K, X.mg), Z) T H dx x ∧ RelD ((X.K, X.mg), Z) T H dy y ∧ d dx dy T Qd ∧ ThenE X Z T H Qd Q
/-- .. of a value and some more -/
def lM (X : Cx) (d : D → List D → DH → DQ → Prop) : V → List V → Hp → VK → Prop := fun x ys H Q => ∃ Z T dx dys Qd, RelH ((X.K, X.mg), Z) T H ∧ RelD ((X.K, X.mg), Z) T H dx x ∧ RelDs ((X.K, X.mg), Z) T H dys ys ∧ d dx dys T Qd ∧ ThenE X Z T H Qd Q
def lF (X : Cx) (d : List D → DH → DQ → Prop) : List V → Hp → VK → Prop := fun ys H Q => ∃ Z T dys Qd, RelH ((X.K, X.mg), Z) T H ∧ RelDs ((X.K, X.mg), Z) T H dys ys ∧ d dys T Qd ∧ ThenE X Z T H Qd Q
def l1 (X : Cx) (d : D → DH → DQ → Prop) : V → Hp → VK → Prop := fun x H Q => ∃ Z T dx Qd, RelH ((X.K, X.mg), Z) T H ∧ RelD ((X.K, X.mg), Z) T H dx x ∧ d dx T Qd ∧ ThenE X Z T H Qd Q

section
variable {X : Cx} {Z : Addr → Prop} {T : DH} {H : Hp} {Q : VK} {Qd : DQ}
/-- a new list is made -/
theorem newL_ok {m : Bool} {ds : List D} {vs : List V} {p : Addr} (r : RelH ((X.K, X.mg), Z) T H) (rv : RelDs ((X.K, X.mg), Z) T H ds vs) (hp : H p = none) (h : newL m ds T Qd) (q : ThenE X Z T H Qd Q) : Q (.ref p) (upd H p (.lst vs)) := by
  cases m with
  | true =>
    have h : ∀ p, T p = none → Qd (.ref p) (updD T p (.lst ds)) := h
    exact q _ _ _ _ (h p (r.free hp)) (fr_newT hp) rfl (r.newT hp ⟨vs, upd_same, rv.fr (fr_newT hp)⟩)
  | false =>
    have h : Qd (.lst ds) T := h
    exact q _ _ _ _ h (fr_new hp) ⟨p, vs, rfl, upd_same, ⟨r.free hp, r.nothid hp⟩, rv.fr (fr_new hp)⟩ (r.new hp)
theorem newTup_ok {ds : List D} {vs : List V} {p : Addr} (r : RelH ((X.K, X.mg), Z) T H) (rv : RelDs ((X.K, X.mg), Z) T H ds vs) (hp : H p = none) (h : Qd (.tup ds) T) (q : ThenE X Z T H Qd Q) : Q (.ref p) (upd H p (.tup vs)) :=
  q _ _ _ _ h (fr_new hp) ⟨p, vs, rfl, upd_same, ⟨r.free hp, r.nothid hp⟩, rv.fr (fr_new hp)⟩ (r.new hp)
theorem lst_rel {d : D} {v : V} {ds : List D} (r : RelH ((X.K, X.mg), Z) T H) (rv : RelD ((X.K, X.mg), Z) T H d v) (h : lstD T d = some ds) : ∃ a vs, v = .ref a ∧ H a = some (.lst vs) ∧ RelDs ((X.K, X.mg), Z) T H ds vs := by
  cases d <;> simp only [lstD] at h <;> try cases h
  · obtain ⟨a, vs, e, h1, h2, h3⟩ := rv
    exact ⟨a, vs, e, h1, h3⟩
  · rename_i a
    have rv : v = .ref a := rv
    cases e : T a with
    | none => rw [e] at h; cases h
    | some o =>
      rw [e] at h
      cases o <;> try cases h
      obtain ⟨vs, h1, h2⟩ := r.ob a _ e
      exact ⟨a, vs, rv, h1, h2⟩
theorem seq_rel {d : D} {v : V} {ds : List D} (r : RelH ((X.K, X.mg), Z) T H) (rv : RelD ((X.K, X.mg), Z) T H d v) (h : seqD T d = some ds) : ∃ a vs, v = .ref a ∧ (SqL X.K H a vs ∨ SqT X.K H a vs) ∧ RelDs ((X.K, X.mg), Z) T H ds vs := by
  cases d <;> simp only [seqD] at h <;> try cases h
  · obtain ⟨a, vs, e, h1, h2, h3⟩ := rv
    exact ⟨a, vs, e, .inr (.of h1), h3⟩
  · obtain ⟨a, vs, e, h1, h2, h3⟩ := rv
    exact ⟨a, vs, e, .inl (.of h1), h3⟩
  · obtain ⟨a, e, h1⟩ := rv
    refine ⟨a, _, e, .inl ?_, .ofInts _⟩
    rcases h1 with ⟨h1, _⟩ | h1
    · exact .inl h1
    · exact sqK h1
  · rename_i a
    have rv : v = .ref a := rv
    cases e : T a with
    | none => rw [e] at h; cases h
    | some o =>
      rw [e] at h
      cases o <;> try cases h
      obtain ⟨vs, h1, h2⟩ := r.ob a _ e
      exact ⟨a, vs, rv, .inl (.of h1), h2⟩
theorem key_rel {d : D} {v : V} {k : Key} (rv : RelD ((X.K, X.mg), Z) T H d v) (h : keyD d = some k) : v = kV k := by
  cases d <;> simp only [keyD] at h <;> cases h
  · exact rv
  · exact rv
theorem keys_relA : ∀ {ds : List D} {vs : List V} {ks : List Key}, RelDs ((X.K, X.mg), Z) T H ds vs → ds.mapM keyD = some ks → vs = ks.map kV
  | [], _, _, rv, h => by
    have e : _ = [] := rv
    simp at h; subst h; exact e
  | d :: ds, _, ks, rv, h => by
    obtain ⟨v, r, e, h1, h2⟩ := rv
    subst e
    rw [List.mapM_cons] at h
    cases ek : keyD d with
    | none => rw [ek] at h; cases h
    | some k =>
      rw [ek] at h
      cases er : ds.mapM keyD with
      | none => simp [er] at h
      | some ks' =>
        simp [er] at h
        subst h
        rw [List.map_cons, key_rel h1 ek, keys_relA h2 er]
theorem keys_rel {d : D} {v : V} {k : List Key} (rv : RelD ((X.K, X.mg), Z) T H d v) (h : keysD d = some k) : ∃ b, v = .ref b ∧ H b = some (.tup (k.map kV)) := by
  cases d <;> simp only [keysD] at h <;> try cases h
  obtain ⟨a, vs, e, h1, h2, h3⟩ := rv
  rw [keys_relA h3 h] at h1
  exact ⟨a, e, h1⟩
def RelOD (X : Cx) (Z : Addr → Prop) (T : DH) (H : Hp) : Option D → Option V → Prop
  | some d, some v => RelD ((X.K, X.mg), Z) T H d v
  | none, none => True
  | _, _ => False
theorem getK_rel {κ : Type} [DecidableEq κ] {k : κ} : ∀ {ps : List (κ × D)} {ws : List (κ × V)}, RelKs ((X.K, X.mg), Z) T H ps ws → RelOD X Z T H (getK ps k) (valV ws k)
  | [], _, h => by have e : _ = [] := h; subst e; trivial
  | p :: ps, _, h => by
    obtain ⟨v, r, e, h1, h2⟩ := h
    subst e
    by_cases hk : p.1 = k
    · have e : valV ((p.1, v) :: r) k = some v := valV_pos hk
      simp only [getK, if_pos hk, e]
      exact h1
    · have e : valV ((p.1, v) :: r) k = valV r k := valV_neg hk
      simp only [getK, if_neg hk, e]
      exact getK_rel h2
theorem any_rel {κ : Type} [DecidableEq κ] {k : κ} : ∀ {ps : List (κ × D)} {ws : List (κ × V)}, RelKs ((X.K, X.mg), Z) T H ps ws → (ws.any fun kv => decide (kv.1 = k)) = (ps.any fun kv => decide (kv.1 = k))
  | [], _, h => by have e : _ = [] := h; subst e; rfl
  | p :: ps, _, h => by
    obtain ⟨v, r, e, h1, h2⟩ := h
    subst e
    simp only [List.any_cons, any_rel h2]
theorem map_rel {κ : Type} [DecidableEq κ] {k : κ} {d : D} {v : V} (h : RelD ((X.K, X.mg), Z) T H d v) : ∀ {ps : List (κ × D)} {ws : List (κ × V)}, RelKs ((X.K, X.mg), Z) T H ps ws → RelKs ((X.K, X.mg), Z) T H (ps.map fun kv => if kv.1 = k then (kv.1, d) else kv) (ws.map fun kv => if kv.1 = k then (kv.1, v) else kv)
  | [], _, g => by have e : _ = [] := g; subst e; rfl
  | p :: ps, _, g => by
    obtain ⟨u, r, e, h1, h2⟩ := g
    subst e
    by_cases hk : p.1 = k
    · refine ⟨v, _, ?_, ?_, map_rel h h2⟩
      · simp [hk]
      · simp only [if_pos hk]; exact h
    · refine ⟨u, _, ?_, ?_, map_rel h h2⟩
      · simp [hk]
      · simp only [if_neg hk]; exact h1
theorem app_rel {κ : Type} : ∀ {ps qs : List (κ × D)} {ws us : List (κ × V)}, RelKs ((X.K, X.mg), Z) T H ps ws → RelKs ((X.K, X.mg), Z) T H qs us → RelKs ((X.K, X.mg), Z) T H (ps ++ qs) (ws ++ us)
  | [], _, _, _, h, g => by have e : _ = [] := h; subst e; exact g
  | p :: ps, _, _, _, h, g => by
    obtain ⟨v, r, e, h1, h2⟩ := h
    subst e
    exact ⟨v, r ++ _, rfl, h1, app_rel h2 g⟩
theorem putK_rel {κ : Type} [DecidableEq κ] {k : κ} {d : D} {v : V} (h : RelD ((X.K, X.mg), Z) T H d v) {ps : List (κ × D)} {ws : List (κ × V)} (g : RelKs ((X.K, X.mg), Z) T H ps ws) : RelKs ((X.K, X.mg), Z) T H (putKD ps k d) (putK ws k v) := by
  unfold putKD putK
  rw [any_rel g]
  split
  · exact map_rel h g
  · exact app_rel g ⟨v, [], rfl, h, rfl⟩
/-- a key that stands at b -/
def NKey (X : Cx) (Z : Addr → Prop) (T : DH) (H : Hp) (k : D) (y : V) (j : NestedKey) : Prop := keyT k = some j ∧ RelD ((X.K, X.mg), Z) T H k y
theorem dget_rel {d k : D} {v y : V} {o : Option D} (r : RelH ((X.K, X.mg), Z) T H) (rv : RelD ((X.K, X.mg), Z) T H d v) (ry : RelD ((X.K, X.mg), Z) T H k y) (h : dget T d k = some o) :
    (∃ a w, v = .ref a ∧ DGet H a y w ∧ RelOD X Z T H o w) ∨ (∃ a kvs as j, v = .ref a ∧ T a = some (.dN kvs) ∧ H a = some (dnO a kvs as) ∧ RelDs ((X.K, X.mg), Z) T H (kvs.map fun p => ofK p.1) (as.map V.ref) ∧ NKey X Z T H k y j ∧ o = (getK kvs j).map D.int) := by
  cases d <;> simp only [dget] at h <;> try cases h
  rename_i a
  have rv : v = .ref a := rv
  cases e : T a with
  | none => rw [e] at h; cases h
  | some ob =>
    rw [e] at h
    cases ob with
    | lst _ => cases h
    | ins _ _ => cases h
    | exn _ _ => cases h
    | clo _ _ => cases h
    | dK kvs =>
      obtain ⟨ws, h1, h2⟩ := r.ob a _ e
      cases ek : keyD k with
      | none => simp [ek] at h
      | some j =>
        simp [ek] at h
        subst h
        exact .inl ⟨a, valV ws j, rv, by rw [key_rel ry ek]; exact DGet.k h1, getK_rel h2⟩
    | dT kvs =>
      obtain ⟨ws, h1, h2⟩ := r.ob a _ e
      cases ek : keysD k with
      | none => simp [ek] at h
      | some j =>
        simp [ek] at h
        subst h
        obtain ⟨b, e1, e2⟩ := keys_rel ry ek
        exact .inl ⟨a, valV ws j, rv, by rw [e1]; exact DGet.t h1 e2, getK_rel h2⟩
    | dN kvs =>
      obtain ⟨as, h1, h2⟩ := r.ob a _ e
      cases ek : keyT k with
      | none => simp [ek] at h
      | some j =>
        simp [ek] at h
        subst h
        exact .inr ⟨a, kvs, as, j, rv, e, h1, h2, ⟨ek, ry⟩, rfl⟩
end
end DL

set_option linter.all false
set_option maxRecDepth 100000
set_option maxHeartbeats 4000000
namespace DL
open PySem PySem.Spec PyProof.Rows L2
theorem tuple_mul1 (l : Addr) (items : Array Value) (n : Nat) (dd : Option Addr) (sl : Array (Option Value)) (u : Tok) :
    Meets (Builtin.«tuple.__mul__» ⟨[.ref l, .int 1 u], []⟩) (fun _ R s => s.heap.get? l = some { cls := .type "tuple", dict := dd, data := .seq items n, slots := sl } ∧ R (.ok (.ret (Value.ref l))) s) :=
  .of_wp fun prog w A R s h => by
    obtain ⟨hp, g, d, tk, os⟩ := s
    obtain ⟨hl, h⟩ := h
    have f1 := AutoSeq1.idx_int
    have c1 : (items.isEmpty || (1 : Int) == 1) = true := by simp
    wp_walk using wpAny_loadPart' hl
    repeat (first
      | (refine wpAny_ite_false (by decide) ?_; wp_walk using wpAny_loadPart' hl)
      | (refine wpAny_ite_true (decide_eq_true c1) ?_; wp_walk using wpAny_loadPart' hl))
    exact ⟨_, rfl, h⟩
theorem tuple_mul0 (l : Addr) (items : Array Value) (n : Nat) (dd : Option Addr) (sl : Array (Option Value)) (u : Tok) (hn : items.isEmpty = false) :
    Meets (Builtin.«tuple.__mul__» ⟨[.ref l, .int 0 u], []⟩) (fun _ R s => s.heap.get? l = some { cls := .type "tuple", dict := dd, data := .seq items n, slots := sl } ∧
      R (.ok (.ret (Value.ref s.heap.objs.size))) { s with heap := s.heap.push { cls := Value.type "tuple", data := Data.seq #[] }, toks := s.toks }) :=
  .of_wp fun prog w A R s h => by
    obtain ⟨hp, g, d, tk, os⟩ := s
    obtain ⟨hl, h⟩ := h
    have f1 := AutoSeq1.idx_int
    have c1 : (items.isEmpty || (0 : Int) == 1) = false := by rw [hn]; rfl
    wp_walk using wpAny_loadPart' hl
    repeat (first
      | (refine wpAny_ite_false (by decide) ?_; wp_walk using wpAny_loadPart' hl)
      | (refine wpAny_ite_false (decide_eq_false (by rw [c1]; exact Bool.false_ne_true)) ?_; wp_walk using wpAny_loadPart' hl)
      | (refine wpAny_ite_true (by decide) ?_; wp_walk using wpAny_loadPart' hl))
    exact ⟨_, rfl, h⟩
def rRepT1 (K : PySem.W.Frag) : R2 := fun x y H Q => ∃ l xs, x = .ref l ∧ y = .int 1 ∧ SqT K H l xs ∧ Q (.ref l) H
def rRepT0 (K : PySem.W.Frag) : R2 := fun x y H Q => ∃ l xs, x = .ref l ∧ y = .int 0 ∧ SqT K H l xs ∧ xs ≠ [] ∧ ∀ p, H p = none → Q (.ref p) (upd H p (.tup []))
section
variable {X : Cx}
theorem op_repT1 : OpR X (binaryOp .Mult) (rRepT1 X.K) := by
  intro pins s σ H x y v u Q I rx ry h
  obtain ⟨l, xs, rfl, rfl, hT, q⟩ := h
  cases rx
  obtain ⟨t, rfl⟩ := ry
  obtain ⟨its, r, ⟨⟨cls, dd, data, sl⟩, ho, hc, n, hd⟩, hs⟩ := I.tuple hT
  simp only at hc hd
  subst hc hd
  refine wpAny_binaryOp_repeat_ref (T := "tuple") (U := "int") (by decide) ⟨_, ho, rfl⟩ (fun s' => typeIs_int s' 1 t) noFill_tuple_mul F.fills_int_mul F.slot_int_rmul repeat_tuple F.slot_int_index.lookup
    (call_meets F.slot_int_rmul (typeIs_int s 1 t) F.entry_int_rmul (F.args_int_rmul_2 _ _) (int_rmul_tuple 1 t l its.toArray n dd sl)
      ⟨ho, rfl, ⟨_, ho, rfl⟩, call_meets F.slot_tuple_mul ⟨_, ho, rfl⟩ F.entry_tuple_mul (F.args_tuple_mul_2 _ _) (tuple_mul1 l its.toArray n dd sl t) ⟨ho, ?_⟩⟩)
  exact ⟨.ref l, H, I, rfl, q⟩
theorem op_repT0 : OpR X (binaryOp .Mult) (rRepT0 X.K) := by
  intro pins s σ H x y v u Q I rx ry h
  obtain ⟨l, xs, rfl, rfl, hT, hne, q⟩ := h
  cases rx
  obtain ⟨t, rfl⟩ := ry
  obtain ⟨its, r, ⟨⟨cls, dd, data, sl⟩, ho, hc, n, hd⟩, hs⟩ := I.tuple hT
  simp only at hc hd
  subst hc hd
  have hle : its.length = xs.length := r.length.symm
  have hn : its ≠ [] := fun e => hne (by
    rw [e] at hle
    exact List.eq_nil_of_length_eq_zero hle.symm)
  have hi : its.toArray.isEmpty = false := by
    cases its with
    | nil => exact absurd rfl hn
    | cons a b => rfl
  refine wpAny_binaryOp_repeat_ref (T := "tuple") (U := "int") (by decide) ⟨_, ho, rfl⟩ (fun s' => typeIs_int s' 0 t) noFill_tuple_mul F.fills_int_mul F.slot_int_rmul repeat_tuple F.slot_int_index.lookup
    (call_meets F.slot_int_rmul (typeIs_int s 0 t) F.entry_int_rmul (F.args_int_rmul_2 _ _) (int_rmul_tuple 0 t l its.toArray n dd sl)
      ⟨ho, rfl, ⟨_, ho, rfl⟩, call_meets F.slot_tuple_mul ⟨_, ho, rfl⟩ F.entry_tuple_mul (F.args_tuple_mul_2 _ _) (tuple_mul0 l its.toArray n dd sl t hi) ⟨ho, ?_⟩⟩)
  refine ⟨.ref s.heap.objs.size, _, I.laid (t' := s.toks) (o := .tup []) (fun b ob q => Heap.get?_push_of_some _ q) (Nat.le_refl _) ?_, rfl, q _ (I.hok.fresh (Nat.le_refl _))⟩
  exact ⟨by simp [sizeLine_eq], _, .nil, IsTup.new _ _⟩
end
end DL

set_option linter.all false
set_option maxRecDepth 100000
set_option maxHeartbeats 4000000
namespace DL
open PySem PySem.Spec L2
section
variable {X : Cx} {Z : Addr → Prop} {m : Bool}
theorem op_addD : OpR X (binaryOp .Add) (l2 X (dBin .add m)) := by
  intro pins s σ H x y v u Q I rx ry ⟨Z, T, dx, dy, Qd, rh, r1, r2, h, q⟩
  have h : dAdd m dx dy T Qd := h
  unfold dAdd at h
  split at h
  · exact op_add pins s σ H x y v u Q I rx ry ⟨_, _, r1, r2, q _ _ _ _ h .refl rfl rh⟩
  · exact op_add_str pins s σ H x y v u Q I rx ry ⟨_, _, r1, r2, h.1, q _ _ _ _ h.2 .refl rfl rh⟩
  · obtain ⟨a, vs, e1, h1, t1, g1⟩ := r1
    obtain ⟨b, us, e2, h2, t2, g2⟩ := r2
    refine op_catA pins s σ H x y v u Q I rx ry ⟨a, b, vs, us, e1, e2, .of h1, .of h2, by rw [g1.length, g2.length]; exact h.1, fun e => ?_, fun e e' => ?_, fun e e' p hp => ?_⟩
    · have l1 := g1.length
      rw [e] at l1
      have l0 : (_ : List D) = [] := List.eq_nil_of_length_eq_zero l1.symm
      rw [l0] at h
      exact q _ _ _ _ h.2 .refl ⟨b, us, rfl, h2, t2, g2⟩ rh
    · have l1 := g2.length
      rw [e'] at l1
      have l0 : (_ : List D) = [] := List.eq_nil_of_length_eq_zero l1.symm
      rw [l0, List.append_nil] at h
      exact q _ _ _ _ h.2 .refl ⟨a, vs, rfl, h1, t1, g1⟩ rh
    · exact newTup_ok rh (g1.append g2) hp h.2 q
  · rename_i a b _ _ _
    obtain ⟨i, j, h1, h2, h3, h4⟩ := h
    obtain ⟨p, vs, e1, g1, k1⟩ := lst_rel rh r1 h1
    obtain ⟨p2, us, e2, g2, k2⟩ := lst_rel rh r2 h2
    exact op_cat pins s σ H x y v u Q I rx ry ⟨p, p2, vs, us, e1, e2, g1, g2, by rw [k1.length, k2.length]; exact h3, fun p hp => newL_ok rh (k1.append k2) hp h4 q⟩
theorem op_subD : OpR X (binaryOp .Sub) (l2 X (dBin .sub m)) := by
  intro pins s σ H x y v u Q I rx ry ⟨Z, T, dx, dy, Qd, rh, r1, r2, h, q⟩
  have h : dSub dx dy T Qd := h
  unfold dSub at h
  split at h
  · exact op_sub pins s σ H x y v u Q I rx ry ⟨_, _, r1, r2, q _ _ _ _ h .refl rfl rh⟩
  · exact h.elim
theorem fold_size : ∀ (k : Nat) (a b : Array Nat), ((List.replicate k a).foldl (· ++ ·) b).size = b.size + k * a.size
  | 0, a, b => by simp
  | k + 1, a, b => by
    rw [List.replicate_succ, List.foldl_cons, fold_size k a (b ++ a), Array.size_append, Nat.add_mul]; omega
theorem repS_len (s : Str) (k : Nat) : (repS s k).length = k * s.length := by
  show ((List.replicate k s.cps).foldl (· ++ ·) #[]).size = k * s.cps.size
  rw [fold_size]; simp
theorem repS_nil {s : Str} {k : Nat} (h : s.length = 0) : repS s k = s := by
  have h1 := repS_len s k
  rw [h, Nat.mul_zero] at h1
  have e1 : s.cps = #[] := Array.eq_empty_of_size_eq_zero h
  have e2 : (repS s k).cps = #[] := Array.eq_empty_of_size_eq_zero h1
  obtain ⟨c⟩ := s
  show (⟨(repS ⟨c⟩ k).cps⟩ : Str) = ⟨c⟩
  rw [e2, show c = #[] from e1]
theorem op_mulD : OpR X (binaryOp .Mult) (l2 X (dBin .mul m)) := by
  intro pins s σ H x y v u Q I rx ry ⟨Z, T, dx, dy, Qd, rh, r1, r2, h, q⟩
  have h : dMul m dx dy T Qd := h
  unfold dMul at h
  split at h
  · exact op_mulW pins s σ H x y v u Q I rx ry ⟨_, _, r1, r2, h.1, q _ _ _ _ h.2 .refl rfl rh⟩
  · obtain ⟨a, vs, e1, h1, t1, g1⟩ := r1
    rcases h with h | ⟨ek, h⟩ | ⟨ek, h2, h6⟩
    · obtain ⟨h2, h3, h4, h5, h6⟩ := h
      refine op_repT pins s σ H x y v u Q I rx ry ⟨a, _, vs, e1, r2, .of h1, fun e => ?_, h3, h4, by rw [g1.length]; exact h5, fun p hp => newTup_ok rh (g1.rep _) hp h6 q⟩
      have l1 := g1.length
      rw [e] at l1
      exact h2 (List.eq_nil_of_length_eq_zero l1.symm)
    · rw [ek] at r2
      exact op_repT1 pins s σ H x y v u Q I rx ry ⟨a, vs, e1, r2, .of h1, q _ _ _ _ h .refl ⟨a, vs, rfl, h1, t1, g1⟩ rh⟩
    · rw [ek] at r2
      refine op_repT0 pins s σ H x y v u Q I rx ry ⟨a, vs, e1, r2, .of h1, fun e => ?_, fun p hp => newTup_ok (ds := []) (vs := []) rh (by simp [RelDs]) hp h6 q⟩
      have l1 := g1.length
      rw [e] at l1
      exact h2 (List.eq_nil_of_length_eq_zero l1.symm)
  · rename_i z k _
    obtain ⟨h2, h3, h4, h5⟩ := h
    rw [show x = .str z from r1] at rx
    rw [show y = .int k from r2] at ry
    obtain ⟨t, rfl⟩ := rx
    obtain ⟨t', rfl⟩ := ry
    have hb : z.length * k.toNat ≤ 1000000 := Nat.mul_le_mul h4 (show k.toNat ≤ 1000 by omega)
    refine PySem.P.mul_str (by rw [decide_eq_false (by omega), decide_eq_false (by omega)]; rfl) (fun hk1 _ => ?_) (fun _ _ => ?_) ?_
    · have h6 : (1000 : Int) ≤ (2 ^ 63 - 1) / k := Int.le_ediv_of_mul_le (by omega) (by omega)
      omega
    · show decide (z.length * k.toNat > sizeLine) = false
      rw [sizeLine_eq]; exact decide_eq_false (by omega)
    · by_cases hk0 : k < 1
      · rw [if_pos hk0]
        have e0 : k.toNat = 0 := by omega
        rw [e0] at h5
        exact ⟨by show (0 : Nat) ≤ sizeLine; omega, .str (repS z 0), H, I.tok _, ⟨_, rfl⟩, q _ _ _ _ h5 .refl rfl rh⟩
      rw [if_neg hk0]
      split
      · rename_i hz
        have hz : repS z k.toNat = z := by
          rcases Bool.or_eq_true_iff.mp hz with hz | hz
          · have : k = 1 := by simpa using hz
            subst this
            obtain ⟨c⟩ := z
            show (⟨#[] ++ c⟩ : Str) = ⟨c⟩
            simp
          · exact repS_nil (by simpa using hz)
        rw [hz] at h5
        exact ⟨.str z, H, I, ⟨_, rfl⟩, q _ _ _ _ h5 .refl rfl rh⟩
      · refine ⟨?_, .str (repS z k.toNat), H, I.tok _, ⟨_, rfl⟩, q _ _ _ _ h5 .refl rfl rh⟩
        show (repS z k.toNat).length ≤ sizeLine
        rw [repS_len, sizeLine_eq, Nat.mul_comm]; omega
  · obtain ⟨i, h1, h2, h3, h4, h5⟩ := h
    obtain ⟨p, vs, e1, g1, k1⟩ := lst_rel rh r1 h1
    exact op_rep pins s σ H x y v u Q I rx ry ⟨p, _, vs, e1, r2, g1, h2, h3, by rw [k1.length]; exact h4, fun p hp => newL_ok rh (k1.rep _) hp h5 q⟩
  · exact h.elim
theorem op_fdivD : OpR X (binaryOp .FloorDiv) (l2 X (dBin .fdiv m)) := by
  intro pins s σ H x y v u Q I rx ry ⟨Z, T, dx, dy, Qd, rh, r1, r2, h, q⟩
  have h : dFdiv dx dy T Qd := h
  unfold dFdiv at h
  split at h
  · exact op_fdivW pins s σ H x y v u Q I rx ry ⟨_, _, r1, r2, h.1, q _ _ _ _ h.2 .refl rfl rh⟩
  · exact h.elim
theorem op_modD : OpR X (binaryOp .Mod) (l2 X (dBin .mod m)) := by
  intro pins s σ H x y v u Q I rx ry ⟨Z, T, dx, dy, Qd, rh, r1, r2, h, q⟩
  have h : dMod dx dy T Qd := h
  unfold dMod at h
  split at h
  · exact op_mod pins s σ H x y v u Q I rx ry ⟨_, _, r1, r2, h.1, q _ _ _ _ h.2 .refl rfl rh⟩
  · exact h.elim
theorem op_powD : OpR X (binaryOp .Pow) (l2 X (dBin .pow m)) := by
  intro pins s σ H x y v u Q I rx ry ⟨Z, T, dx, dy, Qd, rh, r1, r2, h, q⟩
  have h : dPow dx dy T Qd := h
  unfold dPow at h
  split at h
  · exact op_pow pins s σ H x y v u Q I rx ry ⟨_, _, r1, r2, h.1, q _ _ _ _ h.2 .refl rfl rh⟩
  · exact h.elim
def bopOf : Bop → Operator
  | .add => .Add | .sub => .Sub | .mul => .Mult | .fdiv => .FloorDiv | .mod => .Mod | .pow => .Pow
theorem op_binD (o : Bop) : OpR X (binaryOp (bopOf o)) (l2 X (dBin o m)) := by
  cases o
  · exact op_addD
  · exact op_subD
  · exact op_mulD
  · exact op_fdivD
  · exact op_modD
  · exact op_powD
/-! ### comparisons -/
mutual
theorem dp_rel {T : DH} {H : Hp} : ∀ {d : D} {v : V} {p : PyData}, RelD ((X.K, X.mg), Z) T H d v → pyD T d = some p → Dp X.K H v p
  | .non, v, p, r, h => by simp only [pyD] at h; cases h; rw [show v = .non from r]; exact .non
  | .bl b, v, p, r, h => by simp only [pyD] at h; cases h; rw [show v = .bl b from r]; exact .bl b
  | .int b, v, p, r, h => by simp only [pyD] at h; cases h; rw [show v = .int b from r]; exact .int b
  | .str b, v, p, r, h => by simp only [pyD] at h; cases h; rw [show v = .str b from r]; exact .str b
  | .tup ds, v, p, r, h => by
    obtain ⟨a, vs, e, h1, h2, h3⟩ := r
    simp only [pyD] at h
    cases e2 : pyDs T ds with
    | none => rw [e2] at h; cases h
    | some ps => rw [e2] at h; cases h; rw [e]; exact .tup (.of h1) (dps_rel h3 e2)
  | .lst ds, v, p, r, h => by
    obtain ⟨a, vs, e, h1, h2, h3⟩ := r
    simp only [pyD] at h
    cases e2 : pyDs T ds with
    | none => rw [e2] at h; cases h
    | some ps => rw [e2] at h; cases h; rw [e]; exact .lst (.of h1) (dps_rel h3 e2)
  | .emp, v, p, r, h => by simp only [pyD] at h; cases h
  | .scr ns, v, p, r, h => by
    obtain ⟨a, e, h1⟩ := r
    simp only [pyD] at h; cases h
    rw [e]
    refine .lst ?_ (dps_ints ns)
    rcases h1 with ⟨h1, _⟩ | h1
    · exact .inl h1
    · exact sqK h1
  | .ref a, v, p, r, h => by simp only [pyD] at h; cases h
theorem dps_rel {T : DH} {H : Hp} : ∀ {ds : List D} {vs : List V} {ps : List PyData}, RelDs ((X.K, X.mg), Z) T H ds vs → pyDs T ds = some ps → DpAll X.K H vs ps
  | [], vs, ps, r, h => by simp only [pyDs] at h; cases h; rw [show vs = [] from r]; exact .nil
  | d :: ds, vs, ps, r, h => by
    obtain ⟨v, r', e, h1, h2⟩ := r
    simp only [pyDs] at h
    cases e1 : pyD T d with
    | none => rw [e1] at h; cases h
    | some q =>
      cases e2 : pyDs T ds with
      | none => rw [e1, e2] at h; cases h
      | some qs => rw [e1, e2] at h; cases h; rw [e]; exact .cons (dp_rel h1 e1) (dps_rel h2 e2)
theorem dps_ints {H : Hp} : ∀ ns : List Int, DpAll X.K H (ns.map V.int) (ns.map .int)
  | [] => .nil
  | n :: ns => .cons (.int n) (dps_ints ns)
end
mutual
theorem dw_rel {T : DH} {H : Hp} {rf : Addr → Option PyData} (hf : ∀ a p, rf a = some p → Dp X.K H (.ref a) p) : ∀ {d : D} {v : V} {p : PyData}, RelD ((X.K, X.mg), Z) T H d v → pyW rf d = some p → Dp X.K H v p
  | .non, v, p, r, h => by simp only [pyW] at h; cases h; rw [show v = .non from r]; exact .non
  | .bl b, v, p, r, h => by simp only [pyW] at h; cases h; rw [show v = .bl b from r]; exact .bl b
  | .int b, v, p, r, h => by simp only [pyW] at h; cases h; rw [show v = .int b from r]; exact .int b
  | .str b, v, p, r, h => by simp only [pyW] at h; cases h; rw [show v = .str b from r]; exact .str b
  | .tup ds, v, p, r, h => by
    obtain ⟨a, vs, e, h1, h2, h3⟩ := r
    simp only [pyW] at h
    cases e2 : pyWs rf ds with
    | none => rw [e2] at h; cases h
    | some ps => rw [e2] at h; cases h; rw [e]; exact .tup (.of h1) (dws_rel hf h3 e2)
  | .lst ds, v, p, r, h => by
    obtain ⟨a, vs, e, h1, h2, h3⟩ := r
    simp only [pyW] at h
    cases e2 : pyWs rf ds with
    | none => rw [e2] at h; cases h
    | some ps => rw [e2] at h; cases h; rw [e]; exact .lst (.of h1) (dws_rel hf h3 e2)
  | .emp, v, p, r, h => by simp only [pyW] at h; cases h
  | .scr ns, v, p, r, h => dp_rel r (show pyD T (.scr ns) = some p by simp only [pyW] at h; simp only [pyD]; exact h)
  | .ref a, v, p, r, h => by
    simp only [pyW] at h
    rw [show v = .ref a from r]; exact hf a p h
theorem dws_rel {T : DH} {H : Hp} {rf : Addr → Option PyData} (hf : ∀ a p, rf a = some p → Dp X.K H (.ref a) p) : ∀ {ds : List D} {vs : List V} {ps : List PyData}, RelDs ((X.K, X.mg), Z) T H ds vs → pyWs rf ds = some ps → DpAll X.K H vs ps
  | [], vs, ps, r, h => by simp only [pyWs] at h; cases h; rw [show vs = [] from r]; exact .nil
  | d :: ds, vs, ps, r, h => by
    obtain ⟨v, r', e, h1, h2⟩ := r
    simp only [pyWs] at h
    cases e1 : pyW rf d with
    | none => rw [e1] at h; cases h
    | some q =>
      cases e2 : pyWs rf ds with
      | none => rw [e1, e2] at h; cases h
      | some qs => rw [e1, e2] at h; cases h; rw [e]; exact .cons (dw_rel hf h1 e1) (dws_rel hf h2 e2)
end
theorem rfN_rel {T : DH} {H : Hp} (rh : RelH ((X.K, X.mg), Z) T H) : ∀ (n : Nat) (a : Addr) (p : PyData), rfN T n a = some p → Dp X.K H (.ref a) p
  | 0, a, p, h => by cases h
  | n + 1, a, p, h => by
    unfold rfN at h
    cases e : T a with
    | none => rw [e] at h; cases h
    | some o =>
      rw [e] at h
      cases o <;> try cases h
      rename_i ds
      cases e2 : pyWs (rfN T n) ds with
      | none => simp [e2] at h
      | some ps =>
        simp [e2] at h
        obtain ⟨vs, h1, h2⟩ := rh.ob a _ e
        rw [← h]
        exact .lst (.of h1) (dws_rel (rfN_rel rh n) h2 e2)
theorem dpt_rel {T : DH} {H : Hp} {d : D} {v : V} {p : PyData} (rh : RelH ((X.K, X.mg), Z) T H) (r : RelD ((X.K, X.mg), Z) T H d v) (h : pyT T d = some p) : Dp X.K H v p := dw_rel (rfN_rel rh 4) r h
theorem lens_ne {X : Cx} {Z : Addr → Prop} {pins : List (Addr × Obj)} {σ : L2.St} {H : Hp} {s : Shared} {T : DH} {x y : D} {v w : V} {u1 u2 : Value} {ds es : List D} (I : Inv X pins σ H s) (rh : RelH ((X.K, X.mg), Z) T H) (r1 : RelD ((X.K, X.mg), Z) T H x v) (r2 : RelD ((X.K, X.mg), Z) T H y w) (e1 : RelV v u1) (e2 : RelV w u2) (h1 : lstD T x = some ds) (h2 : lstD T y = some es) (h : ds.length ≠ es.length) :
    ∃ (a b : Addr) (i1 i2 : Array Value), u1 = .ref a ∧ u2 = .ref b ∧ s.heap.IsList a i1 ∧ s.heap.IsList b i2 ∧ (i1.size != i2.size) = true := by
  obtain ⟨a, vs, rfl, g1, k1⟩ := lst_rel rh r1 h1
  obtain ⟨b, ws, rfl, g2, k2⟩ := lst_rel rh r2 h2
  obtain ⟨i1, q1, p1, -⟩ := I.list (SqL.of g1)
  obtain ⟨i2, q2, p2, -⟩ := I.list (SqL.of g2)
  refine ⟨a, b, i1.toArray, i2.toArray, e1, e2, p1.isList, p2.isList, ?_⟩
  rw [bne_iff_ne, List.size_toArray, List.size_toArray, ← q1.length, ← q2.length, k1.length, k2.length]
  exact h
theorem tup_nil {X : Cx} {Z : Addr → Prop} {pins : List (Addr × Obj)} {σ : L2.St} {H : Hp} {s : Shared} {T : DH} {v w : V} {u1 u2 : Value} {ds : List D} (I : Inv X pins σ H s) (r1 : RelD ((X.K, X.mg), Z) T H (.tup ds) v) (r2 : RelD ((X.K, X.mg), Z) T H (.tup []) w) (e1 : RelV v u1) (e2 : RelV w u2) :
    ∃ (a b : Addr) (i1 i2 : Array Value), u1 = .ref a ∧ u2 = .ref b ∧ s.heap.IsTuple a i1 ∧ s.heap.IsTuple b i2 ∧ i1.size = ds.length ∧ i2.size = 0 := by
  obtain ⟨a, vs, rfl, g1, -, k1⟩ := r1
  obtain ⟨b, ws, rfl, g2, -, k2⟩ := r2
  obtain ⟨i1, q1, p1, -⟩ := I.tuple (SqT.of g1)
  obtain ⟨i2, q2, p2, -⟩ := I.tuple (SqT.of g2)
  refine ⟨a, b, i1.toArray, i2.toArray, e1, e2, p1, p2, ?_, ?_⟩
  · rw [List.size_toArray, ← q1.length, k1.length]
  · rw [List.size_toArray, ← q2.length, k2.length]; rfl
theorem all_min0 {e : Nat → Bool} {n m : Nat} (hm : m = 0) : ((List.range (min n m)).all e && n == m) = decide (n = 0) := by
  subst hm
  rw [Nat.min_zero]
  show (true && n == 0) = _
  rw [Bool.true_and]; rfl
theorem isEmpty_dec {α : Type} (l : List α) : decide (l.length = 0) = l.isEmpty := by cases l <;> simp
theorem op_eqG (hu : X.A.units + 64 < cLine) : OpR X (compareOp .Eq) (fun x y H Q => ∃ Z T dx dy, RelH ((X.K, X.mg), Z) T H ∧ RelD ((X.K, X.mg), Z) T H dx x ∧ RelD ((X.K, X.mg), Z) T H dy y ∧ dEq T dx dy fun b => Q (.bl b) H) := by
  intro pins s σ H x y v u Q I rx ry ⟨Z, T, dx, dy, rh, r1, r2, h⟩
  unfold dEq at h
  split at h
  · refine op_eq pins s σ H x y v u Q I rx ry ?_
    rw [show x = _ from r1, show y = _ from r2]
    exact ⟨rfl, by simpa using h⟩
  · refine op_eq pins s σ H x y v u Q I rx ry ?_
    rw [show x = _ from r1, show y = _ from r2]
    exact ⟨rfl, by simpa using h⟩
  · refine op_eq pins s σ H x y v u Q I rx ry ?_
    rw [show x = _ from r1, show y = _ from r2]
    exact ⟨rfl, by simpa using h⟩
  · rcases h with ⟨p, q, h1, h2, h3, h4, h5⟩ | ⟨ds, es, h1, h2, h3, h4⟩ | ⟨ds, rfl, rfl, h4⟩
    rotate_left 2
    · obtain ⟨a, b, i1, i2, rfl, rfl, l1, l2, l3, l4⟩ := tup_nil I r1 r2 rx ry
      have e : ((List.range (min i1.size i2.size)).all (fun _ => true) && i1.size == i2.size) = ds.isEmpty := by rw [all_min0 l4, l3, isEmpty_dec]
      exact SeqAt.eq_tupleAt (e := fun _ => true) l1 l2 (by omega) (fun j h1 h2 => absurd h2 (by omega)) (by rw [e]; exact ⟨.bl ds.isEmpty, H, I, rfl, h4⟩)
    · exact op_eqD hu pins s σ H x y v u Q I rx ry ⟨p, q, dpt_rel rh r1 h1, dpt_rel rh r2 h2, h3, h4, h5⟩
    · obtain ⟨a, b, i1, i2, rfl, rfl, l1, l2, l3⟩ := lens_ne I rh r1 r2 rx ry h1 h2 h3
      exact SeqAt.eq_list_lengthsAt l1 l2 l3 (by omega) ⟨.bl false, H, I, rfl, h4⟩
theorem op_neG (hu : X.A.units + 64 < cLine) : OpR X (compareOp .NotEq) (fun x y H Q => ∃ Z T dx dy, RelH ((X.K, X.mg), Z) T H ∧ RelD ((X.K, X.mg), Z) T H dx x ∧ RelD ((X.K, X.mg), Z) T H dy y ∧ dEq T dx dy fun b => Q (.bl (!b)) H) := by
  intro pins s σ H x y v u Q I rx ry ⟨Z, T, dx, dy, rh, r1, r2, h⟩
  unfold dEq at h
  split at h
  · refine op_ne pins s σ H x y v u Q I rx ry ?_
    rw [show x = _ from r1, show y = _ from r2]
    exact ⟨rfl, by simpa using h⟩
  · refine op_ne pins s σ H x y v u Q I rx ry ?_
    rw [show x = _ from r1, show y = _ from r2]
    exact ⟨rfl, by simpa using h⟩
  · refine op_ne pins s σ H x y v u Q I rx ry ?_
    rw [show x = _ from r1, show y = _ from r2]
    exact ⟨rfl, by simpa using h⟩
  · rcases h with ⟨p, q, h1, h2, h3, h4, h5⟩ | ⟨ds, es, h1, h2, h3, h4⟩ | ⟨ds, rfl, rfl, h4⟩
    rotate_left 2
    · obtain ⟨a, b, i1, i2, rfl, rfl, l1, l2, l3, l4⟩ := tup_nil I r1 r2 rx ry
      have e : ((List.range (min i1.size i2.size)).all (fun _ => true) && i1.size == i2.size) = ds.isEmpty := by rw [all_min0 l4, l3, isEmpty_dec]
      exact SeqAt.RcNeAt.tuples (e := fun _ => true) l1 l2 (by omega) (fun j h1 h2 => absurd h2 (by omega)) _ _ _ _ (by rw [e]; exact ⟨.bl (!ds.isEmpty), H, I, rfl, h4⟩)
    · exact op_neD hu pins s σ H x y v u Q I rx ry ⟨p, q, dpt_rel rh r1 h1, dpt_rel rh r2 h2, h3, h4, h5⟩
    · obtain ⟨a, b, i1, i2, rfl, rfl, l1, l2, l3⟩ := lens_ne I rh r1 r2 rx ry h1 h2 h3
      exact SeqAt.RcNeAt.lists_lengths l1 l2 l3 (by omega) _ _ _ _ ⟨.bl true, H, I, rfl, h4⟩
theorem dEq_mono {T : DH} {x y : D} {k k' : Bool → Prop} (h : dEq T x y k) (w : ∀ b, k b → k' b) : dEq T x y k' := by
  unfold dEq at h ⊢
  split at h
  · exact w _ h
  · exact w _ h
  · exact w _ h
  · rcases h with ⟨p, q, h1, h2, h3, h4, h5⟩ | ⟨ds, es, h1, h2, h3, h4⟩ | ⟨ds, h1, h2, h4⟩
    · exact .inl ⟨p, q, h1, h2, h3, h4, w _ h5⟩
    · exact .inr (.inl ⟨ds, es, h1, h2, h3, w _ h4⟩)
    · exact .inr (.inr ⟨ds, h1, h2, w _ h4⟩)
theorem dIn_mono {T : DH} {x y : D} {k k' : Bool → Prop} (h : dIn T x y k) (w : ∀ b, k b → k' b) : dIn T x y k' := by
  unfold dIn at h ⊢
  split at h
  · split at h
    · exact w _ h
    · exact h
  · rcases h with ⟨h1, o, h2, h3⟩ | ⟨p, ys, qs, h1, h2, h3, h4, h5, h6⟩
    · exact .inl ⟨h1, o, h2, w _ h3⟩
    · exact .inr ⟨p, ys, qs, h1, h2, h3, h4, h5, w _ h6⟩
end
end DL

set_option linter.all false
set_option maxRecDepth 100000
set_option maxHeartbeats 4000000
namespace DL
open PySem PySem.Spec L2
mutual
theorem hash_num (w w' : World) : ∀ k : NestedKey, numK k = true → k.hash w = k.hash w'
  | .num _, _ => rfl
  | .tup ks, h => by
    unfold numK at h
    unfold NestedKey.hash
    rw [hashes_num w w' ks h]
  | .none, h => by unfold numK at h; cases h
  | .text _, h => by unfold numK at h; cases h
theorem hashes_num (w w' : World) : ∀ ks : List NestedKey, numKs ks = true → NestedKey.hashes w ks = NestedKey.hashes w' ks
  | [], _ => rfl
  | k :: ks, h => by
    unfold numKs at h
    rw [Bool.and_eq_true] at h
    unfold NestedKey.hashes
    rw [hash_num w w' k h.1, hashes_num w w' ks h.2]
end
theorem isNK_num {k : NestedKey} (h : isNK k = true) : numK k = true ∧ k.depth ≤ 8 := by
  cases k <;> unfold isNK at h <;> try cases h
  rw [Bool.and_eq_true, decide_eq_true_eq] at h
  exact ⟨by unfold numK; exact h.1, h.2⟩
mutual
theorem key_of : ∀ (d : D) (k : NestedKey), keyN d = some k → d = ofK k
  | .int i, k, h => by unfold keyN at h; cases h; rfl
  | .tup ds, k, h => by
    unfold keyN at h
    cases e : keyNs ds with
    | none => rw [e] at h; cases h
    | some ks => rw [e] at h; cases h; unfold ofK; rw [keys_of ds ks e]
  | .non, _, h => by unfold keyN at h; cases h
  | .bl _, _, h => by unfold keyN at h; cases h
  | .str _, _, h => by unfold keyN at h; cases h
  | .lst _, _, h => by unfold keyN at h; cases h
  | .scr _, _, h => by unfold keyN at h; cases h
  | .ref _, _, h => by unfold keyN at h; cases h
theorem keys_of : ∀ (ds : List D) (ks : List NestedKey), keyNs ds = some ks → ds = ofKs ks
  | [], ks, h => by unfold keyNs at h; cases h; rfl
  | d :: ds, ks, h => by
    unfold keyNs at h
    cases e1 : keyN d with
    | none => rw [e1] at h; cases h
    | some k =>
      cases e2 : keyNs ds with
      | none => rw [e1, e2] at h; cases h
      | some ks' => rw [e1, e2] at h; cases h; unfold ofKs; rw [key_of d k e1, keys_of ds ks' e2]
end
theorem keyT_of {d : D} {k : NestedKey} (h : keyT d = some k) : d = ofK k ∧ isNK k = true := by
  unfold keyT at h
  cases e : keyN d with
  | none => rw [e] at h; cases h
  | some k' =>
    rw [e] at h
    simp only at h
    split at h
    · cases h; exact ⟨key_of d _ e, by assumption⟩
    · cases h
section
variable {X : Cx} {Z : Addr → Prop} {T : DH} {H : Hp} {pins : List (Addr × Obj)} {σ : L2.St} {s : Shared}
mutual
theorem nested_rel (I : Inv X pins σ H s) : ∀ (k : NestedKey) (v : V) (u : Value), numK k = true → RelD ((X.K, X.mg), Z) T H (ofK k) v → RelV v u → NestedIs s.heap k u
  | .num i, v, u, _, r, ru => by
    unfold ofK at r
    rw [show v = .int i from r] at ru
    obtain ⟨t, rfl⟩ := ru
    exact .int i t
  | .tup ks, v, u, h, r, ru => by
    unfold numK at h
    unfold ofK at r
    obtain ⟨a, vs, e, h1, _, h3⟩ := r
    subst e
    obtain rfl : u = Value.ref a := ru
    obtain ⟨_, its, rv, o, ho, hc, n, hd⟩ := I.hok a _ h1
    exact .tup ho hc hd (by simpa using nesteds_rel I ks vs its h h3 rv)
  | .none, _, _, h, _, _ => by unfold numK at h; cases h
  | .text _, _, _, h, _, _ => by unfold numK at h; cases h
theorem nesteds_rel (I : Inv X pins σ H s) : ∀ (ks : List NestedKey) (vs : List V) (us : List Value), numKs ks = true → RelDs ((X.K, X.mg), Z) T H (ofKs ks) vs → Vals vs us → NestedAll s.heap ks us
  | [], vs, us, _, r, ru => by
    unfold ofKs at r
    have e : vs = [] := r
    subst e
    cases ru
    exact .nil
  | k :: ks, vs, us, h, r, ru => by
    unfold numKs at h
    rw [Bool.and_eq_true] at h
    unfold ofKs at r
    obtain ⟨v, r', e, h1, h2⟩ := r
    subst e
    cases ru with
    | cons r1 r2 => exact .cons (nested_rel I k _ _ h.1 h1 r1) (nesteds_rel I ks _ _ h.2 h2 r2)
end
theorem nkey_at (I : Inv X pins σ H s) {k : D} {y : V} {j : NestedKey} {u : Value} (h : NKey X Z T H k y j) (ru : RelV y u) : ∃ b, y = .ref b ∧ u = .ref b ∧ (nestedKind X.prog X.w).is s.heap j b := by
  obtain ⟨e, r⟩ := h
  obtain ⟨e1, e2⟩ := keyT_of e
  subst e1
  obtain ⟨n1, n2⟩ := isNK_num e2
  have q := nested_rel I j y u n1 r ru
  cases j with
  | tup ks =>
    unfold ofK at r
    obtain ⟨b, vs, e, _⟩ := r
    subst e
    obtain rfl : u = Value.ref b := ru
    exact ⟨b, rfl, rfl, q, n2⟩
  | _ => cases e2
theorem xs_len : ∀ {kvs : List (NestedKey × Int)} {as : List Addr} {xs : List (NestedKey × Addr × Value)}, XsN kvs as xs → xs.length = kvs.length ∧ as.length = kvs.length
  | [], [], _, h => by rw [show _ = [] from h]; exact ⟨rfl, rfl⟩
  | [], _ :: _, _, h => h.elim
  | _ :: _, [], _, h => h.elim
  | p :: ps, b :: bs, _, h => by
    obtain ⟨t, r, e, h'⟩ := h
    subst e
    obtain ⟨h1, h2⟩ := xs_len h'
    exact ⟨by simp [h1], by simp [h2]⟩
theorem xs_keys : ∀ {kvs : List (NestedKey × Int)} {as : List Addr} {xs : List (NestedKey × Addr × Value)}, XsN kvs as xs → xs.map (·.1) = kvs.map (·.1)
  | [], [], _, h => by rw [show _ = [] from h]; rfl
  | [], _ :: _, _, h => h.elim
  | _ :: _, [], _, h => h.elim
  | p :: ps, b :: bs, _, h => by
    obtain ⟨t, r, e, h'⟩ := h
    subst e
    rw [List.map_cons, List.map_cons, xs_keys h']
theorem xs_is (I : Inv X pins σ H s) : ∀ {kvs : List (NestedKey × Int)} {as : List Addr} {xs : List (NestedKey × Addr × Value)}, XsN kvs as xs → (∀ p ∈ kvs, isNK p.1 = true) → RelDs ((X.K, X.mg), Z) T H (kvs.map fun p => ofK p.1) (as.map V.ref) →
    ∀ x ∈ xs, (nestedKind X.prog X.w).is s.heap x.1 x.2.1
  | [], [], _, h, _, _, x, hx => by rw [show _ = [] from h] at hx; cases hx
  | [], _ :: _, _, h, _, _, _, _ => h.elim
  | _ :: _, [], _, h, _, _, _, _ => h.elim
  | p :: ps, b :: bs, _, h, hk, r, x, hx => by
    obtain ⟨t, r', e, h'⟩ := h
    subst e
    rw [List.map_cons, List.map_cons] at r
    obtain ⟨v, rs, e, r1, r2⟩ := r
    rw [List.cons.injEq] at e
    obtain ⟨e1, e2⟩ := e
    subst e1 e2
    rcases List.mem_cons.mp hx with e | hx
    · subst e
      obtain ⟨n1, n2⟩ := isNK_num (hk p List.mem_cons_self)
      exact ⟨nested_rel I p.1 _ _ n1 r1 rfl, n2⟩
    · exact xs_is I h' (fun q hq => hk q (List.mem_cons_of_mem _ hq)) r2 x hx
/-- the dict at a, as the library has it -/
theorem dn_at (I : Inv X pins σ H s) {a : Addr} {kvs : List (NestedKey × Int)} {as : List Addr} (h : H a = some (dnO a kvs as)) (r : RelDs ((X.K, X.mg), Z) T H (kvs.map fun p => ofK p.1) (as.map V.ref)) :
    kvs.length ≤ sizeLine ∧ (a == sysModules) = false ∧ (∀ p ∈ kvs, isNK p.1 = true) ∧ (kvs.map (·.1)).Nodup ∧ ∃ xs, XsN kvs as xs ∧ s.heap.DictOfH (nestedKind X.prog X.w) a xs := by
  obtain ⟨⟨z, hd, hk, nd, P, w, xs, o, es, ep, h1, h2, h3, h4, h5⟩, _⟩ := I.hok a _ h
  refine ⟨z, hd, hk, nd, xs, h4, o, es, ep, h1, h2, h3, ?_, xs_is I h4 hk r, by rw [xs_keys h4]; exact nd⟩
  rw [h5]
  refine List.map_congr_left fun x hx => ?_
  have hm : x.1 ∈ kvs.map (·.1) := by rw [← xs_keys h4]; exact List.mem_map.mpr ⟨x, hx, rfl⟩
  obtain ⟨p, hp, e⟩ := List.mem_map.mp hm
  show (⟨x.1.hash w, .ref x.2.1, x.2.2⟩ : DictEntry) = ⟨x.1.hash X.w, .ref x.2.1, x.2.2⟩
  rw [hash_num w X.w x.1 (by rw [← e]; exact (isNK_num (hk p hp)).1)]
theorem dn_new {P : Program} {w : World} {H' : Hp} {h' : Heap} {a : Addr} {kvs : List (NestedKey × Int)} {as : List Addr} {xs : List (NestedKey × Addr × Value)} (z : kvs.length ≤ sizeLine) (hd : (a == sysModules) = false) (hk : ∀ p ∈ kvs, isNK p.1 = true) (nd : (kvs.map (·.1)).Nodup)
    (hx : XsN kvs as xs) (dd : h'.DictOfH (nestedKind P w) a xs) : ObjOk P w H' h' a (dnO a kvs as) := by
  obtain ⟨o, es, ep, h1, h2, h3, h4, _, _⟩ := dd
  refine ⟨⟨z, hd, hk, nd, P, w, xs, o, es, ep, h1, h2, h3, hx, h4⟩, ⟨o, h1⟩, fun g1 g2 q k => ?_⟩
  obtain ⟨z, hd, hk, nd, P, w, xs, o, es, ep, h1, h2, h3, h4, h5⟩ := q
  exact ⟨z, hd, hk, nd, P, w, xs, o, es, ep, k o h1, h2, h3, h4, h5⟩
theorem xs_at {j : NestedKey} : ∀ {kvs : List (NestedKey × Int)} {as : List Addr} {xs : List (NestedKey × Addr × Value)}, XsN kvs as xs → (getK kvs j = none ∧ atKey xs j = none) ∨ ∃ i b t, getK kvs j = some i ∧ atKey xs j = some (b, .int i t)
  | [], [], _, h => by rw [show _ = [] from h]; exact .inl ⟨rfl, rfl⟩
  | [], _ :: _, _, h => h.elim
  | _ :: _, [], _, h => h.elim
  | p :: ps, b :: bs, _, h => by
    obtain ⟨t, r, e, h'⟩ := h
    subst e
    by_cases hk : p.1 = j
    · refine .inr ⟨p.2, b, t, by simp [getK, hk], ?_⟩
      unfold atKey
      rw [List.find?_cons_of_pos (by simp [hk])]
      rfl
    · have e1 : getK (p :: ps) j = getK ps j := by simp [getK, hk]
      have e2 : atKey ((p.1, b, Value.int p.2 t) :: r) j = atKey r j := by
        unfold atKey
        rw [List.find?_cons_of_neg (by simp [hk])]
      rw [e1, e2]
      exact xs_at h'
/-- the room for a nested key -/
theorem nroom {A : Around} (hu : A.units + 60 < cLine) : (nestedKind X.prog X.w).room A.in1 := by
  show A.in1.units + 8 < cLine
  have e : A.in1.units ≤ A.units + 1 := by simp [Around.in1, Around.units]
  omega
variable {A : Around} {E : Value → Shared → Prop}
structure NAt (X : Cx) (Z : Addr → Prop) (T : DH) (H : Hp) (a : Addr) (kvs : List (NestedKey × Int)) (as : List Addr) (k : D) (y : V) (j : NestedKey) : Prop where
  ob : H a = some (dnO a kvs as)
  ks : RelDs ((X.K, X.mg), Z) T H (kvs.map fun p => ofK p.1) (as.map V.ref)
  key : NKey X Z T H k y j
theorem n_in {Q : Value → Shared → Prop} {a : Addr} {kvs : List (NestedKey × Int)} {as : List Addr} {k : D} {y : V} {j : NestedKey} {u : Value} (hu : A.units + 60 < cLine) (I : Inv X pins σ H s) (n : NAt X Z T H a kvs as k y j) (ry : RelV y u)
    (h : ∀ s', Inv X pins σ H s' → Q (.bool (getK kvs j).isSome) s') : wpAny (model X.prog X.w) A (compareOp .In u (.ref a)) Q E s := by
  obtain ⟨z, hd, hk, nd, xs, hx, dd⟩ := dn_at I n.ob n.ks
  obtain ⟨b, _, rfl, ik⟩ := nkey_at I n.key ry
  refine wpAny_in_heap (nroom hu) ik hd dd ?_
  have e : (atKey xs j).isSome = (getK kvs j).isSome := by
    rcases xs_at (j := j) hx with ⟨h1, h2⟩ | ⟨i, b, t, h1, h2⟩
    · rw [h1, h2]; rfl
    · rw [h1, h2]; rfl
  rw [e]
  exact h _ (I.tok _)
theorem n_notIn {Q : Value → Shared → Prop} {a : Addr} {kvs : List (NestedKey × Int)} {as : List Addr} {k : D} {y : V} {j : NestedKey} {u : Value} (hu : A.units + 60 < cLine) (I : Inv X pins σ H s) (n : NAt X Z T H a kvs as k y j) (ry : RelV y u)
    (h : ∀ s', Inv X pins σ H s' → Q (.bool (!(getK kvs j).isSome)) s') : wpAny (model X.prog X.w) A (compareOp .NotIn u (.ref a)) Q E s := by
  obtain ⟨z, hd, hk, nd, xs, hx, dd⟩ := dn_at I n.ob n.ks
  obtain ⟨b, _, rfl, ik⟩ := nkey_at I n.key ry
  refine PyProof.Rows.wpAny_notIn_heap (nroom hu) ik hd dd ?_
  have e : (atKey xs j).isSome = (getK kvs j).isSome := by
    rcases xs_at (j := j) hx with ⟨h1, h2⟩ | ⟨i, b, t, h1, h2⟩
    · rw [h1, h2]; rfl
    · rw [h1, h2]; rfl
  rw [e]
  exact h _ (I.tok _)
theorem n_typeIs {a : Addr} {kvs : List (NestedKey × Int)} {as : List Addr} (I : Inv X pins σ H s) (h : H a = some (dnO a kvs as)) (r : RelDs ((X.K, X.mg), Z) T H (kvs.map fun p => ofK p.1) (as.map V.ref)) : s.TypeIs (.ref a) "dict" := by
  obtain ⟨z, hd, hk, nd, xs, hx, dd⟩ := dn_at I h r
  exact dd.typeIs
theorem n_getItem {Q : Value → Shared → Prop} {a : Addr} {kvs : List (NestedKey × Int)} {as : List Addr} {k : D} {y : V} {j : NestedKey} {u : Value} {i : Int} (hu : A.units + 60 < cLine) (I : Inv X pins σ H s) (n : NAt X Z T H a kvs as k y j) (ry : RelV y u)
    (hi : getK kvs j = some i) (h : ∀ t s', Inv X pins σ H s' → Q (.int i t) s') : wpAny (model X.prog X.w) A (getItem (.ref a) u) Q E s := by
  obtain ⟨z, hd, hk, nd, xs, hx, dd⟩ := dn_at I n.ob n.ks
  obtain ⟨b, _, rfl, ik⟩ := nkey_at I n.key ry
  rcases xs_at (j := j) hx with ⟨h1, h2⟩ | ⟨i', b, t, h1, h2⟩
  · rw [hi] at h1; cases h1
  · rw [hi] at h1; cases h1
    exact wpAny_getItem_heap (nroom hu) ik dd h2 (h t _ (I.tok _))
theorem xs_put {j : NestedKey} {n : Int} {t : Tok} : ∀ {kvs : List (NestedKey × Int)} {as : List Addr} {xs : List (NestedKey × Addr × Value)}, XsN kvs as xs → XsN (kvs.map fun kv => if kv.1 = j then (kv.1, n) else kv) as (xs.map (putAt j (.int n t)))
  | [], [], _, h => by rw [show _ = [] from h]; rfl
  | [], _ :: _, _, h => h.elim
  | _ :: _, [], _, h => h.elim
  | p :: ps, c :: bs, _, h => by
    obtain ⟨t', r, e, h'⟩ := h
    subst e
    rw [List.map_cons, List.map_cons]
    by_cases hk : p.1 = j
    · refine ⟨t, _, ?_, xs_put (t := t) h'⟩
      simp [putAt, hk]
    · refine ⟨t', _, ?_, xs_put (t := t) h'⟩
      simp [putAt, hk]
theorem xs_app {j : NestedKey} {n : Int} {t : Tok} {b : Addr} : ∀ {kvs : List (NestedKey × Int)} {as : List Addr} {xs : List (NestedKey × Addr × Value)}, XsN kvs as xs → XsN (kvs ++ [(j, n)]) (as ++ [b]) (xs ++ [(j, b, .int n t)])
  | [], [], _, h => by rw [show _ = [] from h]; exact ⟨t, [], rfl, rfl⟩
  | [], _ :: _, _, h => h.elim
  | _ :: _, [], _, h => h.elim
  | p :: ps, c :: bs, _, h => by
    obtain ⟨t', r, e, h'⟩ := h
    subst e
    exact ⟨t', _, rfl, xs_app h'⟩
theorem keys_put {j : NestedKey} {n : Int} {β : Type} (g : NestedKey → β) (kvs : List (NestedKey × Int)) : (kvs.map fun kv => if kv.1 = j then (kv.1, n) else kv).map (fun p => g p.1) = kvs.map fun p => g p.1 := by
  rw [List.map_map]
  refine List.map_congr_left fun p _ => ?_
  show g (if p.1 = j then (p.1, n) else p).1 = g p.1
  split <;> rfl
theorem any_get {j : NestedKey} : ∀ (kvs : List (NestedKey × Int)), (kvs.any fun kv => decide (kv.1 = j)) = (getK kvs j).isSome
  | [] => rfl
  | p :: r => by
    rw [List.any_cons, any_get r]
    by_cases h : p.1 = j <;> simp [getK, h]
/-- d[k] = n -/
theorem n_setItem {Q : Unit → Shared → Prop} {a : Addr} {kvs : List (NestedKey × Int)} {as : List Addr} {k : D} {y : V} {j : NestedKey} {u : Value} {i : Int} {t : Tok} (hu : A.units + 60 < cLine) (I : Inv X pins σ H s) (n : NAt X Z T H a kvs as k y j) (ry : RelV y u) (hl : kvs.length < sizeLine)
    (h : ∀ bs s', (∀ T' H', Fr T H T' H' → RelDs ((X.K, X.mg), Z) T' H' ((putKD kvs j i).map fun p => ofK p.1) (bs.map V.ref)) → Inv X pins σ (upd H a (dnO a (putKD kvs j i) bs)) s' → Q () s') : wpAny (model X.prog X.w) A (setItem (.ref a) u (.int i t)) Q E s := by
  obtain ⟨z, hd, hk, nd, xs, hx, dd⟩ := dn_at I n.ob n.ks
  obtain ⟨b, ey, rfl, ik⟩ := nkey_at I n.key ry
  obtain ⟨ek, isk⟩ := keyT_of n.key.1
  refine wpAny_setItem_heap (hsz := by rw [(xs_len hx).1]; exact z) (nroom hu) ik dd fun h' dd' hs => ?_
  obtain ⟨q, _, _, hq, _⟩ := id dd'
  rcases xs_at (j := j) hx with ⟨h1, h2⟩ | ⟨i', b', t', h1, h2⟩
  · rw [storedH_new h2] at dd'
    have e : putKD kvs j i = kvs ++ [(j, i)] := by
      unfold putKD
      rw [if_neg (by rw [any_get, h1]; decide)]
    have hn : j ∉ kvs.map (·.1) := fun hm => by
      have : (kvs.any fun kv => decide (kv.1 = j)) = true := by
        obtain ⟨p, hp, e⟩ := List.mem_map.mp hm
        exact List.any_eq_true.mpr ⟨p, hp, decide_eq_true e⟩
      rw [any_get, h1] at this; cases this
    refine h (as ++ [b]) _ (fun T' H' f => ?_) (d_write (t' := s.toks + (nestedKind X.prog X.w).draws j) I (by rw [n.ob]; exact True.intro) hs ⟨q, hq⟩ ?_)
    · rw [e, List.map_append, List.map_append]
      refine (n.ks.fr f).append ⟨_, [], rfl, ?_, rfl⟩
      have r := n.key.2.fr f
      rw [ek, ey] at r
      exact r
    · rw [e]
      refine dn_new (by rw [List.length_append]; show kvs.length + 1 ≤ _; omega) hd (fun p hp => ?_) ?_ (xs_app hx) dd'
      · rcases List.mem_append.mp hp with hp | hp
        · exact hk p hp
        · rw [List.mem_singleton] at hp; rw [hp]; exact isk
      · rw [List.map_append]
        refine List.nodup_append.mpr ⟨nd, by simp, fun x hx y hy => ?_⟩
        simp only [List.map_cons, List.map_nil, List.mem_singleton] at hy
        rw [hy]; exact fun e => hn (e ▸ hx)
  · rw [storedH_old h2] at dd'
    have e : putKD kvs j i = kvs.map fun kv => if kv.1 = j then (kv.1, i) else kv := by
      unfold putKD
      rw [if_pos (by rw [any_get, h1]; rfl)]
    refine h as _ (fun T' H' f => ?_) (d_write (t' := s.toks + (nestedKind X.prog X.w).draws j) I (by rw [n.ob]; exact True.intro) hs ⟨q, hq⟩ ?_)
    · rw [e, keys_put]
      exact n.ks.fr f
    · rw [e]
      refine dn_new (by rw [List.length_map]; exact z) hd (fun p hp => ?_) (by rw [keys_put (g := fun k => k)]; exact nd) (xs_put hx) dd'
      obtain ⟨p', hp', e⟩ := List.mem_map.mp hp
      have : p.1 = p'.1 := by
        rw [← e]; split <;> rfl
      rw [this]; exact hk p' hp'
/-- {} -/
theorem pe_dnewN {pos : Pos} : PE X (.Dict [] [] pos) (fun _ H Q => ∀ p, H p = none → Q (.ref p) (upd H p (dnO p [] []))) := ⟨fun pins s σ H Q I h =>
  PySem.wpAny_Dict_empty ⟨.ref s.heap.objs.size, _, I.laid (a := s.heap.objs.size) (o := dnO s.heap.objs.size [] []) (t' := s.toks) (fun _ _ q => Heap.get?_push_of_some _ q) (Nat.le_refl _)
    (dn_new (P := X.prog) (w := X.w) (xs := []) (Nat.zero_le _) (by have := I.big; exact beq_false_of_ne (fun e => Nat.lt_irrefl _ (e ▸ this))) (fun _ h => by cases h) List.nodup_nil rfl (Heap.DictOfH.new s.heap)), rfl, h _ (I.hok.fresh (Nat.le_refl _))⟩⟩
end
end DL

set_option linter.all false
set_option maxRecDepth 100000
set_option maxHeartbeats 4000000
namespace DL
open PySem PySem.Spec L2
section
variable {X : Cx} {Z : Addr → Prop} {m : Bool}
theorem seqA_rel {T : DH} {H : Hp} {d : D} {v : V} {ys : List D} {qs : List PyData} (rh : RelH ((X.K, X.mg), Z) T H) (r : RelD ((X.K, X.mg), Z) T H d v) (h : seqD T d = some ys) (h2 : pyDs T ys = some qs) : Dp X.K H v (.list qs) ∨ Dp X.K H v (.tuple qs) := by
  obtain ⟨a, vs, e, h3, h4⟩ := seq_rel rh r h
  rw [e]
  rcases h3 with h3 | h3
  · exact .inl (.lst h3 (dps_rel h4 h2))
  · exact .inr (.tup h3 (dps_rel h4 h2))
theorem op_inG (hu : X.A.units + 65 < cLine) : OpR X (compareOp .In) (fun x y H Q => ∃ Z T dx dy, RelH ((X.K, X.mg), Z) T H ∧ RelD ((X.K, X.mg), Z) T H dx x ∧ RelD ((X.K, X.mg), Z) T H dy y ∧ dIn T dx dy fun b => Q (.bl b) H) := by
  intro pins s σ H x y v u Q I rx ry ⟨Z, T, dx, dy, rh, r1, r2, h⟩
  unfold dIn at h
  split at h
  · split at h
    · exact op_in_str pins s σ H x y v u Q I rx ry ⟨_, _, r1, r2, h⟩
    · exact h.elim
  · rcases h with ⟨h1, o, h2, h3⟩ | ⟨p, ys, qs, h1, h2, h3, h4, h5, h6⟩
    · rcases dget_rel rh r2 r1 h2 with ⟨a, w, e, g, ro⟩ | ⟨a, kvs, as, j, e, e2, g1, g2, g3, eo⟩
      rotate_left
      · subst e
        obtain rfl : u = Value.ref a := ry
        refine n_in (Z := Z) (T := T) (kvs := kvs) (as := as) (k := dx) (j := j) (by omega) I ⟨g1, g2, g3⟩ rx fun s3 I3 => ⟨.bl _, H, I3, rfl, ?_⟩
        rw [eo, Option.isSome_map] at h3
        exact h3
      subst e
      obtain rfl : u = Value.ref a := ry
      refine d_in (by omega) I g rx fun s3 I3 => ⟨.bl w.isSome, H, I3, rfl, ?_⟩
      have e : w.isSome = o.isSome := by cases o <;> cases w <;> first | rfl | exact ro.elim
      rw [e]; exact h3
    · obtain ⟨as, k1⟩ := Dp.reads I p x v (dpt_rel rh r1 h1) rx
      rcases seqA_rel rh r2 h2 h3 with k | k
      · obtain ⟨bs, k2⟩ := Dp.reads I _ y u k ry
        exact SeqAt.in_list_reads k2 k1 (SeqAt.canLay_of_shaped h5) (SeqAt.canLay_of_shaped h4) (PyProof.Rows.room_in_shaped h4 hu) ⟨.bl _, H, I, rfl, h6⟩
      · obtain ⟨bs, k2⟩ := Dp.reads I _ y u k ry
        exact SeqAt.in_tuple_reads k2 k1 (SeqAt.canLay_of_shaped h5) (SeqAt.canLay_of_shaped h4) (PyProof.Rows.room_in_shaped h4 hu) ⟨.bl _, H, I, rfl, h6⟩
theorem op_notinG (hu : X.A.units + 65 < cLine) : OpR X (compareOp .NotIn) (fun x y H Q => ∃ Z T dx dy, RelH ((X.K, X.mg), Z) T H ∧ RelD ((X.K, X.mg), Z) T H dx x ∧ RelD ((X.K, X.mg), Z) T H dy y ∧ dIn T dx dy fun b => Q (.bl (!b)) H) := by
  intro pins s σ H x y v u Q I rx ry ⟨Z, T, dx, dy, rh, r1, r2, h⟩
  unfold dIn at h
  split at h
  · split at h
    · exact op_notin_str pins s σ H x y v u Q I rx ry ⟨_, _, r1, r2, h⟩
    · exact h.elim
  · rcases h with ⟨h1, o, h2, h3⟩ | ⟨p, ys, qs, h1, h2, h3, h4, h5, h6⟩
    · rcases dget_rel rh r2 r1 h2 with ⟨a, w, e, g, ro⟩ | ⟨a, kvs, as, j, e, e2, g1, g2, g3, eo⟩
      rotate_left
      · subst e
        obtain rfl : u = Value.ref a := ry
        refine n_notIn (Z := Z) (T := T) (kvs := kvs) (as := as) (k := dx) (j := j) (by omega) I ⟨g1, g2, g3⟩ rx fun s3 I3 => ⟨.bl _, H, I3, rfl, ?_⟩
        rw [eo, Option.isSome_map] at h3
        exact h3
      subst e
      obtain rfl : u = Value.ref a := ry
      refine d_notIn (by omega) I g rx fun s3 I3 => ⟨.bl (!w.isSome), H, I3, rfl, ?_⟩
      have e : w.isSome = o.isSome := by cases o <;> cases w <;> first | rfl | exact ro.elim
      rw [e]; exact h3
    · obtain ⟨as, k1⟩ := Dp.reads I p x v (dpt_rel rh r1 h1) rx
      rcases seqA_rel rh r2 h2 h3 with k | k
      · obtain ⟨bs, k2⟩ := Dp.reads I _ y u k ry
        exact SeqAt.notIn_list_reads k2 k1 (SeqAt.canLay_of_shaped h5) (SeqAt.canLay_of_shaped h4) (PyProof.Rows.room_in_shaped h4 hu) ⟨.bl _, H, I, rfl, h6⟩
      · obtain ⟨bs, k2⟩ := Dp.reads I _ y u k ry
        exact SeqAt.notIn_tuple_reads k2 k1 (SeqAt.canLay_of_shaped h5) (SeqAt.canLay_of_shaped h4) (PyProof.Rows.room_in_shaped h4 hu) ⟨.bl _, H, I, rfl, h6⟩
def copOf : Cop → CmpOp
  | .eq => .Eq | .ne => .NotEq | .lt => .Lt | .le => .LtE | .gt => .Gt | .ge => .GtE | .isN => .Is | .notN => .IsNot | .isin => .In | .notin => .NotIn
theorem op_ordD {op : CmpOp} {f : Int → Int → Bool} {g : PyData → PyData → Bool} (h0 : OpR X (compareOp op) (rI0 fun i j => .bl (f i j)))
    (hg : ∀ {A : Around} {E : Value → Shared → Prop} {s : Shared} {a b : Value} {da db : PyData} {as bs : List Addr} {Q : Value → Shared → Prop}, Reads s.heap a da as → Reads s.heap b db bs → PySem.W.alike da db = true → da ≠ .none → A.units + min da.depth db.depth < cLine → Q (.bool (g da db)) s → wpAny (model X.prog X.w) A (compareOp op a b) Q E s)
    (hu : X.A.units + 64 < cLine) : OpR X (compareOp op) (l2 X fun x y T Q => dOrd f g T x y fun b => Q (.bl b) T) := by
  intro pins s σ H x y v u Q I rx ry ⟨Z, T, dx, dy, Qd, rh, r1, r2, h, q⟩
  have h : dOrd f g T dx dy _ := h
  unfold dOrd at h
  split at h
  · exact h0 pins s σ H x y v u Q I rx ry ⟨_, _, r1, r2, q _ _ _ _ h .refl rfl rh⟩
  · obtain ⟨p, p', h1, h2, h3, h4, h5, h6⟩ := h
    obtain ⟨as, k1⟩ := Dp.reads I p x v (dpt_rel rh r1 h1) rx
    obtain ⟨bs, k2⟩ := Dp.reads I p' y u (dpt_rel rh r2 h2) ry
    exact hg k1 k2 h3 h4 (by omega) ⟨.bl _, H, I, rfl, q _ _ _ _ h6 .refl rfl rh⟩
theorem non_iff {T : DH} {H : Hp} {d : D} {v : V} (r : RelD ((X.K, X.mg), Z) T H d v) : decide (v = .non) = isNonD d := by
  cases d with
  | non => rw [show v = .non from r]; rfl
  | bl b => rw [show v = .bl b from r]; rfl
  | int b => rw [show v = .int b from r]; rfl
  | str b => rw [show v = .str b from r]; rfl
  | tup ds => obtain ⟨a, vs, e, _⟩ := r; rw [e]; rfl
  | lst ds => obtain ⟨a, vs, e, _⟩ := r; rw [e]; rfl
  | emp => obtain ⟨a, e, _⟩ := r; rw [e]; rfl
  | scr ds => obtain ⟨a, e, _⟩ := r; rw [e]; rfl
  | ref a => rw [show v = .ref a from r]; rfl
theorem op_isB : OpR X (compareOp .Is) (fun x y H Q => ∃ c b, x = V.bl c ∧ y = V.bl b ∧ Q (.bl (decide (c = b))) H) := by
  intro pins s σ H x y v u Q I rx ry ⟨c, b, e1, e2, q⟩
  subst e1
  subst e2
  obtain rfl : v = Value.bool c := rx
  obtain rfl : u = Value.bool b := ry
  exact wpAny_is_plain rfl (fin_bl I q (by cases c <;> cases b <;> rfl))
theorem op_notB : OpR X (compareOp .IsNot) (fun x y H Q => ∃ c b, x = V.bl c ∧ y = V.bl b ∧ Q (.bl (!decide (c = b))) H) := by
  intro pins s σ H x y v u Q I rx ry ⟨c, b, e1, e2, q⟩
  subst e1
  subst e2
  obtain rfl : v = Value.bool c := rx
  obtain rfl : u = Value.bool b := ry
  exact wpAny_isNot_plain rfl (fin_bl I q (by cases c <;> cases b <;> rfl))
theorem op_cmpD (hr : Room 0 X.A) (o : Cop) : OpR X (compareOp (copOf o)) (l2 X (dCmp o)) := by
  have hu := hr.un
  cases o
  · intro pins s σ H x y v u Q I rx ry ⟨Z, T, dx, dy, Qd, rh, r1, r2, h, q⟩
    exact op_eqG (by omega) pins s σ H x y v u Q I rx ry ⟨Z, T, dx, dy, rh, r1, r2, dEq_mono (by simpa only [dCmp] using h) fun b hb => q (.bl _) _ _ _ hb .refl rfl rh⟩
  · intro pins s σ H x y v u Q I rx ry ⟨Z, T, dx, dy, Qd, rh, r1, r2, h, q⟩
    exact op_neG (by omega) pins s σ H x y v u Q I rx ry ⟨Z, T, dx, dy, rh, r1, r2, dEq_mono (by simpa only [dCmp] using h) fun b hb => q (.bl _) _ _ _ hb .refl rfl rh⟩
  · exact op_ordD op_lt (fun ra rb h hn hu hq => PySem.W.lt_data ra rb h hn hu hq) (by omega)
  · exact op_ordD op_le (fun ra rb h hn hu hq => PySem.W.le_data ra rb h hn hu hq) (by omega)
  · exact op_ordD op_gt (fun ra rb h hn hu hq => PySem.W.gt_data ra rb h hn hu hq) (by omega)
  · exact op_ordD op_ge (fun ra rb h hn hu hq => PySem.W.ge_data ra rb h hn hu hq) (by omega)
  · intro pins s σ H x y v u Q I rx ry ⟨Z, T, dx, dy, Qd, rh, r1, r2, h, q⟩
    simp only [dCmp] at h
    unfold dIsN at h
    split at h
    · refine op_isN pins s σ H x y v u Q I rx ry ⟨r2, ?_⟩
      rw [non_iff r1]
      exact q _ _ _ _ h .refl rfl rh
    · obtain ⟨c, rfl, h⟩ := h
      exact op_isB pins s σ H x y v u Q I rx ry ⟨c, _, r1, r2, q _ _ _ _ h .refl rfl rh⟩
    · exact h.elim
  · intro pins s σ H x y v u Q I rx ry ⟨Z, T, dx, dy, Qd, rh, r1, r2, h, q⟩
    simp only [dCmp] at h
    unfold dIsN at h
    split at h
    · refine op_notN pins s σ H x y v u Q I rx ry ⟨r2, ?_⟩
      rw [non_iff r1]
      exact q _ _ _ _ h .refl rfl rh
    · obtain ⟨c, rfl, h⟩ := h
      exact op_notB pins s σ H x y v u Q I rx ry ⟨c, _, r1, r2, q _ _ _ _ h .refl rfl rh⟩
    · exact h.elim
  · intro pins s σ H x y v u Q I rx ry ⟨Z, T, dx, dy, Qd, rh, r1, r2, h, q⟩
    exact op_inG (by omega) pins s σ H x y v u Q I rx ry ⟨Z, T, dx, dy, rh, r1, r2, dIn_mono (by simpa only [dCmp] using h) fun b hb => q (.bl _) _ _ _ hb .refl rfl rh⟩
  · intro pins s σ H x y v u Q I rx ry ⟨Z, T, dx, dy, Qd, rh, r1, r2, h, q⟩
    exact op_notinG (by omega) pins s σ H x y v u Q I rx ry ⟨Z, T, dx, dy, rh, r1, r2, dIn_mono (by simpa only [dCmp] using h) fun b hb => q (.bl _) _ _ _ hb .refl rfl rh⟩

/-! ### parts -/
theorem ix_dict (hu : X.A.units + 1 < cLine) : IxR X (fun x y H Q => ∃ a v, x = .ref a ∧ DGet H a y (some v) ∧ Q v H) := by
  intro value slice pins s σ H x y v u Q I rx ry h hs
  obtain ⟨a, z, rfl, g, q⟩ := h
  obtain rfl : v = Value.ref a := rx
  unfold PyProof.Rows.subscriptTail
  have hT := dict_typeIs I g
  refine wpAny_bind ?_
  rw [getitemInPython_of_ne hT.not_modules]
  refine wpAny_bind (wpAny_specialOf hT PySem.F.slot_dict_getitem.lookup ?_)
  have h2 : wpAny (model X.prog X.w) X.A (getItem (.ref a) u) (EP X pins σ Q) X.xe s := d_getItem hu I g ry fun w' s3 I3 rw' => ⟨z, H, I3, rw', q⟩
  have fin : wpAny (model X.prog X.w) X.A (subscripted slice false (.ref a) u) (fun r s₃ => wpAny (model X.prog X.w) X.A (letTemporaryGo value (.ref a) r >>= fun _ => pure r) (EP X pins σ Q) X.xe s₃) X.xe s := by
    rw [hs]
    exact wpAny_operating (wpAny_mono h2 (fun r s₃ h₃ => wpAny_bind (wpAny_letTemporaryGo (wpAny_pure h₃))) fun _ _ x => x)
  first
    | exact wpAny_pure (wpAny_bind fin)
    | exact wpAny_bind (wpAny_pure (wpAny_bind fin))
    | exact wpAny_bind fin
theorem ix_dictN {Z : Addr → Prop} {T : DH} (hu : X.A.units + 60 < cLine) : IxR X (fun x y H Q => ∃ a kvs as k j i, x = .ref a ∧ NAt X Z T H a kvs as k y j ∧ getK kvs j = some i ∧ Q (.int i) H) := by
  intro value slice pins s σ H x y v u Q I rx ry h hs
  obtain ⟨a, kvs, as, k, j, i, rfl, g, gi, q⟩ := h
  obtain rfl : v = Value.ref a := rx
  unfold PyProof.Rows.subscriptTail
  have hT := n_typeIs I g.ob g.ks
  refine wpAny_bind ?_
  rw [getitemInPython_of_ne hT.not_modules]
  refine wpAny_bind (wpAny_specialOf hT PySem.F.slot_dict_getitem.lookup ?_)
  have h2 : wpAny (model X.prog X.w) X.A (getItem (.ref a) u) (EP X pins σ Q) X.xe s := n_getItem hu I g ry gi fun t s3 I3 => ⟨.int i, H, I3, ⟨t, rfl⟩, q⟩
  have fin : wpAny (model X.prog X.w) X.A (subscripted slice false (.ref a) u) (fun r s₃ => wpAny (model X.prog X.w) X.A (letTemporaryGo value (.ref a) r >>= fun _ => pure r) (EP X pins σ Q) X.xe s₃) X.xe s := by
    rw [hs]
    exact wpAny_operating (wpAny_mono h2 (fun r s₃ h₃ => wpAny_bind (wpAny_letTemporaryGo (wpAny_pure h₃))) fun _ _ x => x)
  first
    | exact wpAny_pure (wpAny_bind fin)
    | exact wpAny_bind (wpAny_pure (wpAny_bind fin))
    | exact wpAny_bind fin
theorem at_rel {T : DH} {H : Hp} {ds : List D} {vs : List V} {n : Int} {d : D} (r : RelDs ((X.K, X.mg), Z) T H ds vs) (h : atI ds n = some d) : ∃ v, atI vs n = some v ∧ RelD ((X.K, X.mg), Z) T H d v := by
  unfold atI at h ⊢
  rw [r.length]
  cases e : ixN ds.length n with
  | none => rw [e] at h; cases h
  | some j =>
    rw [e] at h
    exact r.get h
theorem ix_D (hr : Room 0 X.A) : IxR X (l2 X dIx) := by
  have hu := hr.un
  intro value slice pins s σ H x y v u Q I rx ry ⟨Z, T, dx, dy, Qd, rh, r1, r2, h, q⟩ hs
  unfold dIx at h
  split at h
  · obtain ⟨h1, c, h2, h3⟩ := h
    exact ix_str value slice pins s σ H x y v u Q I rx ry ⟨_, _, c, r1, r2, h1, h2, q _ _ _ _ h3 .refl rfl rh⟩ hs
  · rcases h with ⟨_, d, h2, h3⟩ | ⟨ds, n, d, e, h2, h3, h4⟩
    · rcases dget_rel rh r1 r2 h2 with ⟨a, w, e, g, ro⟩ | ⟨a, kvs, as, j, e, e2, g1, g2, g3, eo⟩
      rotate_left
      · obtain ⟨i, hi, rfl⟩ := Option.map_eq_some_iff.mp eo.symm
        exact ix_dictN (Z := Z) (T := T) (by omega) value slice pins s σ H x y v u Q I rx ry ⟨a, kvs, as, _, j, i, e, ⟨g1, g2, g3⟩, hi, q _ _ _ _ h3 .refl rfl rh⟩ hs
      cases w with
      | none => exact ro.elim
      | some w => exact ix_dict (by omega) value slice pins s σ H x y v u Q I rx ry ⟨a, w, e, g, q _ _ _ _ h3 .refl ro rh⟩ hs
    · obtain ⟨a, vs, e1, h5, h6⟩ := seq_rel rh r1 h2
      subst e
      obtain ⟨w, h7, h8⟩ := at_rel h6 h3
      rcases h5 with h5 | h5
      · exact ix_list value slice pins s σ H x y v u Q I rx ry ⟨a, vs, n, w, e1, r2, h5, h7, q _ _ _ _ h4 .refl h8 rh⟩ hs
      · exact ix_tup value slice pins s σ H x y v u Q I rx ry ⟨a, vs, n, w, e1, r2, h5, h7, q _ _ _ _ h4 .refl h8 rh⟩ hs
theorem RelDs.cut {T : DH} {H : Hp} {ds : List D} {vs : List V} (r : RelDs ((X.K, X.mg), Z) T H ds vs) (lo hi : Option Int) : RelDs ((X.K, X.mg), Z) T H (cutD ds lo hi) (cutV vs lo hi) := by
  unfold cutD cutV
  rw [r.length]
  exact (r.drop _).take _
def l3 (X : Cx) (d : D → Option Int → Option Int → DH → DQ → Prop) : V → Option Int → Option Int → Hp → VK → Prop := fun x lo hi H Q => ∃ Z T dx Qd, RelH ((X.K, X.mg), Z) T H ∧ RelD ((X.K, X.mg), Z) T H dx x ∧ d dx lo hi T Qd ∧ ThenE X Z T H Qd Q
theorem sl_D : SlR X (l3 X (dSl m)) := by
  intro pins s σ H x v vl vu lo hi sl Q I rx hs pl pu ⟨Z, T, dx, Qd, rh, r1, h, q⟩
  unfold dSl at h
  split at h
  · obtain ⟨a, vs, e1, h1, t1, g1⟩ := r1
    refine sl_tupA pins s σ H x v vl vu lo hi sl Q I rx hs pl pu ⟨a, vs, e1, .of h1, fun hw => ?_, fun hw p hp => newTup_ok rh (g1.cut lo hi) hp h q⟩
    rename_i ds
    have e2 : cutD ds lo hi = ds := by
      unfold cutD
      rw [← g1.length, hw.1, hw.2, List.drop_zero, Nat.sub_zero, g1.length, List.take_length]
    rw [e2] at h
    exact q _ _ _ _ h .refl ⟨a, vs, rfl, h1, t1, g1⟩ rh
  · exact sl_str pins s σ H x v vl vu lo hi sl Q I rx hs pl pu ⟨_, r1, h.1, q _ _ _ _ h.2 .refl rfl rh⟩
  · obtain ⟨a, e, h1⟩ := r1
    rename_i ns
    have h2 : SqL X.K H a (ns.map V.int) := by
      rcases h1 with ⟨h1, _⟩ | h1
      · exact .inl h1
      · exact sqK h1
    exact sl_list pins s σ H x v vl vu lo hi sl Q I rx hs pl pu ⟨a, _, e, h2, fun p hp => newL_ok rh ((RelDs.ofInts _).cut lo hi) hp h q⟩
  · obtain ⟨ds, h1, h2⟩ := h
    obtain ⟨a, vs, e1, g1, k1⟩ := lst_rel rh r1 h1
    exact sl_list pins s σ H x v vl vu lo hi sl Q I rx hs pl pu ⟨a, vs, e1, .of g1, fun p hp => newL_ok rh (k1.cut lo hi) hp h2 q⟩
theorem un_D : UnR X (unaryOp .USub) (l1 X dNeg) := by
  intro pins s σ H x v Q I rx ⟨Z, T, dx, Qd, rh, r1, h, q⟩
  unfold dNeg at h
  split at h
  · exact un_neg pins s σ H x v Q I rx ⟨_, r1, q _ _ _ _ h .refl rfl rh⟩
  · exact h.elim
theorem tru_rel {T : DH} {H : Hp} {d : D} {v : V} {b : Bool} (rh : RelH ((X.K, X.mg), Z) T H) (r : RelD ((X.K, X.mg), Z) T H d v) (h : truD T d = some b) : TruV X.K v H b := by
  cases d with
  | non => rw [show v = .non from r]; simp only [truD] at h; cases h; rfl
  | bl c => rw [show v = .bl c from r]; simp only [truD] at h; cases h; rfl
  | int c => rw [show v = .int c from r]; simp only [truD] at h; cases h; rfl
  | str c =>
    rw [show v = .str c from r]; simp only [truD] at h
    split at h
    · cases h; exact ⟨by assumption, rfl⟩
    · cases h
  | tup ds =>
    obtain ⟨a, vs, e, h1, _, h3⟩ := r
    simp only [truD] at h; cases h
    rw [e]
    refine .inr (.inl ⟨vs, .of h1, ?_⟩)
    have := h3.length
    cases ds <;> cases vs <;> first | rfl | simp at this
  | lst ds =>
    obtain ⟨a, vs, e, h1, _, h3⟩ := r
    simp only [truD] at h; cases h
    rw [e]
    refine .inl ⟨vs, .of h1, ?_⟩
    have := h3.length
    cases ds <;> cases vs <;> first | rfl | simp at this
  | emp =>
    obtain ⟨a, e, h1, h2⟩ := r
    simp only [truD] at h; cases h
    rw [e]
    exact .inr (.inr ⟨[], h1, rfl⟩)
  | scr ns =>
    obtain ⟨a, e, h1⟩ := r
    simp only [truD] at h; cases h
    rw [e]
    refine .inl ⟨ns.map V.int, ?_, ?_⟩
    · rcases h1 with ⟨h1, _⟩ | h1
      · exact .inl h1
      · exact sqK h1
    · cases ns <;> rfl
  | ref a =>
    rw [show v = .ref a from r]
    simp only [truD] at h
    cases e : T a with
    | none => rw [e] at h; cases h
    | some o =>
      rw [e] at h
      cases o <;> cases h
      · obtain ⟨vs, h1, h2⟩ := rh.ob a _ e
        refine .inl ⟨vs, .of h1, ?_⟩
        have := h2.length
        rename_i ds
        cases ds <;> cases vs <;> first | rfl | simp at this
      · obtain ⟨ws, h1, h2⟩ := rh.ob a _ e
        refine .inr (.inr ⟨ws, h1, ?_⟩)
        have := h2.length
        rename_i ds
        cases ds <;> cases ws <;> first | rfl | simp at this
end
end DL

set_option linter.all false
set_option maxRecDepth 100000
set_option maxHeartbeats 4000000
namespace DL
open PySem PySem.Spec L2
/-! ### repr of data with dicts in it: only at a dict is the modules' own dict excluded -/
mutual
inductive Rp (h : Heap) : Value → PyData → Prop
  | none : Rp h .none .none
  | bool (b : Bool) : Rp h (.bool b) (.bool b)
  | int (i : Int) (t : Tok) : Rp h (.int i t) (.int i)
  | str (x : Str) (t : Tok) : Rp h (.str x t) (.str x)
  | list {a : Addr} {o : Obj} {us : Array Value} {n : Nat} {xs : List PyData} (e1 : h.get? a = some o) (e2 : o.cls = .type "list") (e3 : o.data = .seq us n) (e4 : RpAll h us.toList xs) : Rp h (.ref a) (.list xs)
  | tuple {a : Addr} {o : Obj} {us : Array Value} {n : Nat} {xs : List PyData} (e1 : h.get? a = some o) (e2 : o.cls = .type "tuple") (e3 : o.data = .seq us n) (e4 : RpAll h us.toList xs) : Rp h (.ref a) (.tuple xs)
  | dict {a : Addr} {o : Obj} {es : Array DictEntry} {n : Nat} {kvs : List (PyData × PyData)} (e0 : (a == sysModules) = false) (e1 : h.get? a = some o) (e2 : o.cls = .type "dict") (e3 : o.data = .dict es n)
      (e4 : RpAll h (es.toList.map (·.key)) (kvs.map (·.1))) (e5 : RpAll h (es.toList.map (·.val)) (kvs.map (·.2))) : Rp h (.ref a) (.dict kvs)
inductive RpAll (h : Heap) : List Value → List PyData → Prop
  | nil : RpAll h [] []
  | cons {v : Value} {us : List Value} {d : PyData} {ds : List PyData} (e1 : Rp h v d) (e2 : RpAll h us ds) : RpAll h (v :: us) (d :: ds)
end
section
variable {P : Program} {w : World} {h : Heap}
mutual
theorem Rp.reads : ∀ {v : Value} {d : PyData}, Rp h v d → ∃ as, Reads h v d as
  | _, _, .none => ⟨_, .none⟩
  | _, _, .bool b => ⟨_, .bool b⟩
  | _, _, .int i t => ⟨_, .int i t⟩
  | _, _, .str x t => ⟨_, .str x t⟩
  | _, _, .list e1 e2 e3 e4 => let ⟨_, k⟩ := RpAll.reads e4; ⟨_, .list e1 e2 e3 k⟩
  | _, _, .tuple e1 e2 e3 e4 => let ⟨_, k⟩ := RpAll.reads e4; ⟨_, .tuple e1 e2 e3 k⟩
  | _, _, .dict e0 e1 e2 e3 e4 e5 => let ⟨_, k⟩ := RpAll.reads e4; let ⟨_, k2⟩ := RpAll.reads e5; ⟨_, .dict e1 e2 e3 k k2⟩
theorem RpAll.reads : ∀ {us : List Value} {ds : List PyData}, RpAll h us ds → ∃ as, ReadsAll h us ds as
  | _, _, .nil => ⟨_, .nil⟩
  | _, _, .cons e1 e2 => let ⟨_, k⟩ := Rp.reads e1; let ⟨_, k2⟩ := RpAll.reads e2; ⟨_, .cons k k2⟩
end
/-- what a text of each part and the whole's length tell -/
def Kd (P : Program) (w : World) (h : Heap) (v : Value) (d : PyData) : Prop := ∃ bs, ReadAtMost h d.depth bs ∧ ReprK P w bs h d.depth v d.shown
def KdAll (P : Program) (w : World) (h : Heap) (us : List Value) (ds : List PyData) : Prop := ∃ bs, ReadAtMost h (PyData.depthAll ds) bs ∧ ReprAllK P w bs h (PyData.depthAll ds) us (PyData.shownAll ds)
theorem kd_dict {a : Addr} {o : Obj} {es : Array DictEntry} {n : Nat} {kvs : List (PyData × PyData)} (r : Rp h (.ref a) (.dict kvs)) (e0 : (a == sysModules) = false) (e1 : h.get? a = some o) (e2 : o.cls = .type "dict") (e3 : o.data = .dict es n)
    (k4 : KdAll P w h (es.toList.map (·.key)) (kvs.map (·.1))) (k5 : KdAll P w h (es.toList.map (·.val)) (kvs.map (·.2))) :
    ∃ bs, ReadAtMost h (PyData.depthKv kvs) bs ∧ a ∉ bs ∧ ReprEntriesK P w bs h (PyData.depthKv kvs) es.toList (PyData.shownKv kvs) := by
  obtain ⟨as, rd⟩ := r.reads
  obtain ⟨b1, m1, q1⟩ := k4
  obtain ⟨b2, m2, q2⟩ := k5
  have mm : ReadAtMost h (PyData.depthKv kvs) (b1 ++ b2) := (m1.mono (PyData.depthAll_keys_le kvs)).append (m2.mono (PyData.depthAll_vals_le kvs))
  refine ⟨b1 ++ b2, mm, not_mem_of_deeper rd (by simp only [PyData.depth]; omega) mm, ?_⟩
  rw [PyData.shownKv_eq]
  exact ReprEntriesK.of_two es.toList _ _ (q1.more_le (fun _ z => List.mem_append_left _ z) (PyData.depthAll_keys_le kvs)) (q2.more_le (fun _ z => List.mem_append_right _ z) (PyData.depthAll_vals_le kvs))
mutual
theorem Rp.kd : ∀ {v : Value} {d : PyData}, Rp h v d → d.showable = true → d.shown.length ≤ sizeLine → Kd P w h v d
  | _, _, .none, _, _ => ⟨[], (fun _ z => nomatch z), by simp only [PyData.shown]; exact ReprK.of_is ReprIs.none _ _ _⟩
  | _, _, .bool b, _, _ => ⟨[], (fun _ z => nomatch z), by simp only [PyData.shown]; exact ReprK.of_is (ReprIs.bool b) _ _ _⟩
  | _, _, .int i t, hs, _ => ⟨[], (fun _ z => nomatch z), by simp only [PyData.shown]; exact ReprK.of_is (ReprIs.int t (by simpa [PyData.showable] using hs)) _ _ _⟩
  | _, _, .str x t, _, hz => ⟨[], (fun _ z => nomatch z), by simp only [PyData.shown]; exact ReprK.of_is (ReprIs.str x t (by simpa only [PyData.shown] using hz)) _ _ _⟩
  | _, _, .list (a := a) (us := us) (xs := xs) e1 e2 e3 e4, hs, hz => by
    have z1 : (listText (PyData.shownAll xs)).length ≤ sizeLine := by simpa only [PyData.shown] using hz
    obtain ⟨bs, m, k⟩ := RpAll.kd e4 (by simpa [PyData.showable] using hs) (fun t ht => Nat.le_trans (listText_mem_le ht) z1)
    obtain ⟨as, rd⟩ := Rp.reads (.list e1 e2 e3 e4)
    have na : a ∉ bs := not_mem_of_deeper rd (by simp only [PyData.depth]; omega) m
    refine ⟨a :: bs, ReadAtMost.cons rd (by simp only [PyData.depth]; omega) m, ?_⟩
    simp only [PyData.shown, PyData.depth]
    obtain ⟨l⟩ := us
    cases l with
    | nil =>
      have e5 : RpAll h [] xs := e4
      cases e5
      simp only [listText_nil, PyData.shownAll]
      exact ReprK.listEmpty e1 e2 e3
    | cons y l => exact ReprK.list e1 e2 e3 na (by simpa using k.length_eq) fun i u e => k.item i u (by simpa using e)
  | _, _, .tuple (a := a) (xs := xs) e1 e2 e3 e4, hs, hz => by
    have z1 : (tupleText (PyData.shownAll xs)).length ≤ sizeLine := by simpa only [PyData.shown] using hz
    obtain ⟨bs, m, k⟩ := RpAll.kd e4 (by simpa [PyData.showable] using hs) (fun t ht => Nat.le_trans (tupleText_mem_le ht) z1)
    obtain ⟨as, rd⟩ := Rp.reads (.tuple e1 e2 e3 e4)
    have na : a ∉ bs := not_mem_of_deeper rd (by simp only [PyData.depth]; omega) m
    refine ⟨a :: bs, ReadAtMost.cons rd (by simp only [PyData.depth]; omega) m, ?_⟩
    simp only [PyData.shown, PyData.depth]
    exact ReprK.tuple e1 e2 e3 na k
  | _, _, .dict (a := a) (es := es) (kvs := kvs) e0 e1 e2 e3 e4 e5, hs, hz => by
    have z1 : (dictText (PyData.shownKv kvs)).length ≤ sizeLine := by simpa only [PyData.shown] using hz
    obtain ⟨s1, s2⟩ := PyData.showableKv_split kvs (by simpa [PyData.showable] using hs)
    have k4 := RpAll.kd e4 s1 (fun t ht => let ⟨p, hp, hl⟩ := PyData.shownKv_key_le kvs t ht; Nat.le_trans hl (Nat.le_trans (dictText_mem_le hp) z1))
    have k5 := RpAll.kd e5 s2 (fun t ht => let ⟨p, hp, hl⟩ := PyData.shownKv_val_le kvs t ht; Nat.le_trans hl (Nat.le_trans (dictText_mem_le hp) z1))
    have r : Rp h (.ref a) (.dict kvs) := .dict e0 e1 e2 e3 e4 e5
    obtain ⟨bs, m, na, k⟩ := kd_dict r e0 e1 e2 e3 k4 k5
    obtain ⟨as, rd⟩ := r.reads
    refine ⟨a :: bs, ReadAtMost.cons rd (by simp only [PyData.depth]; omega) m, ?_⟩
    simp only [PyData.shown, PyData.depth]
    exact ReprK.dict e1 e2 e3 e0 na k
theorem RpAll.kd : ∀ {us : List Value} {ds : List PyData}, RpAll h us ds → PyData.showableAll ds = true → (∀ t ∈ PyData.shownAll ds, t.length ≤ sizeLine) → KdAll P w h us ds
  | _, _, .nil, _, _ => ⟨[], (fun _ z => nomatch z), by simp only [PyData.shownAll]; exact .nil⟩
  | _, _, .cons (d := d) (ds := ds) e1 e2, hs, hz => by
    have s1 : d.showable = true ∧ PyData.showableAll ds = true := by simpa [PyData.showableAll] using hs
    obtain ⟨b1, m1, k1⟩ := Rp.kd e1 s1.1 (hz _ (by simp only [PyData.shownAll]; exact List.mem_cons_self))
    obtain ⟨b2, m2, k2⟩ := RpAll.kd e2 s1.2 fun t ht => hz t (by simp only [PyData.shownAll]; exact List.mem_cons_of_mem _ ht)
    refine ⟨b1 ++ b2, (m1.mono ?_).append (m2.mono ?_), ?_⟩
    · simp only [PyData.depthAll]; exact Nat.le_max_left _ _
    · simp only [PyData.depthAll]; exact Nat.le_max_right _ _
    · simp only [PyData.shownAll, PyData.depthAll]
      exact .cons ((k1.more fun _ z => List.mem_append_left _ z).level_le (Nat.le_max_left _ _)) (k2.more_le (fun _ z => List.mem_append_right _ z) (Nat.le_max_right _ _))
end
/-- repr(x), x at an address -/
theorem repr_ofRp {A : Around} {E : Value → Shared → Prop} {s : Shared} {Q : Value → Shared → Prop} {a : Addr} {d : PyData} (r : Rp s.heap (.ref a) d) (hs : d.showable = true) (hg : A.guards = some []) (hu : A.units + (d.depth + 1) < cLine)
    (q : ∀ h' u tk, (∀ b o, s.heap.get? b = some o → h'.get? b = some o) → Q (.str d.shown u) { s with heap := h', toks := tk }) (hz : d.shown.length ≤ sizeLine) :
    wpAny (model P w) A (call (.builtin "repr") [.ref a]) Q E s := by
  obtain ⟨as, rd⟩ := r.reads
  cases r with
  | list e1 e2 e3 e4 =>
    rename_i o us n xs
    have z1 : (listText (PyData.shownAll xs)).length ≤ sizeLine := by simpa only [PyData.shown] using hz
    obtain ⟨bs, m, k⟩ := RpAll.kd (P := P) (w := w) e4 (by simpa [PyData.showable] using hs) (fun t ht => Nat.le_trans (listText_mem_le ht) z1)
    have na : a ∉ bs := not_mem_of_deeper rd (by simp only [PyData.depth]; omega) m
    simp only [PyData.depth] at hu
    simp only [PyData.shown] at q
    refine call_repr_slot (by omega) ⟨o, e1, e2⟩ PySem.F.slot_list_repr.toG ?_
    obtain ⟨l⟩ := us
    cases l with
    | nil =>
      have e5 : RpAll s.heap [] xs := e4
      cases e5
      simp only [listText_nil, PyData.shownAll] at q
      exact call_list_repr_empty ⟨o, e1, e2⟩ e1 e3 ⟨_, _, rfl, q s.heap _ _ fun _ _ e => e⟩
    | cons y l => exact call_list_reprK e1 e2 e3 na (by simpa using k.length_eq) (fun i u e => k.item i u (by simpa using e)) hg (fun b _ => Clear.nil b) (by show A.units + 1 + _ < cLine; omega) (fun _ _ e => e) (fun h' u tk hk => ⟨_, _, rfl, q h' u tk hk⟩) z1
  | tuple e1 e2 e3 e4 =>
    rename_i o us n xs
    have z1 : (tupleText (PyData.shownAll xs)).length ≤ sizeLine := by simpa only [PyData.shown] using hz
    obtain ⟨bs, m, k⟩ := RpAll.kd (P := P) (w := w) e4 (by simpa [PyData.showable] using hs) (fun t ht => Nat.le_trans (tupleText_mem_le ht) z1)
    have na : a ∉ bs := not_mem_of_deeper rd (by simp only [PyData.depth]; omega) m
    simp only [PyData.depth] at hu
    simp only [PyData.shown] at q
    exact call_repr_slot (by omega) ⟨o, e1, e2⟩ PySem.F.slot_tuple_repr (call_tuple_reprK e1 e2 e3 na k hg (fun b _ => Clear.nil b) (by show A.units + 1 + _ < cLine; omega) (fun _ _ e => e) (fun h' u tk hk => ⟨_, _, rfl, q h' u tk hk⟩) z1)
  | dict e0 e1 e2 e3 e4 e5 =>
    rename_i o es n kvs
    have z1 : (dictText (PyData.shownKv kvs)).length ≤ sizeLine := by simpa only [PyData.shown] using hz
    obtain ⟨s1, s2⟩ := PyData.showableKv_split kvs (by simpa [PyData.showable] using hs)
    have k4 := RpAll.kd (P := P) (w := w) e4 s1 (fun t ht => let ⟨p, hp, hl⟩ := PyData.shownKv_key_le kvs t ht; Nat.le_trans hl (Nat.le_trans (dictText_mem_le hp) z1))
    have k5 := RpAll.kd (P := P) (w := w) e5 s2 (fun t ht => let ⟨p, hp, hl⟩ := PyData.shownKv_val_le kvs t ht; Nat.le_trans hl (Nat.le_trans (dictText_mem_le hp) z1))
    obtain ⟨bs, m, na, k⟩ := kd_dict (.dict e0 e1 e2 e3 e4 e5) e0 e1 e2 e3 k4 k5
    simp only [PyData.depth] at hu
    simp only [PyData.shown] at q
    exact call_repr_slot (by omega) ⟨o, e1, e2⟩ PySem.F.slot_dict_repr (call_dict_reprK e1 e2 e3 e0 na k hg (fun b _ => Clear.nil b) (by show A.units + 1 + _ < cLine; omega) (fun _ _ e => e) (fun h' u tk hk => ⟨_, _, rfl, q h' u tk hk⟩) z1)
end
end DL

set_option linter.all false
set_option maxRecDepth 100000
set_option maxHeartbeats 4000000
namespace PySem.AutoSeq1
theorem list_extend_tupD (l : Addr) (items : Array Value) (n : Nat) (b : Addr) (items2 : Array Value) (n2 : Nat) (dd : Option Addr) (sl : Array (Option Value)) (hs0 : ¬(!items.isEmpty && Builtin.List.listTooLong (items.size + items2.size)) = true) (hs1 : items.size ≤ sizeLine) (hs2 : items.size + items2.size ≤ sizeLine + 1) :
    Meets (Builtin.«list.extend» ⟨[.ref l, .ref b], []⟩) (fun _ R s => s.heap.get? l = some { cls := .type "list", dict := none, data := .seq items n, slots := #[] } ∧ s.heap.get? b = some { cls := .type "tuple", dict := dd, data := .seq items2 n2, slots := sl } ∧ R (.ok (.ret Value.none)) { s with heap := s.heap.update l (Obj.mapSeq fun x => x ++ items2), toks := s.toks }) :=
  .of_wp fun prog w A R s h => by
    obtain ⟨hp, g, d, tk, os⟩ := s; obtain ⟨hl, hb, h⟩ := h; have f1 := idx_int; have f2 := sub_tuple_tuple; have f3 := sub_list_list; have f4 := sub_tuple_list; have f5 := sub_list_tuple;
    have hz' : (items ++ items2).size ≤ sizeLine + 1 := by rw [Array.size_append]; exact hs2
    wp_walk using (wpAny_updateSeq hl rfl (hz := hs1) (_hz' := hz')), wpAny_loadPart' hl, wpAny_loadPart' hb; exact ⟨_, rfl, h⟩
end PySem.AutoSeq1
namespace DL
open PySem PySem.Spec L2
section
variable {X : Cx} {Z : Addr → Prop} {m : Bool}
theorem relOne {T : DH} {H : Hp} {ds : List D} {vs : List V} {d : D} (r : RelDs ((X.K, X.mg), Z) T H ds vs) (e : ds = [d]) : ∃ v, vs = [v] ∧ RelD ((X.K, X.mg), Z) T H d v := by
  subst e
  obtain ⟨v, r', e, h1, h2⟩ := r
  have e2 : r' = [] := h2
  subst e2
  exact ⟨v, e, h1⟩
theorem relTwo {T : DH} {H : Hp} {vs : List V} {d e : D} (r : RelDs ((X.K, X.mg), Z) T H [d, e] vs) : ∃ v w, vs = [v, w] ∧ RelD ((X.K, X.mg), Z) T H d v ∧ RelD ((X.K, X.mg), Z) T H e w := by
  obtain ⟨v, r', e, h1, h2⟩ := r
  obtain ⟨w, e3, h3⟩ := relOne h2 rfl
  subst e3
  exact ⟨v, w, e, h1, h3⟩
theorem relNil {T : DH} {H : Hp} {vs : List V} (r : RelDs ((X.K, X.mg), Z) T H [] vs) : vs = [] := r
theorem intsD_eq : ∀ {ds : List D} {ns : List Int}, intsD ds = some ns → ds = ns.map D.int
  | [], _, h => by simp only [intsD] at h; cases h; rfl
  | .int i :: r, ns, h => by
    simp only [intsD] at h
    cases e : intsD r with
    | none => rw [e] at h; cases h
    | some k => rw [e] at h; cases h; rw [intsD_eq e]; rfl
  | .non :: r, ns, h => by simp only [intsD] at h; cases h
  | .bl _ :: r, ns, h => by simp only [intsD] at h; cases h
  | .str _ :: r, ns, h => by simp only [intsD] at h; cases h
  | .tup _ :: r, ns, h => by simp only [intsD] at h; cases h
  | .lst _ :: r, ns, h => by simp only [intsD] at h; cases h
  | .emp :: r, ns, h => by simp only [intsD] at h; cases h
  | .scr _ :: r, ns, h => by simp only [intsD] at h; cases h
  | .ref _ :: r, ns, h => by simp only [intsD] at h; cases h
theorem strsD_eq : ∀ {ds : List D} {ns : List Str}, strsD ds = some ns → ds = ns.map D.str
  | [], _, h => by simp only [strsD] at h; cases h; rfl
  | .str i :: r, ns, h => by
    simp only [strsD] at h
    cases e : strsD r with
    | none => rw [e] at h; cases h
    | some k => rw [e] at h; cases h; rw [strsD_eq e]; rfl
  | .non :: r, ns, h => by simp only [strsD] at h; cases h
  | .bl _ :: r, ns, h => by simp only [strsD] at h; cases h
  | .int _ :: r, ns, h => by simp only [strsD] at h; cases h
  | .tup _ :: r, ns, h => by simp only [strsD] at h; cases h
  | .lst _ :: r, ns, h => by simp only [strsD] at h; cases h
  | .emp :: r, ns, h => by simp only [strsD] at h; cases h
  | .scr _ :: r, ns, h => by simp only [strsD] at h; cases h
  | .ref _ :: r, ns, h => by simp only [strsD] at h; cases h
inductive BK where
  | fn (n : String) | ty (n : String)
def bfnOf : Bfn → BK
  | .len => .fn "len" | .abs => .fn "abs" | .min => .fn "min" | .max => .fn "max" | .sum => .fn "sum" | .int => .ty "int" | .str => .ty "str" | .repr => .fn "repr"
  | .list => .ty "list" | .tuple => .ty "tuple" | .sorted => .fn "sorted" | .dict => .ty "dict" | .all => .fn "all" | .lrange => .ty "list" | .sset => .fn "sorted" | .lset => .fn "len"
def bkVal : BK → Value
  | .fn n => .builtin n
  | .ty n => .type n
theorem len_rel {T : DH} {H : Hp} {d : D} {v : V} {n : Nat} (rh : RelH ((X.K, X.mg), Z) T H) (r : RelD ((X.K, X.mg), Z) T H d v) (h : lenD T d = some n) :
    (∃ z, v = .str z ∧ d = .str z ∧ n = z.length) ∨ (∃ p vs, v = .ref p ∧ (SqL X.K H p vs ∨ SqT X.K H p vs) ∧ n = vs.length) ∨ ∃ p ws, v = .ref p ∧ H p = some (.dK ws) ∧ n = ws.length := by
  have sq : ∀ {ds : List D}, seqD T d = some ds → n = ds.length → ∃ p vs, v = .ref p ∧ (SqL X.K H p vs ∨ SqT X.K H p vs) ∧ n = vs.length := fun {ds} e en => by
    obtain ⟨a, vs, e1, h1, h2⟩ := seq_rel rh r e
    exact ⟨a, vs, e1, h1, by rw [h2.length]; exact en⟩
  cases d with
  | non => simp [lenD, seqD] at h
  | bl b => simp [lenD, seqD] at h
  | int i => simp [lenD, seqD] at h
  | str x => simp only [lenD] at h; cases h; exact .inl ⟨x, r, rfl, rfl⟩
  | tup ds => simp only [lenD, seqD] at h; cases h; exact .inr (.inl (sq rfl rfl))
  | lst ds => simp only [lenD, seqD] at h; cases h; exact .inr (.inl (sq rfl rfl))
  | emp => simp [lenD, seqD] at h
  | scr ns => simp only [lenD, seqD] at h; cases h; exact .inr (.inl (sq rfl rfl))
  | ref a =>
    simp only [lenD] at h
    cases e : T a with
    | none => rw [e] at h; cases h
    | some o =>
      rw [e] at h
      cases o with
      | lst ds => cases h; exact .inr (.inl (sq (by simp only [seqD, e]) rfl))
      | dK kvs =>
        cases h
        obtain ⟨ws, h1, h2⟩ := rh.ob a _ e
        exact .inr (.inr ⟨a, ws, r, h1, h2.length.symm⟩)
      | dT _ => cases h
      | dN _ => cases h
      | ins _ _ => cases h
      | exn _ _ => cases h
      | clo _ _ => cases h
theorem cr_lenD (hc : X.calm = true) : CallR X (bkVal (bfnOf .len)) (lF X (dLen)) := by
  intro pins s σ H ys us Q I r ⟨Z, T, dys, Qd, rh, r1, h, q⟩
  unfold dLen at h
  split at h
  · obtain ⟨h1, n, h2, h3⟩ := h
    obtain ⟨v, rfl, rv⟩ := relOne r1 rfl
    rcases len_rel rh rv h2 with ⟨z, rfl, rfl, rfl⟩ | ⟨p, vs, rfl, g, rfl⟩ | ⟨p, ws, rfl, g, rfl⟩
    · exact call_len_str pins s σ H _ us Q I r ⟨z, rfl, h1, q _ _ _ _ h3 .refl rfl rh⟩
    · exact call_len_seq pins s σ H _ us Q I r ⟨p, vs, rfl, g, q _ _ _ _ h3 .refl rfl rh⟩
    · exact call_lenD pins s σ H _ us Q I r ⟨p, ws, rfl, g, q _ _ _ _ h3 .refl rfl rh⟩
  · exact h.elim
theorem cr_absD (hc : X.calm = true) : CallR X (bkVal (bfnOf .abs)) (lF X (dAbs)) := by
  intro pins s σ H ys us Q I r ⟨Z, T, dys, Qd, rh, r1, h, q⟩
  unfold dAbs at h
  split at h
  · obtain ⟨v, rfl, rv⟩ := relOne r1 rfl
    exact call_abs pins s σ H _ us Q I r ⟨_, by rw [show v = _ from rv], q _ _ _ _ h .refl rfl rh⟩
  · exact h.elim
theorem pick_rel {T : DH} {H : Hp} : ∀ {ds : List D} {vs : List V} {us : List Value} {ps : List PyData} {i : Nat} {u : Value}, RelDs ((X.K, X.mg), Z) T H ds vs → Vals vs us → pyDs T ds = some ps → us[i]? = some u →
    ∃ w d, d ∈ ds ∧ w ∈ vs ∧ RelD ((X.K, X.mg), Z) T H d w ∧ RelV w u ∧ ∃ p, pyD T d = some p ∧ p ∈ ps
  | [], _, _, _, _, _, r, rv, _, e => by
    have e1 : _ = [] := r
    subst e1
    cases rv
    simp at e
  | d :: ds, _, _, ps, i, u, r, rv, h, e => by
    obtain ⟨v, r', e1, r1, r2⟩ := r
    subst e1
    cases rv with
    | cons k1 k2 =>
      unfold pyDs at h
      cases h1 : pyD T d with
      | none => rw [h1] at h; cases h
      | some x =>
        cases h2 : pyDs T ds with
        | none => rw [h1, h2] at h; cases h
        | some xs =>
          rw [h1, h2] at h
          cases h
          cases i with
          | zero =>
            simp only [List.getElem?_cons_zero, Option.some.injEq] at e
            subst e
            exact ⟨v, d, List.mem_cons_self, List.mem_cons_self, r1, k1, x, h1, List.mem_cons_self⟩
          | succ i =>
            rw [List.getElem?_cons_succ] at e
            obtain ⟨w, d', m1, m2, m3, m4, p, m5, m6⟩ := pick_rel r2 k2 h2 e
            exact ⟨w, d', List.mem_cons_of_mem _ m1, List.mem_cons_of_mem _ m2, m3, m4, p, m5, List.mem_cons_of_mem _ m6⟩
theorem fold_mem {α : Type} (f : α → α → Bool) : ∀ (xs : List α) (x : α), xs.foldl (fun a y => if f y a then y else a) x ∈ x :: xs
  | [], x => List.mem_cons_self
  | y :: ys, x => by
    rw [List.foldl_cons]
    have q := fold_mem f ys (if f y x then y else x)
    rcases List.mem_cons.mp q with e | m
    · rw [e]; split
      · exact List.mem_cons_of_mem _ List.mem_cons_self
      · exact List.mem_cons_self
    · exact List.mem_cons_of_mem _ (List.mem_cons_of_mem _ m)
theorem min_mem (p : PyData) (ps : List PyData) : PySem.W.minD p ps ∈ p :: ps := fold_mem _ ps p
theorem max_mem (p : PyData) (ps : List PyData) : PySem.W.maxD p ps ∈ p :: ps := fold_mem (fun y a => PySem.W.dataLt a y) ps p
theorem cr_minD (hc : X.calm = true) (hr : Room 0 X.A) : CallR X (bkVal (bfnOf .min)) (lF X (dMin)) := by
  intro pins s σ H ys us Q I r ⟨Z, T, dys, Qd, rh, r1, h, q⟩
  unfold dMin at h
  split at h
  · obtain ⟨v, w, rfl, rv, rw'⟩ := relTwo r1
    exact call_min2 hc pins s σ H _ us Q I r ⟨_, _, by rw [show v = _ from rv, show w = _ from rw'], q _ _ _ _ h .refl rfl rh⟩
  · obtain ⟨ds, p, ps, h1, h2, h3, h4⟩ := h
    obtain ⟨v, rfl, rv⟩ := relOne r1 rfl
    obtain ⟨a, vs, e, g1, g2⟩ := lst_rel rh rv h1
    subst e
    obtain ⟨its, r2, hl, hz⟩ := I.list (SqL.of g1)
    obtain ⟨as, rd⟩ := Dp.readsAll I _ _ _ (dps_rel g2 h2) r2
    rw [Vals.ref1 r]
    refine PySem.W.min_list_data (I.ok.hd hc) hl.isList (by simpa using rd) ⟨h3.1, h3.2.1⟩ (by have := hr.un; have := h3.2.2; omega) fun i u h' tk bs e r3 k => ?_
    obtain ⟨w, d, e1, e2, e3, e4, e5⟩ := pick_rel g2 r2 h2 (i := i) (u := u) (by rw [← e]; simp)
    refine ⟨w, H, I.kept (h' := h') (t' := tk) k, e4, q _ _ _ _ (h4 d e1 ?_) .refl e3 rh⟩
    obtain ⟨p', h6, h7⟩ := e5
    obtain ⟨cs, k1⟩ := Dp.reads I p' w u (dp_rel e3 h6) e4
    rw [h6, PySem.W.alike_unique p' _ u cs bs (h3.1 _ h7 _ (min_mem p ps)) (PyProof.Rows.Reads.keeps k k1) r3]
  · exact h.elim
theorem cr_maxD (hc : X.calm = true) (hr : Room 0 X.A) : CallR X (bkVal (bfnOf .max)) (lF X (dMax)) := by
  intro pins s σ H ys us Q I r ⟨Z, T, dys, Qd, rh, r1, h, q⟩
  unfold dMax at h
  split at h
  · obtain ⟨v, w, rfl, rv, rw'⟩ := relTwo r1
    exact call_max2 hc pins s σ H _ us Q I r ⟨_, _, by rw [show v = _ from rv, show w = _ from rw'], q _ _ _ _ h .refl rfl rh⟩
  · obtain ⟨ds, p, ps, h1, h2, h3, h4⟩ := h
    obtain ⟨v, rfl, rv⟩ := relOne r1 rfl
    obtain ⟨a, vs, e, g1, g2⟩ := lst_rel rh rv h1
    subst e
    obtain ⟨its, r2, hl, hz⟩ := I.list (SqL.of g1)
    obtain ⟨as, rd⟩ := Dp.readsAll I _ _ _ (dps_rel g2 h2) r2
    rw [Vals.ref1 r]
    refine PySem.W.max_list_data (I.ok.hd hc) hl.isList (by simpa using rd) ⟨h3.1, h3.2.1⟩ (by have := hr.un; have := h3.2.2; omega) fun i u h' tk bs e r3 k => ?_
    obtain ⟨w, d, e1, e2, e3, e4, e5⟩ := pick_rel g2 r2 h2 (i := i) (u := u) (by rw [← e]; simp)
    refine ⟨w, H, I.kept (h' := h') (t' := tk) k, e4, q _ _ _ _ (h4 d e1 ?_) .refl e3 rh⟩
    obtain ⟨p', h6, h7⟩ := e5
    obtain ⟨cs, k1⟩ := Dp.reads I p' w u (dp_rel e3 h6) e4
    rw [h6, PySem.W.alike_unique p' _ u cs bs (h3.1 _ h7 _ (max_mem p ps)) (PyProof.Rows.Reads.keeps k k1) r3]
  · exact h.elim
theorem cr_sumD (hc : X.calm = true) : CallR X (bkVal (bfnOf .sum)) (lF X (dSum)) := by
  intro pins s σ H ys us Q I r ⟨Z, T, dys, Qd, rh, r1, h, q⟩
  unfold dSum at h
  split at h
  · obtain ⟨ds, ns, h1, h2, h3⟩ := h
    obtain ⟨v, rfl, rv⟩ := relOne r1 rfl
    obtain ⟨a, vs, e, g1, g2⟩ := lst_rel rh rv h1
    rw [intsD_eq h2] at g2
    rw [g2.ints] at g1
    exact cr_sum hc pins s σ H _ us Q I r ⟨a, ns, by rw [e], .of g1, q _ _ _ _ h3 .refl rfl rh⟩
  · exact h.elim
theorem cr_intD (hc : X.calm = true) : CallR X (bkVal (bfnOf .int)) (lF X (dInt)) := by
  intro pins s σ H ys us Q I r ⟨Z, T, dys, Qd, rh, r1, h, q⟩
  unfold dInt at h
  split at h
  · obtain ⟨v, rfl, rv⟩ := relOne r1 rfl
    exact call_int1 pins s σ H _ us Q I r (.inl ⟨_, by rw [show v = _ from rv], q _ _ _ _ h .refl rfl rh⟩)
  · obtain ⟨v, rfl, rv⟩ := relOne r1 rfl
    exact call_int1 pins s σ H _ us Q I r (.inr ⟨_, by rw [show v = _ from rv], q _ _ _ _ h .refl rfl rh⟩)
  · exact h.elim
theorem cr_strD (hc : X.calm = true) : CallR X (bkVal (bfnOf .str)) (lF X (dStr)) := by
  intro pins s σ H ys us Q I r ⟨Z, T, dys, Qd, rh, r1, h, q⟩
  unfold dStr at h
  split at h
  · obtain ⟨v, rfl, rv⟩ := relOne r1 rfl
    exact call_str_int pins s σ H _ us Q I r ⟨_, by rw [show v = _ from rv], h.1, q _ _ _ _ h.2 .refl rfl rh⟩
  · exact h.elim
theorem cr_listD (hc : X.calm = true) : CallR X (bkVal (bfnOf .list)) (lF X (dList m)) := by
  intro pins s σ H ys us Q I r ⟨Z, T, dys, Qd, rh, r1, h, q⟩
  unfold dList at h
  split at h
  · obtain ⟨ds, h1, h2⟩ := h
    obtain ⟨v, rfl, rv⟩ := relOne r1 rfl
    obtain ⟨a, vs, e, g1, g2⟩ := seq_rel rh rv h1
    exact call_list_of pins s σ H _ us Q I r ⟨a, vs, by rw [e], g1, fun l hl => newL_ok rh g2 hl h2 q⟩
  · exact h.elim
theorem seqL_rel {T : DH} {H : Hp} {d : D} {v : V} {ds : List D} (r : RelH ((X.K, X.mg), Z) T H) (rv : RelD ((X.K, X.mg), Z) T H d v) (h : seqD T d = some ds) (hn : ∀ es, d ≠ .tup es) : ∃ a vs, v = .ref a ∧ SqL X.K H a vs ∧ RelDs ((X.K, X.mg), Z) T H ds vs := by
  cases d <;> simp only [seqD] at h <;> try cases h
  · exact absurd rfl (hn _)
  · obtain ⟨a, vs, e, h1, h2, h3⟩ := rv
    exact ⟨a, vs, e, .of h1, h3⟩
  · obtain ⟨a, e, h1⟩ := rv
    refine ⟨a, _, e, ?_, .ofInts _⟩
    rcases h1 with ⟨h1, _⟩ | h1
    · exact .inl h1
    · exact sqK h1
  · rename_i a
    have rv : v = .ref a := rv
    cases e : T a with
    | none => rw [e] at h; cases h
    | some o =>
      rw [e] at h
      cases o <;> try cases h
      obtain ⟨vs, h1, h2⟩ := r.ob a _ e
      exact ⟨a, vs, rv, .of h1, h2⟩
theorem cr_tupleD (hc : X.calm = true) : CallR X (bkVal (bfnOf .tuple)) (lF X dTuple) := by
  intro pins s σ H ys us Q I r ⟨Z, T, dys, Qd, rh, r1, h, q⟩
  unfold dTuple at h
  split at h
  · obtain ⟨ds, h1, h2⟩ := h
    obtain ⟨v, rfl, rv⟩ := relOne r1 rfl
    rename_i x
    by_cases hx : ∃ es, x = .tup es
    · obtain ⟨es, rfl⟩ := hx
      simp only [seqD] at h1; cases h1
      obtain ⟨a, vs, e, k1, k2, k3⟩ := rv
      exact call_tuple_of pins s σ H _ us Q I r ⟨a, vs, by rw [e], .inr ⟨.of k1, q _ _ _ _ h2 .refl ⟨a, vs, rfl, k1, k2, k3⟩ rh⟩⟩
    · obtain ⟨a, vs, e, g1, g2⟩ := seqL_rel rh rv h1 fun es e => hx ⟨es, e⟩
      exact call_tuple_of pins s σ H _ us Q I r ⟨a, vs, by rw [e], .inl ⟨g1, fun l hl => newTup_ok rh g2 hl h2 q⟩⟩
  · exact h.elim
theorem cr_no {f : Value} : CallR X f (lF X fun _ _ _ => False) := fun pins s σ H ys us Q I r ⟨Z, T, dys, Qd, rh, r1, h, q⟩ => h.elim
section
variable {pins : List (Addr × Obj)} {σ : L2.St} {H : Hp} {s : Shared} {T : DH}
mutual
theorem rp_rel {rf : Addr → Option PyData} (I : Inv X pins σ H s) (hf : ∀ a p, rf a = some p → Rp s.heap (.ref a) p) : ∀ {d : D} {v : V} {u : Value} {p : PyData}, RelD ((X.K, X.mg), Z) T H d v → RelV v u → pyV rf d = some p → Rp s.heap u p
  | .non, v, u, p, r, ru, h => by
    rw [show v = .non from r] at ru
    cases ru
    simp only [pyV] at h; cases h; exact .none
  | .bl b, v, u, p, r, ru, h => by
    rw [show v = .bl b from r] at ru
    obtain rfl := ru
    simp only [pyV] at h; cases h; exact .bool b
  | .int i, v, u, p, r, ru, h => by
    rw [show v = .int i from r] at ru
    obtain ⟨t, rfl⟩ := ru
    simp only [pyV] at h; cases h; exact .int i t
  | .str x, v, u, p, r, ru, h => by
    rw [show v = .str x from r] at ru
    obtain ⟨t, rfl⟩ := ru
    simp only [pyV] at h; cases h; exact .str x t
  | .tup ds, v, u, p, r, ru, h => by
    obtain ⟨a, vs, rfl, h1, h2, h3⟩ := r
    obtain rfl : u = Value.ref a := ru
    simp only [pyV] at h
    cases e2 : pyVs rf ds with
    | none => rw [e2] at h; cases h
    | some ps =>
      rw [e2] at h; cases h
      obtain ⟨its, rv, ⟨o, e3, e4, n, e5⟩, -⟩ := I.tuple (SqT.of h1)
      exact .tuple e3 e4 e5 (by simpa using rps_rel I hf h3 rv e2)
  | .lst ds, v, u, p, r, ru, h => by
    obtain ⟨a, vs, rfl, h1, h2, h3⟩ := r
    obtain rfl : u = Value.ref a := ru
    simp only [pyV] at h
    cases e2 : pyVs rf ds with
    | none => rw [e2] at h; cases h
    | some ps =>
      rw [e2] at h; cases h
      obtain ⟨its, rv, pl, -⟩ := I.list (SqL.of h1)
      obtain ⟨o, e3, e4, n, e5⟩ := pl.isList
      exact .list e3 e4 e5 (by simpa using rps_rel I hf h3 rv e2)
  | .emp, v, u, p, r, ru, h => by
    obtain ⟨a, rfl, h1, h2⟩ := r
    obtain rfl : u = Value.ref a := ru
    simp only [pyV] at h; cases h
    obtain ⟨z, hs, vs, kv, o, es, ep, ho, hx, hd, rr⟩ := (show ObjOk X.prog X.w H s.heap a (.dK []) from I.hok a _ h1)
    have l2 : ([] : List (Key × V)).length = vs.length := Paired.length kv
    have l1 := rr.2.1.length
    have l3 : es.toList = [] := by
      rw [← List.length_eq_zero_iff]
      simp only [List.length_nil] at l2
      omega
    exact .dict hs ho hx.1 hd (by rw [l3]; exact .nil) (by rw [l3]; exact .nil)
  | .scr ns, v, u, p, r, ru, h => by
    obtain ⟨a, rfl, h1⟩ := r
    obtain rfl : u = Value.ref a := ru
    simp only [pyV] at h; cases h
    have sq : SqL X.K H a (ns.map V.int) := by
      rcases h1 with ⟨h1, _⟩ | h1
      · exact .inl h1
      · exact sqK h1
    obtain ⟨its, rv, pl, -⟩ := I.list sq
    obtain ⟨o, e3, e4, n, e5⟩ := pl.isList
    exact .list e3 e4 e5 (by simpa using rp_ints s.heap ns rv)
  | .ref a, v, u, p, r, ru, h => by
    rw [show v = .ref a from r] at ru
    obtain rfl : u = Value.ref a := ru
    simp only [pyV] at h
    exact hf a p h
theorem rps_rel {rf : Addr → Option PyData} (I : Inv X pins σ H s) (hf : ∀ a p, rf a = some p → Rp s.heap (.ref a) p) : ∀ {ds : List D} {vs : List V} {us : List Value} {ps : List PyData}, RelDs ((X.K, X.mg), Z) T H ds vs → Vals vs us → pyVs rf ds = some ps → RpAll s.heap us ps
  | [], vs, us, ps, r, ru, h => by
    simp only [pyVs] at h; cases h
    rw [show vs = [] from r] at ru
    cases ru; exact .nil
  | d :: ds, vs, us, ps, r, ru, h => by
    obtain ⟨v, r', rfl, h1, h2⟩ := r
    cases ru with
    | cons ru1 ru2 =>
      simp only [pyVs] at h
      cases e1 : pyV rf d with
      | none => rw [e1] at h; cases h
      | some q =>
        cases e2 : pyVs rf ds with
        | none => rw [e1, e2] at h; cases h
        | some qs => rw [e1, e2] at h; cases h; exact .cons (rp_rel I hf h1 ru1 e1) (rps_rel I hf h2 ru2 e2)
theorem rp_ints (h : Heap) : ∀ (ns : List Int) {us : List Value}, Vals (ns.map V.int) us → RpAll h us (ns.map .int)
  | [], _, .nil => .nil
  | n :: ns, _, .cons r q => by
    obtain ⟨t, rfl⟩ := r
    exact .cons (.int n t) (rp_ints h ns q)
end
theorem rfV_rel (I : Inv X pins σ H s) (rh : RelH ((X.K, X.mg), Z) T H) : ∀ (n : Nat) (a : Addr) (p : PyData), rfV T n a = some p → Rp s.heap (.ref a) p
  | 0, _, _, h => by simp only [rfV] at h; cases h
  | n + 1, a, p, h => by
    simp only [rfV] at h
    split at h
    · rename_i ds e
      cases e2 : pyVs (rfV T n) ds with
      | none => rw [e2] at h; cases h
      | some ps =>
        rw [e2] at h; cases h
        obtain ⟨vs, h1, h2⟩ := rh.ob a _ e
        obtain ⟨its, rv, pl, -⟩ := I.list (SqL.of h1)
        obtain ⟨o, e3, e4, n', e5⟩ := pl.isList
        exact .list e3 e4 e5 (by simpa using rps_rel I (rfV_rel I rh n) h2 rv e2)
    · cases h
end
theorem cr_reprD (hr : Room 0 X.A) (gr : X.A.guards = some []) : CallR X (bkVal (bfnOf .repr)) (lF X dRepr) := by
  intro pins s σ H ys us Q I r ⟨Z, T, dys, Qd, rh, r1, h, q⟩
  unfold dRepr at h
  split at h
  · rename_i x
    obtain ⟨v, rfl, rv⟩ := relOne r1 rfl
    have un := hr.un
    obtain ⟨u0, rfl, ru⟩ := vals1 r
    rcases h with ⟨p, h1, h2, h3, h4, h5⟩ | ⟨h0, p, h1, h2, h3, h4, h5⟩
    rotate_left
    · obtain ⟨a, rfl⟩ : ∃ a, v = .ref a := by
        cases x with
        | non => cases h0
        | bl _ => cases h0
        | int _ => cases h0
        | str _ => cases h0
        | tup _ => obtain ⟨a, vs, e, _⟩ := id rv; exact ⟨a, e⟩
        | lst _ => obtain ⟨a, vs, e, _⟩ := id rv; exact ⟨a, e⟩
        | emp => obtain ⟨a, e, _⟩ := id rv; exact ⟨a, e⟩
        | scr _ => obtain ⟨a, e, _⟩ := id rv; exact ⟨a, e⟩
        | ref a => exact ⟨a, rv⟩
      have rp := rp_rel I (rfV_rel I rh 4) rv ru h1
      obtain rfl : u0 = Value.ref a := ru
      exact repr_ofRp rp h3 gr (by omega) (fun h' u tk keep => ⟨.str p.shown, H, I.kept (h' := h') (t' := tk) keep, ⟨u, rfl⟩, q _ _ _ _ h5 .refl rfl rh⟩) h4
    · have obj : ∀ a, v = .ref a → wpAny (model X.prog X.w) X.A (call (bkVal (bfnOf .repr)) [u0]) (EP X pins σ Q) X.xe s := fun a e => by
        subst e
        obtain ⟨as, k1⟩ := Dp.reads I p _ _ (dpt_rel rh rv h1) ru
        obtain rfl := ru
        have dp := SeqAt.depth_of_shaped h2
        exact repr_of_reads' k1 h3 (PyData.noDict_hsm (PyData.hasDict_of_canLay p (SeqAt.canLay_of_shaped h2))) gr (by omega) (fun _ _ e => e)
          (fun h' u tk keep => ⟨.str p.shown, H, I.kept (h' := h') (t' := tk) keep, ⟨u, rfl⟩, q _ _ _ _ h5 .refl rfl rh⟩) h4
      cases x with
      | non =>
        rw [show v = .non from rv] at ru
        cases ru
        simp only [pyT, pyW] at h1; cases h1
        exact P.repr_of_none ⟨.str "None", H, I.tok _, ⟨_, rfl⟩, q _ _ _ _ h5 .refl rfl rh⟩
      | bl b =>
        rw [show v = .bl b from rv] at ru
        obtain rfl := ru
        simp only [pyT, pyW] at h1; cases h1
        exact P.repr_of_bool ⟨.str (if b then "True" else "False"), H, I.tok _, ⟨_, rfl⟩, q _ _ _ _ h5 .refl rfl rh⟩
      | int i =>
        rw [show v = .int i from rv] at ru
        obtain ⟨t, rfl⟩ := ru
        simp only [pyT, pyW] at h1; cases h1
        have hl : i.natAbs.log2 < 1920 := by simpa [PyData.showable] using h3
        exact P.repr_of_int hl ⟨.str (toString i), H, I.tok _, ⟨_, rfl⟩, q _ _ _ _ h5 .refl rfl rh⟩
      | str z =>
        rw [show v = .str z from rv] at ru
        obtain ⟨t, rfl⟩ := ru
        simp only [pyT, pyW] at h1; cases h1
        exact P.repr_of_str (hsz := h4) ⟨.str (reprText z), H, I.tok _, ⟨_, rfl⟩, q _ _ _ _ h5 .refl rfl rh⟩
      | tup ds => obtain ⟨a, vs, e, _⟩ := id rv; exact obj a e
      | lst ds => obtain ⟨a, vs, e, _⟩ := id rv; exact obj a e
      | emp => obtain ⟨a, e, _⟩ := id rv; exact obj a e
      | scr ds => obtain ⟨a, e, _⟩ := id rv; exact obj a e
      | ref a => exact obj a rv
  · exact h.elim
theorem enc_each {T : DH} {H : Hp} {pins : List (Addr × Obj)} {σ : L2.St} {s : Shared} (I : Inv X pins σ H s) : ∀ {ds : List D} {vs : List V} {us : List Value} {ps : List PyData}, RelDs ((X.K, X.mg), Z) T H ds vs → Vals vs us → pyDs T ds = some ps →
    PySem.W.EachIs (fun u d => ∃ x, RelV x u ∧ RelD ((X.K, X.mg), Z) T H d x) us ds ∧ PySem.W.EachIs (fun u d => ∃ as, Reads s.heap u (encD T d) as) us ds ∧ ds.map (encD T) = ps
  | [], _, _, _, r, rv, h => by
    have e1 : _ = [] := r
    subst e1
    cases rv
    unfold pyDs at h
    cases h
    exact ⟨.nil, .nil, rfl⟩
  | d :: ds, _, _, ps, r, rv, h => by
    obtain ⟨v, r', e1, r1, r2⟩ := r
    subst e1
    cases rv with
    | cons k1 k2 =>
      unfold pyDs at h
      cases h1 : pyD T d with
      | none => rw [h1] at h; cases h
      | some x =>
        cases h2 : pyDs T ds with
        | none => rw [h1, h2] at h; cases h
        | some xs =>
          rw [h1, h2] at h
          cases h
          obtain ⟨m1, m2, m3⟩ := enc_each I r2 k2 h2
          have e : encD T d = x := by unfold encD; rw [h1]; rfl
          refine ⟨.cons ⟨v, k1, r1⟩ m1, .cons ?_ m2, by rw [List.map_cons, e, m3]⟩
          rw [e]
          exact Dp.reads I x v _ (dp_rel r1 h1) k1
theorem each_back {T : DH} {H : Hp} : ∀ {us : List Value} {ds : List D}, PySem.W.EachIs (fun u d => ∃ x, RelV x u ∧ RelD ((X.K, X.mg), Z) T H d x) us ds → ∃ vs, Vals vs us ∧ RelDs ((X.K, X.mg), Z) T H ds vs
  | _, _, .nil => ⟨[], .nil, rfl⟩
  | _, _, .cons ⟨x, h1, h2⟩ t => by
    obtain ⟨vs, k1, k2⟩ := each_back t
    exact ⟨x :: vs, .cons h1 k1, x, vs, rfl, h2, k2⟩
theorem depth_all {p : PyData} : ∀ {ps : List PyData}, p ∈ ps → p.depth ≤ PyData.depthAll ps
  | q :: r, h => by
    rw [PyData.depthAll]
    rcases List.mem_cons.mp h with e | h
    · rw [e]; omega
    · have := depth_all h; omega
theorem perm_sort {ns ks : List Int} (h1 : ns.Perm ks) (h2 : ns.Pairwise (· ≤ ·)) : ns = ks.mergeSort (fun i j => decide (i ≤ j)) := by
  have p := List.mergeSort_perm ks (fun i j => decide (i ≤ j))
  have s : (ks.mergeSort (fun i j => decide (i ≤ j))).Pairwise (fun a b => decide (a ≤ b) = true) := List.pairwise_mergeSort (fun a b c h1 h2 => by simp only [decide_eq_true_eq] at *; omega) (fun a b => by simp only [Bool.or_eq_true, decide_eq_true_eq]; omega) ks
  refine List.Perm.eq_of_pairwise (le := fun a b : Int => a ≤ b) (fun a b _ _ h1 h2 => by omega) h2 (s.imp fun h => by simpa using h) (h1.trans p.symm)
theorem cr_sortedD (hc : X.calm = true) (hr : Room 0 X.A) : CallR X (bkVal (bfnOf .sorted)) (lF X (dSorted m)) := by
  intro pins s σ H ys us Q I r ⟨Z, T, dys, Qd, rh, r1, h, q⟩
  unfold dSorted at h
  split at h
  · rcases h with ⟨ds, ps, h1, h2, h3, h4, h5⟩ | ⟨a, kvs, ks, e, h1, h2, h3, h4⟩
    · obtain ⟨v, rfl, rv⟩ := relOne r1 rfl
      obtain ⟨a, vs, e, g1, g2⟩ := lst_rel rh rv h1
      subst e
      obtain ⟨its, r2, hl, hz⟩ := I.list (SqL.of g1)
      obtain ⟨m1, m2, m3⟩ := enc_each I g2 r2 h2
      rw [Vals.ref1 r]
      have ll : ds.length = vs.length := g2.length.symm
      have hu : ∀ b ∈ ds, X.A.units + 2 + (encD T b).depth < cLine := fun b hb => by
        have := hr.un
        have := depth_all (ps := ps) (p := encD T b) (by rw [← m3]; exact List.mem_map.mpr ⟨b, hb, rfl⟩)
        have := h3.2.2
        omega
      refine PySem.W.sorted_data hl.isList m1 m2 (by rw [m3]; exact h3.1) ?_ (by rw [ll]; exact hz) hu fun out ho eo => ?_
      · rw [m3]
        rcases h4 with h4 | h4
        · exact .inl h4
        · exact .inr fun d hd => ⟨h3.2.1 d hd, h4 d hd⟩
      · obtain ⟨ws, k1, k2⟩ := each_back eo
        obtain ⟨ep, he'⟩ := PyProof.Rows.sortedAll_at s.heap its out.toArray
        have hlen : ws.length ≤ sizeLine := by
          rw [k2.length, List.length_mergeSort, ll]; exact hz
        refine ⟨.ref _, upd H (s.heap.objs.size + 1) (.lst ws), I.laid (t' := s.toks) (fun _ _ => PyProof.Rows.sortedAll_old) (Nat.le_succ _) ⟨hlen, out, ep, k1, he'⟩, rfl, ?_⟩
        exact newL_ok rh k2 (I.hok.fresh (Nat.le_succ _)) h5 q
    · subst e
      obtain ⟨v, rfl, rv⟩ := relOne r1 rfl
      obtain ⟨ws, g1, g2⟩ := rh.ob a _ h1
      refine call_sortedDI hc pins s σ H _ us Q I r ⟨a, ws, ks, by rw [show v = .ref a from rv], .inl g1, by rw [g2.keys, h2], h3, fun ns p n1 n2 hp => ?_⟩
      rw [perm_sort n1 n2]
      exact newL_ok rh (.ofInts _) hp h4 q
  · exact h.elim
theorem cr_allD (hc : X.calm = true) : CallR X (bkVal (bfnOf .all)) (lF X dAll) := by
  intro pins s σ H ys us Q I r ⟨Z, T, dys, Qd, rh, r1, h, q⟩
  unfold dAll at h
  split at h
  · obtain ⟨ds, bs, h1, h2, h3⟩ := h
    obtain ⟨v, rfl, rv⟩ := relOne r1 rfl
    obtain ⟨a, vs, e, g1, g2⟩ := lst_rel rh rv h1
    subst h2
    rw [g2.bls] at g1
    exact cr_all hc pins s σ H _ us Q I r ⟨a, bs, by rw [e], .of g1, q _ _ _ _ h3 .refl rfl rh⟩
  · exact h.elim
theorem dK_val {K : KZ} {T : DH} {H : Hp} {k : Key} {v : V} (h : RelD K T H (dK k) v) : v = kV k := by
  cases k <;> exact h
theorem pairs_rel {T : DH} {H : Hp} : ∀ {kvs : List (Key × D)} {vs : List V}, RelDs ((X.K, X.mg), Z) T H (kvs.map fun kv => D.tup [dK kv.1, kv.2]) vs →
    ∃ (ps : List Addr) (ws : List (Key × V)), vs = ps.map V.ref ∧ Paired (fun p kv => SqT X.K H p [kV kv.1, kv.2]) ps ws ∧ RelKs ((X.K, X.mg), Z) T H kvs ws
  | [], vs, h => by
    have h : vs = [] := h
    subst h
    exact ⟨[], [], rfl, .nil, rfl⟩
  | kv :: kvs, vs, h => by
    obtain ⟨v, r, e, h1, h2⟩ := h
    subst e
    obtain ⟨ps, ws, e2, h3, h4⟩ := pairs_rel h2
    subst e2
    obtain ⟨a, us, e, k1, -, k3⟩ := h1
    subst e
    obtain ⟨u1, r1, e, g1, g2⟩ := k3
    subst e
    obtain ⟨u2, r2, e, g3, g4⟩ := g2
    subst e
    have g4 : r2 = [] := g4
    subst g4
    rw [dK_val g1] at k1
    exact ⟨a :: ps, (kv.1, u2) :: ws, rfl, .cons (SqT.of k1) h3, u2, ws, rfl, g3, h4⟩
theorem dicM_rel {T : DH} {H : Hp} : ∀ (ks : List (Key × D)) {us : List (Key × V)} {kvs : List (Key × D)} {ws : List (Key × V)}, RelKs ((X.K, X.mg), Z) T H ks us → RelKs ((X.K, X.mg), Z) T H kvs ws →
    RelKs ((X.K, X.mg), Z) T H (ks.foldl (fun acc kv => putKD acc kv.1 kv.2) kvs) (mergeK ws us)
  | [], us, kvs, ws, r, g => by
    have r : us = [] := r
    subst r; exact g
  | k :: ks, us, kvs, ws, r, g => by
    obtain ⟨v, r', e, r1, r2⟩ := r
    subst e
    exact dicM_rel ks (kvs := putKD kvs k.1 k.2) (ws := putK ws k.1 v) r2 (putK_rel r1 g)
theorem cr_dictD (hc : X.calm = true) : CallR X (bkVal (bfnOf .dict)) (lF X dDict) := by
  intro pins s σ H ys us Q I r ⟨Z, T, dys, Qd, rh, r1, h, q⟩
  unfold dDict at h
  split at h
  · obtain ⟨kvs, rfl, h3⟩ := h
    obtain ⟨v, rfl, rv⟩ := relOne r1 rfl
    obtain ⟨a, vs, rfl, k1, -, k3⟩ := rv
    obtain ⟨ps, ws, rfl, e2, e3⟩ := pairs_rel k3
    refine call_dictP hc pins s σ H _ us Q I r ⟨a, ps, ws, rfl, SqL.of k1, e2, fun p hp => ?_⟩
    have m := dicM_rel (X := X) (Z := Z) kvs (kvs := []) (ws := []) e3 rfl
    exact q _ _ _ _ (h3 p (rh.free hp)) (fr_newT hp) rfl (rh.newT hp ⟨_, upd_same, m.fr (fr_newT hp)⟩)
  · exact h.elim
theorem fn_D (hc : X.calm = true) (hr : Room 0 X.A) (gr : X.A.guards = some []) (f : Bfn) : CallR X (bkVal (bfnOf f)) (lF X (dFn f m)) := by
  cases f
  · exact cr_lenD hc
  · exact cr_absD hc
  · exact cr_minD hc hr
  · exact cr_maxD hc hr
  · exact cr_sumD hc
  · exact cr_intD hc
  · exact cr_strD hc
  · exact cr_reprD hr gr
  · exact cr_listD hc
  · exact cr_tupleD hc
  · exact cr_sortedD hc hr
  · exact cr_dictD hc
  · exact cr_allD hc
  all_goals exact cr_no
/-! ### methods -/
def mthOf : Mth → String × Str × String
  | .append => ("list", "append", "list.append") | .extend => ("list", "extend", "list.extend") | .pop => ("list", "pop", "list.pop") | .insert => ("list", "insert", "list.insert") | .index => ("list", "index", "list.index")
  | .count => ("list", "count", "list.count") | .join => ("str", "join", "str.join") | .split => ("str", "split", "str.split") | .upper => ("str", "upper", "str.upper") | .get => ("dict", "get", "dict.get") | .reverse => ("list", "reverse", "list.reverse")
  | .clear => ("list", "clear", "list.clear") | .update => ("dict", "update", "dict.update")
theorem mth_slot (k : Mth) : PlainAttrs (mthOf k).1 ∧ Slot (mthOf k).1 (mthOf k).2.1 (mthOf k).2.2 ∧ typeOf (.builtin (mthOf k).2.2) = pure (.type "method_descriptor") := by
  cases k
  · exact ⟨PySem.F.plainAttrs_list, PySem.F.slot_list_append, PySem.F.type_list_append⟩
  · exact ⟨PySem.F.plainAttrs_list, PySem.F.slot_list_extend, PySem.F.type_list_extend⟩
  · exact ⟨PySem.F.plainAttrs_list, PySem.F.slot_list_pop, PySem.F.type_list_pop⟩
  · exact ⟨PySem.F.plainAttrs_list, PySem.F.slot_list_insert, PySem.F.type_list_insert⟩
  · exact ⟨PySem.F.plainAttrs_list, PySem.F.slot_list_index, PySem.F.type_list_index⟩
  · exact ⟨PySem.F.plainAttrs_list, PySem.F.slot_list_count, PySem.F.type_list_count⟩
  · exact ⟨PySem.F.plainAttrs_str, PySem.F.slot_str_join, PySem.F.type_str_join⟩
  · exact ⟨PySem.F.plainAttrs_str, PySem.F.slot_str_split, PySem.F.type_str_split⟩
  · exact ⟨PySem.F.plainAttrs_str, PySem.F.slot_str_upper, PySem.F.type_str_upper⟩
  · exact ⟨PySem.F.plainAttrs_dict, PySem.F.slot_dict_get, PySem.F.type_dict_get⟩
  · exact ⟨PySem.F.plainAttrs_list, PySem.F.slot_list_reverse, PySem.F.type_list_reverse⟩
  · exact ⟨PySem.F.plainAttrs_list, PySem.F.slot_list_clear, PySem.F.type_list_clear⟩
  · exact ⟨PySem.F.plainAttrs_dict, PySem.F.slot_dict_update, PySem.F.type_dict_update⟩
theorem mthOk_ty {T : DH} {H : Hp} {k : Mth} {d : D} {v : V} (rh : RelH ((X.K, X.mg), Z) T H) (r : RelD ((X.K, X.mg), Z) T H d v) (h : mthOk k T d) : tyV X.K (mthOf k).1 v H := by
  have lst : (∃ ds, lstD T d = some ds) → tyV X.K "list" v H := fun ⟨ds, h⟩ => by
    obtain ⟨a, vs, e, h1, h2⟩ := lst_rel rh r h
    rw [e]; exact .inl ⟨rfl, vs, .of h1⟩
  have st : isStrD d = true → tyV X.K "str" v H := fun h => by
    cases d <;> simp only [isStrD] at h <;> try cases h
    rw [show v = _ from r]; rfl
  have dc : isDicP T d = true → tyV X.K "dict" v H := fun h => by
    cases d <;> simp only [isDicP] at h <;> try cases h
    rename_i b _
    rw [show v = .ref b from r]
    cases e : T b with
    | none => rw [e] at h; cases h
    | some o =>
      rw [e] at h
      cases o <;> try cases h
      · obtain ⟨ws, h1, _⟩ := rh.ob b _ e
        exact .inr (.inr (.inl ⟨rfl, .inl ⟨ws, h1⟩⟩))
      · obtain ⟨ws, h1, _⟩ := rh.ob b _ e
        exact .inr (.inr (.inl ⟨rfl, .inr ⟨ws, h1⟩⟩))
  cases k <;> first | exact lst h | exact st h | exact dc h
theorem lstAt {T : DH} {H : Hp} {a : Addr} {ds : List D} (rh : RelH ((X.K, X.mg), Z) T H) (h : T a = some (.lst ds)) : ∃ vs, H a = some (.lst vs) ∧ RelDs ((X.K, X.mg), Z) T H ds vs := rh.ob a _ h
theorem lst_wr {T : DH} {H : Hp} {a : Addr} {o : DO} {ds' : List D} {vs' : List V} (rh : RelH ((X.K, X.mg), Z) T H) (h : T a = some o) (r : RelDs ((X.K, X.mg), Z) T H ds' vs') : RelH ((X.K, X.mg), Z) (updD T a (.lst ds')) (upd H a (.lst vs')) :=
  rh.wr h ⟨vs', upd_same, r.fr (fr_wr h)⟩
theorem mt_appendD : MtR X "list.append" (lM X dAppend) := by
  intro pins s σ H x xs v us Q I rx rs ⟨Z, T, dx, dys, Qd, rh, r1, r2, h, q⟩
  unfold dAppend at h
  split at h
  · obtain ⟨ds, h1, h2, h3⟩ := h
    obtain ⟨y, rfl, ry⟩ := relOne r2 rfl
    obtain ⟨vs, g1, g2⟩ := lstAt rh h1
    exact mt_append pins s σ H x _ v us Q I rx rs ⟨_, vs, y, r1, rfl, g1, by rw [g2.length]; exact h2, q _ _ _ _ h3 (fr_wr h1) rfl (lst_wr rh h1 (g2.append (.one ry)))⟩
  · exact h.elim
theorem mt_extendT : MtM X "list.extend" (fun x vs H Q => ∃ l b xs zs, x = .ref l ∧ vs = [.ref b] ∧ H l = some (.lst xs) ∧ H b = some (.tup zs) ∧ xs.length + zs.length ≤ sizeLine ∧ Q .non (upd H l (.lst (xs ++ zs)))) := by
  intro pins s σ H x vs v us Q I rx rv h
  obtain ⟨l, b, xs, zs, rfl, rfl, hH, hB, hz, q⟩ := h
  cases rx
  obtain ⟨u, rfl, ru⟩ := rv.one
  cases ru
  obtain ⟨z, its, n, r, hl, e⟩ := I.lstM hH
  obtain ⟨its2, r2, ⟨⟨cls, dd, data, sl⟩, ho, hc, n2, hd⟩, hs⟩ := I.tuple (SqT.of hB)
  simp only at hc hd
  subst hc hd
  have hl2 := r2.length
  have hsz : its.toArray.size + its2.toArray.size ≤ sizeLine := by rw [List.size_toArray, List.size_toArray]; omega
  have hlong : ¬ (!its.toArray.isEmpty && Builtin.List.listTooLong (its.toArray.size + its2.toArray.size)) = true := by
    rw [notLongL hsz, Bool.and_false]
    exact Bool.false_ne_true
  refine call_meets PySem.F.slot_list_extend ⟨_, e, rfl⟩ PySem.F.entry_list_extend (PySem.F.args_list_extend_2 _ _)
    (PySem.AutoSeq1.list_extend_tupD l its.toArray n b its2.toArray n2 dd sl hlong (by rw [List.size_toArray]; omega) (by omega)) ⟨e, ho, ?_⟩
  refine ⟨.non, _, I.lset (its' := its ++ its2) hH e (by simp) (r.append r2) ?_, rfl, q⟩
  rw [List.length_append]
  omega
theorem mt_extendD : MtR X "list.extend" (lM X dExtend) := by
  intro pins s σ H x xs v us Q I rx rs ⟨Z, T, dx, dys, Qd, rh, r1, r2, h, q⟩
  unfold dExtend at h
  split at h
  · obtain ⟨ds, es, h1, h4, h2, h3⟩ := h
    rename_i dx_
    obtain ⟨y, rfl, ry⟩ := relOne r2 rfl
    obtain ⟨vs, g1, g2⟩ := lstAt rh h1
    by_cases ht : ∃ ds, dx_ = D.tup ds
    · obtain ⟨ds', rfl⟩ := ht
      unfold extD at h4
      cases h4
      obtain ⟨b, zs, e, k1, -, k2⟩ := ry
      exact mt_extendT pins s σ H x _ v us Q I rx rs ⟨_, b, vs, zs, r1, by rw [e], g1, k1, by rw [g2.length, k2.length]; exact h2, q _ _ _ _ h3 (fr_wr h1) rfl (lst_wr rh h1 (g2.append k2))⟩
    have h4 : lstD T dx_ = some es := by
      unfold extD at h4
      split at h4
      · exact absurd ⟨_, rfl⟩ ht
      · exact h4
    obtain ⟨b, zs, e, k1, k2⟩ := lst_rel rh ry h4
    exact mt_extend pins s σ H x _ v us Q I rx rs ⟨_, b, vs, zs, r1, by rw [e], g1, k1, by rw [g2.length, k2.length]; exact h2, q _ _ _ _ h3 (fr_wr h1) rfl (lst_wr rh h1 (g2.append k2))⟩
  · exact h.elim
theorem mt_popD : MtR X "list.pop" (lM X dPop) := by
  intro pins s σ H x xs v us Q I rx rs ⟨Z, T, dx, dys, Qd, rh, r1, r2, h, q⟩
  unfold dPop at h
  split at h
  · obtain ⟨ds, d, h1, h2, h3⟩ := h
    obtain ⟨vs, g1, g2⟩ := lstAt rh h1
    obtain ⟨y, e1, e2⟩ := g2.get h2
    exact mt_pop pins s σ H x _ v us Q I rx rs ⟨_, vs, y, r1, r2, g1, by rw [g2.length]; exact e1, q _ _ _ _ h3 (fr_wr h1) (e2.fr (fr_wr h1)) (lst_wr rh h1 g2.dropLast)⟩
  · obtain ⟨ds, j, d, h1, h2, h3, h4, h5, h6⟩ := h
    obtain ⟨y, rfl, ry⟩ := relOne r2 rfl
    obtain ⟨vs, g1, g2⟩ := lstAt rh h1
    obtain ⟨z, e1, e2⟩ := g2.get h5
    exact mt_popAt pins s σ H x _ v us Q I rx rs ⟨_, vs, _, j, z, r1, by rw [show y = _ from ry], g1, h2, h3, by rw [g2.length]; exact h4, e1, q _ _ _ _ h6 (fr_wr h1) (e2.fr (fr_wr h1)) (lst_wr rh h1 (g2.eraseIdx j))⟩
  · exact h.elim
theorem mt_indexD' (hu : X.A.units + 65 < cLine) : MtR X "list.index" (lM X dIndexM) := by
  intro pins s σ H x xs v us Q I rx rs ⟨Z, T, dx, dys, Qd, rh, r1, r2, h, q⟩
  unfold dIndexM at h
  split at h
  · obtain ⟨ds, qs, p, j, z, h1, h2, h3, h4, h5, h6, h7, h8, h9⟩ := h
    obtain ⟨y, rfl, ry⟩ := relOne r2 rfl
    obtain ⟨a, vs, e, g1, g2⟩ := lst_rel rh r1 h1
    exact L2.mt_indexD hu pins s σ H x _ v us Q I rx rs ⟨a, y, p, qs, j, z, e, rfl, .lst (SqL.of g1) (dps_rel g2 h2), dpt_rel rh ry h3, h4, h5, h6, h7, h8, q _ _ _ _ h9 .refl rfl rh⟩
  · exact h.elim
theorem mt_countD' (hu : X.A.units + 65 < cLine) : MtR X "list.count" (lM X dCountM) := by
  intro pins s σ H x xs v us Q I rx rs ⟨Z, T, dx, dys, Qd, rh, r1, r2, h, q⟩
  unfold dCountM at h
  split at h
  · obtain ⟨ds, qs, p, h1, h2, h3, h4, h5, h8⟩ := h
    have h6 := PyData.plainAll_of_canLay0 qs (SeqAt.canLay_of_shaped h4)
    have h7 := PyData.plain_of_canLay0 p (SeqAt.canLay_of_shaped h5)
    obtain ⟨y, rfl, ry⟩ := relOne r2 rfl
    obtain ⟨a, vs, e, g1, g2⟩ := lst_rel rh r1 h1
    subst e
    obtain rfl : v = Value.ref a := rx
    cases rs with
    | cons r3 rt =>
      cases rt
      obtain ⟨bs, rd⟩ := Dp.reads I p y _ (dpt_rel rh ry h3) r3
      obtain ⟨its, rv, ⟨o, n, ho, hc, hdn, hdt⟩, hlen⟩ := I.list (SqL.of g1)
      obtain ⟨as, ra⟩ := Dp.readsAll I qs _ its (dps_rel g2 h2) rv
      exact SeqAt.count_list_data (vs := its.toArray) ⟨o, ho, hc, n, hdt⟩ (show ReadsAll s.heap its.toArray.toList qs as from ra) rd h6 h7 (by have := SeqAt.depth_of_shaped h5; have hm : min (PyData.depthAll qs) p.depth ≤ p.depth := Nat.min_le_right _ _; omega) ⟨.int _, H, I.tok _, ⟨_, rfl⟩, q _ _ _ _ h8 .refl rfl rh⟩
  · exact h.elim
theorem mt_reverseD : MtR X "list.reverse" (lM X dReverse) := by
  intro pins s σ H x xs v us Q I rx rs ⟨Z, T, dx, dys, Qd, rh, r1, r2, h, q⟩
  unfold dReverse at h
  split at h
  · obtain ⟨ds, h1, h3⟩ := h
    obtain ⟨vs, g1, g2⟩ := lstAt rh h1
    exact mt_reverse pins s σ H x _ v us Q I rx rs ⟨_, vs, r1, r2, g1, q _ _ _ _ h3 (fr_wr h1) rfl (lst_wr rh h1 g2.reverse)⟩
  · exact h.elim
theorem mt_clearD : MtR X "list.clear" (lM X dClear) := by
  intro pins s σ H x xs v us Q I rx rs ⟨Z, T, dx, dys, Qd, rh, r1, r2, h, q⟩
  unfold dClear at h
  split at h
  · obtain ⟨ds, h1, h3⟩ := h
    obtain ⟨vs, g1, g2⟩ := lstAt rh h1
    exact mt_clear pins s σ H x _ v us Q I rx rs ⟨_, vs, r1, r2, g1, q _ _ _ _ h3 (fr_wr h1) rfl (lst_wr rh h1 rfl)⟩
  · exact h.elim
theorem mt_insertD : MtR X "list.insert" (lM X dInsert) := by
  intro pins s σ H x xs v us Q I rx rs ⟨Z, T, dx, dys, Qd, rh, r1, r2, h, q⟩
  unfold dInsert at h
  split at h
  · obtain ⟨ds, h1, h2, h3, h4, h5⟩ := h
    obtain ⟨y, z, rfl, ry, rz⟩ := relTwo r2
    obtain ⟨vs, g1, g2⟩ := lstAt rh h1
    exact mt_insert pins s σ H x _ v us Q I rx rs ⟨_, vs, _, z, r1, by rw [show y = _ from ry], g1, by rw [g2.length]; exact h2, h3, h4, q _ _ _ _ h5 (fr_wr h1) rfl (lst_wr rh h1 (((g2.take _).append (.one rz)).append (g2.drop _)))⟩
  · exact h.elim
theorem mt_joinD : MtR X "str.join" (lM X dJoin) := by
  intro pins s σ H x xs v us Q I rx rs ⟨Z, T, dx, dys, Qd, rh, r1, r2, h, q⟩
  unfold dJoin at h
  split at h
  · obtain ⟨ds, zs, h1, h2, h3, h4⟩ := h
    obtain ⟨y, rfl, ry⟩ := relOne r2 rfl
    obtain ⟨a, vs, e, g1, g2⟩ := seq_rel rh ry h1
    rw [strsD_eq h2] at g2
    rw [g2.strs] at g1
    refine mt_join pins s σ H x _ v us Q I rx rs ⟨_, a, zs, r1, by rw [e], g1, h3, ?_⟩
    rw [TL.join_eq]
    exact q _ _ _ _ h4 .refl rfl rh
  · exact h.elim
theorem mt_upperD : MtR X "str.upper" (lM X dUpper) := by
  intro pins s σ H x xs v us Q I rx rs ⟨Z, T, dx, dys, Qd, rh, r1, r2, h, q⟩
  unfold dUpper at h
  split at h
  · obtain ⟨h1, h2, h3⟩ := h
    refine mt_upper pins s σ H x _ v us Q I rx rs ⟨_, r1, r2, Nat.le_trans h2 (by omega), ?_⟩
    rw [PyProof.Rows.upper_ascii h1]
    exact q _ _ _ _ h3 .refl rfl rh
  · exact h.elim
theorem getD_rel {Z : Addr → Prop} {T : DH} {H : Hp} {o : Option D} {w : Option V} {d : D} {v : V} (r : RelOD X Z T H o w) (h : RelD ((X.K, X.mg), Z) T H d v) : RelD ((X.K, X.mg), Z) T H (o.getD d) (w.getD v) := by
  cases o <;> cases w <;> first | exact h | exact r | cases r
theorem notP {Z : Addr → Prop} {T : DH} {H : Hp} {d : D} {a : Addr} {kvs : List (NestedKey × Int)} (r : RelD ((X.K, X.mg), Z) T H d (.ref a)) (e : T a = some (.dN kvs)) (h : isDicP T d = true) : False := by
  cases d <;> simp only [isDicP] at h <;> try cases h
  rename_i b
  have q : V.ref a = V.ref b := r
  injection q with q
  subst q
  rw [e] at h
  cases h
theorem mt_getD (hr : Room 0 X.A) : MtR X "dict.get" (lM X dGetM) := by
  intro pins s σ H x xs v us Q I rx rs ⟨Z, T, dx, dys, Qd, rh, r1, r2, h, q⟩
  have un := hr.un
  unfold dGetM at h
  split at h
  · obtain ⟨h0, r, h1, h2⟩ := h
    obtain ⟨y, rfl, ry⟩ := relOne r2 rfl
    rcases dget_rel rh r1 ry h1 with ⟨a, w, rfl, g1, g2⟩ | ⟨a, kvs, as, j, rfl, e2, g1, g2, g3, eo⟩
    rotate_left
    · exact (notP r1 e2 h0).elim
    cases rs with
    | cons r3 r4 =>
      cases r4
      obtain rfl : v = Value.ref a := rx
      exact d_get1 (by omega) I g1 r3 fun w' s' I' rw' => ⟨w.getD .non, H, I', rw', q _ _ _ _ h2 .refl (getD_rel g2 rfl) rh⟩
  · obtain ⟨h0, r, h1, h2⟩ := h
    obtain ⟨y, z, rfl, ry, rz⟩ := relTwo r2
    rcases dget_rel rh r1 ry h1 with ⟨a, w, rfl, g1, g2⟩ | ⟨a, kvs, as, j, rfl, e2, g1, g2, g3, eo⟩
    rotate_left
    · exact (notP r1 e2 h0).elim
    cases rs with
    | cons r3 r4 =>
      cases r4 with
      | cons r5 r6 =>
        cases r6
        obtain rfl : v = Value.ref a := rx
        exact d_get2 (by omega) I g1 r3 r5 fun w' s' I' rw' => ⟨w.getD z, H, I', rw', q _ _ _ _ h2 .refl (getD_rel g2 rz) rh⟩
  · exact h.elim
theorem mt_no {id : String} : MtR X id (lM X fun _ _ _ _ => False) := fun pins s σ H x xs v us Q I rx rs ⟨Z, T, dx, dys, Qd, rh, r1, r2, h, q⟩ => h.elim
theorem mt_D (hr : Room 0 X.A) (k : Mth) : MtR X (mthOf k).2.2 (lM X (dMth k m)) := by
  cases k
  · exact mt_appendD
  · exact mt_extendD
  · exact mt_popD
  · exact mt_insertD
  · exact mt_indexD' (by have := hr.un; omega)
  · exact mt_countD' (by have := hr.un; omega)
  · exact mt_joinD
  · exact mt_no
  · exact mt_upperD
  · exact mt_getD hr
  · exact mt_reverseD
  · exact mt_clearD
  · exact mt_no
end
end DL

set_option linter.all false
set_option maxRecDepth 100000
set_option maxHeartbeats 4000000
namespace DL
open PySem PySem.Spec L2
/-! ### what is walked -/
structure SrcOk (X : Cx) (Z : Addr → Prop) (J : It) (src : Src) (T0 : DH) (H0 : Hp) : Prop where
  goes : ∀ Z' i T H, Better ((X.K, X.mg), Z) ((X.K, X.mg), Z') T0 H0 → i < src.xs.length → Fr T0 H0 T H → RelH ((X.K, X.mg), Z') T H → src.ok T → J.go i H
  stops : ∀ Z' T H, Better ((X.K, X.mg), Z) ((X.K, X.mg), Z') T0 H0 → Fr T0 H0 T H → RelH ((X.K, X.mg), Z') T H → src.ok T → J.stop src.xs.length H
  ylds : ∀ Z' i T H x H', Better ((X.K, X.mg), Z) ((X.K, X.mg), Z') T0 H0 → i < src.xs.length → Fr T0 H0 T H → RelH ((X.K, X.mg), Z') T H → src.ok T → J.yld i H x H' → ∃ d, src.xs[i]? = some d ∧ RelD ((X.K, X.mg), Z') T H' d x ∧ Fr T H T H' ∧ RelH ((X.K, X.mg), Z') T H'
def lI (X : Cx) (W : WX) (t : TDI) : TI := fun σ H R => ∃ Z de T S E, RelEnv ((X.K, X.mg), Z) T H de σ ∧ RelH ((X.K, X.mg), Z) T H ∧ t de T S E ∧ (∀ src T' J H', S src T' → Fr T H T' H' → RelH ((X.K, X.mg), Z) T' H' → SrcOk X Z J src T' H' → R J H') ∧ ThenX X Z T H E W σ
def DI (X : Cx) (tg e : Expr) (t : TDI) : Prop := ∀ W, Takes X W → PI X tg e (lI X W t)
section
variable {X : Cx} {Z : Addr → Prop} {T : DH} {H : Hp}
theorem src_list {a : Addr} {vs : List V} {ds : List D} (h : ∀ T' H', Fr T H T' H' → SqL X.K H' a vs) (rd : RelDs ((X.K, X.mg), Z) T H ds vs) : SrcOk X Z (Itl X.K a) ⟨ds, none⟩ T H := by
  refine ⟨fun Z' i T' H' b hi f r o => ?_, fun Z' T' H' b f r o => ?_, fun Z' i T' H' x H2 b hi f r o y => ?_⟩
  · obtain ⟨v, e, _⟩ := rd.get (List.getElem?_eq_getElem hi)
    exact ⟨vs, v, h _ _ f, e⟩
  · exact ⟨vs, h _ _ f, by rw [rd.length]; exact Nat.le_refl _⟩
  · obtain ⟨e, y⟩ := y
    subst e
    obtain ⟨d, e1, e2⟩ := ((b.all rd).fr f).getV (y vs (h _ _ f))
    exact ⟨d, e1, e2, .refl, r⟩
theorem src_ref {a : Addr} {ds : List D} : SrcOk X Z (Itl X.K a) ⟨ds, some (a, .lst ds)⟩ T H := by
  refine ⟨fun Z' i T' H' b hi f r o => ?_, fun Z' T' H' b f r o => ?_, fun Z' i T' H' x H2 b hi f r o y => ?_⟩
  · obtain ⟨vs, h1, h2⟩ := r.ob a _ o
    obtain ⟨v, e, _⟩ := h2.get (List.getElem?_eq_getElem hi)
    exact ⟨vs, v, .of h1, e⟩
  · obtain ⟨vs, h1, h2⟩ := r.ob a _ o
    exact ⟨vs, .of h1, by rw [h2.length]; exact Nat.le_refl _⟩
  · obtain ⟨e, y⟩ := y
    subst e
    obtain ⟨vs, h1, h2⟩ := r.ob a _ o
    obtain ⟨d, e1, e2⟩ := h2.getV (y vs (.of h1))
    exact ⟨d, e1, e2, .refl, r⟩
theorem src_tup {a : Addr} {vs : List V} {ds : List D} (h1 : H a = some (.tup vs)) (h2 : T a = none) (h3 : RelDs ((X.K, X.mg), Z) T H ds vs) : SrcOk X Z (Itt X.K a) ⟨ds, none⟩ T H := by
  refine ⟨fun Z' i T' H' b hi f r o => ?_, fun Z' T' H' b f r o => ?_, fun Z' i T' H' x H2 b hi f r o y => ?_⟩
  · obtain ⟨v, e, _⟩ := h3.get (List.getElem?_eq_getElem hi)
    exact ⟨vs, v, .of (f a _ h1 h2 nofun).1, e⟩
  · exact ⟨vs, .of (f a _ h1 h2 nofun).1, by rw [h3.length]; exact Nat.le_refl _⟩
  · obtain ⟨e, y⟩ := y
    subst e
    obtain ⟨d, e1, e2⟩ := (b.all h3).getV (y vs (.of (f a _ h1 h2 nofun).1))
    exact ⟨d, e1, e2.fr f, .refl, r⟩
theorem src_range {lo : Int} {n : Nat} : SrcOk X Z (Itr lo n) ⟨(List.range n).map fun (k : Nat) => D.int (lo + k), none⟩ T H := by
  have hl : ((List.range n).map fun (k : Nat) => D.int (lo + k)).length = n := by simp
  refine ⟨fun Z' i T' H' b hi f r o => ?_, fun Z' T' H' b f r o => ?_, fun Z' i T' H' x H2 b hi f r o y => ?_⟩
  · show i < n
    simpa using hi
  · show n ≤ _
    rw [hl]; exact Nat.le_refl _
  · obtain ⟨e, y⟩ := y
    subst e
    have hi : i < n := by simpa using hi
    exact ⟨.int (lo + i), by simp [hi], y, .refl, r⟩
theorem src_str {x : Str} : SrcOk X Z (Its x) ⟨x.cps.toList.map fun c => D.str ⟨#[c]⟩, none⟩ T H := by
  refine ⟨fun Z' i T' H' b hi f r o => ?_, fun Z' T' H' b f r o => ?_, fun Z' i T' H' v H2 b hi f r o y => ?_⟩
  · show i < x.cps.size
    simpa using hi
  · show x.cps.size ≤ _
    simp
  · obtain ⟨e, c, e1, e2⟩ := y
    subst e
    refine ⟨.str ⟨#[c]⟩, ?_, e2, .refl, r⟩
    rw [List.getElem?_map, Array.getElem?_toList, e1]
    rfl
/-- a list, a tuple, a text -/
theorem di_seq {tg e : Expr} {te : TDE} (he : DE X e te) : DI X tg e (fun de T S E => te de T (fun x T1 => match x with
      | .tup ds => S ⟨ds, none⟩ T1
      | .lst ds => S ⟨ds, none⟩ T1
      | .scr ns => S ⟨ns.map D.int, none⟩ T1
      | .str s => S ⟨s.cps.toList.map fun c => D.str ⟨#[c]⟩, none⟩ T1
      | .ref a => ∃ ds, T1 a = some (.lst ds) ∧ S ⟨ds, some (a, .lst ds)⟩ T1
      | _ => False) E) := by
  intro W tk
  refine ⟨fun pins s σ H R I ⟨Z, de, T, S, E, re, rh, ht, hs, hx⟩ => ?_⟩
  refine thn ((he W tk).run pins s σ H (fun v H1 => ∃ d T1, Fr T H T1 H1 ∧ RelD ((X.K, X.mg), Z) T1 H1 d v ∧ RelH ((X.K, X.mg), Z) T1 H1 ∧ (match d with
      | .tup ds => S ⟨ds, none⟩ T1
      | .lst ds => S ⟨ds, none⟩ T1
      | .scr ns => S ⟨ns.map D.int, none⟩ T1
      | .str s => S ⟨s.cps.toList.map fun c => D.str ⟨#[c]⟩, none⟩ T1
      | .ref a => ∃ ds, T1 a = some (.lst ds) ∧ S ⟨ds, some (a, .lst ds)⟩ T1
      | _ => False)) I ⟨Z, de, T, _, E, re, rh, ht, fun d T1 v H1 q f r r' => ⟨d, T1, f, r, r', q⟩, hx⟩) fun v s1 ⟨x, H1, I1, r1, d, T1, f1, rd, rh1, q⟩ => ?_
  have lst : ∀ {a : Addr} {vs : List V}, v = .ref a → SqL X.K H1 a vs → R (Itl X.K a) H1 → wpAny (model X.prog X.w) X.A (pyIter v) (PIE X pins σ tg R) X.xe s1 := fun {a vs} ev hq q => by
    subst ev
    obtain ⟨its, rv, p, hz⟩ := I1.list hq
    refine wpAny_pyIter_list p.isList ?_
    refine ⟨s1.heap.objs.size, [s1.heap.objs.size], _, _, H1, rfl, I1.kept (t' := s1.toks) fun b o e => Heap.get?_push_of_some _ e, turn_list a _, ⟨_, Heap.get?_push_size _ rfl, rfl, rfl⟩, fun b hb => ?_, q⟩
    have e : b = s1.heap.objs.size := by simpa using hb
    subst e
    exact I1.fpOk (Nat.le_refl _) (I1.hok.fresh (Nat.le_refl _))
  cases d with
  | non => exact q.elim
  | bl b => exact q.elim
  | emp => exact q.elim
  | int b => exact q.elim
  | str z =>
    obtain rfl : x = .str z := rd
    obtain ⟨t, rfl⟩ := r1
    have q := hs _ _ _ H1 q f1 rh1 src_str
    cases ha : z.cps.all (· < 128)
    · exact wpAny_pyIter_wide ha (pi_one (tk := s1.toks) I1 _ (turn_str _ z t "str_iterator" (.inr rfl)) ⟨_, Heap.get?_push_size _ rfl, rfl, rfl⟩ q)
    · exact wpAny_pyIter_ascii ha (pi_one (tk := s1.toks) I1 _ (turn_str _ z t "str_ascii_iterator" (.inl rfl)) ⟨_, Heap.get?_push_size _ rfl, rfl, rfl⟩ q)
  | tup ds =>
    obtain ⟨a, vs, e, h1, h2, h3⟩ := rd
    subst e
    obtain rfl : v = Value.ref a := r1
    obtain ⟨its, rv, p, hz⟩ := I1.tuple (SqT.of h1)
    refine wpAny_pyIter_tuple (show s1.heap.IsTuple a its.toArray from p) ?_
    refine ⟨s1.heap.objs.size, [s1.heap.objs.size], _, _, H1, rfl, I1.kept (t' := s1.toks) fun b o e => Heap.get?_push_of_some _ e, turn_tuple a _, ⟨_, Heap.get?_push_size _ rfl, rfl, rfl⟩, fun b hb => ?_, hs _ _ _ H1 q f1 rh1 (src_tup h1 h2.1 h3)⟩
    have e : b = s1.heap.objs.size := by simpa using hb
    subst e
    exact I1.fpOk (Nat.le_refl _) (I1.hok.fresh (Nat.le_refl _))
  | lst ds =>
    obtain ⟨a, vs, e, h1, h2, h3⟩ := rd
    subst e
    exact lst r1 (.of h1) (hs _ _ _ H1 q f1 rh1 (src_list (fun T' H' f => .of (f a _ h1 h2.1 nofun).1) h3))
  | scr ns =>
    obtain ⟨a, e, h1⟩ := rd
    subst e
    have sq : ∀ T' H', Fr T1 H1 T' H' → SqL X.K H' a (ns.map V.int) := fun T' H' f => by
      rcases h1 with ⟨h1, h2⟩ | h1
      · exact .inl (rd_fr f h2.1 (fun _ z => by cases z) h1).1
      · exact sqK h1
    exact lst r1 (sq _ _ .refl) (hs _ _ _ H1 q f1 rh1 (src_list sq (.ofInts _)))
  | ref a =>
    obtain rfl : x = .ref a := rd
    obtain ⟨ds, h1, h2⟩ := q
    obtain ⟨vs, h3, h4⟩ := rh1.ob a _ h1
    exact lst r1 (.of h3) (hs _ _ _ H1 h2 f1 rh1 src_ref)
theorem PI_wk {X : Cx} {tg e : Expr} {t t' : TI} (h : PI X tg e t) (w : ∀ σ H R, t' σ H R → t σ H R) : PI X tg e t' := ⟨fun pins s σ H R I q => h.run pins s σ H R I (w σ H R q)⟩
theorem di_rng1 {tg a : Expr} {ta : TDA} {p pos : Pos} (hg : Gl X "range") (hm : X.mg "range" = none) (ha : DA X [a] 1 ta) (hs : starEach [a] X.env = [(false, eval a X.env)]) :
    DI X tg (.Call (.Name "range" p) [a] [] pos) (fun de T S E => ta de T (fun xs T1 => ∃ n, xs = [.int n] ∧ -(2 ^ 62) ≤ n ∧ n < 2 ^ 62 ∧ S ⟨(List.range n.toNat).map fun (i : Nat) => D.int i, none⟩ T1) E) := by
  intro W tk
  refine PI_wk (pi_range1 hg hm (ha W tk) hs) fun σ H R ⟨Z, de, T, S, E, re, rh, ht, hS, hx⟩ => ?_
  refine ⟨Z, de, T, _, E, re, rh, ht, fun ds T1 vs H1 ⟨n, e, h1, h2, h3⟩ _ f r r' => ?_, hx⟩
  subst e
  obtain ⟨v, e1, e2⟩ := relOne r rfl
  refine ⟨n, by rw [e1, show v = .int n from e2], h1, h2, hS _ _ _ H1 h3 f r' ?_⟩
  have q : SrcOk X Z (Itr 0 n.toNat) ⟨(List.range n.toNat).map fun (k : Nat) => D.int (0 + k), none⟩ T1 H1 := src_range
  simpa only [Int.zero_add] using q
theorem turn_long {P : Program} {w : World} {K : PySem.W.Frag} {tg : Expr} (it : Addr) (lo : Int) (n : Nat) : Turn P w K tg (Itr lo n) [it] it (fun i h => IsLongIter h it (lo + (i : Nat) * 1) ((n : Int) - (i : Nat)) 1) where
  mem := by simp
  obj := fun i h st b hb => by
    have e : b = it := by simpa using hb
    subst e
    exact ⟨_, st, fun v z => by
      have z' : Data.fields _ = Data.cell v := z
      cases z'⟩
  keep := fun i h h' st k => k it (by simp) _ st
  item := by
    intro X hP hw hK hc i pins s σ H E I hf st hg
    subst hP hw hK
    obtain ⟨f0, f1, f2, f3, f4, f5⟩ := hf it (by simp)
    have W := Walks.longrange (prog := X.prog) (w := X.w) (I.ok.hd hc) it lo 1 n
    refine W.item i s _ _ hg st fun v h' tk hv st' kk => ?_
    obtain ⟨t, rfl⟩ := hv
    have I1 : Inv X pins σ H { s with heap := h', toks := tk } := I.turned (fun b o hb e => kk b o (by simpa using hb) e) f0 f1 f3 f4 f5
    refine ⟨_, rfl, go_of (s := { s with heap := h', toks := tk }) (n := "longrange_iterator") st' rfl rfl (by decide) ⟨.int (lo + i), H, I1, ⟨t, ?_⟩, ⟨rfl, rfl⟩, st', fun b hb => (hf b hb).1⟩⟩
    rw [Int.mul_one]
  done := by
    intro X hP hw hK hc i pins s σ H E I hf st hg
    subst hP hw hK
    obtain ⟨f0, f1, f2, f3, f4, f5⟩ := hf it (by simp)
    exact wpAny_pyNext_long_end (I.ok.hd hc) st (by have : n ≤ i := hg; omega) fun h' eb => ⟨rfl, I.turned (t' := s.toks) (fun b o hb e => eb b o hb e) f0 f1 f3 f4 f5⟩
  self := fun _ _ _ _ _ st h => wpAny_pyIter_longiter st h
theorem range_itW {tg : Expr} {pins : List (Addr × Obj)} {σ : L2.St} {H : Hp} {s : Shared} {R : It → Hp → Prop} {E : Value → Shared → Prop} {lo hi : Int} {t u v : PySem.Tok} {tk : Nat} (I : Inv X pins σ H s)
    (q : R (Itr lo (hi - lo).toNat) H) : wpAny (model X.prog X.w) X.A (pyIter (.ref s.heap.objs.size)) (PIE X pins σ tg R) E { s with heap := s.heap.push { cls := .type "range", data := .fields #[.int lo t, .int hi u, .int 1 v] }, toks := tk } := by
  have I1 : Inv X pins σ H { s with heap := s.heap.push { cls := .type "range", data := .fields #[.int lo t, .int hi u, .int 1 v] }, toks := tk } := I.kept fun b o e => Heap.get?_push_of_some _ e
  have e1 : lo + ((0 : Nat) : Int) * 1 = lo := by simp
  have e2 : (((hi - lo).toNat : Nat) : Int) - ((0 : Nat) : Int) = Builtin.Range.rangeSize lo hi 1 := by rw [rangeSize_one]; split <;> omega
  have fp : ∀ b, b ∈ [(s.heap.push { cls := .type "range", data := .fields #[.int lo t, .int hi u, .int 1 v] }).objs.size] → FpOk X pins H b := fun b hb => by
    have e : b = (s.heap.push { cls := .type "range", data := .fields #[.int lo t, .int hi u, .int 1 v] }).objs.size := by simpa using hb
    subst e
    exact I1.fpOk (Nat.le_refl _) (I1.hok.fresh (Nat.le_refl _))
  by_cases hs : Builtin.Range.small lo hi 1 = true
  · refine wpAny_pyIter_range (IsRange.new ..) hs ?_
    refine ⟨(s.heap.push { cls := .type "range", data := .fields #[.int lo t, .int hi u, .int 1 v] }).objs.size, [(s.heap.push { cls := .type "range", data := .fields #[.int lo t, .int hi u, .int 1 v] }).objs.size], _, _, H, rfl,
      I1.kept (t' := tk) fun b o e => Heap.get?_push_of_some _ e, turn_range _ lo (hi - lo).toNat, ?_, fp, q⟩
    show IsRangeIter _ _ (lo + ((0 : Nat) : Int) * 1) ((((hi - lo).toNat : Nat) : Int) - ((0 : Nat) : Int)) 1
    rw [e1, e2]
    exact Heap.get?_push_size _ rfl
  · refine wpAny_pyIter_longrange (IsRange.new ..) (by simpa using hs) ?_
    refine ⟨(s.heap.push { cls := .type "range", data := .fields #[.int lo t, .int hi u, .int 1 v] }).objs.size, [(s.heap.push { cls := .type "range", data := .fields #[.int lo t, .int hi u, .int 1 v] }).objs.size], _, _, H, rfl,
      I1.kept (t' := tk) fun b o e => Heap.get?_push_of_some _ e, turn_long _ lo (hi - lo).toNat, ?_, fp, q⟩
    show IsLongIter _ _ (lo + ((0 : Nat) : Int) * 1) ((((hi - lo).toNat : Nat) : Int) - ((0 : Nat) : Int)) 1
    rw [e1, e2]
    exact Heap.get?_push_size _ rfl
def iRngW (ta : TA) : TI := fun σ H R => ta σ H fun vs H1 => ∃ i j : Int, vs = [.int i, .int j] ∧ R (Itr i (j - i).toNat) H1
theorem pi_rangeW {tg a b : Expr} {ta : TA} {p pos : Pos} (hg : Gl X "range") (hm : X.mg "range" = none) (ha : PA X [a, b] ta) (hs : starEach [a, b] X.env = [(false, eval a X.env), (false, eval b X.env)]) (hs2 : starEach [b] X.env = [(false, eval b X.env)]) :
    PI X tg (.Call (.Name "range" p) [a, b] [] pos) (iRngW ta) := by
  refine ⟨fun pins s σ H R I h => ?_⟩
  refine PyProof.Rows.Call_ (ld_blt I hg hm PyProof.Rows.boot_range (PyProof.Rows.callWith_type1 (thn (ha.run pos pins s σ H _ I h) fun us s1 ⟨vs, H1, I1, r1, q1⟩ => ?_) (by rw [hs, hs2]) (by rw [hs2]; rfl)))
  obtain ⟨i, j, e, q⟩ := q1
  subst e
  cases r1 with
  | cons r rr =>
    cases rr with
    | cons r' rr =>
      cases rr
      obtain ⟨t, rfl⟩ := r
      obtain ⟨t', rfl⟩ := r'
      exact call_range_2 (range_itW I1 q)
theorem di_rngW {tg a b : Expr} {ta : TDA} {p pos : Pos} (hg : Gl X "range") (hm : X.mg "range" = none) (ha : DA X [a, b] 2 ta) (hs : starEach [a, b] X.env = [(false, eval a X.env), (false, eval b X.env)]) (hs2 : starEach [b] X.env = [(false, eval b X.env)]) :
    DI X tg (.Call (.Name "range" p) [a, b] [] pos) (fun de T S E => ta de T (fun xs T1 => ∃ i j, xs = [.int i, .int j] ∧ S ⟨(List.range (j - i).toNat).map fun (k : Nat) => D.int (i + k), none⟩ T1) E) := by
  intro W tk
  refine PI_wk (pi_rangeW hg hm (ha W tk) hs hs2) fun σ H R ⟨Z, de, T, S, E, re, rh, ht, hS, hx⟩ => ?_
  refine ⟨Z, de, T, _, E, re, rh, ht, fun ds T1 vs H1 ⟨i, j, e, h3⟩ _ f r r' => ?_, hx⟩
  subst e
  obtain ⟨v, w, e1, e2, e3⟩ := relTwo r
  exact ⟨i, j, by rw [e1, show v = .int i from e2, show w = .int j from e3], hS _ _ _ H1 h3 f r' src_range⟩
theorem di_rng2 {tg a b : Expr} {ta : TDA} {p pos : Pos} (hg : Gl X "range") (hm : X.mg "range" = none) (ha : DA X [a, b] 2 ta) (hs : starEach [a, b] X.env = [(false, eval a X.env), (false, eval b X.env)]) (hs2 : starEach [b] X.env = [(false, eval b X.env)]) :
    DI X tg (.Call (.Name "range" p) [a, b] [] pos) (fun de T S E => ta de T (fun xs T1 => ∃ i j, xs = [.int i, .int j] ∧ (-(2 ^ 62) ≤ i ∧ i < 2 ^ 62 ∧ -(2 ^ 62) ≤ j ∧ j < 2 ^ 62) ∧ S ⟨(List.range (j - i).toNat).map fun (k : Nat) => D.int (i + k), none⟩ T1) E) := by
  intro W tk
  refine PI_wk (pi_range2 hg hm (ha W tk) hs hs2) fun σ H R ⟨Z, de, T, S, E, re, rh, ht, hS, hx⟩ => ?_
  refine ⟨Z, de, T, _, E, re, rh, ht, fun ds T1 vs H1 ⟨i, j, e, h1, h3⟩ _ f r r' => ?_, hx⟩
  subst e
  obtain ⟨v, w, e1, e2, e3⟩ := relTwo r
  exact ⟨i, j, by rw [e1, show v = .int i from e2, show w = .int j from e3], h1, hS _ _ _ H1 h3 f r' src_range⟩
theorem src_rangeC {Z : Addr → Prop} {T : DH} {H : Hp} {i : Int} {n : Nat} : SrcOk X Z (Itc i (-1) n) ⟨(List.range n).map fun (k : Nat) => D.int (i - k), none⟩ T H := by
  refine ⟨fun Z' k T' H' b hi f r o => ?_, fun Z' T' H' b f r o => ?_, fun Z' k T' H' x H2 b hi f r o y => ?_⟩
  · show k < n
    simpa using hi
  · show n ≤ _
    simp
  · obtain ⟨e, y⟩ := y
    subst e y
    have hk : k < n := by simpa using hi
    refine ⟨.int (i - k), by simp [List.getElem?_range hk], ?_, .refl, r⟩
    show V.int (i + (k : Int) * (-1)) = V.int (i - k)
    congr 1; omega
theorem di_rng3 {tg a b c : Expr} {ta : TDA} {p pos : Pos} (hg : Gl X "range") (hm : X.mg "range" = none) (ha : DA X [a, b, c] 3 ta) (hs : starEach [a, b, c] X.env = (false, eval a X.env) :: starEach [b, c] X.env) (hpl : (backTo pos (starEach [b, c] X.env)).any (·.1) = false) :
    DI X tg (.Call (.Name "range" p) [a, b, c] [] pos) (fun de T S E => ta de T (fun xs T1 => ∃ i j, xs = [.int i, .int j, .int (-1)] ∧ (-(2 ^ 62) ≤ i ∧ i < 2 ^ 62 ∧ -(2 ^ 62) ≤ j ∧ j < 2 ^ 62) ∧ S ⟨(List.range (i - j).toNat).map fun (k : Nat) => D.int (i - k), none⟩ T1) E) := by
  intro W tk
  refine PI_wk (pi_range3 hg hm (ha W tk) hs hpl) fun σ H R ⟨Z, de, T, S, E, re, rh, ht, hS, hx⟩ => ?_
  refine ⟨Z, de, T, _, E, re, rh, ht, fun ds T1 vs H1 ⟨i, j, e, h1, h3⟩ _ f r r' => ?_, hx⟩
  subst e
  obtain ⟨v, r2, e1, r1, r3⟩ := r
  obtain ⟨w, u, e2, r4, r5⟩ := relTwo r3
  exact ⟨i, j, -1, _, by rw [e1, e2, show v = .int i from r1, show w = .int j from r4, show u = .int (-1) from r5], RgC.neg h1.1 h1.2.1 h1.2.2.1 h1.2.2.2, hS _ _ _ H1 h3 f r' src_rangeC⟩
end
end DL

set_option linter.all false
set_option maxRecDepth 100000
set_option maxHeartbeats 4000000
namespace DL
open PySem PySem.Spec L2
open AutoSeq1 (wpAny_loadPart')
/-! ### enumerate(tuple), zip of lists and tuples -/
theorem meets_enum_tup (l : Addr) (items : Array Value) (n : Nat) (dct : Option Addr) (sl : Array (Option Value)) :
    Meets (Builtin.«enumerate.__new__» ⟨[.type "enumerate", .ref l], []⟩) (fun _ R s => s.heap.get? l = some { cls := .type "tuple", dict := dct, data := .seq items n, slots := sl } ∧
      R (.ok (.ret (.ref (s.heap.push { cls := .type "tuple_iterator", data := .fields #[.ref l, .int 0 0] }).objs.size)))
        { s with heap := (s.heap.push { cls := .type "tuple_iterator", data := .fields #[.ref l, .int 0 0] }).push { cls := .type "enumerate", data := .fields #[.none, .bool false, .ref s.heap.objs.size, rawInt 0, .none, .none] } }) :=
  .of_wp fun prog w A R s h => by
    obtain ⟨hp, g, d, tk, os⟩ := s; obtain ⟨hl, h⟩ := h
    have hsub := sub_enumerate
    have hL : Heap.IsTuple (Shared.heap ⟨hp, g, d, tk, os⟩) l items := ⟨_, hl, rfl, n, rfl⟩
    wp_walk using wpAny_loadPart' hl
    refine wpAny_stack_any fun st => wpAny_pure ?_
    split
    · rename_i c _ _ _ _ _
      cases (c == Value.type "enumerate")
      · wp_walk using wpAny_loadPart' hl, wpAny_pyIter_tuple hL
        exact ⟨_, rfl, h⟩
      · wp_walk using wpAny_loadPart' hl, wpAny_pyIter_tuple hL
        exact ⟨_, rfl, h⟩
    · wp_walk using wpAny_loadPart' hl, wpAny_pyIter_tuple hL
      exact ⟨_, rfl, h⟩
section
variable {prog : Program} {w : World} {A : Around} {E : Value → Shared → Prop} {s : Shared}
theorem call_enum_tup {l : Addr} {items : Array Value} {Q : Value → Shared → Prop} (hL : s.heap.IsTuple l items)
    (h : ∀ h', IsEnum h' (s.heap.objs.size + 1) s.heap.objs.size 0 .none → h'.IsTupleIter s.heap.objs.size l 0 → h'.objs.size = s.heap.objs.size + 2 →
      (∀ b o, s.heap.get? b = some o → h'.get? b = some o) → Q (.ref (s.heap.objs.size + 1)) { s with heap := h' }) :
    wpAny (model prog w) A (call (.type "enumerate") [.ref l]) Q E s := by
  obtain ⟨⟨c, dct, dt, sl⟩, hl, hc, n, hd⟩ := hL
  replace hc : c = .type "tuple" := hc
  replace hd : dt = .seq items n := hd
  subst hc hd
  refine callType_new F.called_enumerate (by decide) (F.typeCall_enumerate_1 _) (F.newCall_enumerate_1 _) (fun obj => F.args_object_init_2 obj _) F.entry_enumerate_new
    (meets_enum_tup l items n dct sl) ⟨hl, ?_⟩
  have hz : (s.heap.push { cls := .type "tuple_iterator", data := .fields #[.ref l, .int 0 0] }).objs.size = s.heap.objs.size + 1 := Heap.size_push ..
  show _ ∧ _
  rw [hz]
  have he : IsEnum ((s.heap.push { cls := .type "tuple_iterator", data := .fields #[.ref l, .int 0 0] }).push
      { cls := .type "enumerate", data := .fields #[.none, .bool false, .ref s.heap.objs.size, rawInt 0, .none, .none] }) (s.heap.objs.size + 1) s.heap.objs.size 0 .none := by
    have := Heap.get?_push_size (s.heap.push { cls := .type "tuple_iterator", data := .fields #[.ref l, .int 0 0] })
      (o := { cls := .type "enumerate", data := .fields #[.none, .bool false, .ref s.heap.objs.size, rawInt 0, .none, .none] }) rfl
    rw [hz] at this; exact this
  refine ⟨⟨_, he, rfl⟩, h _ he ⟨_, Heap.get?_push_of_some _ (Heap.get?_push_size _ rfl), rfl, rfl⟩ (by rw [Heap.size_push, hz]) fun b o x => Heap.get?_push_of_some _ (Heap.get?_push_of_some _ x)⟩
end
/-- a list (k) or a tuple -/
def SqB (k : Bool) (K : PySem.W.Frag) (H : Hp) (a : Addr) (xs : List V) : Prop := if k then SqL K H a xs else SqT K H a xs
def StB (k : Bool) (it a : Addr) (its : Array Value) (i : Nat) (h : Heap) : Prop := if k then (h.IsListIter it a i ∧ h.IsList a its) else (h.IsTupleIter it a i ∧ h.IsTuple a its)
def ItB (k : Bool) (it a : Addr) (i : Nat) (h : Heap) : Prop := if k then h.IsListIter it a i else h.IsTupleIter it a i
theorem drawsB {prog : Program} {w : World} {A : Around} (hh : A.handled = none) (k : Bool) (it l : Addr) (hne : l ≠ it) (items : Array Value) :
    Draws prog w A it [it, l] items.size (fun i v => items[i]? = some v) (StB k it l items) := by
  cases k
  · exact Draws.tuple hh it l hne items
  · exact Draws.list hh it l hne items
theorem Inv.sqB {X : Cx} {pins : List (Addr × Obj)} {σ : L2.St} {H : Hp} {s : Shared} {k : Bool} {a : Addr} {xs : List V} (I : L2.Inv X pins σ H s) (h : SqB k X.K H a xs) :
    ∃ its : List Value, Vals xs its ∧ (∀ it i, ItB k it a i s.heap → StB k it a its.toArray i s.heap) ∧ a < s.heap.objs.size := by
  cases k
  · obtain ⟨its, rv, p, _⟩ := I.tuple h
    obtain ⟨o, ho, _⟩ := id p
    exact ⟨its, rv, fun it i q => ⟨q, show s.heap.IsTuple a its.toArray from p⟩, Heap.lt_size ho⟩
  · obtain ⟨its, rv, p, _⟩ := I.list h
    exact ⟨its, rv, fun it i q => ⟨q, p.isList⟩, p.lt⟩
theorem Inv.sqB_inj {X : Cx} {pins : List (Addr × Obj)} {σ : L2.St} {H : Hp} {s : Shared} {k : Bool} {a : Addr} {xs ys : List V} (I : L2.Inv X pins σ H s) (h : SqB k X.K H a xs) (h' : SqB k X.K H a ys) : xs = ys := by
  cases k
  · exact I.tuple_inj h h'
  · exact I.list_inj h h'
theorem ItB.cell {k : Bool} {it a : Addr} {i : Nat} {h : Heap} (q : ItB k it a i h) : ∃ o, h.get? it = some o ∧ ∀ v, o.data ≠ .cell v := by
  cases k
  · obtain ⟨o, e, c, d⟩ := (show h.IsTupleIter it a i from q); exact ⟨o, e, fun v z => by rw [d] at z; cases z⟩
  · obtain ⟨o, e, c, d⟩ := (show h.IsListIter it a i from q); exact ⟨o, e, fun v z => by rw [d] at z; cases z⟩
theorem ItB.at {k : Bool} {it a : Addr} {i : Nat} {h h' : Heap} (q : ItB k it a i h) (w : ∀ o, h.get? it = some o → h'.get? it = some o) : ItB k it a i h' := by
  cases k
  · exact (show h.IsTupleIter it a i from q).at w
  · exact (show h.IsListIter it a i from q).at w
theorem StB.it {k : Bool} {it a : Addr} {its : Array Value} {i : Nat} {h : Heap} (q : StB k it a its i h) : ItB k it a i h := by
  cases k
  · exact (show h.IsTupleIter it a i ∧ _ from q).1
  · exact (show h.IsListIter it a i ∧ _ from q).1
def ItE (k : Bool) (K : PySem.W.Frag) (a : Addr) : It :=
  ⟨fun i H => ∃ (xs : List V) (x : V), SqB k K H a xs ∧ xs[i]? = some x, fun i H v H' => ∃ T x, v = .ref T ∧ H T = none ∧ H' = upd H T (.tup [.int (i : Nat), x]) ∧ ∀ xs, SqB k K H a xs → xs[i]? = some x, fun i H => ∃ xs : List V, SqB k K H a xs ∧ xs.length = i⟩
theorem turn_enumB {P : Program} {w : World} {K : PySem.W.Frag} {elts : List Expr} {kk : Nat} {tpos : Pos} (k : Bool) (a e it : Addr) (hae : a ≠ e) (hai : a ≠ it) :
    Turn P w K (.Tuple elts kk tpos) (ItE k K a) [e, it] e (fun i h => (∃ old, IsEnum h e it ((i : Nat) : Int) old) ∧ ItB k it a i h ∧ e ≠ it) where
  mem := by simp
  obj := fun i h st b hb => by
    obtain ⟨⟨old, he⟩, q, _⟩ := st
    obtain ⟨o, ho, hd⟩ := q.cell
    have e' : b = e ∨ b = it := by simpa using hb
    rcases e' with z | z
    · rw [z]; exact ⟨_, he, fun v q => nomatch q⟩
    · rw [z]; exact ⟨o, ho, hd⟩
  keep := fun i h h' st k => let ⟨⟨old, he⟩, hi, hne⟩ := st; ⟨⟨old, k e (by simp) _ he⟩, hi.at fun o q => k it (by simp) o q, hne⟩
  item := by
    intro X hP hw hK hc i pins s σ H E I hf st hg
    subst hP hw hK
    obtain ⟨⟨old, he⟩, hit, hne⟩ := st
    obtain ⟨xs, x, hq, hx⟩ := hg
    obtain ⟨its, rv, hst, hal⟩ := Inv.sqB I hq
    obtain ⟨u, hu, ru⟩ := rv.get hx
    have hel : e < s.heap.objs.size := Heap.lt_size he
    have hil : it < s.heap.objs.size := by obtain ⟨_, q, _⟩ := hit.cell; exact Heap.lt_size q
    have hlt : i < its.toArray.size := by have := (List.getElem?_eq_some_iff.mp hu).1; simpa using this
    refine wpAny_pyNext_enum_itemC (drawsB (A := X.A.in1) (I.ok.hd hc) k it a hai its.toArray) he (hst it i hit) hlt hne (by simp [hne]; exact Ne.symm hae) fun x' h' tk hP ho hit' hT hsz hk => ?_
    have ex : x' = u := by
      have h1 : its.toArray[i]? = some x' := hP
      rw [List.getElem?_toArray, hu] at h1
      exact (Option.some.inj h1).symm
    subst ex
    refine ⟨_, rfl, wpAny_letOwnedTupleGo_enum (s := { s with heap := h', toks := tk + 1 }) ho fun h'' he' sb => ?_⟩
    have hT2 : h''.get? s.heap.objs.size = some { cls := .type "tuple", data := .seq #[.int i tk, x'] } := (sb.2 _ (Nat.ne_of_gt hel)).trans hT
    have new : ObjOk X.prog X.w (upd H s.heap.objs.size (.tup [.int (i : Nat), x])) h'' s.heap.objs.size (.tup [.int (i : Nat), x]) :=
      ⟨by show 2 ≤ sizeLine; decide, [.int i tk, x'], .cons ⟨_, rfl⟩ (.cons ru .nil), ⟨_, hT2, rfl, _, rfl⟩⟩
    have I1 : L2.Inv X pins σ (upd H s.heap.objs.size (.tup [.int (i : Nat), x])) { s with heap := h'', toks := tk + 1 } :=
      I.turnedNew (ch := [e, it]) (fun b ob hb q => (sb.2 b (fun z => hb (by simp [z]))).trans (hk b ob (fun z => hb (by simp [z])) (fun z => hb (by simp [z])) q)) hf (Nat.le_refl _) new
    refine ⟨.ref s.heap.objs.size, _, I1, rfl, ⟨_, x, rfl, I.hok.fresh (Nat.le_refl _), rfl, fun ys hy => by rw [Inv.sqB_inj I hy hq]; exact hx⟩, ⟨⟨x', ?_⟩, hit'.it.at fun o q => (sb.2 it (Ne.symm hne)).trans q, hne⟩, fun b hb => ?_⟩
    · have e1 : ((i + 1 : Nat) : Int) = (i : Int) + 1 := by omega
      rw [e1]; exact he'
    · have hb' : b < s.heap.objs.size := by
        have e' : b = e ∨ b = it := by simpa using hb
        rcases e' with z | z
        · rw [z]; exact hel
        · rw [z]; exact hil
      rw [upd_ne (Nat.ne_of_lt hb')]
      exact (hf b hb).1
  done := by
    intro X hP hw hK hc i pins s σ H E I hf st hg
    subst hP hw hK
    obtain ⟨⟨old, he⟩, hit, hne⟩ := st
    obtain ⟨xs, hq, hx⟩ := hg
    obtain ⟨its, rv, hst, hal⟩ := Inv.sqB I hq
    obtain ⟨f0, f1, f2, f3, f4, f5⟩ := hf it (by simp)
    have hl := rv.length
    have en : i = its.toArray.size := by simp; omega
    have hs2 := hst it i hit
    rw [en] at hs2
    exact wpAny_pyNext_enum_endD (drawsB (A := X.A.in1) (I.ok.hd hc) k it a hai its.toArray) he hs2 fun h' eb => ⟨rfl, I.turned (t' := s.toks) (fun b o hb q => eb b o hb q) f0 f1 f3 f4 f5⟩
  self := fun A i s Q E st h => let ⟨⟨_, he⟩, _⟩ := st; wpAny_pyIter_enum he h
def iEnumB (K : PySem.W.Frag) (ta : TA) : TI := fun σ H R => ta σ H fun vs H1 => ∃ k a xs, vs = [.ref a] ∧ SqB k K H1 a xs ∧ R (ItE k K a) H1
theorem pi_enumB {X : Cx} {e : Expr} {ta : TA} {p pos tpos : Pos} {elts : List Expr} {kk : Nat} (hg : Gl X "enumerate") (hm : X.mg "enumerate" = none) (ha : PA X [e] ta) (hs : starEach [e] X.env = [(false, eval e X.env)] := by rfl) :
    PI X (.Tuple elts kk tpos) (.Call (.Name "enumerate" p) [e] [] pos) (iEnumB X.K ta) := by
  refine ⟨fun pins s σ H R I h => ?_⟩
  refine PyProof.Rows.Call_ (ld_blt I hg hm PyProof.Rows.boot_enumerate (PyProof.Rows.callWith_type1 (thn (ha.run pos pins s σ H _ I h) fun us s1 ⟨vs, H1, I1, r1, q1⟩ => ?_) hs rfl))
  obtain ⟨k, a, xs, ex, hq, q⟩ := q1
  subst ex
  cases r1 with
  | cons r rr =>
    cases rr
    cases r
    have fp : ∀ b ∈ [s1.heap.objs.size + 1, s1.heap.objs.size], FpOk X pins H1 b := fun b hb => by
      have e' : b = s1.heap.objs.size + 1 ∨ b = s1.heap.objs.size := by simpa using hb
      have hle : s1.heap.objs.size ≤ b := by
        rcases e' with z | z
        · rw [z]; exact Nat.le_add_right _ _
        · rw [z]; exact Nat.le_refl _
      exact I1.fpOk hle (I1.hok.fresh hle)
    have hal : a < s1.heap.objs.size := by obtain ⟨_, _, _, h⟩ := Inv.sqB I1 hq; exact h
    cases k with
    | true =>
      obtain ⟨its, rv, p', hz⟩ := I1.list (show SqL X.K H1 a xs from hq)
      refine call_enumerate_list p'.isList fun h' he hit hsz hk => wpAny_pyIter_enum he ?_
      exact ⟨s1.heap.objs.size + 1, [s1.heap.objs.size + 1, s1.heap.objs.size], _, _, H1, rfl, I1.kept (t' := s1.toks) hk, turn_enumB true a (s1.heap.objs.size + 1) s1.heap.objs.size (Nat.ne_of_lt (Nat.lt_succ_of_lt hal)) (Nat.ne_of_lt hal), ⟨⟨.none, he⟩, hit, Nat.succ_ne_self _⟩, fp, q⟩
    | false =>
      obtain ⟨its, rv, p', hz⟩ := I1.tuple (show SqT X.K H1 a xs from hq)
      refine call_enum_tup (show s1.heap.IsTuple a its.toArray from p') fun h' he hit hsz hk => wpAny_pyIter_enum he ?_
      exact ⟨s1.heap.objs.size + 1, [s1.heap.objs.size + 1, s1.heap.objs.size], _, _, H1, rfl, I1.kept (t' := s1.toks) hk, turn_enumB false a (s1.heap.objs.size + 1) s1.heap.objs.size (Nat.ne_of_lt (Nat.lt_succ_of_lt hal)) (Nat.ne_of_lt hal), ⟨⟨.none, he⟩, hit, Nat.succ_ne_self _⟩, fp, q⟩
def ItZ (k j : Bool) (K : PySem.W.Frag) (a b : Addr) : It :=
  ⟨fun i H => ∃ (xs ys : List V) (x y : V), SqB k K H a xs ∧ SqB j K H b ys ∧ xs[i]? = some x ∧ ys[i]? = some y,
    fun i H v H' => ∃ T x y, v = .ref T ∧ H T = none ∧ H' = upd H T (.tup [x, y]) ∧ (∀ xs, SqB k K H a xs → xs[i]? = some x) ∧ ∀ ys, SqB j K H b ys → ys[i]? = some y,
    fun i H => ∃ xs ys : List V, SqB k K H a xs ∧ SqB j K H b ys ∧ i ≤ xs.length ∧ i ≤ ys.length ∧ (i = xs.length ∨ i = ys.length)⟩
theorem turn_zipB {P : Program} {w : World} {K : PySem.W.Frag} {elts : List Expr} {kk : Nat} {tpos : Pos} (k j : Bool) {a b z TI TO i1 i2 : Addr} (D : ZipSep2 z TI TO i1 i2 [i1, a] [i2, b]) (ha : a ≠ i1) (hb : b ≠ i2) :
    Turn P w K (.Tuple elts kk tpos) (ItZ k j K a b) [z, TI, TO, i1, i2] z (fun i h => IsZip h z TI TO .none ∧ IsTupOf2 h TI (.ref i1) (.ref i2) ∧ (∃ x y, IsTupOf2 h TO x y) ∧ ItB k i1 a i h ∧ ItB j i2 b i h) where
  mem := by simp
  obj := fun i h st c hc => by
    obtain ⟨hz, hTI, ⟨x, y, hTO⟩, h1, h2⟩ := st
    obtain ⟨o1, e1, d1⟩ := h1.cell
    obtain ⟨o2, e2, d2⟩ := h2.cell
    have e' : c = z ∨ c = TI ∨ c = TO ∨ c = i1 ∨ c = i2 := by simpa using hc
    rcases e' with q | q | q | q | q
    · rw [q]; exact ⟨_, hz, fun v q => nomatch q⟩
    · rw [q]; exact ⟨_, hTI, fun v q => nomatch q⟩
    · rw [q]; exact ⟨_, hTO, fun v q => nomatch q⟩
    · rw [q]; exact ⟨o1, e1, d1⟩
    · rw [q]; exact ⟨o2, e2, d2⟩
  keep := fun i h h' st k => by
    obtain ⟨hz, hTI, ⟨x, y, hTO⟩, h1, h2⟩ := st
    exact ⟨k z (by simp) _ hz, k TI (by simp) _ hTI, ⟨x, y, k TO (by simp) _ hTO⟩, h1.at fun o q => k i1 (by simp) o q, h2.at fun o q => k i2 (by simp) o q⟩
  item := by
    intro X hP hw hK hc i pins s σ H E I hf st hg
    subst hP hw hK
    obtain ⟨hz, hTI, ⟨x0, y0, hTO⟩, h1, h2⟩ := st
    obtain ⟨xs, ys, x, y, hqx, hqy, hx, hy⟩ := hg
    obtain ⟨its, rv, st1, _⟩ := Inv.sqB I hqx
    obtain ⟨its2, rv2, st2, _⟩ := Inv.sqB I hqy
    obtain ⟨u, hu, ru⟩ := rv.get hx
    obtain ⟨u2, hu2, ru2⟩ := rv2.get hy
    have hzl : z < s.heap.objs.size := Heap.lt_size hz
    have hl1 : i < its.toArray.size := by have := (List.getElem?_eq_some_iff.mp hu).1; simpa using this
    have hl2 : i < its2.toArray.size := by have := (List.getElem?_eq_some_iff.mp hu2).1; simpa using this
    refine wpAny_pyNext_zipD2_item D (drawsB (A := X.A.in1) (I.ok.hd hc) k i1 a ha its.toArray) (drawsB (A := X.A.in1) (I.ok.hd hc) j i2 b hb its2.toArray) hz hTI hTO (st1 _ _ h1) (st2 _ _ h2) hl1 hl2 fun w1 w2 h' tk P1 P2 z' TO' h1' h2' hT hsz hk => ?_
    have ex : w1 = u := by
      have q : its.toArray[i]? = some w1 := P1
      rw [List.getElem?_toArray, hu] at q
      exact (Option.some.inj q).symm
    have ey : w2 = u2 := by
      have q : its2.toArray[i]? = some w2 := P2
      rw [List.getElem?_toArray, hu2] at q
      exact (Option.some.inj q).symm
    subst ex ey
    refine ⟨_, rfl, wpAny_letOwnedTupleGo_zip (s := { s with heap := h', toks := tk }) z' fun h'' z'' sb => ?_⟩
    have hT2 := (sb.2 _ (Nat.ne_of_gt hzl)).trans hT
    have new : ObjOk X.prog X.w (upd H s.heap.objs.size (.tup [x, y])) h'' s.heap.objs.size (.tup [x, y]) :=
      ⟨by show 2 ≤ sizeLine; decide, [w1, w2], .cons ru (.cons ru2 .nil), ⟨_, hT2, rfl, _, rfl⟩⟩
    have I1 : L2.Inv X pins σ (upd H s.heap.objs.size (.tup [x, y])) { s with heap := h'', toks := tk } :=
      I.turnedNew (t' := tk) (ch := [z, TI, TO, i1, i2]) (fun c o hb q => (sb.2 c (fun q' => hb (by simp [q']))).trans (hk c o (fun q' => hb (by simp [q'])) (fun q' => hb (by simp [q'])) (fun q' => hb (by simp [q'])) (fun q' => hb (by simp [q'])) q)) hf (Nat.le_refl _) new
    refine ⟨.ref s.heap.objs.size, _, I1, rfl, ⟨_, x, y, rfl, I.hok.fresh (Nat.le_refl _), rfl, fun l hl => by rw [Inv.sqB_inj I hl hqx]; exact hx, fun l hl => by rw [Inv.sqB_inj I hl hqy]; exact hy⟩, ⟨z'', ?_, ⟨w1, w2, ?_⟩, ?_, ?_⟩, fun c hcm => ?_⟩
    · exact (sb.2 _ D.TIz).trans (hk _ _ D.TIz D.TITO D.TIi1 D.TIi2 hTI)
    · exact (sb.2 _ D.TOz).trans TO'
    · exact h1'.it.at fun o q => (sb.2 _ (Ne.symm D.zi1)).trans q
    · exact h2'.it.at fun o q => (sb.2 _ (Ne.symm D.zi2)).trans q
    · have hlt : c < s.heap.objs.size := by
        have e' : c = z ∨ c = TI ∨ c = TO ∨ c = i1 ∨ c = i2 := by simpa using hcm
        rcases e' with q | q | q | q | q
        · rw [q]; exact hzl
        · rw [q]; exact Heap.lt_size hTI
        · rw [q]; exact Heap.lt_size hTO
        · rw [q]; obtain ⟨_, e1, _⟩ := h1.cell; exact Heap.lt_size e1
        · rw [q]; obtain ⟨_, e2, _⟩ := h2.cell; exact Heap.lt_size e2
      rw [upd_ne (Nat.ne_of_lt hlt)]
      exact (hf c hcm).1
  done := by
    intro X hP hw hK hc i pins s σ H E I hf st hg
    subst hP hw hK
    obtain ⟨hz, hTI, ⟨x0, y0, hTO⟩, h1, h2⟩ := st
    obtain ⟨xs, ys, hqx, hqy, le1, le2, hend⟩ := hg
    obtain ⟨its, rv, st1, _⟩ := Inv.sqB I hqx
    obtain ⟨its2, rv2, st2, _⟩ := Inv.sqB I hqy
    have l1 := rv.length
    have l2 := rv2.length
    exact wpAny_pyNext_zipD2_end D (drawsB (A := X.A.in1) (I.ok.hd hc) k i1 a ha its.toArray) (drawsB (A := X.A.in1) (I.ok.hd hc) j i2 b hb its2.toArray) hz hTI hTO (st1 _ _ h1) (st2 _ _ h2) (by simp; omega) (by simp; omega) (by simp; omega) fun h' tk hk => ⟨rfl, I.turnedL (t' := tk) (ch := [z, TI, TO, i1, i2]) (fun c o hb q =>
      hk c o (fun q' => hb (by simp [q'])) (fun q' => hb (by simp [q'])) (fun q' => hb (by simp [q'])) (fun q' => hb (by simp [q'])) q) hf⟩
  self := fun A i s Q E st h => wpAny_pyIter_zip st.1 h
def iZipB (K : PySem.W.Frag) (ta : TA) : TI := fun σ H R => ta σ H fun vs H1 => ∃ k j a b xs ys, vs = [.ref a, .ref b] ∧ SqB k K H1 a xs ∧ SqB j K H1 b ys ∧ R (ItZ k j K a b) H1
def objB (k : Bool) (a : Addr) : Obj := if k then { cls := .type "list_iterator", data := .fields #[.ref a, .int 0 0] } else { cls := .type "tuple_iterator", data := .fields #[.ref a, .int 0 0] }
def LsB (k : Bool) (a : Addr) (its : Array Value) (h : Heap) : Prop := if k then h.IsList a its else h.IsTuple a its
theorem beginsB (k : Bool) (a : Addr) (its : Array Value) : Begins (.ref a) (objB k a) (LsB k a its) := by
  cases k
  · exact begins_tuple a its
  · exact begins_list a its
theorem itB_new {k : Bool} {it a : Addr} {h : Heap} (e : h.get? it = some (objB k a)) : ItB k it a 0 h := by
  cases k
  · exact ⟨_, e, rfl, rfl⟩
  · exact ⟨_, e, rfl, rfl⟩
theorem lsB_of {X : Cx} {pins : List (Addr × Obj)} {σ : L2.St} {H : Hp} {s : Shared} {k : Bool} {a : Addr} {xs : List V} (I : L2.Inv X pins σ H s) (h : SqB k X.K H a xs) : ∃ its, LsB k a its s.heap ∧ a < s.heap.objs.size := by
  cases k
  · obtain ⟨its, rv, p, _⟩ := I.tuple h
    obtain ⟨o, ho, _⟩ := id p
    exact ⟨its.toArray, show s.heap.IsTuple a its.toArray from p, Heap.lt_size ho⟩
  · obtain ⟨its, rv, p, _⟩ := I.list h
    exact ⟨its.toArray, p.isList, p.lt⟩
theorem pi_zipB {X : Cx} {e e2 : Expr} {ta : TA} {p pos tpos : Pos} {elts : List Expr} {kk : Nat} (hg : Gl X "zip") (hm : X.mg "zip" = none) (ha : PA X [e, e2] ta)
    (hs : starEach [e, e2] X.env = (false, eval e X.env) :: starEach [e2] X.env := by rfl) (hpl : (backTo pos (starEach [e2] X.env)).any (·.1) = false := by rfl) :
    PI X (.Tuple elts kk tpos) (.Call (.Name "zip" p) [e, e2] [] pos) (iZipB X.K ta) := by
  refine ⟨fun pins s σ H R I h => ?_⟩
  refine PyProof.Rows.Call_ (ld_blt I hg hm PyProof.Rows.boot_zip (PyProof.Rows.callWith_type1 (thn (ha.run pos pins s σ H _ I h) fun us s1 ⟨vs, H1, I1, r1, q1⟩ => ?_) hs hpl))
  obtain ⟨k, j, a, b, xs, ys, ex, hqx, hqy, q1⟩ := q1
  subst ex
  cases r1 with
  | cons r rr =>
    cases rr with
    | cons r' rr =>
      cases rr
      cases r
      cases r'
      have fresh5 : ∀ c, c ∈ [s1.heap.objs.size + 4, s1.heap.objs.size + 2, s1.heap.objs.size + 3, s1.heap.objs.size, s1.heap.objs.size + 1] → FpOk X pins H1 c := fun c hcm => by
        have e' : c = s1.heap.objs.size + 4 ∨ c = s1.heap.objs.size + 2 ∨ c = s1.heap.objs.size + 3 ∨ c = s1.heap.objs.size ∨ c = s1.heap.objs.size + 1 := by simpa using hcm
        have hle : s1.heap.objs.size ≤ c := by
          rcases e' with z | z | z | z | z
          · rw [z]; exact Nat.le_add_right _ _
          · rw [z]; exact Nat.le_add_right _ _
          · rw [z]; exact Nat.le_add_right _ _
          · rw [z]; exact Nat.le_refl _
          · rw [z]; exact Nat.le_add_right _ _
        exact I1.fpOk hle (I1.hok.fresh hle)
      obtain ⟨its, l1, al⟩ := lsB_of I1 hqx
      obtain ⟨its2, l2, bl⟩ := lsB_of I1 hqy
      refine zip_begins2 (beginsB k a its) (beginsB j b its2) l1 l2 fun h' hz hTI hTO h1 h2 hsz hk => wpAny_pyIter_zip hz ?_
      have I2 : L2.Inv X pins σ H1 { s1 with heap := h' } := I1.kept (t' := s1.toks) hk
      exact ⟨s1.heap.objs.size + 4, [s1.heap.objs.size + 4, s1.heap.objs.size + 2, s1.heap.objs.size + 3, s1.heap.objs.size, s1.heap.objs.size + 1], _, _, H1, rfl, I2,
        turn_zipB k j (zip_sep2 (fp1 := [a]) (fp2 := [b]) (by simpa using al) (by simpa using bl)) (Nat.ne_of_lt al) (Nat.ne_of_lt (Nat.lt_succ_of_lt bl)), ⟨hz, hTI, ⟨_, _, hTO⟩, itB_new h1, itB_new h2⟩, fresh5, q1⟩
end DL

set_option linter.all false
set_option maxRecDepth 100000
set_option maxHeartbeats 4000000
namespace DL
open PySem PySem.Spec L2
section
variable {X : Cx} {Z : Addr → Prop} {T : DH} {H : Hp}
theorem frz_rel {d : D} {v : V} {ds : List D} (r : RelD ((X.K, X.mg), Z) T H d v) (h : frzSeq d = some ds) : ∃ k a vs, v = .ref a ∧ (∀ T' H', Fr T H T' H' → SqB k X.K H' a vs) ∧ RelDs ((X.K, X.mg), Z) T H ds vs := by
  cases d <;> simp only [frzSeq] at h <;> try cases h
  · obtain ⟨a, vs, e, h1, h2, h3⟩ := r
    exact ⟨false, a, vs, e, fun T' H' f => SqT.of (f a _ h1 h2.1 nofun).1, h3⟩
  · obtain ⟨a, vs, e, h1, h2, h3⟩ := r
    exact ⟨true, a, vs, e, fun T' H' f => SqL.of (f a _ h1 h2.1 nofun).1, h3⟩
theorem src_enum {k : Bool} {a : Addr} {vs : List V} {ds : List D} (h : ∀ T' H', Fr T H T' H' → SqB k X.K H' a vs) (rd : RelDs ((X.K, X.mg), Z) T H ds vs) : SrcOk X Z (ItE k X.K a) ⟨(List.range ds.length).zipWith (fun (i : Nat) d => D.tup [.int i, d]) ds, none⟩ T H := by
  have hl : ((List.range ds.length).zipWith (fun (i : Nat) d => D.tup [.int i, d]) ds).length = ds.length := by simp
  refine ⟨fun Z' i T' H' b hi f r o => ?_, fun Z' T' H' b f r o => ?_, fun Z' i T' H' x H2 b hi f r o y => ?_⟩
  · obtain ⟨v, e, _⟩ := rd.get (List.getElem?_eq_getElem (by rw [hl] at hi; exact hi))
    exact ⟨vs, v, h _ _ f, e⟩
  · exact ⟨vs, h _ _ f, by rw [hl]; exact rd.length⟩
  · obtain ⟨t, x', e1, e2, e3, e4⟩ := y
    obtain ⟨d, k1, k2⟩ := ((b.all rd).fr f).getV (e4 vs (h _ _ f))
    have hi : i < ds.length := by rw [hl] at hi; exact hi
    refine ⟨.tup [.int i, d], ?_, ?_, by rw [e3]; exact fr_new e2, by rw [e3]; exact r.new e2⟩
    · simp only [List.getElem?_zipWith, k1, List.getElem?_range hi]
    · rw [e1, e3]
      exact ⟨t, _, rfl, upd_same, ⟨r.free e2, r.nothid e2⟩, _, _, rfl, rfl, _, _, rfl, k2.fr (fr_new e2), rfl⟩
theorem src_enumR {a : Addr} {ds : List D} : SrcOk X Z (ItE true X.K a) ⟨numbered ds, some (a, .lst ds)⟩ T H := by
  have hl : (numbered ds).length = ds.length := by simp [numbered]
  refine ⟨fun Z' i T' H' b hi f r o => ?_, fun Z' T' H' b f r o => ?_, fun Z' i T' H' x H2 b hi f r o y => ?_⟩
  · obtain ⟨vs, h1, h2⟩ := r.ob a _ o
    obtain ⟨v, e, _⟩ := h2.get (List.getElem?_eq_getElem (by rw [hl] at hi; exact hi))
    exact ⟨vs, v, SqL.of h1, e⟩
  · obtain ⟨vs, h1, h2⟩ := r.ob a _ o
    exact ⟨vs, SqL.of h1, by rw [hl]; exact h2.length⟩
  · obtain ⟨t, x', e1, e2, e3, e4⟩ := y
    obtain ⟨vs, h1, h2⟩ := r.ob a _ o
    obtain ⟨d, k1, k2⟩ := h2.getV (e4 vs (SqL.of h1))
    have hi : i < ds.length := by rw [hl] at hi; exact hi
    refine ⟨.tup [.int i, d], ?_, ?_, by rw [e3]; exact fr_new e2, by rw [e3]; exact r.new e2⟩
    · simp only [numbered, List.getElem?_zipWith, k1, List.getElem?_range hi]
    · rw [e1, e3]
      exact ⟨t, _, rfl, upd_same, ⟨r.free e2, r.nothid e2⟩, _, _, rfl, rfl, _, _, rfl, k2.fr (fr_new e2), rfl⟩
theorem src_zip {k j : Bool} {a b : Addr} {vs us : List V} {ds es : List D} (h : ∀ T' H', Fr T H T' H' → SqB k X.K H' a vs) (rd : RelDs ((X.K, X.mg), Z) T H ds vs) (g : ∀ T' H', Fr T H T' H' → SqB j X.K H' b us) (re : RelDs ((X.K, X.mg), Z) T H es us) :
    SrcOk X Z (ItZ k j X.K a b) ⟨ds.zipWith (fun d e => D.tup [d, e]) es, none⟩ T H := by
  have hl : (ds.zipWith (fun d e => D.tup [d, e]) es).length = min ds.length es.length := by simp
  refine ⟨fun Z' i T' H' b hi f r o => ?_, fun Z' T' H' b f r o => ?_, fun Z' i T' H' x H2 b hi f r o y => ?_⟩
  · rw [hl] at hi
    obtain ⟨v, e, _⟩ := rd.get (List.getElem?_eq_getElem (show i < ds.length by omega))
    obtain ⟨u, e', _⟩ := re.get (List.getElem?_eq_getElem (show i < es.length by omega))
    exact ⟨vs, us, v, u, h _ _ f, g _ _ f, e, e'⟩
  · have l1 := rd.length
    have l2 := re.length
    exact ⟨vs, us, h _ _ f, g _ _ f, by simp only [hl]; omega, by simp only [hl]; omega, by simp only [hl]; omega⟩
  · obtain ⟨t, x1, x2, e1, e2, e3, e4, e5⟩ := y
    obtain ⟨d, k1, k2⟩ := ((b.all rd).fr f).getV (e4 vs (h _ _ f))
    obtain ⟨e, j1, j2⟩ := ((b.all re).fr f).getV (e5 us (g _ _ f))
    refine ⟨.tup [d, e], ?_, ?_, by rw [e3]; exact fr_new e2, by rw [e3]; exact r.new e2⟩
    · simp only [List.getElem?_zipWith, k1, j1]
    · rw [e1, e3]
      exact ⟨t, _, rfl, upd_same, ⟨r.free e2, r.nothid e2⟩, _, _, rfl, k2.fr (fr_new e2), _, _, rfl, j2.fr (fr_new e2), rfl⟩
theorem di_enum {e : Expr} {ta : TDA} {p pos tpos : Pos} {elts : List Expr} {kk : Nat} (hg : Gl X "enumerate") (hm : X.mg "enumerate" = none) (ha : DA X [e] 1 ta) (hs : starEach [e] X.env = [(false, eval e X.env)]) :
    DI X (.Tuple elts kk tpos) (.Call (.Name "enumerate" p) [e] [] pos) (fun de T S E => ta de T (fun xs T1 => ∃ x, xs = [x] ∧ enumD x T1 S) E) := by
  intro W tk
  refine PI_wk (pi_enumB hg hm (ha W tk) hs) fun σ H R ⟨Z, de, T, S, E, re, rh, ht, hS, hx⟩ => ?_
  refine ⟨Z, de, T, _, E, re, rh, ht, fun xs T1 vs H1 ⟨x, e, h1⟩ _ f r r' => ?_, hx⟩
  subst e
  obtain ⟨v, e1, e2⟩ := relOne r rfl
  unfold enumD at h1
  split at h1
  · obtain ⟨ds, h1, h3⟩ := h1
    obtain rfl : v = .ref _ := e2
    obtain ⟨ws, g1, g2⟩ := r'.ob _ _ h1
    exact ⟨true, _, ws, by rw [e1], SqL.of g1, hS _ _ _ H1 h3 f r' src_enumR⟩
  · obtain ⟨ds, h1, h3⟩ := h1
    obtain ⟨k, a, ws, e3, h4, h5⟩ := frz_rel e2 h1
    exact ⟨k, a, ws, by rw [e1, e3], h4 _ _ .refl, hS _ _ _ H1 h3 f r' (src_enum h4 h5)⟩
theorem di_zip {e e2 : Expr} {ta : TDA} {p pos tpos : Pos} {elts : List Expr} {kk : Nat} (hg : Gl X "zip") (hm : X.mg "zip" = none) (ha : DA X [e, e2] 2 ta)
    (hs : starEach [e, e2] X.env = (false, eval e X.env) :: starEach [e2] X.env) (hpl : (backTo pos (starEach [e2] X.env)).any (·.1) = false) :
    DI X (.Tuple elts kk tpos) (.Call (.Name "zip" p) [e, e2] [] pos) (fun de T S E => ta de T (fun xs T1 => ∃ x y ds es, xs = [x, y] ∧ frzSeq x = some ds ∧ frzSeq y = some es ∧ S ⟨ds.zipWith (fun d e => D.tup [d, e]) es, none⟩ T1) E) := by
  intro W tk
  refine PI_wk (pi_zipB hg hm (ha W tk) hs hpl) fun σ H R ⟨Z, de, T, S, E, re, rh, ht, hS, hx⟩ => ?_
  refine ⟨Z, de, T, _, E, re, rh, ht, fun xs T1 vs H1 ⟨x, y, ds, es, e, h1, h2, h3⟩ _ f r r' => ?_, hx⟩
  subst e
  obtain ⟨v, w, e1, e2, e3⟩ := relTwo r
  obtain ⟨k, a, ws, e4, h4, h6⟩ := frz_rel e2 h1
  obtain ⟨j, b, us, e5, h5, h7⟩ := frz_rel e3 h2
  exact ⟨k, j, a, b, ws, us, by rw [e1, e4, e5], h4 _ _ .refl, h5 _ _ .refl, hS _ _ _ H1 h3 f r' (src_zip h4 h6 h5 h7)⟩
end

/-! ### the table of a text: its defs, constants, the built-in names that it uses -/
abbrev CForm := Nat × Nat × List Str × List (Nat ⊕ Int)
instance : DecidableEq (Nat ⊕ Int) := inferInstance
instance decCF : DecidableEq CForm := fun a b => by
  obtain ⟨a1, a2, a3, a4⟩ := a
  obtain ⟨b1, b2, b3, b4⟩ := b
  by_cases h1 : a1 = b1
  · by_cases h2 : a2 = b2
    · by_cases h3 : a3 = b3
      · by_cases h4 : a4 = b4
        · exact .isTrue (by rw [h1, h2, h3, h4])
        · exact .isFalse fun e => by cases e; exact h4 rfl
      · exact .isFalse fun e => by cases e; exact h3 rfl
    · exact .isFalse fun e => by cases e; exact h2 rfl
  · exact .isFalse fun e => by cases e; exact h1 rfl
def cfB (c : CForm) (l : List CForm) : Bool := l.any fun d => @decide (d = c) (decCF d c)
theorem cfB_mem {c : CForm} {l : List CForm} (h : cfB c l = true) : c ∈ l := by
  unfold cfB at h
  rw [List.any_eq_true] at h
  obtain ⟨d, h1, h2⟩ := h
  rw [← of_decide_eq_true h2]; exact h1
/-- a lambda without parameters: the names of its maker, the places of those it captures, what the text says of it -/
abbrev LForm := List Str × List Nat × (Scope → Expr → Bool)
structure Tab where
  ft : List (Str × List Str)
  gi : List (Str × Int)
  gs : List (Str × Str)
  bl : List Str
  ex : List Str
  cf : List CForm := []
  clo : List Nat := []
  lam : List LForm := []
  mkr : Bool := false
  act : Bool := false
/-- classes made by their inherited __init__ -/
def simpEx (c : Str) : Bool := decide (c ≠ "Crossed") && decide (c ≠ "Parted")
/-- the fields of a class with an own __init__ -/
def excFs (c : Str) : List Str := if c = "Crossed" then ["one", "other"] else if c = "Parted" then ["label"] else []
/-- what its __init__ does -/
def spInit (C : Addr) (fs : List Str) : Sp := fun vs H Q _ => ∃ (a : Addr) (ws : List V), vs = .ref a :: ws ∧ ws.length = fs.length ∧ H a = some (exo a C none) ∧
  ∀ d, H d = none → d ≠ a → Q .non (upd (upd H d (exd d (fs.zip ws).reverse)) a (exo a C (some d)))
structure InitOk (K : PySem.W.Frag) (mg : Str → Option Value) (C : Addr) (fs : List Str) : Prop where
  ne : fs ≠ []
  T : OexC K C
  no : ∀ f ∈ fs, PySem.W.findIn K (.ref C) f = some none
  ex : ∃ (fI : Addr) (fd : FuncData) (ps : List Str), PySem.W.findIn K (.ref C) "__init__" = some (some (.ref fI)) ∧ PySem.W.typeIn K (.ref fI) = some (.type "function") ∧ Binds K fd ps [] ∧ ps.length = fs.length + 1 ∧
    ∀ (P : Program) (w : World) (base : Heap) (k : Nat), FnOk P w K mg base (L2.CX P w) (k + 1) fI fd ps (spInit C fs)
/-- what is known of an exception class of the text: C its object, P that of PlayError -/
structure ExCl (K : PySem.W.Frag) (mg : Str → Option Value) (c : Str) (C P : Addr) : Prop where
  gC : mg c = some (.ref C)
  cd : ∃ cd, PySem.W.clsIn K C = some cd ∧ cd.name = c ∧ cd.mro = .ref C :: ((if c = "PlayError" then [] else [.ref P]) ++ [.type "ValueError", .type "Exception", .type "BaseException", .type "object"])
  ty : PySem.W.typeIn K (.ref C) = some (.type "type")
  hd : PySem.W.hasDictIn K C = true
  ga : PySem.W.findIn K (.ref C) "__getattribute__" = some (some (.builtin "BaseException.__getattribute__"))
  gg : PySem.W.findIn K (.ref C) "__getattr__" = some none
  ha : PySem.W.findIn K (.ref C) "__class__" = some (some (.builtin "object.__class__"))
  kp : PySem.W.keepIn K (.ref C) = true
  fl : simpEx c = false → PySem.W.findIn K (.ref C) "one" = some none ∧ PySem.W.findIn K (.ref C) "other" = some none ∧ PySem.W.findIn K (.ref C) "label" = some none
  x : simpEx c = true → PySem.W.excIn K C [.type "ValueError", .type "Exception", .type "BaseException", .type "object"] "ValueError.__new__" = true
  ini : simpEx c = false → InitOk K mg C (excFs c)
structure ExAll (K : PySem.W.Frag) (mg : Str → Option Value) (ex : List Str) (P : Addr) : Prop where
  hn : PySem.W.specialIn K (.builtin "object.__class__") "__get__" = some (some (.builtin "getset_descriptor.__get__"))
  ht : PySem.W.takesIn K (.builtin "object.__class__") = some true
  gP : mg "PlayError" = some (.ref P)
  cP : ∃ cd, PySem.W.clsIn K P = some cd ∧ cd.name = "PlayError"
  all : ∀ c ∈ ex, ∃ C, ExCl K mg c C P
/-- a def's promise, deep -/
def lSp (K : PySem.W.Frag) (mg : Str → Option Value) (n : Nat) (g : DSp) : Sp := fun vs H Q EX => ∃ Z ds T Qd E, ds.length = n ∧ RelDs ((K, mg), Z) T H ds vs ∧ RelH ((K, mg), Z) T H ∧ g ds T Qd E ∧
  (∀ d T' v H', Qd d T' → Fr T H T' H' → RelD ((K, mg), Z) T' H' d v → RelH ((K, mg), Z) T' H' → Q v H') ∧ (∀ x T' cls dd H', E x T' → Fr T H T' H' → RelH ((K, mg), Z) T' H' → RelX ((K, mg), Z) mg T' H' x cls dd → EX cls dd H')
/-- a def's promise, where no repr is under way -/
structure FnG (P : Program) (w : World) (K : PySem.W.Frag) (mg : Str → Option Value) (base : Heap) (k : Nat) (f : Addr) (fd : FuncData) (ps : List Str) (sp : Sp) : Prop where
  len : ∀ vs H Q E, sp vs H Q E → vs.length = ps.length
  run : ∀ (A : Around) (outer : List Env) (s : Shared) (H : Hp) (args : Args) (us : List Value) (vs : List V) (Q : VK) (E : XK), Room k A → A.guards = some [] → Env0 P w K mg base A outer s H →
    BindsTo s fd args (ps.zip us) → Vals vs us → sp vs H Q E → codeAny (model P w) A (.call (.ref f) args) (CR (CXD K P w) outer P w H s Q E) s
/-- the values of a call in the order of the parameters -/
def arrV (arr : List (Nat ⊕ Int)) (dv : Int → Value) (us : List Value) : List Value := arr.map fun a => match a with
  | .inl i => us.getD i .none
  | .inr k => dv k
/-- a form of calls: n by places, ks by names, defaults -/
def CfOk (K : PySem.W.Frag) (fd : FuncData) (ps : List Str) (n : Nat) (ks : List Str) (arr : List (Nat ⊕ Int)) : Prop :=
  arr.length = ps.length ∧ (∀ a ∈ arr, ∀ i, a = .inl i → i < n + ks.length) ∧ ∃ dv : Int → Value, (∀ k, RelV (.int k) (dv k)) ∧ ∀ (s : Shared) (us ws : List Value), K.In s.heap → us.length = n → ws.length = ks.length → BindsTo s fd ⟨us, ks.zip ws⟩ (ps.zip (arrV arr dv (us ++ ws)))
theorem FnG.imp {P : Program} {w : World} {K : PySem.W.Frag} {mg : Str → Option Value} {base : Heap} {k : Nat} {f : Addr} {fd : FuncData} {ps : List Str} {sp sp' : Sp} (F : FnG P w K mg base k f fd ps sp)
    (h : ∀ vs H Q E, sp' vs H Q E → sp vs H Q E) : FnG P w K mg base k f fd ps sp' :=
  ⟨fun vs H Q E q => F.len vs H Q E (h vs H Q E q), fun A outer s H args us vs Q E r0 g0 e0 b0 v0 q => F.run A outer s H args us vs Q E r0 g0 e0 b0 v0 (h vs H Q E q)⟩
/-- such a def is called -/
theorem FnG.goes {X : Cx} {k : Nat} {f : Addr} {fd : FuncData} {ps : List Str} {sp : Sp} {W : WX} {pins : List (Addr × Obj)} {σ : L2.St} {H : Hp} {s : Shared} {Q : VK} {us : List Value} {vs : List V}
    (F : FnG X.prog X.w X.K X.mg X.base k f fd ps sp) (room : Room k X.A) (grd : X.A.guards = some []) (bnd : Binds X.K fd ps []) (tk : Takes X W) (I : Inv X pins σ H s) (rv : Vals vs us) (h : sp vs H Q (WE W σ)) :
    wpAny (model X.prog X.w) X.A (call (.ref f) us) (EP X pins σ Q) X.xe s := by
  have el : (us ++ []).length = ps.length := by rw [List.append_nil, ← rv.length, F.len vs H Q _ h]
  have eb := bnd s us I.kIn el
  rw [List.append_nil] at eb
  have key := F.run X.A X.stack s H ⟨us, []⟩ us vs Q (WE W σ) room grd I.env0 eb rv h
  refine wpAny_call (codeAny_mono key fun res s2 hres => ?_)
  match res, hres with
  | .error e, hres => exact passAtD tk σ pins H s e s2 I hres
  | .ok (.ret u), hres => exact I.after hres
  | .ok .next, hres => exact False.elim hres
  | .ok .brk, hres => exact False.elim hres
  | .ok .cont, hres => exact False.elim hres
theorem FnG.goesF {X : Cx} {k : Nat} {f : Addr} {fd : FuncData} {ps ks : List Str} {sp : Sp} {W : WX} {pins : List (Addr × Obj)} {σ : L2.St} {H : Hp} {s : Shared} {Q : VK} {us ws : List Value} {vs : List V} {ws2 : List Value}
    (F : FnG X.prog X.w X.K X.mg X.base k f fd ps sp) (room : Room k X.A) (grd : X.A.guards = some []) (bnd : BindsTo s fd ⟨us, ks.zip ws⟩ (ps.zip ws2)) (tk : Takes X W) (I : Inv X pins σ H s) (rv : Vals vs ws2) (h : sp vs H Q (WE W σ)) :
    wpAny (model X.prog X.w) X.A (call (.ref f) us (ks.zip ws)) (EP X pins σ Q) X.xe s := by
  have key := F.run X.A X.stack s H ⟨us, ks.zip ws⟩ ws2 vs Q (WE W σ) room grd I.env0 bnd rv h
  refine wpAny_call (codeAny_mono key fun res s2 hres => ?_)
  match res, hres with
  | .error e, hres => exact passAtD tk σ pins H s e s2 I hres
  | .ok (.ret u), hres => exact I.after hres
  | .ok .next, hres => exact False.elim hres
  | .ok .brk, hres => exact False.elim hres
  | .ok .cont, hres => exact False.elim hres
def noPar (a : Arguments) : Bool := a.posonlyargs.isEmpty && a.args.isEmpty && a.vararg.isNone && a.kwonlyargs.isEmpty && a.kw_defaults.isEmpty && a.kwarg.isNone && a.defaults.isEmpty
/-- at p stands a lambda that was just made: X its maker's context, σ its maker's names -/
structure CloAt (L : List LForm) (P : Program) (w : World) (K : PySem.W.Frag) (mg : Str → Option Value) (base : Heap) (outer : List Env) (s : Shared) (H : Hp) (p : Addr) : Prop where
  ex : ∃ (X : Cx) (pins : List (Addr × Obj)) (σ : L2.St) (kk : Nat) (N : List Str) (vs : List Nat) (ck : Scope → Expr → Bool) (params : Arguments) (body : Expr) (scope : Scope) (pm : Value) (c' : Addr) (ctv : Value) (us : List Value) (ws : List V) (P0 : Addr) (ps : Array Value) (pos : Pos),
    (X.prog = P ∧ X.w = w ∧ X.K = K ∧ X.mg = mg ∧ X.base = base ∧ X.stack = outer ∧ X.N = N) ∧ L2.Inv X pins σ H s ∧ LamX.LamS X.env.scope scope ∧ noPar params = true ∧
    H p = some (LamO p (PySem.W.kla_obj "<lambda>" (X.env.qual ++ ("<lambda>" : String)) params body scope (cloFrom X.env.cells scope.names []) pm c' ctv) kk us) ∧
    L[kk]? = some (N, vs, ck) ∧ ck scope body = true ∧ IsTab K P0 (X.env.qual ++ ("<lambda>" : String)) ∧ H P0 = some (.tbl ps) ∧ TriplesOk ps.toList ∧ codeAmong pos ps.toList = some (.ref c') ∧
    Vals ws us ∧ ∀ (j i : Nat), vs[j]? = some i → ∃ w, ws[j]? = some w ∧ σ[i]? = some (some w)
/-- the promise of a def that is handed a lambda -/
structure FnC (L : List LForm) (P : Program) (w : World) (K : PySem.W.Frag) (mg : Str → Option Value) (base : Heap) (k : Nat) (f : Addr) (fd : FuncData) (ps : List Str) (sp : Sp) : Prop where
  run : ∀ (A : Around) (outer : List Env) (s : Shared) (H : Hp) (args : Args) (us : List Value) (vs : List V) (Q : VK) (E : XK), Room k A → A.guards = some [] → Env0 P w K mg base A outer s H →
    BindsTo s fd args (ps.zip us) → Vals vs us → sp vs H Q E → (∀ p, vs = [.ref p] → CloAt L P w K mg base outer s H p) → codeAny (model P w) A (.call (.ref f) args) (CR (CXD K P w) outer P w H s Q E) s
/-- a def that makes lambdas -/
def MkOk (K : PySem.W.Frag) (mg : Str → Option Value) (base : Heap) (env : Env) : Prop := ∃ x ∈ lamNames, ∃ c P, PySem.W.tabIn K x = some (c, P) ∧ env.code = .ref c ∧ env.qual = x ++ (".<locals>." : String) ∧ LamX.TabB base mg c P ∧ ∀ y ∈ lamNames, ∀ c2, PySem.W.tabIn K y = some (c2, P) → y = x
def plainN (x : Str) : Bool := !(x == ("__debug__" : Str)) && !(x == ("__classdict__" : Str)) && !(x == ("__name__" : Str))
def visB (sc : Scope) (x : Str) : Bool := match sc.names.lookup x with
  | some .local => true
  | some .cell => true
  | some .free => true
  | _ => false
def glB (sc : Scope) (x : Str) : Bool := match sc.names.lookup x with
  | some .globalImplicit => true
  | _ => false
/-- names that may be stored -/
def stOf (sc : Scope) : List Str := sc.names.filterMap fun (n, _) => match sc.names.lookup n with
  | some .local => some n
  | some .cell => some n
  | _ => none
structure Cok (tb : Tab) (G : Nat → DSp) (X : Cx) (N : List Str) (sc : Scope) (st : List Str) (k : Nat) : Prop where
  calm : X.calm = true
  hN : X.N = N
  nd : N.Nodup
  hsc : X.env.scope = sc
  fun_ : sc.kind = .function
  st : ∀ x ∈ st, Loc X.env.scope x ∧ (X.fn x = true ∨ X.env.scope.names.lookup x = some .local)
  pass : PassesOwn (model X.prog X.w) X.A X.env X.xe
  room : Room k X.A
  k2 : 2 ≤ k
  grd : X.A.guards = some []
  bl : ∀ b ∈ tb.bl, X.mg b = none
  ex : tb.ex ≠ [] → ∃ P, ExAll X.K X.mg tb.ex P
  gi : ∀ x n, tb.gi.lookup x = some n → ∃ t, X.mg x = some (.int n t)
  gs : ∀ x s, tb.gs.lookup x = some s → ∃ t, X.mg x = some (.str s t)
  mkr : tb.mkr = true → MkOk X.K X.mg X.base X.env
  fc : ∀ (f : Nat) x ps, tb.ft[f]? = some (x, ps) → tb.clo.contains f = true → ∃ fa fd, X.mg x = some (.ref fa) ∧ PySem.W.keepIn X.K (.ref fa) = true ∧ Binds X.K fd ps [] ∧ FnC tb.lam X.prog X.w X.K X.mg X.base k fa fd ps (lSp X.K X.mg ps.length (G f))
  ft : ∀ (f : Nat) x ps, tb.ft[f]? = some (x, ps) → tb.clo.contains f = false → ∃ fa fd, X.mg x = some (.ref fa) ∧ PySem.W.keepIn X.K (.ref fa) = true ∧ Binds X.K fd ps [] ∧ FnG X.prog X.w X.K X.mg X.base k fa fd ps (lSp X.K X.mg ps.length (G f)) ∧ ∀ n ks arr, (f, n, ks, arr) ∈ tb.cf → CfOk X.K fd ps n ks arr
def notStar : Expr → Bool
  | .Starred _ _ => false
  | _ => true
def notSet : Expr → Bool
  | .Set _ _ _ => false
  | _ => true
def notLC : Expr → Bool
  | .ListComp _ _ _ _ => false
  | .SetComp _ _ _ _ => false
  | .DictComp _ _ _ _ _ => false
  | _ => true
def notSl : Expr → Bool
  | .Slice _ _ _ _ => false
  | _ => true
/-- plain in a test -/
def tvB : Expr → Bool
  | .BoolOp _ _ _ => false
  | .UnaryOp .Not _ _ => false
  | .IfExp _ _ _ _ => false
  | .Compare _ _ _ _ => false
  | _ => true
/-- no super -/
def notCall : Expr → Bool
  | .Call (.Name id _) [] [] _ => id != ("super" : Str)
  | _ => true
def bopB (o : Bop) (op : Operator) : Bool := decide (bopOf o = op)
def copB (o : Cop) (op : CmpOp) : Bool := decide (copOf o = op)
def bkName : BK → Str
  | .fn n => Str.ofString n
  | .ty n => Str.ofString n
def ssName (l : Bool) : Str := if l = true then "len" else "sorted"
def tyName : Ty → Str
  | .int => "int" | .bool => "bool" | .str => "str" | .tuple => "tuple" | .list => "list" | .dict => "dict" | .cls x => x
def tyPlain : Ty → Bool
  | .cls _ => false
  | _ => true
mutual
def chkG : Tgt → List Str → List Str → Expr → Bool
  | .nm i, N, st, e => match e with
    | .Name x _ => decide (N[i]? = some x) && st.contains x
    | _ => false
  | .tp ts, N, st, e => match e with
    | .Tuple es _ _ => chkGs ts N st es
    | _ => false
def chkGs : List Tgt → List Str → List Str → List Expr → Bool
  | [], _, _, es => match es with
    | [] => true
    | _ => false
  | t :: ts, N, st, es => match es with
    | e :: r => notStar e && chkG t N st e && chkGs ts N st r
    | _ => false
end
mutual
def slotsT : Tgt → List Nat
  | .nm i => [i]
  | .tp ts => slotsTs ts
def slotsTs : List Tgt → List Nat
  | [] => []
  | t :: ts => slotsT t ++ slotsTs ts
end
/-- written keys of a display -/
def chkK : Key → Option Expr → Bool
  | .inl i, some (.Constant (.int j) _ _) => decide (i = j)
  | .inr x, some (.Constant (.str y) _ _) => decide (x = y)
  | _, _ => false
def chkKs : List Key → List (Option Expr) → Bool
  | [], [] => true
  | k :: ks, e :: es => chkK k e && chkKs ks es
  | _, _ => false
variable (tb : Tab)
/-- the name of an exception class, or ValueError -/
def exB (sc : Scope) (x : Str) : Bool := glB sc x && plainN x && (if x = "ValueError" then tb.bl.contains x else tb.ex.contains x)
def ksB (ks : List Str) : Bool := ks.all fun k => tb.ex.contains k && excN.contains k
def fldN : List Str := ["one", "other", "label"]
def chkX : List Str → Scope → Expr → Bool
  | [c], sc, .Name x _ => decide (x = c) && exB tb sc x
  | _, _, _ => false
def chkXT : List Str → Scope → List Expr → Bool
  | [], _, [] => true
  | c :: cs, sc, .Name x _ :: es => decide (x = c) && exB tb sc x && chkXT cs sc es
  | _, _, _ => false
/-- the names of keywords -/
def chkKw : List Str → List Keyword → Bool
  | [], [] => true
  | k :: ks, ⟨some n, _, _⟩ :: r => decide (n = k) && chkKw ks r
  | _, _ => false
mutual
def chkE : IE → List Str → Scope → Expr → Bool
  | .kN, _, _, e => match e with | .Constant .none _ _ => true | _ => false
  | .kB b, _, _, e => match e with | .Constant (.bool c) _ _ => decide (b = c) | _ => false
  | .kI i, _, _, e => match e with | .Constant (.int j) _ _ => decide (i = j) | _ => false
  | .kS s, _, _, e => match e with | .Constant (.str t) _ _ => decide (s = t) | _ => false
  | .var i, N, sc, e => match e with | .Name x _ => decide (N[i]? = some x) && visB sc x && plainN x | _ => false
  | .gli y n, _, sc, e => match e with | .Name x _ => decide (x = y) && glB sc x && plainN x && decide (tb.gi.lookup x = some n) | _ => false
  | .gls y s, _, sc, e => match e with | .Name x _ => decide (x = y) && glB sc x && plainN x && decide (tb.gs.lookup x = some s) | _ => false
  | .tup es, N, sc, e => match e with | .Tuple fs _ _ => chkEs es N sc fs && decide (es.length ≤ 1000) | _ => false
  | .lst _ es, N, sc, e => match e with | .List fs _ => chkEs es N sc fs && decide (es.length ≤ 1000) | _ => false
  | .dnew _, _, _, e => match e with | .Dict [] [] _ => true | _ => false
  | .dem, _, _, e => match e with | .Dict [] [] _ => true | _ => false
  | .dic k v, N, sc, e => match e with | .Dict [some x] [y] _ => chkE k N sc x && chkE v N sc y | _ => false
  | .dsp ks vs, N, sc, e => match e with | .Dict kx fs _ => chkKs ks kx && decide (ks.Nodup) && decide (kx ≠ []) && decide (ks.length = vs.length) && decide (ks.length ≤ 15) && chkEs vs N sc fs | _ => false
  | .inr a b c, N, sc, e => match e with | .Compare x [.In] [.Call (.Name r _) [y, z] [] _] _ => decide (r = "range") && glB sc r && tb.bl.contains r && notStar y && notStar z && chkE a N sc x && chkE b N sc y && chkE c N sc z | _ => false
  | .bin o _ a b, N, sc, e => match e with | .BinOp x op y _ => bopB o op && chkE a N sc x && chkE b N sc y | _ => false
  | .neg a, N, sc, e => match e with | .UnaryOp .USub x _ => chkE a N sc x | _ => false
  | .not a, N, sc, e => match e with | .UnaryOp .Not x _ => chkE a N sc x | _ => false
  | .and a b, N, sc, e => match e with
    | .BoolOp .And [x, y] _ => chkE a N sc x && chkE b N sc y
    | .BoolOp .And (x :: y :: z :: r) pos => chkE a N sc x && chkE b N sc (.BoolOp .And (y :: z :: r) pos)
    | _ => false
  | .or a b, N, sc, e => match e with
    | .BoolOp .Or [x, y] _ => chkE a N sc x && chkE b N sc y
    | .BoolOp .Or (x :: y :: z :: r) pos => chkE a N sc x && chkE b N sc (.BoolOp .Or (y :: z :: r) pos)
    | _ => false
  | .cmp o a b, N, sc, e => match e with | .Compare x [op] [y] _ => copB o op && chkE a N sc x && chkE b N sc y && notSet y | _ => false
  | .chn o p a b c, N, sc, e => match e with | .Compare x [op, op'] [y, z] _ => copB o op && copB p op' && chkE a N sc x && chkE b N sc y && chkE c N sc z && notSet z | _ => false
  | .ife c a b, N, sc, e => match e with | .IfExp x y z _ => chkT c N sc x && chkE a N sc y && chkE b N sc z | _ => false
  | .ix a i, N, sc, e => match e with | .Subscript x y _ => chkE a N sc x && chkE i N sc y && notSl y | _ => false
  | .sl _ a lo hi, N, sc, e => match e with | .Subscript x (.Slice l h none _) _ => chkE a N sc x && chkO lo N sc l && chkO hi N sc h | _ => false
  | .rev _ a, N, sc, e => match e with | .Subscript x (.Slice none none (some (.UnaryOp .USub (.Constant (.int 1) _ _) _)) _) _ => chkE a N sc x | _ => false
  | .sset l _ a, N, sc, e => match e with | .Call (.Name x _) [.Call (.Name y _) [b] [] _] [] _ => decide (x = ssName l) && decide (y = ("set" : Str)) && glB sc x && glB sc y && tb.bl.contains x && tb.bl.contains y && notStar b && chkE a N sc b | _ => false
  | .fn f _ es, N, sc, e => match e with | .Call (.Name x _) (y :: fs) [] _ => decide (x = bkName (bfnOf f)) && glB sc x && plainN x && tb.bl.contains x && chkEs es N sc (y :: fs) | _ => false
  | .isi a t, N, sc, e => match e with | .Call (.Name x _) [y, .Name ty _] [] _ => decide (x = "isinstance") && glB sc x && tb.bl.contains x && chkE a N sc y && notStar y && tyPlain t && decide (ty = tyName t) && glB sc ty && tb.bl.contains ty | _ => false
  | .isx a ks cs, N, sc, e => match e with
    | .Call (.Name x _) [y, .Name ty p] [] _ => ksB tb ks && decide (x = "isinstance") && glB sc x && tb.bl.contains x && chkE a N sc y && notStar y && chkX tb cs sc (.Name ty p)
    | .Call (.Name x _) [y, .Tuple ts _ _] [] _ => ksB tb ks && decide (x = "isinstance") && glB sc x && tb.bl.contains x && chkE a N sc y && notStar y && chkXT tb cs sc ts && decide (ts.length ≤ 1000)
    | _ => false
  | .fld a c f, N, sc, e => match e with | .Attribute y n _ => decide (n = f) && fldN.contains f && tb.ex.contains c && !simpEx c && notCall y && chkE a N sc y | _ => false
  | .rgl t _ a b, N, sc, e => match e with
    | .Call (.Name x _) [.Call (.Name r _) [z] [] _] [] _ => match a with
      | none => decide (x = if t then "tuple" else "list") && glB sc x && tb.bl.contains x && decide (r = "range") && glB sc r && tb.bl.contains r && notStar z && chkE b N sc z
      | some _ => false
    | .Call (.Name x _) [.Call (.Name r _) [y, z] [] _] [] _ => (match a with | none => false | some _ => true) && (decide (x = if t then "tuple" else "list") && glB sc x && tb.bl.contains x && decide (r = "range") && glB sc r && tb.bl.contains r && notStar y && notStar z && chkO a N sc (some y) && chkE b N sc z)
    | _ => false
  | .rlen a b, N, sc, e => match e with
    | .Call (.Name x _) [.Call (.Name r _) [y, z] [] _] [] _ => decide (x = "len") && glB sc x && tb.bl.contains x && decide (r = "range") && glB sc r && tb.bl.contains r && notStar y && notStar z && chkE a N sc y && chkE b N sc z
    | _ => false
  | .call f es, N, sc, e => match e with
    | .Call (.Name x _) fs [] _ => match tb.ft[f]? with
      | some (y, ps) => decide (x = y) && glB sc x && plainN x && decide (es.length = ps.length) && chkEs es N sc fs && !tb.clo.contains f
      | none => false
    | _ => false
  | .callF f n ks arr es zs, N, sc, e => match e with
    | .Call (.Name x _) fs kws _ => match tb.ft[f]? with
      | some (y, _) => decide (x = y) && glB sc x && plainN x && decide (es.length = n) && decide (zs.length = ks.length) && cfB (f, n, ks, arr) tb.cf && chkEs es N sc fs && chkKw ks kws && chkEs zs N sc (kws.map Keyword.value) && !tb.clo.contains f
      | none => false
    | _ => false
  | .mth k _ o es, N, sc, e => match e with | .Call (.Attribute x m apos) fs [] cpos => decide (m = (mthOf k).2.1) && (apos.endLine == cpos.line) && notCall x && chkE o N sc x && chkEs es N sc fs && decide (fs.length < 20) | _ => false
  | .lc _ g own it cs e0, N, sc, e => match e with
    | .ListComp x [⟨tg, iter, ifs, a⟩] scope _ => decide (a = 0) && blkC N sc scope own && (slotsT g).all (fun i => (own.map (·.2)).contains i) && chkI it N sc tg iter && notSet iter && chkG g N (stOf scope) tg && chkC cs N (relS scope sc) ifs && chkE e0 N (relS scope sc) x
    | _ => false
  | .lamc f k vs, N, sc, e => match e with
    | .Call (.Name x _) [.Lambda params body scope _] [] _ => match tb.ft[f]? with
      | some (y, ps) => match tb.lam[k]? with
        | some (N', us, ck) => decide (x = y) && glB sc x && plainN x && decide (ps.length = 1) && tb.clo.contains f && tb.mkr && decide (N' = N) && decide (us = vs) && noPar params && LamX.lamSB sc scope && ck scope body
        | none => false
      | none => false
    | _ => false
termination_by structural x => x
def chkT : IT → List Str → Scope → Expr → Bool
  | .tnot a, N, sc, e => match e with | .UnaryOp .Not x _ => chkT a N sc x | _ => false
  | .tand a b, N, sc, e => match e with
    | .BoolOp .And [x, y] _ => chkT a N sc x && chkT b N sc y
    | .BoolOp .And (x :: y :: z :: r) pos => chkT a N sc x && chkT b N sc (.BoolOp .And (y :: z :: r) pos)
    | _ => false
  | .tor a b, N, sc, e => match e with
    | .BoolOp .Or [x, y] _ => chkT a N sc x && chkT b N sc y
    | .BoolOp .Or (x :: y :: z :: r) pos => chkT a N sc x && chkT b N sc (.BoolOp .Or (y :: z :: r) pos)
    | _ => false
  | .tcmp o a b, N, sc, e => match e with | .Compare x [op] [y] _ => copB o op && chkE a N sc x && chkE b N sc y && notSet y | _ => false
  | .tchn o p a b c, N, sc, e => match e with | .Compare x [op, op'] [y, z] _ => copB o op && copB p op' && chkE a N sc x && chkE b N sc y && chkE c N sc z && notSet z | _ => false
  | .tchn3 o p q a b c d, N, sc, e => match e with | .Compare x [op, op', oq] [y, z, u] _ => copB o op && copB p op' && copB q oq && chkE a N sc x && chkE b N sc y && chkE c N sc z && chkE d N sc u && notSet u | _ => false
  | .tv a, N, sc, e => tvB e && chkE a N sc e
  | .tinr a b c, N, sc, e => match e with | .Compare x [.In] [.Call (.Name r _) [y, z] [] _] _ => decide (r = "range") && glB sc r && tb.bl.contains r && notStar y && notStar z && chkE a N sc x && chkE b N sc y && chkE c N sc z | _ => false
termination_by structural x => x
def chkEs : List IE → List Str → Scope → List Expr → Bool
  | [], _, _, fs => match fs with | [] => true | _ => false
  | e :: es, N, sc, fs => match fs with | x :: r => notStar x && chkE e N sc x && chkEs es N sc r | _ => false
termination_by structural x => x
def chkO : Option IE → List Str → Scope → Option Expr → Bool
  | none, _, _, o => match o with | none => true | _ => false
  | some e, N, sc, o => match o with | some x => chkE e N sc x | _ => false
termination_by structural x => x
def chkC : Option IT → List Str → Scope → List Expr → Bool
  | none, _, _, fs => match fs with | [] => true | _ => false
  | some c, N, sc, fs => match fs with | [x] => chkT c N sc x | _ => false
termination_by structural x => x
def chkI : II → List Str → Scope → Expr → Expr → Bool
  | .seq e, N, sc, _, it => chkE e N sc it
  | .rng1 a, N, sc, _, it => match it with | .Call (.Name x _) [y] [] _ => decide (x = "range") && glB sc x && tb.bl.contains x && notStar y && chkE a N sc y | _ => false
  | .rng2 a b, N, sc, _, it => match it with | .Call (.Name x _) [y, z] [] _ => decide (x = "range") && glB sc x && tb.bl.contains x && notStar y && notStar z && chkE a N sc y && chkE b N sc z | _ => false
  | .rngW a b, N, sc, _, it => match it with | .Call (.Name x _) [y, z] [] _ => decide (x = "range") && glB sc x && tb.bl.contains x && notStar y && notStar z && chkE a N sc y && chkE b N sc z | _ => false
  | .rng3 a b c, N, sc, _, it => match it with | .Call (.Name x _) [y, z, w] [] _ => decide (x = "range") && glB sc x && tb.bl.contains x && notStar y && notStar z && notStar w && chkE a N sc y && chkE b N sc z && chkE c N sc w | _ => false
  | .enum e, N, sc, tg, it => match tg with
    | .Tuple _ _ _ => match it with | .Call (.Name x _) [y] [] _ => decide (x = "enumerate") && glB sc x && tb.bl.contains x && notStar y && chkE e N sc y | _ => false
    | _ => false
  | .zip a b, N, sc, tg, it => match tg with
    | .Tuple _ _ _ => match it with | .Call (.Name x _) [y, z] [] _ => decide (x = "zip") && glB sc x && tb.bl.contains x && notStar y && notStar z && chkE a N sc y && chkE b N sc z | _ => false
    | _ => false
  | .items _, _, _, _, _ => false
termination_by structural x => x
end
end DL

set_option linter.all false
set_option maxRecDepth 100000
set_option maxHeartbeats 4000000
namespace DL
open PySem PySem.Spec L2
/-! ### small facts of the text -/
theorem star_cons {e : Expr} {es : List Expr} {env : Env} (h : notStar e = true) : starEach (e :: es) env = (false, eval e env) :: starEach es env := by
  cases e <;> first | rfl | cases h
theorem assign_cons {e : Expr} {es : List Expr} {env : Env} (h : notStar e = true) : assignEach (e :: es) env = (false, assign e env) :: assignEach es env := by
  cases e <;> first | rfl | cases h
theorem star_plain {env : Env} {pos : Pos} : ∀ {es : List Expr}, es.all notStar = true → (backTo pos (starEach es env)).any (·.1) = false
  | [], _ => rfl
  | e :: es, h => by
    rw [List.all_cons, Bool.and_eq_true] at h
    rw [star_cons h.1]
    show (false || (backTo pos (starEach es env)).any (·.1)) = false
    rw [star_plain h.2]; rfl
theorem star_all {env : Env} {pos : Pos} : ∀ {es : List Expr}, es.all notStar = true → (backTo pos (starEach es env)).all (fun x => !x.1) = true
  | [], _ => rfl
  | e :: es, h => by
    rw [List.all_cons, Bool.and_eq_true] at h
    rw [star_cons h.1]
    show (true && (backTo pos (starEach es env)).all (fun x => !x.1)) = true
    rw [star_all h.2]; rfl
theorem nomarkS {op : CmpOp} {e : Expr} (h : notSet e = true) : behindInMarks op e = false := by
  cases e <;> first | rfl | cases h
theorem fold_plain {e : Expr} {env : Env} (h : notSet e = true) : ∀ x, foldedSetIterable e env x = pure x := by
  intro x; cases e <;> first | rfl | cases h
theorem swaps_no {e : Expr} {t : Option Expr} {l : Nat} {env : Env} (h : notLC e = true) : swapsWith e t l env = pure false := by
  cases e <;> first | rfl | cases h
theorem sub_plain {i : Expr} (h : notSl i = true) : ∀ o iv, subscripted i false o iv = operate [o, iv] (getItem o iv) := by
  intro o iv; cases i <;> first | rfl | cases h
theorem tv_plain {e : Expr} {env : Env} (h : tvB e = true) : ∀ whole, isTrue e env whole = (do let v ← whole; standAt e.pos; holding [v] (truthy v)) := by
  intro whole
  cases e <;> first | rfl | cases h | skip
  rename_i op x pos
  cases op <;> first | rfl | cases h
theorem base_plain {e : Expr} {m : Str} {env : Env} (h : notCall e = true) : attributeBase e m env (eval e env) = eval e env := by
  unfold attributeBase
  split
  · rename_i id p pos
    have h : (id != ("super" : Str)) = true := h
    simp [h]
  · rfl
theorem plainN_of {x : Str} (h : plainN x = true) : (x == ("__debug__" : Str)) = false ∧ (x == ("__classdict__" : Str)) = false ∧ x ≠ "__name__" := by
  unfold plainN at h
  simp only [Bool.and_eq_true, Bool.not_eq_true'] at h
  exact ⟨h.1.1, h.1.2, fun e => by rw [e] at h; simp at h⟩
theorem vis_of {sc : Scope} {x : Str} (h : visB sc x = true) : Vis sc x := by
  unfold visB at h
  unfold Vis
  cases e : sc.names.lookup x with
  | none => rw [e] at h; cases h
  | some k =>
    rw [e] at h
    cases k <;> simp_all
theorem gl_of {sc : Scope} {x : Str} (h : glB sc x = true) : sc.names.lookup x = some .globalImplicit := by
  unfold glB at h
  cases e : sc.names.lookup x with
  | none => rw [e] at h; cases h
  | some k =>
    rw [e] at h
    cases k <;> simp_all
def tyIs (t : Ty) (n : String) : Prop := match t with | .int => n = "int" | .bool => n = "bool" | .str => n = "str" | .tuple => n = "tuple" | .list => n = "list" | .dict => n = "dict" | .cls _ => False
theorem kit_tyB (a b : Ty) (ha : tyPlain a = true) (hb : tyPlain b = true) : ∀ n m : String, tyIs a n →
    tyIs b m →
    kitB n m = some (decide (a = b) || (decide (a = .bool) && decide (b = .int))) := by
  intro n m h1 h2
  cases a <;> cases b <;> first | (cases ha; done) | (cases hb; done) | (unfold tyIs at h1 h2; simp only at h1 h2; subst h1; subst h2; decide +kernel)
theorem kit_non (b : Ty) (hb : tyPlain b = true) : ∀ m : String, tyIs b m → kitB "NoneType" m = some false := by
  intro m h2
  cases b <;> first | (cases hb; done) | (unfold tyIs at h2; simp only at h2; subst h2; decide +kernel)
end DL

set_option linter.all false
set_option maxRecDepth 100000
set_option maxHeartbeats 8000000
namespace DL
open PySem PySem.Spec PyProof.Rows L2
/-! ### a caught error is kept -/
section
variable {X : Cx} {pins : List (Addr × Obj)} {σ : L2.St} {H : Hp} {s : Shared}
theorem exK_ok {P : Program} {w : World} {H : Hp} {h : Heap} {a : Addr} {cls : Value} {d : Option Addr} {oe : Obj} {vs : Array Value} (e : h.get? a = some oe) (z : Zc cls d oe) (hd : oe.data = .fields vs) : ObjOk P w H h a (ExK cls d a) :=
  ⟨⟨oe, vs, e, z, hd⟩, ⟨oe, e⟩, fun _ _ ⟨o, v, q, r⟩ k => ⟨o, v, k o q, r⟩⟩
theorem Inv.unsuiteK {a : Addr} {q : Addr × Obj} {pn' : List (Addr × Obj)} (I : L2.Inv (X.suite a (q :: (X.pn ++ pins))) pn' σ H s) (ok : X.Ok) : L2.Inv X (q :: pins) σ H s :=
  ⟨ok, I.os, I.bare, I.base, I.loc, I.cell, I.free, I.freeC, fun p hp => I.pin p (List.mem_append_left _ (by
    rcases List.mem_append.mp hp with h | h
    · exact List.mem_cons_of_mem _ (List.mem_append_left _ h)
    · rcases List.mem_cons.mp h with h | h
      · rw [h]; exact List.mem_cons_self
      · exact List.mem_cons_of_mem _ (List.mem_append_right _ h))), I.hok, I.len⟩
/-- an untracked new object that is pinned is tracked from now on -/
theorem Inv.adoptE {a : Addr} {oe : Obj} {cls : Value} {d : Option Addr} {vs : Array Value} (I : L2.Inv X ((a, oe) :: pins) σ H s) (n0 : X.s_0.heap.get? a = none) (hz : Zc cls d oe) (hd : oe.data = .fields vs) (np : ∀ p ∈ X.pn ++ pins, p.1 ≠ a) :
    L2.Inv X pins σ (upd H a (ExK cls d a)) s := by
  obtain ⟨ga, na, nL, nF, nc⟩ := I.pin (a, oe) (List.mem_append_right _ List.mem_cons_self)
  have ga : s.heap.get? a = some oe := ga
  have na : H a = none := na
  have ne : ∀ b u, H b = some u → b ≠ a := fun b u e => ne_of_none e na
  have ne0 : ∀ b o, X.s_0.heap.get? b = some o → b ≠ a := fun b o e z => by rw [z, n0] at e; cases e
  refine ⟨I.ok, I.os, I.bare, ⟨I.base.keep, I.base.slot, fun b o e n hx => ?_, I.base.there, fun b xs e => ?_, fun b o u e => ?_, fun b ps e => ?_⟩, I.loc, I.cell, ?_, fun x c e => ?_, fun p hp => ?_, fun b u e => ?_, I.len⟩
  · rw [upd_ne (ne0 b o e)]; exact I.base.free b o e n hx
  · have q := I.base.tups b xs e; rw [upd_ne (ne _ _ q)]; exact q
  · have q := I.base.frzs b o u e; rw [upd_ne (ne _ _ q)]; exact q
  · obtain ⟨m, q⟩ := I.base.tbls b ps e; exact ⟨m, by rw [upd_ne (ne _ _ q)]; exact q⟩
  · rw [upd_ne (Ne.symm nL)]; exact I.free
  · have hc : c ≠ a := fun z => by
      obtain ⟨v, o, ho, hdc⟩ := I.cell x c e
      rw [z, ga] at ho; cases ho
      exact nc _ hdc
    rw [upd_ne hc]; exact I.freeC x c e
  · have hp' : p ∈ X.pn ++ ((a, oe) :: pins) := by
      rcases List.mem_append.mp hp with h | h
      · exact List.mem_append_left _ h
      · exact List.mem_append_right _ (List.mem_cons_of_mem _ h)
    obtain ⟨e, n, l, f, dd⟩ := I.pin p hp'
    exact ⟨e, by rw [upd_ne (np p hp)]; exact n, l, f, dd⟩
  · by_cases hb : b = a
    · subst hb
      rw [upd_same] at e
      cases e
      exact exK_ok ga hz hd
    · rw [upd_ne hb] at e
      exact (I.hok b u e).stay (fun c v _ q => q) (fun c q => by rw [upd_ne (ne _ _ q)]; exact q) fun c xs q => by rw [upd_ne (ne _ _ q)]; exact q
end
def wKeep (K : PySem.W.Frag) (c : Value) (i j : Nat) (Wout : WX) (D : L2.Ends) : WX := fun cls d σ H =>
  ∃ b, PySem.W.exmOne K cls c = some b ∧ (b = true → ∀ a, H a = none → D.nx ((σ.set i (some (.ref a))).set j none) (upd H a (ExK cls d a))) ∧ (b = false → Wout cls d σ H)
section
variable {X : Cx} {x n y : Str} {c : Value} {i j : Nat} {body : List Stmt} {np np2 py ap pos pos' : Pos} {tb : WX → TS} {Wout : WX}
theorem ps_try_keep (hs : X.stack = X.env :: X.outer) (hf : X.env.frame = some X.env.locals) (hex : X.ex = []) (hN : X.N.Nodup) (hi : X.N[i]? = some y) (hj : X.N[j]? = some n) (hij : i ≠ j) (hly : X.env.kindOf y = some .local) (hln : X.env.kindOf n = some .local) (hpn : plainN n = true) (hc : Names X x c) (tk : L2.Takes X Wout)
    (hb : ∀ (W : WX) (pn : List (Addr × Obj)) (xe : Value → Shared → Prop), L2.Takes (X.tr pn xe) W → PassesOwn (model X.prog X.w) X.A X.env xe → PSs (X.tr pn xe) body (tb W)) :
    PS X (.Try body [.ExceptHandler (some (.Name x np)) (some n) [.Assign [.Name y py] (.Name n np2) ap] pos'] [] [] pos) (fun D σ H => tb (wKeep X.K c i j Wout D) D σ H) := by
  refine ⟨fun pins s σ H D I h => ?_⟩
  have ok := I.ok
  have hfr : X.A.frames = some (X.env :: X.outer) := by rw [ok.frames, hs]
  have hloc : Loc X.env.scope n := .inl hln
  refine wpAny_Try_except ?_
  refine wpAny_mono ((hb (wKeep X.K c i j Wout D) (X.pn ++ pins) (fun e s₁ => wpAny (model X.prog X.w) X.A (noteFrame e X.env) (fun _ s₂ => wpAny (model X.prog X.w) X.A (setFlight e none) (fun _ s₃ =>
    wpAny (model X.prog X.w) X.A (handleBy e X.env [.ExceptHandler (some (.Name x np)) (some n) [.Assign [.Name y py] (.Name n np2) ap] pos']) (SP X pins D) X.xe s₃) X.xe s₂) X.xe s₁) (fun u s' xx => ?_) PassesOwn.looking).run [] s σ H D (I.toTry _) h) (fun f s1 hsp => ?_) (fun e s1 he => he)
  · obtain ⟨a, B, sI, pins', σ', H', cls, d, rfl, J', nb, up, sky, na, os, ag, b, hb1, hyes, hno⟩ := xx
    have J : L2.Inv X pins σ' H' sI := J'.ofTry ok
    have sky' : Sky B (X.env :: X.outer) a (Zc cls d) X.env.locals s'.heap := by rw [← hs]; exact sky
    show wpAny (model X.prog X.w) X.A (noteFrame (.ref a) X.env) _ _ _
    refine Sky.land Zc.steady hfr hf sky' fun h3 fl3 up3 => ?_
    have J3 : L2.Inv X pins σ' H' { s' with heap := h3 } := J.landed nb fl3.1 (up.trans up3) os ag
    obtain ⟨oe3, vs3, he3, hz3, hd3⟩ := fl3.there
    have notFr : ∀ {h : Heap} {o : Obj} {vs : Array Value}, h.FunFrames B (X.env :: X.outer) → h.get? a = some o → o.data = .fields vs → a ∉ frs (X.env :: X.outer) := fun {h o vs} ff e dd hm => by
      obtain ⟨_, o', e', hnf⟩ := ff.mem hm
      rw [e] at e'; cases e'
      exact hnf _ dd
    have nfr := notFr fl3.2.2.1 he3 hd3
    have nL : a ≠ X.env.locals := fun z => nfr (List.mem_filterMap.mpr ⟨X.env, List.mem_cons_self, by rw [hf, z]⟩)
    have nF : a ∉ X.fs := fun hm => by
      obtain ⟨e, he, q⟩ := List.mem_filterMap.mp hm
      exact nfr (List.mem_filterMap.mpr ⟨e, List.mem_cons_of_mem _ he, q⟩)
    have nI : sI.heap.get? a = none := by
      cases e : sI.heap.get? a with
      | none => rfl
      | some o =>
        have z := nb a o e (by rw [hs]; exact nfr)
        rw [fl3.2.1] at z; cases z
    have n0 : X.s_0.heap.get? a = none := by
      cases e : X.s_0.heap.get? a with
      | none => rfl
      | some o =>
        obtain ⟨o', z⟩ := J.base.there a o e (by rw [hex]; simp)
        rw [nI] at z; cases z
    have npn : ∀ p ∈ X.pn ++ pins, p.1 ≠ a := fun p hp z => by
      have q := (J.pin p hp).1
      rw [z, nI] at q; cases q
    have S3 := J3.suite he3 hd3 na nL nF
    refine wpAny_handleBy_cons (codeAny_handlers_test ?_) (by intro q; cases q)
    have LT : PySem.W.Looks (model X.prog X.w) h3 (typeOf (.ref a)) cls := fun A Q E s k q => wpAny_typeOf_ref (k _ _ he3) (by rw [hz3.1]; exact q)
    have LM := PySem.W.exm_one (M := model X.prog X.w) (J3.kIn) LT hb1
    have test : ∀ {Q : Value → Shared → Prop} {E : Value → Shared → Prop}, Q c { s' with heap := h3 } → wpAny (model X.prog X.w) (X.A.mark (some (.ref a))) (eval (.Name x np) X.env) Q E { s' with heap := h3 } := fun {Q E} q => by
      obtain ⟨hg, hdbg, hm | ⟨hm, hv, hnn⟩⟩ := hc
      · exact ld_glob (X := X.suite a ((a, oe3) :: (X.pn ++ pins))) S3 hg hm q hdbg
      · exact ld_blt (X := X.suite a ((a, oe3) :: (X.pn ++ pins))) S3 hg hm hv q hnn hdbg
    refine test (LM.here ?_)
    cases b with
    | true =>
      refine codeAny_handlers_suite_as ?_
      refine HandSPX.lands_againZ fl3 fun h4 fl4 up4 => ?_
      have J4 : L2.Inv X pins σ' H' { s' with heap := h4 } := J.landed nb fl4.1 ((up.trans up3).trans up4) os ag
      obtain ⟨oe4, vs4, he4, hz4, hd4⟩ := fl4.there
      have S4 := J4.suite he4 hd4 na nL nF
      have hjl : j < σ'.length := by
        rw [J.len]
        exact (List.getElem?_eq_some_iff.mp hj).1
      refine store_ok (X := X.suite a ((a, oe4) :: (X.pn ++ pins))) (v := .ref a) S4 hN hj hloc rfl (fun s5 S5 => ?_) (.inr hln)
      obtain ⟨d1, d2, d3⟩ := plainN_of hpn
      refine wpAny_mono ((pss_one (ps_set (X := X.suite a ((a, oe4) :: (X.pn ++ pins))) (i := i) hN hi (.inl hly) (pe_var (i := j) hj (.inl hln) d1 d2) rfl (.inr hly))).run [] s5 (σ'.set j (some (.ref a))) H' { nx := fun σ6 H6 => σ6 = ((σ'.set j (some (.ref a))).set i (some (.ref a))) ∧ H6 = H', rt := fun _ _ => False } S5 ⟨.ref a, by rw [List.getElem?_set_self hjl], rfl, rfl⟩) (fun f s6 hsp => ?_) (fun _ _ z => False.elim z)
      cases f with
      | next =>
        obtain ⟨σ6, H6, S6, rfl, rfl⟩ := hsp
        refine gone_ok (Inv.unsuiteK S6 ok) hN hj hln fun s7 J7 => ?_
        have J8 := Inv.adoptE J7 n0 hz4 hd4 npn
        refine ⟨_, _, J8, ?_⟩
        have e := hyes rfl a na
        have e2 : (((σ'.set j (some (.ref a))).set i (some (.ref a))).set j none) = ((σ'.set i (some (V.ref a))).set j none) := by
          rw [List.set_comm _ _ hij, List.set_set, List.set_comm _ _ (Ne.symm hij)]
        rw [e2]; exact e
      | brk => obtain ⟨_, _, _, q6⟩ := hsp; exact q6.elim
      | cont => obtain ⟨_, _, _, q6⟩ := hsp; exact q6.elim
      | ret u => obtain ⟨_, _, _, _, _, q6⟩ := hsp; exact q6.elim
    | false =>
      show wpAny _ X.A (handleBy (.ref a) X.env []) _ _ _
      refine wpAny_handleBy_nil ?_
      obtain ⟨k1, k2, k3, oe, vs, T, oT, ts', he, hz, hd, h1, hr⟩ := id fl3
      unfold PySem.passOn
      refine wpAny_bind (wpAny_field he hd h1 ?_)
      rw [if_neg (show ¬ ((Value.ref T == Value.none) = true) from by simp)]
      have fin : wpAny (model X.prog X.w) X.A (setFlight (.ref a) X.env.frame) (fun _ s4 => wpAny (model X.prog X.w) X.A (throw (.ref a) : Sem Flow) (SP X pins D) X.xe s4) X.xe { s' with heap := h3 } := by
        rw [hf]
        refine HandSPX.setFlight_upZ fl3 fun h4 hh4 up4 => wpAny_throw (tk _ _ ?_)
        exact ⟨a, B, sI, pins, σ', H', cls, d, rfl, J, nb, (up.trans up3).trans up4, .inr (.inr (by rw [hs]; exact hh4)), na, os, ag, hno rfl⟩
      first
        | exact wpAny_bind (wpAny_pure (wpAny_bind fin))
        | exact wpAny_bind fin
  · cases f with
    | next =>
      obtain ⟨σ', H', J', q⟩ := hsp
      exact wpAny_execs_nil ⟨σ', H', J'.ofTry ok, q⟩
    | brk =>
      obtain ⟨σ', H', J', q⟩ := hsp
      exact ⟨σ', H', J'.ofTry ok, q⟩
    | cont =>
      obtain ⟨σ', H', J', q⟩ := hsp
      exact ⟨σ', H', J'.ofTry ok, q⟩
    | ret u =>
      obtain ⟨v, σ', H', J', r, q⟩ := hsp
      exact ⟨v, σ', H', J'.ofTry ok, r, q⟩
end
end DL

set_option linter.all false
set_option maxRecDepth 100000
set_option maxHeartbeats 4000000
namespace DL
open PySem PySem.Spec L2
/-! ### a tuple from behind -/
theorem back_adjust (n : Nat) : Builtin.Slice.sliceAdjust none none (-1) (n : Int) = ((n : Int) - 1, -1) := by
  unfold Builtin.Slice.sliceAdjust
  simp
theorem back_places (n : Nat) : Builtin.Slice.slicePlaces ((n : Int) - 1) (-1) (-1) = n := by
  unfold Builtin.Slice.slicePlaces
  rw [if_neg (by decide)]
  by_cases h : n = 0
  · subst h; simp
  · rw [if_pos (by omega)]
    have e : ((n : Int) - 1 - -1 - 1) / (- -1) + 1 = (n : Int) := by
      rw [show (- -1 : Int) = 1 from rfl, Int.ediv_one]; omega
    rw [e]; rfl
theorem fm_map {α β : Type} {g : α → Option β} {f : α → β} : ∀ {l : List α}, (∀ a ∈ l, g a = some (f a)) → l.filterMap g = l.map f
  | [], _ => rfl
  | a :: l, h => by
    rw [List.filterMap_cons, h a List.mem_cons_self, List.map_cons, fm_map fun b hb => h b (List.mem_cons_of_mem _ hb)]
theorem back_pick (xs : Array Value) : ((List.range xs.size).filterMap fun (m : Nat) => xs[(((xs.size : Nat) : Int) - 1 + (m : Int) * (-1)).toNat]?) = xs.toList.reverse := by
  have key : ∀ m ∈ List.range xs.size, (fun (m : Nat) => xs[(((xs.size : Nat) : Int) - 1 + (m : Int) * (-1)).toNat]?) m = some ((xs.toList.reverse[m]?).getD .none) := by
    intro m hm
    have h := List.mem_range.mp hm
    have e : (((xs.size : Nat) : Int) - 1 + ((m : Nat) : Int) * (-1)).toNat = xs.size - 1 - m := by omega
    show xs[(((xs.size : Nat) : Int) - 1 + ((m : Nat) : Int) * (-1)).toNat]? = _
    rw [e, List.getElem?_reverse (by simpa using h), Array.getElem?_eq_getElem (by omega)]
    simp
    have h2 : xs.size - 1 - m < xs.size := by omega
    simp [h2]
  rw [fm_map key]
  apply List.ext_getElem?
  intro i
  by_cases hi : i < xs.size
  · rw [List.getElem?_map, List.getElem?_range hi]
    have h3 : i < xs.toList.reverse.length := by simpa using hi
    show some ((xs.toList.reverse[i]?).getD .none) = xs.toList.reverse[i]?
    rw [List.getElem?_eq_getElem h3]
    rfl
  · rw [List.getElem?_eq_none (by simp; omega), List.getElem?_eq_none (by simp; omega)]
section
variable {prog : Program} {w : World} {A : Around} {E : Value → Shared → Prop} {s : Shared}
theorem back_applied {sl : Addr} {vs : Value} {n : Nat} {Q : Int × Int × Nat → Shared → Prop} (hs : s.heap.IsSliceOf sl .none .none vs) (ps : IsPart vs (some (-1))) (h : Q ((n : Int) - 1, -1, n) s) :
    wpAny (model prog w) A (Builtin.Slice.sliceApplied (.ref sl) (pure (n : Int))) Q E s := by
  obtain ⟨o1, hos, o2, hds⟩ := id hs
  unfold Builtin.Slice.sliceApplied
  unfold Builtin.Slice.sliceFields
  refine wpAny_bind (wpAny_bind (wpAny_field hos hds (x := .none) rfl ?_))
  refine wpAny_bind (wpAny_field hos hds (x := .none) rfl ?_)
  refine wpAny_bind (wpAny_field hos hds (x := vs) rfl (wpAny_pure ?_))
  refine wpAny_bind (HT.slicePart_ ps ?_)
  show wpAny _ _ (if ((-1 : Int) == 0) = true then _ else _) _ _ s
  rw [if_neg (by decide)]
  refine wpAny_bind (HT.slicePart_ .none (wpAny_bind (HT.slicePart_ .none (wpAny_bind (wpAny_pure ?_)))))
  show wpAny _ _ (match Builtin.Slice.sliceAdjust none none (-1) (n : Int) with | (lo, hi) => pure (lo, (-1 : Int), Builtin.Slice.slicePlaces lo hi (-1))) _ _ s
  rw [back_adjust]
  show wpAny _ _ (pure ((n : Int) - 1, (-1 : Int), Builtin.Slice.slicePlaces ((n : Int) - 1) (-1) (-1))) _ _ s
  rw [back_places]
  exact wpAny_pure h
theorem back_item {t sl : Addr} {items : Array Value} {vs : Value} {Q : Value → Shared → Prop} (ht : PyProof.Rows.IsTup s.heap t items) (hs : s.heap.IsSliceOf sl .none .none vs) (ps : IsPart vs (some (-1))) (hsz : items.size ≤ sizeLine)
    (h : Q (.ref s.heap.objs.size) { s with heap := s.heap.push { cls := .type "tuple", data := .seq items.toList.reverse.toArray } }) : wpAny (model prog w) A (getItem (.ref t) (.ref sl)) Q E s := by
  have fits : sizeOk (.seq items.toList.reverse.toArray) := by
    show items.toList.reverse.toArray.size ≤ sizeLine
    simpa using hsz
  have isSl : s.TypeIs (.ref sl) "slice" := by
    obtain ⟨os, h1, h2, _⟩ := id hs
    exact ⟨os, h1, h2⟩
  unfold getItem
  try (with_reducible refine wpAny_holding ?_)
  first | skip; refine wpAny_bind (wpAny_pure ?_) | skip
  refine wpAny_bind ?_
  refine wpAny_sequenceKey ht.typeIs (by decide) ?_
  refine wpAny_bind ?_
  refine wpAny_callSpecial?_slot (name := "__getitem__") ht.typeIs PyProof.Rows.slot_tuple_getitem ?_
  refine wpAny_call_entry PyProof.Rows.slot_tuple_getitem ht.typeIs PyProof.Rows.entry_tuple_getitem ?_ (PyProof.Rows.args_tuple_getitem _ _)
  show wpAny (model prog w) _ (Builtin.Tuple.tupleItemsOf (.ref t) >>= _) _ _ s
  refine wpAny_bind (PyProof.Rows.tupleItemsOf_ ht ?_)
  refine wpAny_bind (wpAny_typeOf isSl ?_)
  rw [if_pos (by decide)]
  refine wpAny_bind (back_applied hs ps ?_)
  have no : ¬ ((((items.size : Nat) : Int) - 1 == 0 && (-1 : Int) == 1 && items.size == items.size) = true) := by simp
  show wpAny _ _ (if (((items.size : Nat) : Int) - 1 == 0 && (-1 : Int) == 1 && items.size == items.size) = true then _ else _) _ _ s
  rw [if_neg no, back_pick]
  first
    | exact wpAny_bind (m := Builtin.Tuple.tupleExact _) (wpAny_newObj_type (wpAny_pure ⟨_, rfl, wpAny_pure h⟩) fits)
    | exact wpAny_bind (m := Builtin.Tuple.tupleExact _) (wpAny_newObj_type (wpAny_bind (wpAny_pure (wpAny_pure ⟨_, rfl, wpAny_pure h⟩))) fits)
    | exact wpAny_bind (wpAny_bind (m := Builtin.Tuple.tupleExact _) (wpAny_newObj_type (wpAny_pure (wpAny_pure ⟨_, rfl, wpAny_pure h⟩)) fits))
    | exact wpAny_bind (wpAny_bind (m := Builtin.Tuple.tupleExact _) (wpAny_newObj_type (wpAny_pure ⟨_, rfl, wpAny_pure h⟩) fits))
end
section
variable {X : Cx}
def revR (K : PySem.W.Frag) (x : V) (H1 : Hp) (Q : VK) : Prop := (∃ a xs, x = .ref a ∧ SqL K H1 a xs ∧ ∀ p, H1 p = none → Q (.ref p) (upd H1 p (.lst xs.reverse))) ∨
  ∃ a xs, x = .ref a ∧ SqT K H1 a xs ∧ ∀ p, H1 p = none → Q (.ref p) (upd H1 p (.tup xs.reverse))
theorem pe_revB {e : Expr} {te : TE} {k : Nat} {p1 p2 p3 pos : Pos} (he : PE X e te) :
    PE X (.Subscript e (.Slice none none (some (.UnaryOp .USub (.Constant (.int 1) k p1) p2)) p3) pos) (fun σ H Q => te σ H fun x H1 => revR X.K x H1 Q) := by
  refine ⟨fun pins s σ H Q I h => ?_⟩
  have part : PO X (some (.UnaryOp .USub (.Constant (.int 1) k p1) p2)) (tPart (tUn (rU fun i => .int (-i)) (tC (.int 1)))) := po_some (pe_un un_neg pe_int)
  have value := he.run pins s σ H (fun x H1 => revR X.K x H1 Q) I h
  refine PyProof.Rows.Subscript_ (thn value fun v s1 ⟨x, H1, I1, r1, q1⟩ => ?_)
  have a1 := po_none.run pins s1 σ H1 (fun o H2 => o = none ∧ H2 = H1) I1 ⟨rfl, rfl⟩
  refine wpAny_Slice (thn a1 fun vl s2 ⟨l, H2, I2, pl, el, e2⟩ => ?_)
  subst el e2
  have a2 := po_none.run pins s2 σ H2 (fun o H3 => o = none ∧ H3 = H2) I2 ⟨rfl, rfl⟩
  refine thn a2 fun vu s3 ⟨u, H3, I3, pu, eu, e3⟩ => ?_
  subst eu e3
  have a3 := part.run pins s3 σ H3 (fun o H4 => o = some (-1) ∧ H4 = H3) I3 ⟨1, rfl, -1, rfl, rfl, rfl⟩
  refine thn a3 fun vs s4 ⟨o, H4, I4, ps, eo, e4⟩ => ?_
  subst eo e4
  have J : Inv X pins σ H4 { s4 with heap := s4.heap.push { cls := .type "slice", data := .fields #[vl, vu, vs] } } := I4.kept (t' := s4.toks) fun b ob g => Heap.get?_push_of_some _ g
  cases pl
  cases pu
  rcases q1 with ⟨a, xs, rfl, hx, q⟩ | ⟨a, xs, rfl, hx, q⟩
  · cases r1
    obtain ⟨its, r, ht, hz⟩ := J.list hx
    have hl := r.length
    refine PyProof.Rows.tail_any (ops := [.ref a, .ref s4.heap.objs.size]) ht.isList.typeIs (PySem.slot_list_getitem.lookup) ?_ (by with_unfolding_all rfl)
    refine wpAny_getItem_list_slice ht.isList (Heap.IsSliceOf.new _ .none .none vs) .none .none ps (by decide) ?_ (by rw [List.size_toArray]; omega)
    rw [PySem.W.krv_pick]
    refine ⟨.ref _, _, J.laid (t' := s4.toks) (o := .lst xs.reverse) (fun b ob g => Heap.get?_push_of_some _ g) (Nat.le_refl _) ?_, rfl, q _ (J.hok.fresh (Nat.le_refl _))⟩
    have hz2 : xs.reverse.length ≤ sizeLine := by rw [List.length_reverse]; exact hz
    exact ⟨hz2, _, 0, r.reverse, Heap.get?_push_size _ rfl⟩
  · cases r1
    obtain ⟨its, r, ht, hz⟩ := J.tuple hx
    have hl := r.length
    refine PyProof.Rows.tail_any (ops := [.ref a, .ref s4.heap.objs.size]) (PyProof.Rows.IsTup.typeIs ht) (PyProof.Rows.slot_tuple_getitem.lookup) ?_ (by with_unfolding_all rfl)
    refine back_item ht (Heap.IsSliceOf.new _ .none .none vs) ps (by rw [List.size_toArray]; omega) ?_
    refine ⟨.ref _, _, J.laid (t' := s4.toks) (o := .tup xs.reverse) (fun b ob g => Heap.get?_push_of_some _ g) (Nat.le_refl _) ?_, rfl, q _ (J.hok.fresh (Nat.le_refl _))⟩
    exact ⟨by rw [List.length_reverse]; exact hz, _, r.reverse, PyProof.Rows.IsTup.new _ _⟩
end
end DL

set_option linter.all false
set_option maxRecDepth 100000
set_option maxHeartbeats 4000000
namespace DL
open PySem PySem.Spec L2 PyProof.Rows
/-! ### set(xs), xs a list: what the set holds is told by a promise kept at each item -/
abbrev eset (w : World) : Obj := { cls := .type "set", dict := none, data := .set #[] 0 (.fresh 0 0 (!w.params.followText "set-order")) }
section
variable {P : Program} {w : World} {A : Around} {E : Value → Shared → Prop} {s : Shared}
theorem eset_made (x : Value) {Q1 : Value → Shared → Prop} (q : Q1 (.ref s.heap.objs.size) { s with heap := s.heap.push (eset w) }) :
    codeAny (model P w) A (.call (.builtin "set.__new__") ⟨[.type "set", x], []⟩) (wants Q1 E) s := by
  refine codeAny_of_tree ?_
  show wpAny _ A.in1 (do checkBuiltinCall "set.__new__" ⟨[.type "set", x], []⟩; again (.builtin "set.__new__" ⟨[.type "set", x], []⟩)) _ _ s
  refine wpAny_bind (wpAny_of_eq (PySem.F.newCall_set_1 x) (wpAny_pure ⟨plainId_quiet PySem.F.plain_set_new _, codeAny_builtin PySem.F.entry_set_new ?_⟩))
  rw [Around.under_plainId PySem.F.plain_set_new]
  (unfold Builtin.«set.__new__»; unfold Builtin.Frozenset.newClass)
  have sub1 := sub_set_self
  obtain ⟨hp, g, dr, tk, os⟩ := s
  dsimp only
  wp_walk
  refine wpAny_askSetting (wpAny_pure ?_)
  (dsimp only; simp only [newObj])
  exact wpAny_bind (wpAny_alloc (wpAny_pure (wpAny_pure q)))
end
section
variable {P : Program} {w : World} {A : Around} {R : Result → Shared → Prop} {I : Addr} {fp wr : List Addr} {Gn : Array GenState → Array GenState → Prop} {n : Nat} {Pv : Nat → Value → Prop} {St : Nat → Shared → Prop}
/-- one item is put -/
def PutOk (P : Program) (w : World) (S n : Nat) (Pv : Nat → Value → Prop) (Iv : Nat → Heap → Prop) : Prop :=
  ∀ (A : Around) (E : Value → Shared → Prop) (i : Nat) (v : Value) (s : Shared) (Q : Bool → Shared → Prop), i < n → A.units + 20 < cLine → Pv i v → Iv i s.heap → (∀ b h' tk, s.toks ≤ tk → Heap.SameBut S s.heap h' → Iv (i + 1) h' → Q b { s with heap := h', toks := tk }) → wpAny (model P w) A (setAdd S v) Q E s
def KeepOk (J : Nat) (Iv : Nat → Heap → Prop) : Prop := ∀ i h h', Iv i h → (∀ b o, b ≠ J → h.get? b = some o → h'.get? b = some o) → Iv i h'
theorem put_turns (W : WalksS P w A.in1 I fp wr Gn n Pv St) (S : Addr) (hS : S ∉ fp) {Iv : Nat → Heap → Prop} {J : Nat} (kp : KeepOk J Iv) (hJ : ∀ b ∈ wr, b = J) (hu : A.in1.units + 20 < cLine) (put : PutOk P w S n Pv Iv) :
    ∀ (k i : Nat) (s : Shared), n - i = k → i ≤ n → St i s → Iv i s.heap → (∀ s', Moved (S :: wr) Gn s s' → Iv n s'.heap → R (.ok (.ret .none)) s') →
      codeAny (model P w) A (.builtin "set.update.loop" ⟨[.ref S, .ref I], []⟩) R s := by
  have hw : S ∉ wr := fun h => hS (W.sub _ h)
  have hs : ∀ b ∈ wr, b ∈ S :: wr := fun b hb => List.mem_cons_of_mem _ hb
  intro k
  induction k with
  | zero =>
    intro i s hk hi st iv hR
    obtain rfl : i = n := by omega
    refine codeAny_builtin PyProof.Rows.F.entry_set_update_loop ?_
    rw [Around.under_plainId PyProof.Rows.F.plain_set_update_loop]
    show wpAny _ A.in1 (pyNext (.ref I) >>= _) _ _ s
    refine wpAny_bind (W.done s _ _ st fun s1 mv => ?_)
    show wpAny _ A.in1 (ret Value.none) _ _ s1
    exact wpAny_pure (hR s1 (mv.mono hs) (kp _ _ _ iv fun b o hb e => mv.heap b o (fun z => hb (hJ b z)) e))
  | succ k ih =>
    intro i s hk hi st iv hR
    have lt : i < n := by omega
    refine codeAny_builtin PyProof.Rows.F.entry_set_update_loop ?_
    rw [Around.under_plainId PyProof.Rows.F.plain_set_update_loop]
    show wpAny _ A.in1 (pyNext (.ref I) >>= _) _ _ s
    refine wpAny_bind (W.item i s _ _ lt st fun v s1 pv st1 mv => ?_)
    show wpAny _ A.in1 (holding [v] (setAdd S v) >>= _) _ _ s1
    refine wpAny_bind (wpAny_holding (put _ _ i v s1 _ lt hu pv (kp _ _ _ iv fun b o hb e => mv.heap b o (fun z => hb (hJ b z)) e) fun b h1 tk le sb iv1 => ?_))
    refine wpAny_pure ⟨plainId_quiet PyProof.Rows.F.plain_set_update_loop _, ih (i + 1) _ (by omega) lt (W.frame _ s1 _ _ st1 ?_ fun b hb o e => ?_) iv1 fun s2 mv2 iv2 => ?_⟩
    · exact le
    · rw [sb.2 b (fun h : b = S => hS (by rw [← h]; exact hb))]; exact e
    · refine hR s2 ⟨fun b o hb e => mv2.heap b o hb ?_, W.gtrans _ _ _ mv.gens mv2.gens, mv2.drawn.trans mv.drawn, mv2.os.trans mv.os, Nat.le_trans mv.toks (Nat.le_trans le mv2.toks)⟩ iv2
      show h1.get? b = some o
      rw [sb.2 b fun z => hb (by rw [z]; exact List.mem_cons_self)]
      exact mv.heap b o (fun z => hb (List.mem_cons_of_mem _ z)) e
end
section
variable {P : Program} {w : World} {A : Around} {E : Value → Shared → Prop} {s : Shared}
set_option maxHeartbeats 3200000 in
theorem set_listIv {l : Addr} {items : Array Value} {Q : Value → Shared → Prop} {Iv : Nat → Heap → Prop} (hh : A.handled = none) (hl : s.heap.IsList l items)
    (hu : A.units + 60 < cLine) (kp : KeepOk (s.heap.objs.size + 1) Iv) (put : PutOk P w s.heap.objs.size items.size (fun i v => items[i]? = some v) Iv) (iv0 : ∀ h : Heap, h.get? s.heap.objs.size = some (eset w) → (∀ b o, s.heap.get? b = some o → h.get? b = some o) → Iv 0 h)
    (fin : ∀ (h' : Heap) (tk : Nat), Iv items.size h' → (∀ b o, b < s.heap.objs.size → s.heap.get? b = some o → h'.get? b = some o) → Q (.ref s.heap.objs.size) { s with heap := h', toks := tk }) :
    wpAny (model P w) A (call (.type "set") [.ref l]) Q E s := by
  obtain ⟨cl, tl, mro⟩ := PySem.F.called_set.mro
  have made := PySem.F.called_set.made
  have sub := PySem.F.called_set.sub
  refine wpAny_call (codeAny_of_tree ?_)
  show wpAny _ _ (callAny (.type "set") _) _ _ _
  refine wpAny_pure ⟨Code.quiet_builtin _ (by decide +kernel), codeAny_builtin PySem.F.entry_type_call ?_⟩
  rw [Around.under_plain (weight_type_call_type "set" [.ref l] []) rfl]
  have k1 := PySem.F.called_set.notType
  have k2 := PySem.F.called_set.canCreate
  have k3 := PySem.F.typeCall_set_1 (.ref l)
  repeat (any_goals (first | wp_step | assumption))
  refine codeAny_mono (eset_made (.ref l) (E := E) (Q1 := fun ob s1 => ob = .ref s.heap.objs.size ∧ s1 = { s with heap := s.heap.push (eset w) }) ⟨rfl, rfl⟩) fun r s1 hr => ?_
  cases r with
  | error e => exact hr
  | ok fl =>
    cases fl with
    | ret ob =>
      obtain ⟨rfl, rfl⟩ := hr
      have hS : (s.heap.push (eset w)).get? s.heap.objs.size = some (eset w) := Heap.get?_push_size _ rfl
      have hT : Shared.TypeIs { s with heap := s.heap.push (eset w) } (.ref s.heap.objs.size) "set" := ⟨_, hS, rfl⟩
      have k4 := PySem.F.called_set.init.lookup
      have k5 := PySem.F.called_set.init.bind (.ref s.heap.objs.size)
      repeat (any_goals (first | wp_step | assumption))
      refine codeAny_mono (codeAny_call_builtin (R := wants (fun r s2 => r = .none ∧ ∃ h' tk, s2 = { s with heap := h', toks := tk } ∧ Iv items.size h' ∧
          (∀ b o, b < s.heap.objs.size → s.heap.get? b = some o → h'.get? b = some o)) E) PySem.F.called_set.init.plain PySem.F.entry_set_init (check_set_init_1 hT ?_)) fun r2 s2 hr2 => ?_
      · obtain ⟨ol, hol, hcl, nl, hdl⟩ := hl
        obtain ⟨oc, od, oda, osl⟩ := ol
        simp only at hcl hdl
        subst hcl
        subst hdl
        have hol1 : (s.heap.push (eset w)).get? l = some { cls := .type "list", dict := od, data := .seq items nl, slots := osl } := Heap.get?_push_of_some _ hol
        have j1 := PySem.F.sub_list_set
        have j2 := PySem.F.sub_list_frozenset
        have j3 : (Value.type "list" == Value.type "dict") = false := by decide
        have hl1 : (s.heap.push (eset w)).IsList l items := ⟨_, hol1, rfl, nl, rfl⟩
        unfold Builtin.«set.__init__» Builtin.Frozenset.updateFrom noKeywords
        generalize hPI : pyIter = PI
        wp_walk
        subst hPI
        refine wpAny_pyIter_list hl1 (wpAny_bind (wpAny_runValue ?_))
        have ls : l < s.heap.objs.size := Heap.lt_size hol
        have h3 : A.in1.in1.in1.handled = none := by simp [hh]
        have hneI : l ≠ (s.heap.push (eset w)).objs.size := by
          rw [Heap.size_push]; exact Nat.ne_of_lt (Nat.lt_succ_of_lt ls)
        have nS : s.heap.objs.size ∉ [(s.heap.push (eset w)).objs.size, l] := by
          rw [Heap.size_push]; simp only [List.mem_cons, not_or, List.not_mem_nil, not_false_eq_true, and_true]
          exact ⟨Nat.ne_of_lt (Nat.lt_succ_self _), Nat.ne_of_gt ls⟩
        have hu2 : A.in1.in1.in1.units + 20 < cLine := by
          have e : A.in1.in1.in1.units ≤ A.units + 3 := by simp [Around.in1, Around.units]
          omega
        refine put_turns ((Walks.list h3 _ l hneI items).toS) s.heap.objs.size nS kp (fun b hb => by simpa [Heap.size_push] using hb) hu2 put (items.size - 0) 0 _ (by omega) (Nat.zero_le _)
          ⟨⟨_, Heap.get?_push_size _ rfl, rfl, rfl⟩, (hl1.push _)⟩ (iv0 _ (Heap.get?_push_of_some _ hS) fun b o e => Heap.get?_push_of_some _ (Heap.get?_push_of_some _ e)) fun s3 mv iv => ?_
        obtain ⟨h', g', d', tk', os'⟩ := s3
        obtain rfl : g' = s.gens := mv.gens
        obtain rfl : d' = s.drawn := mv.drawn
        obtain rfl : os' = s.os := mv.os
        show wpAny _ _ _ _ _ _
        refine wpAny_pure ?_
        show wpAny _ _ (ret Value.none) _ _ _
        refine wpAny_pure ⟨rfl, h', tk', rfl, iv, fun b o hb e => mv.heap b o ?_ (Heap.get?_push_of_some _ (Heap.get?_push_of_some _ e))⟩
        have b1 : b ≠ s.heap.objs.size := Nat.ne_of_lt hb
        have b2 : b ≠ (s.heap.push (eset w)).objs.size := by
          rw [Heap.size_push]; exact Nat.ne_of_lt (Nat.lt_succ_of_lt hb)
        simp only [List.mem_cons, not_or, List.not_mem_nil, not_false_eq_true, and_true]
        exact ⟨b1, b2⟩
      · cases r2 with
        | error e => exact hr2
        | ok fl2 =>
          cases fl2 with
          | ret r =>
            obtain ⟨rfl, h', tk, rfl, iv, kk⟩ := hr2
            repeat (any_goals (first | wp_step | assumption))
            exact fin _ _ iv kk
          | _ => exact hr2.elim
    | _ => exact hr.elim
end
/-! ### set(xs) of numbers, of texts -/
theorem len_sub {α : Type} [DecidableEq α] : ∀ {l m : List α}, l.Nodup → (∀ k ∈ l, k ∈ m) → l.length ≤ m.length
  | [], _, _, _ => Nat.zero_le _
  | a :: l, m, nd, h => by
    obtain ⟨n1, n2⟩ := List.nodup_cons.mp nd
    have k1 : a ∈ m := h a List.mem_cons_self
    have k2 := len_sub (m := m.erase a) n2 fun k hk => (List.mem_erase_of_ne fun e => n1 (by rw [← e]; exact hk)).mpr (h k (List.mem_cons_of_mem _ hk))
    rw [List.length_erase_of_mem k1] at k2
    have : 0 < m.length := List.length_pos_of_mem k1
    rw [List.length_cons]; omega
theorem takeS {α : Type} {l : List α} {i : Nat} {x : α} (h : l[i]? = some x) : l.take (i + 1) = l.take i ++ [x] := by rw [List.take_add_one, h]; rfl
theorem nodup_snoc {α : Type} {l : List α} {x : α} : (l ++ [x]).Nodup ↔ l.Nodup ∧ x ∉ l := by
  rw [List.nodup_append]
  constructor
  · rintro ⟨h1, -, h3⟩
    exact ⟨h1, fun h => h3 x h x (by simp) rfl⟩
  · rintro ⟨h1, h2⟩
    refine ⟨h1, by simp, fun a ha b hb e => ?_⟩
    rw [List.mem_singleton.mp hb] at e
    exact h2 (e ▸ ha)
section
variable {X : Cx}
def IvI (w : World) (a : Addr) (ns : List Int) (i : Nat) (h : Heap) : Prop := ∃ S n, SetR w h a S n ∧ n ≤ i ∧ ∀ k, S k = true ↔ k ∈ ns.take i
theorem vals_int : ∀ {ns : List Int} {us : List Value} {i : Nat} {v : Value}, Vals (ns.map V.int) us → us[i]? = some v → ∃ k t, ns[i]? = some k ∧ v = .int k t
  | [], _, _, _, .nil, h => by simp at h
  | n :: ns, _, 0, _, .cons r _, h => by
    obtain ⟨t, rfl⟩ := r
    simp at h
    exact ⟨n, t, rfl, h.symm⟩
  | n :: ns, _, i + 1, _, .cons _ q, h => by
    simp only [List.getElem?_cons_succ] at h ⊢
    exact vals_int q h
theorem vals_str : ∀ {ns : List Str} {us : List Value} {i : Nat} {v : Value}, Vals (ns.map V.str) us → us[i]? = some v → ∃ k t, ns[i]? = some k ∧ v = .str k t
  | [], _, _, _, .nil, h => by simp at h
  | n :: ns, _, 0, _, .cons r _, h => by
    obtain ⟨t, rfl⟩ := r
    simp at h
    exact ⟨n, t, rfl, h.symm⟩
  | n :: ns, _, i + 1, _, .cons _ q, h => by
    simp only [List.getElem?_cons_succ] at h ⊢
    exact vals_str q h
def rSetI (K : PySem.W.Frag) (w : World) : List V → Hp → VK → Prop := fun vs H Q => ∃ (l : Addr) (ns : List Int), vs = [V.ref l] ∧ SqL K H l (ns.map V.int) ∧ ns.length < 4000 ∧
  ∀ p S n, H p = none → (∀ k, S k = true ↔ k ∈ ns) → (∀ m : List Int, (∀ k ∈ ns, k ∈ m) → n ≤ m.length) → Q (.ref p) (upd H p (SetO w p S n))
theorem cr_setI (HU : X.A.units + 60 < cLine) (hc : X.calm = true) : CallR X (.type "set") (rSetI X.K X.w) := by
  intro pins s σ H vs us Q I r h
  obtain ⟨l, ns, rfl, hq, hn, q⟩ := h
  rw [Vals.ref1 r]
  obtain ⟨its, rv, pl, hz⟩ := I.list hq
  have el : its.length = ns.length := by rw [← rv.length, List.length_map]
  refine set_listIv (Iv := IvI X.w s.heap.objs.size ns) (I.ok.hd hc) pl.isList HU (fun i h h' ⟨S, n, R, k⟩ e => ⟨S, n, R.at (fun o => e _ o (Nat.ne_of_lt (Nat.lt_succ_self _))), k⟩) (fun A E i v s1 Q1 hi _ hv ⟨S, n, R, le, mem⟩ hQ => ?_) (fun h e _ => ?_) fun h' tk ⟨S, n, R, le, mem⟩ kk => ?_
  · obtain ⟨k, t, e1, rfl⟩ := vals_int (i := i) rv (by simpa using hv)
    have hil : i < ns.length := (List.getElem?_eq_some_iff.mp e1).1
    (unfold setAdd; refine wpAny_holding (wpAny_bind ?_))
    refine (intKind X.prog X.w).pyHash (k := k) (intKind_is _ _ _ _) ?_
    refine setR_add_hashed (P := X.prog) (s := { s1 with toks := s1.toks + 1 }) R (by show n + 1 < 4096; omega) fun h' sb R' => hQ _ h' _ (Nat.le_succ _) sb ⟨_, _, R', by split <;> omega, fun j => ?_⟩
    rw [takeS e1, List.mem_append, List.mem_singleton, Bool.or_eq_true, decide_eq_true_eq, mem j]
  · obtain ⟨R⟩ : SetR X.w h s.heap.objs.size (fun _ => false) 0 ∧ True := ⟨(setR_fresh (h := s.heap) X.w).at fun o e2 => by
      rw [Heap.get?_push_size _ rfl] at e2
      rw [← e2]; exact e, trivial⟩
    exact ⟨_, 0, R, Nat.le_refl _, fun k => by simp⟩
  · have en : its.toArray.size = ns.length := by rw [List.size_toArray, el]
    rw [en, List.take_length] at mem
    have R2 := R
    obtain ⟨o, es, ep, t, ho, hex, hd, g, nd, hm, hb, hf, hnn, hr, hl⟩ := R2
    refine ⟨.ref s.heap.objs.size, _, I.laid (t' := tk) (fun b o e => kk b o (Heap.lt_size e) e) (Nat.le_refl _) (setO_new R), rfl, q _ S n (I.hok.fresh (Nat.le_refl _)) mem fun m hm2 => ?_⟩
    have e2 : n = (es.toList.map keyOf).length := by rw [← hnn, List.length_map, Array.length_toList]
    rw [e2]
    exact len_sub nd fun k hk => hm2 k ((mem k).mp ((hm k).mpr hk))
def SetSO (a : Addr) (n : Nat) : HO := .ext fun h => ∃ o es ep t, h.get? a = some o ∧ o.ExactSet ∧ o.data = .set es ep t ∧ t.fits es.size = true ∧ es.size = n
def IvS (P : Program) (w : World) (a : Addr) (ns : List Str) (i : Nat) (h : Heap) : Prop := ∃ S n, h.SetOf (PySem.strKind P w) a S n ∧ n ≤ i ∧ (n = i ↔ (ns.take i).Nodup) ∧ ∀ k, S k = true ↔ k ∈ ns.take i
theorem setOf_at {P : Program} {w : World} {a : Addr} {S : Str → Bool} {n : Nat} {h h' : Heap} (q : h.SetOf (PySem.strKind P w) a S n) (e : ∀ o, h.get? a = some o → h'.get? a = some o) : h'.SetOf (PySem.strKind P w) a S n := by
  obtain ⟨o, es, ep, t, ho, rest⟩ := q
  exact ⟨o, es, ep, t, e o ho, rest⟩
theorem setSO_new {P : Program} {w : World} {H : Hp} {h : Heap} {a : Addr} {n : Nat} {o : Obj} {es : Array (Int × Value)} {ep : Nat} {t : SetTable} (h1 : h.get? a = some o) (h2 : o.ExactSet) (h3 : o.data = .set es ep t) (h4 : t.fits es.size = true) (h5 : es.size = n) : ObjOk P w H h a (SetSO a n) :=
  ⟨⟨o, es, ep, t, h1, h2, h3, h4, h5⟩, ⟨o, h1⟩, fun x y ⟨o, es, ep, t, a1, a2⟩ k => ⟨o, es, ep, t, k _ a1, a2⟩⟩
def rSetS (K : PySem.W.Frag) : List V → Hp → VK → Prop := fun vs H Q => ∃ (l : Addr) (ns : List Str), vs = [V.ref l] ∧ SqL K H l (ns.map V.str) ∧ ns.length < 4000 ∧
  ∀ p n, H p = none → n ≤ ns.length → (n = ns.length ↔ ns.Nodup) → Q (.ref p) (upd H p (SetSO p n))
theorem cr_setS (HU : X.A.units + 60 < cLine) (hc : X.calm = true) : CallR X (.type "set") (rSetS X.K) := by
  intro pins s σ H vs us Q I r h
  obtain ⟨l, ns, rfl, hq, hn, q⟩ := h
  rw [Vals.ref1 r]
  obtain ⟨its, rv, pl, hz⟩ := I.list hq
  have el : its.length = ns.length := by rw [← rv.length, List.length_map]
  refine set_listIv (Iv := IvS X.prog X.w s.heap.objs.size ns) (I.ok.hd hc) pl.isList HU (fun i h h' ⟨S, n, R, k⟩ e => ⟨S, n, setOf_at R (fun o => e _ o (Nat.ne_of_lt (Nat.lt_succ_self _))), k⟩) (fun A E i v s1 Q1 hi _ hv ⟨S, n, R, le, eq, mem⟩ hQ => ?_) (fun h e _ => ?_) fun h' tk ⟨S, n, R, le, eq, mem⟩ kk => ?_
  · obtain ⟨k, t, e1, rfl⟩ := vals_str (i := i) rv (by simpa using hv)
    have hil : i < ns.length := (List.getElem?_eq_some_iff.mp e1).1
    (unfold setAdd; refine wpAny_holding (wpAny_bind ?_))
    refine (PySem.strKind X.prog X.w).pyHash (k := k) (PySem.strKind_is _ _ _ _) ?_
    refine wpAny_setAddHashed_of (knd := PySem.strKind X.prog X.w) (s := { s1 with toks := s1.toks + 1 }) (PySem.strKind_is _ _ _ _) rfl R (by show n + 1 < 4096; omega) fun h' sb R' => hQ _ h' _ (Nat.le_succ _) sb ⟨_, _, R', by split <;> omega, ?_, fun j => ?_⟩
    · rw [takeS e1, nodup_snoc, ← eq, ← mem k]
      by_cases hk : S k = true
      · rw [if_pos hk]
        exact ⟨fun z => by omega, fun z => absurd hk z.2⟩
      · rw [if_neg hk]
        exact ⟨fun z => ⟨by omega, hk⟩, fun z => by omega⟩
    · rw [takeS e1, List.mem_append, List.mem_singleton, Bool.or_eq_true, decide_eq_true_eq, mem j]
  · exact ⟨_, 0, (setObjOf_fresh (knd := PySem.strKind X.prog X.w) _).setOf e (by decide), Nat.le_refl _, by simp, fun k => by simp⟩
  · have en : its.toArray.size = ns.length := by rw [List.size_toArray, el]
    rw [en] at le eq
    rw [List.take_length] at eq
    obtain ⟨o, es, ep, t, a1, a2, a3, _, _, _, a7, a8⟩ := R
    exact ⟨.ref s.heap.objs.size, _, I.laid (t' := tk) (fun b o e => kk b o (Heap.lt_size e) e) (Nat.le_refl _) (setSO_new a1 a2 a3 a7 a8), rfl, q _ n (I.hok.fresh (Nat.le_refl _)) le eq⟩
end
end DL

set_option linter.all false
set_option maxRecDepth 100000
set_option maxHeartbeats 4000000
namespace DL
open PySem PySem.Spec L2 PyProof.Rows
/-! ### sets of nested tuples of numbers, of any size -/
/-! the round of i -> 5 i + 1 below a power of two comes everywhere -/
def stX : Nat → Nat
  | 0 => 0
  | n + 1 => 5 * stX n + 1
theorem stX_add (n : Nat) : ∀ t, stX (n + t) = stX n + stX t * (4 * stX n + 1)
  | 0 => by simp [stX]
  | t + 1 => by
    have e1 : stX (n + (t + 1)) = 5 * stX (n + t) + 1 := rfl
    have e2 : stX (t + 1) = 5 * stX t + 1 := rfl
    rw [e1, e2, stX_add n t, Nat.add_mul, Nat.mul_assoc]
    omega
theorem stX_pow : ∀ K, ∃ c, stX (2 ^ K) = 2 ^ K * (2 * c + 1)
  | 0 => ⟨0, rfl⟩
  | K + 1 => by
    obtain ⟨c, e⟩ := stX_pow K
    refine ⟨c * (2 * stX (2 ^ K) + 1) + stX (2 ^ K), ?_⟩
    rw [show 2 ^ (K + 1) = 2 ^ K + 2 ^ K by rw [Nat.pow_succ]; omega, stX_add]
    generalize hx : stX (2 ^ K) = x at e ⊢
    have e3 : 2 * (c * (2 * x + 1) + x) + 1 = (2 * c + 1) * (2 * x + 1) := by
      rw [Nat.add_mul, Nat.mul_assoc]; omega
    rw [e3, Nat.add_mul, ← Nat.mul_assoc, ← e, show 4 * x + 1 = 2 * x + (2 * x + 1) by omega, Nat.mul_add]
    have e4 : x * (2 * x) + x = x * (2 * x + 1) := by rw [Nat.mul_add, Nat.mul_one]
    omega
theorem stX_mod (K i : Nat) (hi : i < 2 ^ K) : ∀ k, lcgI (2 ^ K - 1) i k = (i + stX k * (4 * i + 1)) % 2 ^ K
  | 0 => by
    show i = _
    simp only [stX, Nat.zero_mul, Nat.add_zero]
    rw [Nat.mod_eq_of_lt hi]
  | k + 1 => by
    have hp : 2 ^ K - 1 + 1 = 2 ^ K := by omega
    have ih := stX_mod K i hi k
    unfold lcgI
    rw [ih, hp, Nat.add_mod, Nat.mul_mod, Nat.mod_mod, ← Nat.mul_mod, ← Nat.add_mod]
    have e2 : stX (k + 1) = 5 * stX k + 1 := rfl
    congr 1
    rw [e2, Nat.add_mul (5 * stX k), Nat.mul_assoc 5]
    omega
theorem odd_mul {a b : Nat} (ha : ∃ c, a = 2 * c + 1) (hb : ∃ c, b = 2 * c + 1) : ∃ c, a * b = 2 * c + 1 := by
  obtain ⟨c, rfl⟩ := ha
  obtain ⟨d, rfl⟩ := hb
  refine ⟨c * (2 * d + 1) + d, ?_⟩
  rw [Nat.add_mul, Nat.mul_assoc]; omega
theorem lcg_every (i j : Nat) : ∀ K, ∃ n, n < 2 ^ K ∧ (i + stX n * (4 * i + 1)) % 2 ^ K = j % 2 ^ K
  | 0 => ⟨0, by decide, by rw [Nat.pow_zero, Nat.mod_one, Nat.mod_one]⟩
  | K + 1 => by
    obtain ⟨n, hn, e⟩ := lcg_every i j K
    obtain ⟨c, ec⟩ := stX_pow K
    have P0 : 0 < 2 ^ K := Nat.pow_pos (by decide)
    have pp : 2 ^ (K + 1) = 2 ^ K * 2 := Nat.pow_succ 2 K
    have v1 : i + stX (n + 2 ^ K) * (4 * i + 1) = (i + stX n * (4 * i + 1)) + 2 ^ K * ((2 * c + 1) * ((4 * stX n + 1) * (4 * i + 1))) := by
      rw [stX_add, ec, Nat.add_mul, Nat.mul_assoc (2 ^ K), Nat.mul_assoc (2 ^ K), Nat.mul_assoc]
      omega
    obtain ⟨d, ed⟩ := odd_mul (a := 2 * c + 1) (b := (4 * stX n + 1) * (4 * i + 1)) ⟨c, rfl⟩ (odd_mul ⟨2 * stX n, by omega⟩ ⟨2 * i, by omega⟩)
    rw [ed] at v1
    obtain ⟨v, hv⟩ : ∃ v, v = i + stX n * (4 * i + 1) := ⟨_, rfl⟩
    rw [← hv] at e v1
    generalize 2 ^ K = P at *
    rw [pp]
    by_cases h : v / P % 2 = j / P % 2
    · refine ⟨n, by omega, ?_⟩
      rw [Nat.mod_mul, Nat.mod_mul, ← hv, e, h]
    · refine ⟨n + P, by omega, ?_⟩
      rw [v1, Nat.mod_mul, Nat.mod_mul (x := j), Nat.add_mul_mod_self_left, Nat.add_mul_div_left _ _ P0, e]
      congr 2
      omega
def PwM (m : Nat) : Prop := ∃ K, 3 ≤ K ∧ m + 1 = 2 ^ K
theorem round_all {m i j : Nat} (h : PwM m) (hi : i ≤ m) (hj : j ≤ m) : ∃ k, k ≤ m ∧ lcgI m i k = j := by
  obtain ⟨K, _, e⟩ := h
  have em : m = 2 ^ K - 1 := by omega
  obtain ⟨n, hn, en⟩ := lcg_every i j K
  refine ⟨n, by omega, ?_⟩
  rw [em, stX_mod K i (by omega), en, Nat.mod_eq_of_lt (by omega)]
theorem run_all {m : Nat} (hm : PwM m) (h : Int) {j : Nat} (hj : j ≤ m) : ∃ n, n ≤ m + 12 ∧ runI m (SetTable.bits h) n = j := by
  obtain ⟨k, hk, e⟩ := round_all hm (runI_le m (SetTable.bits h) 12) hj
  refine ⟨12 + k, by omega, ?_⟩
  rw [runI_tail (bits_lt h) k]
  exact e
theorem slot_all {m : Nat} (hm : PwM m) (h : Int) {j : Nat} (hj : j ≤ m) : ∃ k, k < 10 * SetTable.turns m ∧ way m h k = j := by
  obtain ⟨n, hn, e⟩ := run_all hm h hj
  obtain ⟨k, hk, e2⟩ := run_nth m (SetTable.bits h) n
  refine ⟨k, ?_, ?_⟩
  · show k < 10 * (m + 15)
    omega
  · show (nth m (runAt m (SetTable.bits h % (m + 1)) (SetTable.bits h)) k).j = j
    rw [e2]; exact e
theorem slot_in (m : Nat) (h : Int) (k : Nat) : way m h k ≤ m := by
  have b := runEnd_bd (show SetTable.bits h % (m + 1) ≤ m from Nat.le_of_lt_succ (Nat.mod_lt _ (Nat.succ_pos _)))
  have s : (runAt m (SetTable.bits h % (m + 1)) (SetTable.bits h)).j + (runAt m (SetTable.bits h % (m + 1)) (SetTable.bits h)).more ≤ m := by
    unfold runAt
    simp only
    omega
  have := nth_in (m := m) k _ s
  show (nth m (runAt m (SetTable.bits h % (m + 1)) (SetTable.bits h)) k).j ≤ m
  omega
/-! the table: whoever has a slot is found on the way of its hash -/
structure Tb (t : SetTable) (hs : List Int) : Prop where
  ris : Ris t.place.toList
  dm : t.dummies = #[]
  sz : t.place.size = hs.length
  pw : PwM t.mask
  bd : ∀ x ∈ t.place.toList, x ≤ t.mask
  on : ∀ x ∈ hs.zip t.place.toList, ∃ k, way t.mask x.1 k = x.2 ∧ ∀ c, c < k → way t.mask x.1 c ∈ t.place.toList
theorem zip_at {α β : Type} {l : List α} {m : List β} {i : Nat} {a : α} {b : β} (h1 : l[i]? = some a) (h2 : m[i]? = some b) : (a, b) ∈ l.zip m := by
  refine List.mem_of_getElem? (i := i) ?_
  rw [List.getElem?_zip_eq_some]
  exact ⟨h1, h2⟩
/-- the first free slot on a way -/
theorem Tb.free {t : SetTable} {hs : List Int} (T : Tb t hs) (hl : hs.length ≤ t.mask) (h : Int) : ∃ K, K < 10 * SetTable.turns t.mask ∧ way t.mask h K ∉ t.place.toList ∧ ∀ c, c < K → way t.mask h c ∈ t.place.toList := by
  obtain ⟨j, hj, no⟩ := st_missing t.place.toList (t.mask + 1) (by rw [Array.length_toList, T.sz]; omega)
  obtain ⟨k, hk, e⟩ := slot_all T.pw h (Nat.le_of_lt_succ hj)
  obtain ⟨K, h1, h2, h3⟩ := st_least (p := fun c => way t.mask h c ∉ t.place.toList) k (by rw [← e] at no; exact no)
  exact ⟨K, Nat.lt_of_le_of_lt h1 hk, h2, fun c hc => Classical.byContradiction fun z => h3 c hc z⟩
theorem Tb.ahead {t : SetTable} {hs : List Int} (T : Tb t hs) {h : Int} {K i j : Nat} (hK : way t.mask h K ∉ t.place.toList) (hi : hs[i]? = some h) (hj : t.place.toList[i]? = some j) : ∃ c, c < K ∧ way t.mask h c = j := by
  obtain ⟨c, e, hb⟩ := T.on _ (zip_at hi hj)
  simp only at e hb
  refine ⟨c, Nat.lt_of_not_le fun z => ?_, e⟩
  rcases Nat.lt_or_eq_of_le z with z | z
  · exact hK (hb K z)
  · rw [z, e] at hK
    exact hK (List.mem_of_getElem? hj)
theorem Tb.put {t : SetTable} {hs : List Int} (T : Tb t hs) {h : Int} {K : Nat} (hK : way t.mask h K ∉ t.place.toList) (hb : ∀ c, c < K → way t.mask h c ∈ t.place.toList) :
    SetTable.below t.place (way t.mask h K) ≤ hs.length ∧ Tb (t.put (way t.mask h K)).1 (hs.take (SetTable.below t.place (way t.mask h K)) ++ h :: hs.drop (SetTable.below t.place (way t.mask h K))) := by
  have jm := slot_in t.mask h K
  have on := T.on
  have sz := T.sz
  have pl := put_place t (way t.mask h K)
  obtain ⟨c1, _, _⟩ := below_cut T.ris (way t.mask h K)
  have hn : t.place[SetTable.below t.place (way t.mask h K)]? ≠ some (way t.mask h K) := fun e => hK (List.mem_of_getElem? (by rw [Array.getElem?_toList]; exact e))
  have ri := ris_insert T.ris hn
  generalize SetTable.below t.place (way t.mask h K) = p at pl c1 ri ⊢
  have mm : ∀ {x : Nat}, x ∈ (t.put (way t.mask h K)).1.place.toList ↔ x = way t.mask h K ∨ x ∈ t.place.toList := fun {x} => by rw [pl]; exact mem_ins
  have em : (t.put (way t.mask h K)).1.mask = t.mask := rfl
  refine ⟨by omega, ?_, put_dm T.dm _, ?_, T.pw, fun x hx => ?_, fun x hx => ?_⟩
  · rw [pl, ← SetTable.toList_insertAt]; exact ri
  · rw [← Array.length_toList, pl, len_ins _ (by rw [Array.length_toList]; exact c1), len_ins _ (by omega), Array.length_toList, sz]
  · rcases mm.mp hx with rfl | hx
    · exact jm
    · exact T.bd x hx
  · rw [em]
    have lt : (hs.take p).length = (t.place.toList.take p).length := by
      have : t.place.toList.length = t.place.size := Array.length_toList
      rw [List.length_take, List.length_take]; omega
    rw [pl, List.zip_append lt, List.zip_cons_cons] at hx
    have old : x ∈ hs.zip t.place.toList → ∃ k, way t.mask x.1 k = x.2 ∧ ∀ c, c < k → way t.mask x.1 c ∈ (t.put (way t.mask h K)).1.place.toList := fun z => by
      obtain ⟨k, e, z⟩ := on x z
      exact ⟨k, e, fun c hc => mm.mpr (.inr (z c hc))⟩
    have ez : hs.zip t.place.toList = (hs.take p).zip (t.place.toList.take p) ++ (hs.drop p).zip (t.place.toList.drop p) := by
      rw [← List.zip_append lt, List.take_append_drop, List.take_append_drop]
    rcases List.mem_append.mp hx with z | z
    · exact old (by rw [ez]; exact List.mem_append_left _ z)
    · rcases List.mem_cons.mp z with rfl | z
      · exact ⟨K, rfl, fun c hc => mm.mpr (.inr (hb c hc))⟩
      · exact old (by rw [ez]; exact List.mem_append_right _ z)
/-! all laid anew -/
theorem own_free {m : Nat} (hm : PwM m) (owner : Array (Option Nat)) (h : Int) {j : Nat} (hj : j ≤ m) (hf : oAt owner j = none) :
    ∃ K, SetTable.layClean.free m owner (SetTable.turns m) (SetTable.bits h % (m + 1)) (SetTable.bits h) = some (way m h K) ∧ oAt owner (way m h K) = none ∧ ∀ c, c < K → oAt owner (way m h c) ≠ none := by
  obtain ⟨n, hn, e⟩ := run_all hm h hj
  have hw : way m h (off m (SetTable.bits h % (m + 1)) (SetTable.bits h) n) = j := by
    show (nth m (runAt m (SetTable.bits h % (m + 1)) (SetTable.bits h)) _).j = j
    rw [nth_off, itL_run]; exact e
  obtain ⟨K, k1, k2, k3⟩ := st_least (p := fun c => oAt owner (way m h c) = none) (off m (SetTable.bits h % (m + 1)) (SetTable.bits h) n) (by
    show oAt owner (way m h _) = none
    rw [hw]; exact hf)
  refine ⟨K, free_spec m owner _ n _ _ K (show n < m + 15 by omega) k1 (fun c hc => ?_) ?_, k2, k3⟩
  · have := k3 c hc
    cases z : oAt owner (way m h c) with
    | none => exact absurd z this
    | some _ => rfl
  · show (oAt owner (way m h K)).isNone = true
    rw [k2]; rfl
theorem own_step {m : Nat} (hm : PwM m) {done : List Int} {owner : Array (Option Nat)} (W : Own m done owner) (hl : done.length ≤ m) (h : Int) :
    ∃ j, SetTable.layClean.free m owner (SetTable.turns m) (SetTable.bits h % (m + 1)) (SetTable.bits h) = some j ∧ Own m (done ++ [h]) (owner.setIfInBounds j (some done.length)) := by
  obtain ⟨ps, hps, hin⟩ := W.ps
  obtain ⟨j0, h0, no⟩ := st_missing ps (m + 1) (by omega)
  have hj0 : oAt owner j0 = none := Classical.byContradiction fun z => no (hin j0 (Nat.le_of_lt_succ h0) z)
  obtain ⟨K, e1, e2, e3⟩ := own_free hm owner h (Nat.le_of_lt_succ h0) hj0
  have jm := slot_in m h K
  refine ⟨way m h K, e1, ?_⟩
  generalize hj : way m h K = j at e2 jm
  have js : j < owner.size := by rw [W.sz]; omega
  have self := oAt_set_self (some done.length) js
  have keep : ∀ {i : Nat}, oAt owner i ≠ none → i ≠ j := fun {i} hi z => hi (by rw [z]; exact e2)
  have mono : ∀ {i : Nat}, oAt owner i ≠ none → oAt (owner.setIfInBounds j (some done.length)) i ≠ none := fun {i} hi => by
    rw [oAt_set_ne _ (keep hi)]; exact hi
  have put : ∀ {i : Nat}, i ≠ j → oAt (owner.setIfInBounds j (some done.length)) i = oAt owner i := fun h => oAt_set_ne _ h
  refine ⟨by rw [Array.size_setIfInBounds]; exact W.sz, fun i k hi e => ?_, fun k hk => ?_, ⟨j :: ps, by rw [List.length_cons, List.length_append, hps]; rfl, fun i hi e => ?_⟩⟩
  · by_cases c : i = j
    · subst c
      rw [self] at e
      cases e
      exact ⟨h, K, by rw [List.getElem?_append_right (Nat.le_refl _), Nat.sub_self]; rfl, hj, fun c hc => mono (e3 c hc)⟩
    · rw [put c] at e
      obtain ⟨h', K', a1, a2, a3⟩ := W.at_ i k hi e
      exact ⟨h', K', by rw [List.getElem?_append_left (List.getElem?_eq_some_iff.mp a1).1]; exact a1, a2, fun c hc => mono (a3 c hc)⟩
  · by_cases c : k < done.length
    · obtain ⟨i, hi, e⟩ := W.all k c
      exact ⟨i, hi, by rw [put (keep (by rw [e]; exact fun z => nomatch z))]; exact e⟩
    · rw [List.length_append, List.length_singleton] at hk
      exact ⟨j, jm, by rw [self, show k = done.length by omega]⟩
  · by_cases c : i = j
    · rw [c]; exact List.mem_cons_self
    · rw [put c] at e
      exact List.mem_cons_of_mem _ (hin i hi e)
theorem own_fold {m : Nat} (hm : PwM m) : ∀ (rest done : List Int) (owner : Array (Option Nat)), Own m done owner → done.length + rest.length ≤ m →
    ∃ ow, rest.foldl (stepF m) (some (owner, done.length)) = some (ow, done.length + rest.length) ∧ Own m (done ++ rest) ow
  | [], done, owner, W, _ => ⟨owner, rfl, by rw [List.append_nil]; exact W⟩
  | h :: rest, done, owner, W, hl => by
    rw [List.length_cons] at hl
    obtain ⟨j, e, W1⟩ := own_step hm W (by omega) h
    have l1 : (done ++ [h]).length = done.length + 1 := by rw [List.length_append]; rfl
    obtain ⟨ow, f, W2⟩ := own_fold hm rest (done ++ [h]) _ W1 (by omega)
    rw [l1] at f
    rw [List.append_assoc] at W2
    refine ⟨ow, ?_, W2⟩
    rw [List.foldl_cons, stepF_some e, f, List.length_cons]
    congr 2; omega
theorem anew {t : SetTable} {hs : Array Int} {wanted M : Nat} (hw : SetTable.sizeAbove wanted = M + 1) (hM : PwM M) (hn : hs.size ≤ M) :
    ∃ t2 order, t.relaid hs wanted = some (t2, order) ∧ order.toList.Perm (List.range hs.size) ∧ Tb t2 (order.toList.map fun i => hs.getD i 0) ∧ t2.mask = M ∧ t2.led = t.led ∧ t2.plain = t.plain := by
  obtain ⟨ow, f, W⟩ := own_fold hM hs.toList [] _ (Own.init M) (by rw [Array.length_toList]; show 0 + hs.size ≤ M; omega)
  rw [List.nil_append] at W
  have el : SetTable.layClean M hs = some ow := by
    rw [layClean_eq]
    have f : hs.toList.foldl (stepF M) (some (Array.replicate (M + 1) none, 0)) = _ := f
    rw [f]; rfl
  have er : t.relaid hs wanted = some (tabOf t M ow, ((liveOf M ow).map (·.2)).toArray) := by
    rw [relaid_eq, show SetTable.sizeAbove wanted - 1 = M by omega, el]; rfl
  obtain ⟨r1, r2⟩ := ris_live (fun j => ow.getD j none) (List.range (M + 1)) (by unfold Ris; exact List.pairwise_lt_range)
  have r1 : Ris ((liveOf M ow).map (·.1)) := r1
  have r2 : ∀ x ∈ (liveOf M ow).map (·.1), x ∈ List.range (M + 1) := r2
  have dif : ((liveOf M ow).map (·.1)).Nodup := r1.imp fun h => Nat.ne_of_lt h
  have len : (liveOf M ow).length = hs.size := by
    obtain ⟨ps, p1, p2⟩ := W.ps
    have a := nat_nodup_len _ ps dif fun x hx => by
      obtain ⟨⟨y, k⟩, hq, rfl⟩ := List.mem_map.mp hx
      obtain ⟨b1, b2⟩ := (mem_live W.sz).mp hq
      exact p2 y b1 (by rw [b2]; exact fun z => nomatch z)
    have b := nat_nodup_len (List.range hs.size) ((liveOf M ow).map (·.2)) List.nodup_range fun k hk => by
      obtain ⟨j, b1, b2⟩ := W.all k (by rw [Array.length_toList]; exact List.mem_range.mp hk)
      exact List.mem_map.mpr ⟨(j, k), (mem_live W.sz).mpr ⟨b1, b2⟩, rfl⟩
    have hz : hs.toList.length = hs.size := Array.length_toList
    rw [List.length_map, p1] at a
    rw [List.length_map, List.length_range] at b
    omega
  refine ⟨_, _, er, ?_, ⟨r1, rfl, ?_, hM, fun x hx => Nat.le_of_lt_succ (List.mem_range.mp (r2 x hx)), fun x hx => ?_⟩, rfl, rfl, rfl⟩
  · refine perm_range hs.size _ (by show ((liveOf M ow).map (·.2)).length = _; rw [List.length_map]; exact len) fun k hk => ?_
    obtain ⟨j, b1, b2⟩ := W.all k (by rw [Array.length_toList]; exact hk)
    exact List.mem_map.mpr ⟨(j, k), (mem_live W.sz).mpr ⟨b1, b2⟩, rfl⟩
  · show ((liveOf M ow).map (·.1)).toArray.size = _
    rw [List.size_toArray, List.length_map, List.length_map]
    show _ = ((liveOf M ow).map (·.2)).length
    rw [List.length_map]
  · have hx : x ∈ (((liveOf M ow).map (·.2)).map fun i => hs.getD i 0).zip ((liveOf M ow).map (·.1)) := hx
    rw [List.map_map, List.zip_map'] at hx
    obtain ⟨⟨y, k⟩, hq, rfl⟩ := List.mem_map.mp hx
    obtain ⟨b1, b2⟩ := (mem_live W.sz).mp hq
    obtain ⟨h0, K, a1, a2, a3⟩ := W.at_ y k b1 b2
    have e0 : hs.getD k 0 = h0 := by rw [Array.getD_eq_getD_getElem?, ← Array.getElem?_toList, a1]; rfl
    refine ⟨K, by simp only [Function.comp]; rw [e0]; exact a2, fun c hc => ?_⟩
    simp only [Function.comp]
    rw [e0]
    show way M h0 c ∈ (liveOf M ow).map (·.1)
    cases z : oAt ow (way M h0 c) with
    | none => exact absurd z (a3 c hc)
    | some k2 => exact List.mem_map.mpr ⟨(way M h0 c, k2), (mem_live W.sz).mpr ⟨slot_in M h0 c, z⟩, rfl⟩
/-! what a search asks of nested tuples of numbers -/
section
variable {P : Program} {w : World}
def NoCls (P : Program) (w : World) (n : Nat) (s : Shared) (v : Value) : Prop := ∀ (A : Around) (E : Value → Shared → Prop) (Q : Bool → Shared → Prop), Q false s → wpAny (model P w) A (ofAClassStatement n v) Q E s
def HashV (P : Program) (w : World) (n : Nat) (s : Shared) (v : Value) : Prop := ∀ (A : Around) (E : Value → Shared → Prop) (Q : Bool → Shared → Prop), Q true s → wpAny (model P w) A (hashByValue n v) Q E s
theorem noCls_val {n : Nat} {s : Shared} {v : Value} (h : ofAClassStatement n v = pure false) : NoCls P w n s v := fun A E Q q => by rw [h]; exact wpAny_pure q
theorem hashV_val {n : Nat} {s : Shared} {v : Value} (h : hashByValue n v = pure true) : HashV P w n s v := fun A E Q q => by rw [h]; exact wpAny_pure q
theorem noCls_tup {n : Nat} {s : Shared} {a : Addr} {o : Obj} {vs : Array Value} {m : Nat} (ho : s.heap.get? a = some o) (hc : o.cls = .type "tuple") (hd : o.data = .seq vs m) (hv : ∀ v ∈ vs.toList, NoCls P w n s v) : NoCls P w (n + 1) s (.ref a) := fun A E Q q => by
  unfold ofAClassStatement
  refine wpAny_bind (wpAny_typeOf ⟨o, ho, hc⟩ ?_)
  dsimp only
  have e : (("tuple" : String) == "tuple") = true := by decide
  simp only [e, if_true, Bool.not_true, Bool.false_eq_true, if_false]
  try refine wpAny_bind (wpAny_pure ?_)
  try simp only [Bool.not_true, Bool.false_eq_true, if_false]
  show wpAny _ _ (seqItems? (.ref a) >>= _) _ _ s
  refine wpAny_bind (wpAny_seqItems ho hd ?_)
  dsimp only
  refine wpAny_bind ?_
  show wpAny _ _ (forIn vs _ _) _ _ s
  rw [← Array.forIn_toList]
  refine wpAny_forIn_list _ (fun l r s1 => r.1 = none ∧ s1 = s ∧ ∀ v ∈ l, NoCls P w n s v) _ ?_ ?_ _ _ ⟨rfl, rfl, hv⟩
  · rintro v l r s1 ⟨h1, rfl, all⟩
    refine wpAny_bind (all v List.mem_cons_self _ _ _ ?_)
    simp only [Bool.false_eq_true, if_false]
    exact wpAny_pure ⟨rfl, rfl, fun u hu => all u (List.mem_cons_of_mem _ hu)⟩
  · rintro ⟨r1, r2⟩ s1 ⟨h1, rfl, _⟩
    simp only at h1
    subst h1
    exact wpAny_pure q
theorem hashV_tup {n : Nat} {s : Shared} {a : Addr} {o : Obj} {vs : Array Value} {m : Nat} (ho : s.heap.get? a = some o) (hc : o.cls = .type "tuple") (hd : o.data = .seq vs m) (hv : ∀ v ∈ vs.toList, HashV P w n s v) : HashV P w (n + 1) s (.ref a) := fun A E Q q => by
  have hT : s.TypeIs (.ref a) "tuple" := ⟨o, ho, hc⟩
  unfold hashByValue
  refine wpAny_bind (wpAny_specialOf hT PySem.F.slot_tuple_hash.lookup ?_)
  show wpAny _ _ (seqItems? (.ref a) >>= _) _ _ s
  refine wpAny_bind (wpAny_seqItems ho hd ?_)
  refine wpAny_bind ?_
  show wpAny _ _ (forIn vs _ _) _ _ s
  rw [← Array.forIn_toList]
  refine wpAny_forIn_list _ (fun l r s1 => r.1 = none ∧ s1 = s ∧ ∀ v ∈ l, HashV P w n s v) _ ?_ ?_ _ _ ⟨rfl, rfl, hv⟩
  · rintro v l r s1 ⟨h1, rfl, all⟩
    refine wpAny_bind (all v List.mem_cons_self _ _ _ ?_)
    simp only [Bool.not_true, Bool.false_eq_true, if_false]
    exact wpAny_pure ⟨rfl, rfl, fun u hu => all u (List.mem_cons_of_mem _ hu)⟩
  · rintro ⟨r1, r2⟩ s1 ⟨h1, rfl, _⟩
    simp only at h1
    subst h1
    exact wpAny_pure q
theorem cls_int (n : Nat) (i : Int) (t : Tok) : ofAClassStatement n (.int i t) = pure false := by cases n <;> rfl
theorem cls_bool (n : Nat) (b : Bool) : ofAClassStatement n (.bool b) = pure false := by cases n <;> rfl
theorem hv_int (n : Nat) (i : Int) (t : Tok) : hashByValue n (.int i t) = pure true := by cases n <;> rfl
theorem hv_bool (n : Nat) (b : Bool) : hashByValue n (.bool b) = pure true := by cases n <;> rfl
mutual
theorem asked_key : ∀ (k : NestedKey) (v : Value) (n : Nat) (s : Shared), NestedIs s.heap k v → numK k = true → k.depth ≤ n → NoCls P w n s v ∧ HashV P w n s v
  | .num i, _, n, s, x, _, _ => by
    cases x with
    | int _ t => exact ⟨noCls_val (cls_int n i t), hashV_val (hv_int n i t)⟩
    | @bool b _ e => exact ⟨noCls_val (cls_bool n b), hashV_val (hv_bool n b)⟩
  | .none, _, _, _, _, h, _ => by simp [numK] at h
  | .text _, _, _, _, _, h, _ => by simp [numK] at h
  | .tup ks, _, n, s, x, h, hn => by
    cases x with
    | tup hg hc hd hk =>
      simp only [NestedKey.depth] at hn
      simp only [numK] at h
      cases n with
      | zero => omega
      | succ n =>
        have all := asked_keys ks _ n s hk h (by omega)
        exact ⟨noCls_tup hg hc hd fun v hv => (all v hv).1, hashV_tup hg hc hd fun v hv => (all v hv).2⟩
theorem asked_keys : ∀ (ks : List NestedKey) (vs : List Value) (n : Nat) (s : Shared), NestedAll s.heap ks vs → numKs ks = true → NestedKey.depthAll ks ≤ n → ∀ v ∈ vs, NoCls P w n s v ∧ HashV P w n s v
  | [], _, _, _, x, _, _, v, hv => by cases x; cases hv
  | k :: ks, _, n, s, x, h, hn, v, hv => by
    cases x with
    | cons x1 x2 =>
      simp only [NestedKey.depthAll] at hn
      simp only [numKs, Bool.and_eq_true] at h
      rcases List.mem_cons.mp hv with e | hv
      · rw [e]; exact asked_key k _ n s x1 h.1 (by omega)
      · exact asked_keys ks _ n s x2 h.2 (by omega) v hv
end
/-- the tuple at b is the key k, of numbers alone -/
def IsN (P : Program) (w : World) (h : Heap) (k : NestedKey) (b : Addr) : Prop := (nestedKind P w).is h k b ∧ isNK k = true
theorem IsN.ask {s : Shared} {k : NestedKey} {b : Addr} (x : IsN P w s.heap k b) : NoCls P w 8 s (.ref b) ∧ HashV P w 8 s (.ref b) := asked_key k _ 8 s x.1.1 (isNK_num x.2).1 x.1.2
theorem IsN.keep {h h' : Heap} {k : NestedKey} {b : Addr} (x : IsN P w h k b) (st : ∀ c o vs n, h.get? c = some o → o.data = .seq vs n → h'.get? c = some o) : IsN P w h' k b := ⟨(nestedKind_stays (prog := P) (w := w)).stays st x.1, x.2⟩
variable {A : Around} {E : Value → Shared → Prop} {s : Shared}
theorem unseen {k : NestedKey} {b : Addr} {Q : Bool → Shared → Prop} (hk : IsN P w s.heap k b) {ys : List Value} (hy : ∀ y ∈ ys, ∃ k' c, y = Value.ref c ∧ IsN P w s.heap k' c) (q : Q false s) :
    wpAny (model P w) A (searchCouldBeSeen (.ref b) ys) Q E s := by
  unfold searchCouldBeSeen
  refine wpAny_bind ?_
  refine wpAny_forIn_list _ (fun l r s1 => r.1 = none ∧ s1 = s ∧ ∀ y ∈ l, ∃ k' c, y = Value.ref c ∧ IsN P w s.heap k' c) _ ?_ ?_ _ _ ⟨rfl, rfl, hy⟩
  · rintro v l r s1 ⟨h1, rfl, all⟩
    obtain ⟨k', c, rfl, hc⟩ := all v List.mem_cons_self
    have all : ∀ y ∈ l, ∃ k' c, y = Value.ref c ∧ IsN P w s1.heap k' c := fun u hu => all u (List.mem_cons_of_mem _ hu)
    dsimp only
    by_cases hv : (b == c || (carriedByValue (.ref b) && carriedByValue (.ref c))) = true
    · exact wp_if_pos hv (wpAny_pure ⟨rfl, rfl, all⟩)
    · refine wp_if_neg hv ?_
      refine wpAny_bind ((nestedKind P w).quiet hk.1 ?_)
      simp only [Bool.not_true, Bool.false_eq_true, if_false]
      refine wpAny_bind ((nestedKind P w).quiet hc.1 ?_)
      simp only [Bool.not_true, Bool.false_eq_true, if_false]
      refine wpAny_bind (hk.ask.1 _ _ _ ?_)
      simp only [Bool.false_eq_true, if_false]
      refine wpAny_bind (hc.ask.1 _ _ _ ?_)
      simp only [Bool.false_eq_true, if_false]
      exact wpAny_pure ⟨rfl, rfl, all⟩
  · rintro ⟨r1, r2⟩ s1 ⟨h1, rfl, _⟩
    simp only at h1
    subst h1
    exact wpAny_pure q
/-! the set -/
abbrev nhash (w : World) (p : Addr × NestedKey) : Int := NestedKey.hash w p.2
def entN (w : World) (L : List (Addr × NestedKey)) : List (Int × Value) := L.map fun p => (nhash w p, Value.ref p.1)
/-- the sizes that come -/
def BigM (m : Nat) : Prop := m = 7 ∨ m = 31 ∨ m = 127 ∨ m = 511 ∨ m = 2047 ∨ m = 8191
theorem BigM.le {m : Nat} (h : BigM m) : 7 ≤ m ∧ m ≤ 8191 := by unfold BigM at h; omega
theorem BigM.pw {m : Nat} (h : BigM m) : PwM m := by
  rcases h with rfl | rfl | rfl | rfl | rfl | rfl
  · exact ⟨3, by decide, rfl⟩
  · exact ⟨5, by decide, rfl⟩
  · exact ⟨7, by decide, rfl⟩
  · exact ⟨9, by decide, rfl⟩
  · exact ⟨11, by decide, rfl⟩
  · exact ⟨13, by decide, rfl⟩
structure SetN (P : Program) (w : World) (h : Heap) (a : Addr) (L : List (Addr × NestedKey)) (es : Array (Int × Value)) (ep : Nat) (t : SetTable) : Prop where
  ob : ∃ o, h.get? a = some o ∧ o.ExactSet ∧ o.data = .set es ep t
  ent : es.toList = entN w L
  tab : Tb t (L.map (nhash w))
  nd : (L.map (·.2)).Nodup
  key : ∀ p ∈ L, IsN P w h p.2 p.1
  plain : t.plain = true
  led : w.params.followText "set-order" = true ∨ t.led = true
  room : L.length * 5 < t.mask * 3
  big : BigM t.mask
variable {a : Addr} {L : List (Addr × NestedKey)} {es : Array (Int × Value)} {ep : Nat} {t : SetTable}
theorem ent_size (e : es.toList = entN w L) : es.size = L.length := by
  rw [← Array.length_toList, e]
  unfold entN
  rw [List.length_map]
theorem ent_at (e : es.toList = entN w L) {i : Nat} {p : Addr × NestedKey} (h : L[i]? = some p) : es[i]? = some (nhash w p, Value.ref p.1) := by
  rw [← Array.getElem?_toList, e]
  unfold entN
  rw [List.getElem?_map, h]; rfl
theorem fit_of (T : Tb t (L.map (nhash w))) (e : es.toList = entN w L) (h : L.length ≤ t.mask) : t.fits es.size = true := by
  have h1 := T.sz
  rw [List.length_map] at h1
  unfold SetTable.fits SetTable.fill
  rw [T.dm, Bool.and_eq_true, beq_iff_eq, decide_eq_true_eq, ent_size e]
  exact ⟨h1, by show t.place.size + 0 ≤ _; omega⟩
theorem SetN.fits (R : SetN P w s.heap a L es ep t) : t.fits es.size = true := fit_of R.tab R.ent (by have := R.room; omega)
theorem SetN.way (R : SetN P w s.heap a L es ep t) : ¬ t.gaveWay = true := by
  obtain ⟨K, k3, e⟩ := R.tab.pw
  unfold SetTable.gaveWay
  have : t.mask % 2 = 1 := by
    obtain ⟨j, rfl⟩ : ∃ j, K = j + 1 := ⟨K - 1, by omega⟩
    rw [Nat.pow_succ] at e
    omega
  rw [this]; decide
abbrev stand (m : Nat) (h : Int) (c : Nat) : SetTable.Probe := nth m (runAt m (SetTable.bits h % (m + 1)) (SetTable.bits h)) c
theorem stand_no (m : Nat) (h : Int) (c : Nat) : (stand m h c).dummy = none := by
  have key : ∀ (n : Nat) (p : SetTable.Probe), p.dummy = none → (nth m p n).dummy = none := by
    intro n
    induction n with
    | zero => exact fun p h => h
    | succ n ih =>
      intro p h
      refine ih (adv m p) ?_
      unfold adv
      split <;> exact h
  exact key c _ rfl
/-- the search for a tuple, from a place of its way on -/
theorem seek (R : SetN P w s.heap a L es ep t) {x : Addr} {k : NestedKey} (hx : IsN P w s.heap k x) (hu : A.units + 8 < cLine) {K : Nat} (hf : K < 10 * SetTable.turns t.mask)
    (hK : way t.mask (k.hash w) K ∉ t.place.toList) (hb : ∀ c, c < K → way t.mask (k.hash w) c ∈ t.place.toList) {Q : SetFound → Shared → Prop}
    (yes : k ∈ L.map (·.2) → Q (.there none) s) (no : k ∉ L.map (·.2) → Q (.free (way t.mask (k.hash w) K) false) s) :
    ∀ (f c : Nat) (st : Option SetTable.Probe), st.getD (t.probeStart (k.hash w)) = stand t.mask (k.hash w) c → c ≤ K → K - c < f →
      (∀ (i : Nat) p, L[i]? = some p → p.2 = k → ∃ d, c ≤ d ∧ d < K ∧ t.place.toList[i]? = some (way t.mask (k.hash w) d)) →
      wpAny (model P w) A (setSearchFrom a (.ref x) (k.hash w) true f st) Q E s
  | 0, _, _, _, _, h, _ => absurd h (Nat.not_lt_zero _)
  | f + 1, c, st, hst, hc, hlt, hre => by
    obtain ⟨o, ho, _, hd⟩ := R.ob
    rw [setSearchFrom_succ]
    refine wpAny_bind (wpAny_setState_of ho hd R.fits ?_)
    dsimp only
    refine wp_if_neg R.way ?_
    try refine wpAny_bind (wpAny_pure ?_)
    have on : ∀ q, nth t.mask (stand t.mask (k.hash w) c) q = stand t.mask (k.hash w) (c + q) := fun q => (nth_add t.mask c _ q).symm
    have onj : ∀ q, (nth t.mask (stand t.mask (k.hash w) c) q).j = way t.mask (k.hash w) (c + q) := fun q => congrArg SetTable.Probe.j (on q)
    have hash_at : ∀ (i : Nat) p, L[i]? = some p → (es[i]?.map (·.1)).getD 0 = nhash w p := fun i p h => by rw [ent_at R.ent h]; rfl
    have go := go_spec t R.tab.ris R.tab.dm (fun i => (es[i]?.map (·.1)).getD 0) (k.hash w) (10 * SetTable.turns t.mask) (K - c) (stand t.mask (k.hash w) c) (stand_no _ _ _) (by omega)
      (fun q hq => by rw [onj]; exact hb _ (by omega)) (by rw [onj, show c + (K - c) = K by omega]; exact hK)
    have probe : ∀ r, SetTable.probe.go t (fun i => (es[i]?.map (·.1)).getD 0) (k.hash w) (10 * SetTable.turns t.mask) (stand t.mask (k.hash w) c) = some r → t.probe (fun i => (es[i]?.map (·.1)).getD 0) (k.hash w) (st.getD (t.probeStart (k.hash w))) = some r := fun r h => by rw [hst]; exact h
    rcases go with ⟨q, i, hq, hi, hh, before, e⟩ | ⟨before, e⟩
    · rw [probe _ e]
      dsimp only
      rw [onj] at hi
      rw [onj, on]
      have il : i < L.length := by
        have h1 := (List.getElem?_eq_some_iff.mp hi).1
        have h2 := R.tab.sz
        rw [List.length_map] at h2
        rw [Array.length_toList] at h1
        omega
      obtain ⟨p, hp⟩ : ∃ p, L[i]? = some p := ⟨_, List.getElem?_eq_getElem il⟩
      have pm := List.mem_of_getElem? hp
      have pk := R.key p pm
      have rest : wpAny (model P w) A (searchRest a (.ref x) (k.hash w) true f es t (way t.mask (k.hash w) (c + q)) i (stand t.mask (k.hash w) (c + (q + 1)))) Q E s := by
        unfold searchRest
        rw [ent_at R.ent hp]
        dsimp only
        refine wpAny_bind (wpAny_holding ((nestedKind P w).eqBool hu pk.1 hx.1 ?_))
        refine wpAny_bind (wpAny_setState_of ho hd R.fits ?_)
        dsimp only
        by_cases hkk : p.2 = k
        · refine wp_if_pos (by simp [hkk]) ?_
          exact wpAny_pure (yes (List.mem_map.mpr ⟨p, pm, hkk⟩))
        · refine wp_if_neg (by simp [hkk]) ?_
          try refine wpAny_bind (wpAny_pure ?_)
          rw [sameMem]
          dsimp only
          have sl : t.slot (way t.mask (k.hash w) (c + q)) = .live i := slot_live R.tab.ris hi
          simp only [if_true, sl, ent_at R.ent hp]
          refine wpAny_bind (wpAny_isSame_ref_self (wpAny_bind (wpAny_pure ?_)))
          simp only [if_true]
          refine wp_if_neg (by simp [hkk]) ?_
          refine seek R hx hu hf hK hb yes no f (c + (q + 1)) _ rfl (by omega) (by omega) fun i0 p0 h0 hk0 => ?_
          obtain ⟨d, d1, d2, d3⟩ := hre i0 p0 h0 hk0
          refine ⟨d, ?_, d2, d3⟩
          rcases Nat.lt_trichotomy d (c + q) with z | z | z
          · refine absurd ((hash_at i0 p0 h0).trans (by rw [← hk0])) (before (d - c) i0 (by omega) ?_)
            rw [onj, show c + (d - c) = d by omega]; exact d3
          · exfalso
            rw [z] at d3
            have := slot_live R.tab.ris d3
            rw [sl] at this
            injection this with this
            rw [← this, hp] at h0
            cases h0
            exact hkk hk0
          · omega
      by_cases hl : t.led = true
      · refine wp_if_neg (by simp [hl]) ?_
        try refine wpAny_bind (wpAny_pure ?_)
        exact rest
      · refine wp_if_pos (by simp [hl]) ?_
        refine wpAny_bind (unseen hx (fun y hy => ?_) ?_)
        · obtain ⟨e, he, rfl⟩ := List.mem_map.mp hy
          have he : e ∈ es.toList := by
            have : e ∈ es ∧ e.1 = k.hash w := by simpa using he
            simpa using this.1
          rw [R.ent] at he
          obtain ⟨p2, h2, rfl⟩ := List.mem_map.mp he
          exact ⟨p2.2, p2.1, rfl, R.key p2 h2⟩
        · refine wp_if_neg (by decide) ?_
          try refine wpAny_bind (wpAny_pure ?_)
          exact rest
    · rw [probe _ e]
      dsimp only
      rw [onj, show c + (K - c) = K by omega]
      refine wpAny_pure (no fun hm => ?_)
      obtain ⟨p0, h0, hk0⟩ := List.mem_map.mp hm
      obtain ⟨i0, hi0⟩ := List.mem_iff_getElem?.mp h0
      obtain ⟨d, d1, d2, d3⟩ := hre i0 p0 hi0 hk0
      refine before (d - c) i0 (by omega) ?_ ((hash_at i0 p0 hi0).trans (by rw [← hk0]))
      rw [onj, show c + (d - c) = d by omega]; exact d3
theorem sought (R : SetN P w s.heap a L es ep t) {x : Addr} {k : NestedKey} (hx : IsN P w s.heap k x) (hu : A.units + 8 < cLine) {Q : SetFound → Shared → Prop} (yes : k ∈ L.map (·.2) → Q (.there none) s)
    (no : ∀ K, k ∉ L.map (·.2) → way t.mask (k.hash w) K ∉ t.place.toList → (∀ c, c < K → way t.mask (k.hash w) c ∈ t.place.toList) → Q (.free (way t.mask (k.hash w) K) false) s) :
    wpAny (model P w) A (setSearch a (.ref x) (k.hash w) true) Q E s := by
  have rm := R.room
  have bg := R.big.le
  obtain ⟨K, h1, h2, h3⟩ := R.tab.free (by rw [List.length_map]; omega) (k.hash w)
  have hK : K < 100000 := by
    have : SetTable.turns t.mask = t.mask + 15 := rfl
    omega
  refine seek R hx hu h1 h2 h3 yes (fun z => no K z h2 h3) 100000 0 none rfl (Nat.zero_le _) (by omega) fun i p hp hk => ?_
  have hi : (L.map (nhash w))[i]? = some (k.hash w) := by rw [List.getElem?_map, hp, ← hk]; rfl
  have il : i < t.place.toList.length := by
    have a1 := (List.getElem?_eq_some_iff.mp hp).1
    have a2 := R.tab.sz
    rw [List.length_map] at a2
    rw [Array.length_toList]; omega
  obtain ⟨c, hc, e⟩ := R.tab.ahead h2 hi (List.getElem?_eq_getElem il)
  exact ⟨c, Nat.zero_le _, hc, by rw [List.getElem?_eq_getElem il, e]⟩
end
section
variable {P : Program} {w : World} {A : Around} {E : Value → Shared → Prop} {s : Shared}
variable {a : Addr} {L : List (Addr × NestedKey)} {es : Array (Int × Value)} {ep : Nat} {t : SetTable}
theorem IsN.off {h h' : Heap} {k : NestedKey} {b : Addr} {o : Obj} (x : IsN P w h k b) (ho : h.get? a = some o) (hd : o.data = .set es ep t) (sb : Heap.SameBut a h h') : IsN P w h' k b :=
  x.keep fun c oc vs n e d => by
    have ne : c ≠ a := fun z => by
      rw [z, ho] at e
      cases e
      rw [hd] at d
      cases d
    rw [sb.2 c ne]; exact e
theorem filt_at {α : Type} (l : List α) (is : List Nat) (h : ∀ i ∈ is, i < l.length) (f : α → Int) : (is.filterMap fun i => l[i]?).map f = is.map fun i => ((l.map f).toArray).getD i 0 := by
  induction is with
  | nil => rfl
  | cons i is ih =>
    have hi := h i List.mem_cons_self
    rw [List.filterMap_cons_some (List.getElem?_eq_getElem hi), List.map_cons, List.map_cons, ih fun j hj => h j (List.mem_cons_of_mem _ hj)]
    congr 1
    simp [Array.getD_eq_getD_getElem?, hi]
theorem filt_all {α : Type} (l : List α) : (List.range l.length).filterMap (fun i => l[i]?) = l := by
  induction l with
  | nil => rfl
  | cons x l ih =>
    rw [List.length_cons, List.range_succ_eq_map, List.filterMap_cons]
    simp only [List.getElem?_cons_zero]
    rw [List.filterMap_map]
    exact congrArg (x :: ·) ih
theorem grow_big {m n : Nat} (hm : BigM m) (h1 : n * 5 < m * 3) (h2 : m * 3 ≤ (n + 1) * 5) (h3 : n < 4900) :
    ∃ M, SetTable.sizeAbove (SetTable.grown (n + 1)) = M + 1 ∧ BigM M ∧ (n + 1) * 5 < M * 3 := by
  rcases hm with rfl | rfl | rfl | rfl | rfl | rfl
  · obtain rfl : n = 4 := by omega
    exact ⟨31, by decide +kernel, .inr (.inl rfl), by decide⟩
  · obtain rfl : n = 18 := by omega
    exact ⟨127, by decide +kernel, .inr (.inr (.inl rfl)), by decide⟩
  · obtain rfl : n = 76 := by omega
    exact ⟨511, by decide +kernel, .inr (.inr (.inr (.inl rfl))), by decide⟩
  · obtain rfl : n = 306 := by omega
    exact ⟨2047, by decide +kernel, .inr (.inr (.inr (.inr (.inl rfl)))), by decide⟩
  · obtain rfl : n = 1228 := by omega
    exact ⟨8191, by decide +kernel, .inr (.inr (.inr (.inr (.inr rfl)))), by decide⟩
  · omega
theorem relay_n {o : Obj} (ho : s.heap.get? a = some o) (hex : o.ExactSet) (hd : o.data = .set es ep t) (he : es.toList = entN w L) (hfit : t.fits es.size = true)
    (nd : (L.map (·.2)).Nodup) (key : ∀ p ∈ L, IsN P w s.heap p.2 p.1) (pl : t.plain = true) (ld : w.params.followText "set-order" = true ∨ t.led = true) {wanted M : Nat}
    (hw : SetTable.sizeAbove wanted = M + 1) (hM : BigM M) (hn : L.length * 5 < M * 3) {Q : Unit → Shared → Prop}
    (hQ : ∀ h' L' es' ep' t', Heap.SameBut a s.heap h' → SetN P w h' a L' es' ep' t' → L'.Perm L → Q () { s with heap := h' }) : wpAny (model P w) A (setRelay a wanted) Q E s := by
  have sl := ent_size he
  have ml := hM.le
  obtain ⟨t2, order, e, hp, T, em, el, ep2⟩ := anew (t := t) (hs := es.map (·.1)) hw hM.pw (by rw [Array.size_map, sl]; omega)
  rw [Array.size_map, sl] at hp
  have hin : ∀ i ∈ order.toList, i < L.length := fun i hi => List.mem_range.mp (hp.mem_iff.mp hi)
  have e2 : (order.filterMap (es[·]?)).toList = entN w (order.toList.filterMap fun i => L[i]?) := by
    rw [Array.toList_filterMap]
    unfold entN
    rw [List.map_filterMap]
    have : (fun i => es[i]?) = fun i => (L[i]?).map fun p => (nhash w p, Value.ref p.1) := funext fun i => by
      rw [← Array.getElem?_toList, he]
      unfold entN
      rw [List.getElem?_map]
    rw [this]
  have e3 : (order.toList.filterMap fun i => L[i]?).map (nhash w) = order.toList.map fun i => (es.map (·.1)).getD i 0 := by
    have : es.map (·.1) = (L.map (nhash w)).toArray := by
      refine Array.ext' ?_
      rw [Array.toList_map, he]
      unfold entN
      rw [List.map_map]; rfl
    rw [this]
    exact filt_at L order.toList hin (nhash w)
  have pm : (order.toList.filterMap fun i => L[i]?).Perm L := by
    have := hp.filterMap fun i => L[i]?
    rw [filt_all] at this
    exact this
  rw [← e3] at T
  generalize order.toList.filterMap (fun i => L[i]?) = L2 at e2 pm T
  have s2 : (order.filterMap (es[·]?)).size = es.size := by rw [ent_size e2, pm.length_eq, sl]
  rw [setRelay_eq]
  refine wpAny_bind (wpAny_setState_of ho hd hfit ?_)
  dsimp only
  refine wp_if_neg (by rw [sizeLine_eq]; omega) ?_
  try refine wpAny_bind (wpAny_pure ?_)
  rw [e]
  dsimp only
  refine wpAny_bind ?_
  refine wp_if_neg (by rw [s2]; simp) ?_
  try refine wpAny_bind (wpAny_pure ?_)
  refine wpAny_pure ?_
  dsimp only
  refine wpAny_storeSet_of ho hd ?_ (by rw [s2, sl, sizeLine_eq]; omega)
  have sb : Heap.SameBut a s.heap (s.heap.update a (Obj.putSet (order.filterMap (es[·]?)) t2)) := Heap.SameBut.update ..
  refine hQ _ L2 (order.filterMap (es[·]?)) (ep + 1) t2 sb ⟨⟨_, store_at ho hd, ⟨hex.1, hex.2.1, hex.2.2⟩, rfl⟩, e2, T, (pm.map (·.2)).nodup_iff.mpr nd, fun p h => (key p (pm.mem_iff.mp h)).off ho hd sb, by rw [ep2]; exact pl, by rw [el]; exact ld, ?_, by rw [em]; exact hM⟩ pm
  rw [pm.length_eq, em]; exact hn
theorem add_n (R : SetN P w s.heap a L es ep t) {x : Addr} {k : NestedKey} (hx : IsN P w s.heap k x) (hu : A.units + 8 < cLine) (few : L.length < 4900) {Q : Bool → Shared → Prop}
    (hQ : ∀ b h' L' es' ep' t', Heap.SameBut a s.heap h' → SetN P w h' a L' es' ep' t' → (k ∈ L.map (·.2) → L' = L) → (k ∉ L.map (·.2) → L'.Perm ((x, k) :: L)) → Q b { s with heap := h' }) :
    wpAny (model P w) A (setAddHashed a (.ref x) (k.hash w)) Q E s := by
  obtain ⟨o, ho, hex, hd⟩ := R.ob
  have sl := ent_size R.ent
  have rm := R.room
  have bg := R.big.le
  unfold setAddHashed
  refine wpAny_holding ?_
  rw [show (100000 : Nat) = 99999 + 1 from rfl, setAddHashedIn_succ]
  refine wpAny_bind (wpAny_setState_of ho hd R.fits ?_)
  dsimp only
  refine wp_if_neg (by simp [byScan, Value.scannable]) ?_
  try refine wpAny_bind (wpAny_pure ?_)
  refine wpAny_bind (sought R hx hu (fun hm => ?_) fun K hm hK hb => ?_)
  · dsimp only
    exact wpAny_pure (hQ false s.heap L es ep t (Heap.SameBut.refl a s.heap) R (fun _ => rfl) fun z => absurd hm z)
  dsimp only
  refine wpAny_bind (wpAny_setState_of ho hd R.fits ?_)
  dsimp only
  obtain ⟨q1, q2⟩ := R.tab.put hK hb
  have p1 : (t.put (way t.mask (k.hash w) K)).1.plain = true := R.plain
  have p2 : (t.put (way t.mask (k.hash w) K)).1.led = t.led := rfl
  have p3 : (t.put (way t.mask (k.hash w) K)).1.mask = t.mask := rfl
  have p4 : (t.put (way t.mask (k.hash w) K)).2 = SetTable.below t.place (way t.mask (k.hash w) K) := rfl
  rw [← p4] at q1 q2
  generalize t.put (way t.mask (k.hash w) K) = pt at q1 q2 p1 p2 p3 ⊢
  clear p4
  obtain ⟨t1, p⟩ := pt
  dsimp only at q1 q2 p1 p2 p3 ⊢
  first
    | (refine wpAny_bind ?_; refine wp_if_pos p1 ?_; refine hx.ask.2 _ _ _ ?_)
    | refine wp_if_pos p1 (wpAny_bind (hx.ask.2 _ _ _ ?_))
  simp only [if_true]
  have pm : (L.take p ++ (x, k) :: L.drop p).Perm ((x, k) :: L) := by
    have := List.perm_middle (a := (x, k)) (l₁ := L.take p) (l₂ := L.drop p)
    rwa [List.take_append_drop] at this
  have e1 : (SetTable.insertAt es p (k.hash w, Value.ref x)).toList = entN w (L.take p ++ (x, k) :: L.drop p) := by
    rw [SetTable.toList_insertAt, R.ent]
    unfold entN
    rw [List.map_append, List.map_cons, List.map_take, List.map_drop]
  have e2 : (L.take p ++ (x, k) :: L.drop p).map (nhash w) = (L.map (nhash w)).take p ++ k.hash w :: (L.map (nhash w)).drop p := by
    rw [List.map_append, List.map_cons, List.map_take, List.map_drop]
  rw [← e2] at q2
  have nd1 : ((L.take p ++ (x, k) :: L.drop p).map (·.2)).Nodup := (pm.map (·.2)).nodup_iff.mpr (by rw [List.map_cons]; exact List.nodup_cons.mpr ⟨hm, R.nd⟩)
  have l1 : (L.take p ++ (x, k) :: L.drop p).length = L.length + 1 := pm.length_eq
  generalize L.take p ++ (x, k) :: L.drop p = L1 at pm e1 q2 nd1 l1
  generalize SetTable.insertAt es p (k.hash w, Value.ref x) = es1 at e1 ⊢
  have s1 := ent_size e1
  refine wpAny_bind (wpAny_storeSet_of ho hd ?_ (by rw [s1, l1, sizeLine_eq]; omega))
  have sb : Heap.SameBut a s.heap (s.heap.update a (Obj.putSet es1 t1)) := Heap.SameBut.update ..
  have ho1 := store_at (es' := es1) (t' := t1) ho hd
  generalize s.heap.update a (Obj.putSet es1 t1) = h1 at sb ho1 ⊢
  have key1 : ∀ p ∈ L1, IsN P w h1 p.2 p.1 := fun p hp => by
    rcases List.mem_cons.mp (pm.mem_iff.mp hp) with e | hp
    · rw [e]; exact hx.off ho hd sb
    · exact (R.key p hp).off ho hd sb
  have ld1 : w.params.followText "set-order" = true ∨ t1.led = true := by rw [p2]; exact R.led
  have fill1 : t1.fill = L.length + 1 := by
    have := q2.sz
    rw [List.length_map, l1] at this
    unfold SetTable.fill
    rw [this, q2.dm]; rfl
  by_cases hf : t1.tooFull = true
  · first
      | (refine wpAny_bind ?_; refine wp_if_pos (by simp [hf]) ?_)
      | (refine wp_if_pos (by simp [hf]) ?_; refine wpAny_bind ?_)
    have full : t.mask * 3 ≤ (L.length + 1) * 5 := by
      have h := hf
      unfold SetTable.tooFull at h
      rw [decide_eq_true_eq, fill1, p3] at h
      exact h
    obtain ⟨M, m1, m2, m3⟩ := grow_big R.big rm full few
    rw [sl]
    refine relay_n (s := { s with heap := h1 }) ho1 ⟨hex.1, hex.2.1, hex.2.2⟩ rfl e1 (fit_of q2 e1 (by rw [l1, p3]; omega)) nd1 key1 p1 ld1 m1 m2 (by rw [l1]; exact m3) fun h2 L2 es2 ep3 t2 sb2 R2 pm2 => ?_
    exact wpAny_pure (hQ true h2 L2 es2 ep3 t2 (sb.trans sb2) R2 (fun z => absurd z hm) fun _ => pm2.trans pm)
  · first
      | refine wp_if_neg (by simp [hf]) ?_
      | (refine wpAny_bind ?_; refine wp_if_neg (by simp [hf]) ?_; refine wpAny_pure ?_)
    refine wpAny_pure (hQ true h1 L1 es1 (ep + 1) t1 sb ⟨⟨_, ho1, ⟨hex.1, hex.2.1, hex.2.2⟩, rfl⟩, e1, q2, nd1, key1, p1, ld1, ?_, by rw [p3]; exact R.big⟩ (fun z => absurd z hm) fun _ => pm)
    have h := hf
    unfold SetTable.tooFull at h
    rw [decide_eq_true_eq, fill1, p3] at h
    rw [l1, p3]; omega
theorem setN_new {h : Heap} (ho : h.get? a = some (eset w)) : SetN P w h a [] #[] 0 (.fresh 0 0 (!w.params.followText "set-order")) where
  ob := ⟨_, ho, ⟨rfl, rfl, rfl⟩, rfl⟩
  ent := rfl
  tab := ⟨.nil, rfl, rfl, ⟨3, by decide, rfl⟩, (fun x hx => by cases hx), (fun x hx => by simp at hx)⟩
  nd := .nil
  key := (fun p hp => by cases hp)
  plain := rfl
  led := by
    show _ ∨ (!w.params.followText "set-order") = true
    cases w.params.followText "set-order"
    · exact .inr rfl
    · exact .inl rfl
  room := (show 0 * 5 < 7 * 3 by decide)
  big := .inl rfl
end
section
variable {X : Cx}
/-- what the set has of the first items; what stood there stands -/
def IvN (P : Program) (w : World) (h0 : Heap) (a : Addr) (ks : List NestedKey) (i : Nat) (h : Heap) : Prop :=
  (∀ b o, b < a → h0.get? b = some o → h.get? b = some o) ∧ ∃ L es ep t, SetN P w h a L es ep t ∧ (∀ p ∈ L, IsN P w h0 p.2 p.1) ∧ L.length ≤ i ∧ (L.length = i ↔ (ks.take i).Nodup) ∧ ∀ k, k ∈ L.map (·.2) ↔ k ∈ ks.take i
def rSetN (X : Cx) : List V → Hp → VK → Prop := fun vs H Q => ∃ (Z : Addr → Prop) (T : DH) (l : Addr) (xs : List V) (ks : List NestedKey), vs = [V.ref l] ∧ SqL X.K H l xs ∧ RelDs ((X.K, X.mg), Z) T H (ofKs ks) xs ∧ (∀ k ∈ ks, isNK k = true) ∧ ks.length < 4900 ∧
  ∀ p n, H p = none → n ≤ ks.length → (n = ks.length ↔ ks.Nodup) → Q (.ref p) (upd H p (SetSO p n))
theorem nested_each {pins : List (Addr × Obj)} {σ : L2.St} {H : Hp} {s : Shared} {Z : Addr → Prop} {T : DH} (I : Inv X pins σ H s) : ∀ (ks : List NestedKey) (vs : List V) (us : List Value), (∀ k ∈ ks, isNK k = true) → RelDs ((X.K, X.mg), Z) T H (ofKs ks) vs → Vals vs us →
    us.length = ks.length ∧ ∀ (i : Nat) u, us[i]? = some u → ∃ k b, ks[i]? = some k ∧ u = .ref b ∧ IsN X.prog X.w s.heap k b
  | [], vs, us, _, r, q => by
    unfold ofKs at r
    have e : vs = [] := r
    subst e
    cases q
    exact ⟨rfl, fun i u h => by simp at h⟩
  | k :: ks, vs, us, hk, r, q => by
    unfold ofKs at r
    obtain ⟨v, r', e, h1, h2⟩ := r
    subst e
    cases q with
    | cons q1 q2 =>
      obtain ⟨l, h⟩ := nested_each I ks _ _ (fun k hk2 => hk k (List.mem_cons_of_mem _ hk2)) h2 q2
      have h0 := hk k List.mem_cons_self
      obtain ⟨n1, n2⟩ := isNK_num h0
      have ni := nested_rel I k _ _ n1 h1 q1
      refine ⟨by rw [List.length_cons, List.length_cons, l], fun i u hi => ?_⟩
      cases i with
      | succ i => exact h i u (by simpa using hi)
      | zero =>
        simp at hi
        subst hi
        cases k with
        | tup ks =>
          cases ni with
          | tup a1 a2 a3 a4 => exact ⟨_, _, rfl, rfl, ⟨.tup a1 a2 a3 a4, n2⟩, h0⟩
        | none => simp [isNK] at h0
        | num i => simp [isNK] at h0
        | text x => simp [isNK] at h0
theorem cr_setN (HU : X.A.units + 60 < cLine) (hc : X.calm = true) : CallR X (.type "set") (rSetN X) := by
  intro pins s σ H vs us Q I r h
  obtain ⟨Z, T, l, xs, ks, rfl, hq, rd, hk, few, q⟩ := h
  rw [Vals.ref1 r]
  obtain ⟨its, rv, pl, hz⟩ := I.list hq
  obtain ⟨el, each⟩ := nested_each I ks _ _ hk rd rv
  have up : ∀ {h' : Heap} {k : NestedKey} {b : Addr}, IsN X.prog X.w s.heap k b → (∀ b o, b < s.heap.objs.size → s.heap.get? b = some o → h'.get? b = some o) → IsN X.prog X.w h' k b := fun x st => x.keep fun c o _ _ e _ => st c o (Heap.lt_size e) e
  refine set_listIv (Iv := IvN X.prog X.w s.heap s.heap.objs.size ks) (I.ok.hd hc) pl.isList HU (fun i h h' ⟨k0, L, es, ep, t, R, x0, x1, x2, x3⟩ e => ?_) (fun A E i v s1 Q1 hi hu hv ⟨k0, L, es, ep, t, R, x0, x1, x2, x3⟩ hQ => ?_) (fun h e kk => ?_) fun h' tk ⟨k0, L, es, ep, t, R, x0, x1, x2, x3⟩ kk => ?_
  · have k1 : ∀ b o, b < s.heap.objs.size → s.heap.get? b = some o → h'.get? b = some o := fun b o hb e0 => e b o (Nat.ne_of_lt (Nat.lt_succ_of_lt hb)) (k0 b o hb e0)
    obtain ⟨o, ho, r⟩ := R.ob
    exact ⟨k1, L, es, ep, t, { R with ob := ⟨o, e _ o (Nat.ne_of_lt (Nat.lt_succ_self _)) ho, r⟩, key := fun p hp => up (x0 p hp) k1 }, x0, x1, x2, x3⟩
  · obtain ⟨k, b, e1, rfl, ik⟩ := each i v (by simpa using hv)
    have il : i < ks.length := (List.getElem?_eq_some_iff.mp e1).1
    have ik1 : IsN X.prog X.w s1.heap k b := up ik k0
    unfold setAdd
    refine wpAny_holding (wpAny_bind ?_)
    refine (nestedKind X.prog X.w).pyHash (show A.units + 8 < cLine by omega) ik1.1 ?_
    refine add_n (s := { s1 with toks := s1.toks + (nestedKind X.prog X.w).draws k }) R ik1 (by omega) (by omega) fun b2 h' L' es' ep' t' sb R' same more => ?_
    refine hQ b2 h' _ (Nat.le_add_right _ _) sb ⟨fun c o hc e0 => by rw [sb.2 c (Nat.ne_of_lt hc)]; exact k0 c o hc e0, L', es', ep', t', R', ?_⟩
    have nn : (ks.take (i + 1)).Nodup ↔ L.length = i ∧ k ∉ L.map (·.2) := by rw [takeS e1, nodup_snoc, ← x2, x3 k]
    by_cases c : k ∈ L.map (·.2)
    · rw [same c]
      refine ⟨x0, by omega, ⟨fun z => by omega, fun z => absurd c (nn.mp z).2⟩, fun j => ?_⟩
      rw [x3 j, takeS e1, List.mem_append, List.mem_singleton]
      refine ⟨.inl, fun z => ?_⟩
      rcases z with z | rfl
      · exact z
      · exact (x3 j).mp c
    · have pm := more c
      have ll : L'.length = L.length + 1 := pm.length_eq
      refine ⟨fun p hp => ?_, by omega, ?_, fun j => ?_⟩
      · rcases List.mem_cons.mp (pm.mem_iff.mp hp) with rfl | z
        · exact ik
        · exact x0 p z
      · rw [nn, ll]
        exact ⟨fun z => ⟨by omega, c⟩, fun z => by omega⟩
      · rw [(pm.map (·.2)).mem_iff, List.map_cons, List.mem_cons, x3 j, takeS e1, List.mem_append, List.mem_singleton, Or.comm]
  · exact ⟨fun b o _ e0 => kk b o e0, [], #[], 0, _, setN_new e, (fun p hp => by cases hp), Nat.le_refl _, by simp, fun k => by simp⟩
  · have en : its.toArray.size = ks.length := by rw [List.size_toArray, el]
    rw [en] at x1 x2
    rw [List.take_length] at x2
    obtain ⟨o, ho, hex, hd⟩ := R.ob
    exact ⟨.ref s.heap.objs.size, _, I.laid (t' := tk) (fun b o e => kk b o (Heap.lt_size e) e) (Nat.le_refl _) (setSO_new ho hex hd (fit_of R.tab R.ent (by have := R.room; omega)) (ent_size R.ent)), rfl, q _ L.length (I.hok.fresh (Nat.le_refl _)) x1 x2⟩
/-- set(xs) of texts, or of such tuples -/
def rSetB (X : Cx) : List V → Hp → VK → Prop := fun vs H Q => rSetS X.K vs H Q ∨ rSetN X vs H Q
theorem cr_setB (HU : X.A.units + 60 < cLine) (hc : X.calm = true) : CallR X (.type "set") (rSetB X) := by
  intro pins s σ H vs us Q I r h
  rcases h with h | h
  · exact cr_setS HU hc pins s σ H vs us Q I r h
  · exact cr_setN HU hc pins s σ H vs us Q I r h
def rLenS : List V → Hp → VK → Prop := fun vs H Q => ∃ (a : Addr) (n : Nat), vs = [V.ref a] ∧ H a = some (SetSO a n) ∧ n < 5000 ∧ Q (.int n) H
theorem cr_lenS : CallR X (.builtin "len") rLenS := by
  intro pins s σ H vs us Q I r h
  obtain ⟨a, n, rfl, ha, hn, q⟩ := h
  rw [Vals.ref1 r]
  obtain ⟨o, es, ep, t, ho, hex, hd, hf, en⟩ := (I.hok a _ ha).1
  exact call_len_set ho hex hd hf (by rw [en]; omega) ⟨.int n, H, I.tok _, ⟨_, by rw [en]⟩, q⟩
theorem de_sset {l m : Bool} {x : Str} {e : Expr} {te : TDE} {p p2 q pos : Pos} (HU : X.A.units + 60 < cLine) (he : DE X e te) (hc : X.calm = true) (hx : x = ssName l) (hg : Gl X x) (hm : X.mg x = none) (hg2 : Gl X "set") (hm2 : X.mg "set" = none) (hn : notStar e = true) :
    DE X (.Call (.Name x p) [.Call (.Name "set" p2) [e] [] q] [] pos) (fun de T Q E => te de T (fun x T1 => dSset l m x T1 Q) E) := fun W tk => by
  have h1 : ([e] : List Expr).all notStar = true := by rw [List.all_cons, hn]; rfl
  have ns1 : starEach [e] X.env = (false, eval e X.env) :: starEach [] X.env := star_cons hn
  have pl1 : (backTo q (starEach [] X.env)).any (·.1) = false := rfl
  cases l with
  | false =>
    subst hx
    have k1 := pe_callTy (p := p2) (pos := q) (cr_setI HU hc) hg2 hm2 PyProof.Rows.boot_set (pa_cons (he W tk) pa_nil ns1) (by decide) (by decide) ns1 pl1
    have k2 := pe_callB (p := p) (pos := pos) (cr_sortedSet hc) hg hm PyProof.Rows.boot_sorted (pa_cons k1 pa_nil (star_cons rfl)) (by decide) (by decide) (star_cons rfl) rfl
    refine PE_wk k2 fun σ H Q ⟨Z, de, T, Qd, E, re, rh, ht, hq, hx⟩ => ?_
    refine ⟨Z, de, T, _, E, re, rh, ht, fun x T1 v H1 h1 f1 r1 rh1 => ?_, hx⟩
    obtain ⟨ds, ns, e1, e2, e3, ⟨b, b1, b2⟩, e4⟩ := h1
    obtain ⟨a, vs, rfl, g1, g2⟩ := lst_rel rh1 r1 e1
    rw [intsD_eq e2] at g2
    rw [g2.ints] at g1
    refine ⟨a, ns, rfl, .of g1, e3, fun p S n hp hS hn => ?_⟩
    refine ⟨p, S, n, rfl, upd_same, Nat.lt_of_le_of_lt (hn b b2) b1, fun ks p2 k1 k2 k3 hp2 => ?_⟩
    exact newL_ok (rh1.new hp) (RelDs.ofInts ks) hp2 (e4 ks k1 fun k => (k2 k).trans (hS k)) fun d' T' v' H' q f r rh' => hq d' T' v' H' q ((f1.trans (fr_new hp)).trans f) r rh'
  | true =>
    subst hx
    have k1 := pe_callTy (p := p2) (pos := q) (cr_setB HU hc) hg2 hm2 PyProof.Rows.boot_set (pa_cons (he W tk) pa_nil ns1) (by decide) (by decide) ns1 pl1
    have k2 := pe_callB (p := p) (pos := pos) cr_lenS hg hm PySem.boot_len (pa_cons k1 pa_nil (star_cons rfl)) (by decide) (by decide) (star_cons rfl) rfl
    refine PE_wk k2 fun σ H Q ⟨Z, de, T, Qd, E, re, rh, ht, hq, hx⟩ => ?_
    refine ⟨Z, de, T, _, E, re, rh, ht, fun x T1 v H1 h1 f1 r1 rh1 => ?_, hx⟩
    obtain ⟨ds, e1, h1⟩ := h1
    obtain ⟨a, vs, rfl, g1, g2⟩ := lst_rel rh1 r1 e1
    rcases h1 with ⟨ns, e2, e3, e4⟩ | ⟨ks, e2, e3, e5, e4⟩
    · rw [strsD_eq e2] at g2
      rw [g2.strs] at g1
      refine .inl ⟨a, ns, rfl, .of g1, e3, fun p n hp h2 h3 => ?_⟩
      exact ⟨p, n, rfl, upd_same, by omega, hq _ _ _ _ (e4 n h2 h3) (f1.trans (fr_new hp)) rfl (rh1.new hp)⟩
    · subst e2
      refine .inr ⟨Z, T1, a, vs, ks, rfl, .of g1, g2, e3, e5, fun p n hp h2 h3 => ?_⟩
      exact ⟨p, n, rfl, upd_same, by omega, hq _ _ _ _ (e4 n h2 h3) (f1.trans (fr_new hp)) rfl (rh1.new hp)⟩
end
end DL

set_option linter.all false
set_option maxRecDepth 100000
set_option maxHeartbeats 8000000
namespace DL
open PySem PySem.Spec L2
section
variable {X : Cx}
/-- a value that is known -/
theorem de_c {e : Expr} {v : V} {d : D} (h : PE X e (tC v)) (r : ∀ Z T H, RelD ((X.K, X.mg), Z) T H d v) : DE X e (fun _ T Q _ => Q d T) := fun W tk =>
  PE_wk h fun σ H Q ⟨Z, de, T, Qd, E, re, rh, ht, hq, hx⟩ => hq _ _ _ _ ht .refl (r Z T H) rh
theorem de_op {op : Operator} {d : D → D → DH → DQ → Prop} {a b : Expr} {ta tb : TDE} {pos : Pos} (h : OpR X (binaryOp op) (l2 X d)) (ha : DE X a ta) (hb : DE X b tb) :
    DE X (.BinOp a op b pos) (fun de T Q E => ta de T (fun x T1 => tb de T1 (fun y T2 => d x y T2 Q) E) E) := fun W tk =>
  PE_wk (pe_op h (ha W tk) (hb W tk)) fun σ H Q ⟨Z, de, T, Qd, E, re, rh, ht, hq, hx⟩ =>
    ⟨Z, de, T, _, E, re, rh, ht, fun x T1 v H1 h1 f1 r1 rh1 => ⟨Z, de, T1, _, E, re.fr f1, rh1, h1, fun y T2 w H2 h2 f2 r2 rh2 =>
      ⟨Z, T2, x, y, Qd, rh2, r1.fr f2, r2, h2, fun d' T' v' H' q f r rh' => hq d' T' v' H' q ((f1.trans f2).trans f) r rh'⟩, hx.fr f1⟩, hx⟩
theorem de_cmp {op : CmpOp} {d : D → D → DH → DQ → Prop} {a b : Expr} {ta tb : TDE} {pos : Pos} (h : OpR X (compareOp op) (l2 X d)) (ha : DE X a ta) (hb : DE X b tb) (hm : behindInMarks op b = false) :
    DE X (.Compare a [op] [b] pos) (fun de T Q E => ta de T (fun x T1 => tb de T1 (fun y T2 => d x y T2 Q) E) E) := fun W tk =>
  PE_wk (pe_cmpR h (ha W tk) (hb W tk) hm) fun σ H Q ⟨Z, de, T, Qd, E, re, rh, ht, hq, hx⟩ =>
    ⟨Z, de, T, _, E, re, rh, ht, fun x T1 v H1 h1 f1 r1 rh1 => ⟨Z, de, T1, _, E, re.fr f1, rh1, h1, fun y T2 w H2 h2 f2 r2 rh2 =>
      ⟨Z, T2, x, y, Qd, rh2, r1.fr f2, r2, h2, fun d' T' v' H' q f r rh' => hq d' T' v' H' q ((f1.trans f2).trans f) r rh'⟩, hx.fr f1⟩, hx⟩
/-- reading of a test: also whatever its whole is -/
def DT2 (X : Cx) (e : Expr) (t : TDT) : Prop := ∀ W, Takes X W → PT X e (lT X W t) ∧ (∀ op vs pos, e = .BoolOp op vs pos → PW X e (lT X W t))
theorem dt_of {e : Expr} {t : TDT} (h : ∀ W, Takes X W → PT X e (lT X W t)) (n : ∀ op vs pos, e ≠ .BoolOp op vs pos) : DT2 X e t := fun W tk => ⟨h W tk, fun op vs pos q => absurd q (n op vs pos)⟩
theorem dt_cmp {op : CmpOp} {d : D → D → DH → DQ → Prop} {a b : Expr} {ta tb : TDE} {pos : Pos} (h : OpR X (compareOp op) (l2 X d)) (ha : DE X a ta) (hb : DE X b tb) (hm : behindInMarks op b = false) :
    DT2 X (.Compare a [op] [b] pos) (fun de T Q E => ta de T (fun x T1 => tb de T1 (fun y T2 => d x y T2 fun r T3 => ∃ k, r = .bl k ∧ Q k T3) E) E) := dt_of (fun W tk =>
  PT_wk (pt_cmpR h (ha W tk) (hb W tk) hm) fun σ H Q ⟨Z, de, T, Qd, E, re, rh, ht, hq, hx⟩ =>
    ⟨Z, de, T, _, E, re, rh, ht, fun x T1 v H1 h1 f1 r1 rh1 => ⟨Z, de, T1, _, E, re.fr f1, rh1, h1, fun y T2 w H2 h2 f2 r2 rh2 =>
      ⟨Z, T2, x, y, _, rh2, r1.fr f2, r2, h2, fun d' T' v' H' ⟨k, e, q⟩ f r rh' => ⟨k, by subst e; exact r, hq k T' H' q ((f1.trans f2).trans f) rh'⟩⟩, hx.fr f1⟩, hx⟩) fun _ _ _ q => nomatch q
theorem de_chn {op op' : CmpOp} {d d' : D → D → DH → DQ → Prop} {a b c : Expr} {ta tb tc : TDE} {pos : Pos} (h : OpR X (compareOp op) (l2 X d)) (h' : OpR X (compareOp op') (l2 X d')) (ha : DE X a ta) (hb : DE X b tb) (hc : DE X c tc) (hm : lastMarks [op, op'] [b, c] = false) :
    DE X (.Compare a [op, op'] [b, c] pos) (fun de T Q E => ta de T (fun x T1 => tb de T1 (fun y T2 => d x y T2 fun r T3 => ∃ k, r = .bl k ∧ if k = true then tc de T3 (fun z T4 => d' y z T4 Q) E else Q (.bl false) T3) E) E) := fun W tk =>
  PE_wk (pe_chain h h' (ha W tk) (hb W tk) (hc W tk) hm) fun σ H Q ⟨Z, de, T, Qd, E, re, rh, ht, hq, hx⟩ =>
    ⟨Z, de, T, _, E, re, rh, ht, fun x T1 v H1 h1 f1 r1 rh1 => ⟨Z, de, T1, _, E, re.fr f1, rh1, h1, fun y T2 w H2 h2 f2 r2 rh2 =>
      ⟨Z, T2, x, y, _, rh2, r1.fr f2, r2, h2, fun r T3 v3 H3 ⟨k, e, q⟩ f3 r3 rh3 => ⟨k, by subst e; exact r3, by
        cases k with
        | false => exact hq _ _ _ _ q ((f1.trans f2).trans f3) rfl rh3
        | true => exact ⟨Z, de, T3, _, E, re.fr ((f1.trans f2).trans f3), rh3, q, fun z T4 v4 H4 h4 f4 r4 rh4 => ⟨Z, T4, y, z, Qd, rh4, r2.fr (f3.trans f4), r4, h4, fun d' T' v' H' q f r rh' => hq d' T' v' H' q ((((f1.trans f2).trans f3).trans f4).trans f) r rh'⟩, hx.fr ((f1.trans f2).trans f3)⟩⟩⟩, hx.fr f1⟩, hx⟩
theorem dt_chn {op op' : CmpOp} {d d' : D → D → DH → DQ → Prop} {a b c : Expr} {ta tb tc : TDE} {pos : Pos} (h : OpR X (compareOp op) (l2 X d)) (h' : OpR X (compareOp op') (l2 X d')) (ha : DE X a ta) (hb : DE X b tb) (hc : DE X c tc) (hm : lastMarks [op, op'] [b, c] = false) :
    DT2 X (.Compare a [op, op'] [b, c] pos) (fun de T Q E => ta de T (fun x T1 => tb de T1 (fun y T2 => d x y T2 fun r T3 => ∃ k, r = .bl k ∧ if k = true then tc de T3 (fun z T4 => d' y z T4 fun r2 T5 => ∃ k2, r2 = .bl k2 ∧ Q k2 T5) E else Q false T3) E) E) := dt_of (fun W tk =>
  PT_wk (pt_chain h h' (ha W tk) (hb W tk) (hc W tk) hm) fun σ H Q ⟨Z, de, T, Qd, E, re, rh, ht, hq, hx⟩ =>
    ⟨Z, de, T, _, E, re, rh, ht, fun x T1 v H1 h1 f1 r1 rh1 => ⟨Z, de, T1, _, E, re.fr f1, rh1, h1, fun y T2 w H2 h2 f2 r2 rh2 =>
      ⟨Z, T2, x, y, _, rh2, r1.fr f2, r2, h2, fun r T3 v3 H3 ⟨k, e, q⟩ f3 r3 rh3 => ⟨k, by subst e; exact r3, by
        cases k with
        | false => exact ⟨false, rfl, hq _ _ _ q ((f1.trans f2).trans f3) rh3⟩
        | true => exact ⟨Z, de, T3, _, E, re.fr ((f1.trans f2).trans f3), rh3, q, fun z T4 v4 H4 h4 f4 r4 rh4 => ⟨Z, T4, y, z, _, rh4, r2.fr (f3.trans f4), r4, h4, fun d' T' v' H' ⟨k2, e2, q2⟩ f r rh' => ⟨k2, by subst e2; exact r, hq k2 T' H' q2 ((((f1.trans f2).trans f3).trans f4).trans f) rh'⟩⟩, hx.fr ((f1.trans f2).trans f3)⟩⟩⟩, hx.fr f1⟩, hx⟩) fun _ _ _ q => nomatch q
/-- a op1 b op2 c op3 d -/
def tChn3 (r r' r2 : R2) (ta tb tc td : TE) : TE := fun σ H Q => ta σ H fun x H1 => tb σ H1 fun y H2 => r x y H2 fun z H3 => ∃ k, z = .bl k ∧
  (if k = true then tc σ H3 fun w' H4 => r' y w' H4 fun z2 H5 => ∃ k2, z2 = .bl k2 ∧ (if k2 = true then td σ H5 fun w2 H6 => r2 w' w2 H6 Q else Q (.bl false) H5) else Q (.bl false) H3)
theorem pt_chn3 {op op' oq : CmpOp} {r r' r2 : R2} {a b c d : Expr} {ta tb tc td : TE} {pos : Pos} (ho : OpR X (compareOp op) r) (ho' : OpR X (compareOp op') r') (hq : OpR X (compareOp oq) r2) (ha : PE X a ta) (hb : PE X b tb) (hc : PE X c tc) (hd : PE X d td)
    (hm : lastMarks [op, op', oq] [b, c, d] = false) : PT X (.Compare a [op, op', oq] [b, c, d] pos) (tTest (tChn3 r r' r2 ta tb tc td)) := by
  refine ⟨fun pins s σ H Q I h => ?_⟩
  refine PyProof.Rows.isTrue_chain (thn (ha.run pins s σ H _ I h) fun v s1 ⟨x, H1, I1, r1, q1⟩ => PyProof.Rows.test_link (thn (hb.run pins s1 σ H1 _ I1 q1) fun u s2 ⟨y, H2, I2, r2, q2⟩ =>
    thn (ho pins s2 σ H2 x y v u _ I2 r1 r2 q2) fun d s3 ⟨z, H3, I3, r3, k, e, q3⟩ => ?_)) hm
  subst e
  cases r3
  refine wpAny_truthy_bool ?_
  cases k with
  | false =>
    obtain ⟨k', e', q'⟩ := q3
    cases e'
    exact PyProof.Rows.ite_ff ⟨H3, I3, q'⟩
  | true =>
    refine PyProof.Rows.ite_tt (PyProof.Rows.test_link (thn (hc.run pins s3 σ H3 _ I3 q3) fun w' s4 ⟨z', H4, I4, r4, q4⟩ => thn (ho' pins s4 σ H4 y z' u w' _ I4 r2 r4 q4) fun d' s5 ⟨z2, H5, I5, r5, k2, e2, q5⟩ => ?_))
    subst e2
    cases r5
    refine wpAny_truthy_bool ?_
    cases k2 with
    | false =>
      obtain ⟨k', e', q'⟩ := q5
      cases e'
      exact PyProof.Rows.ite_ff ⟨H5, I5, q'⟩
    | true =>
      refine PyProof.Rows.ite_tt (PyProof.Rows.test_last (thn (hd.run pins s5 σ H5 _ I5 q5) fun w3 s6 ⟨z3, H6, I6, r6, q6⟩ => thn (hq pins s6 σ H6 z' z3 w' w3 _ I6 r4 r6 q6) fun d3 s7 ⟨z4, H7, I7, r7, k3, e3, q7⟩ => ?_))
      subst e3
      cases r7
      exact wpAny_truthy_bool ⟨H7, I7, q7⟩
theorem dt_chn3 {op op' oq : CmpOp} {d d' d2 : D → D → DH → DQ → Prop} {a b c e : Expr} {ta tb tc te : TDE} {pos : Pos} (h : OpR X (compareOp op) (l2 X d)) (h' : OpR X (compareOp op') (l2 X d')) (h2 : OpR X (compareOp oq) (l2 X d2)) (ha : DE X a ta) (hb : DE X b tb) (hc : DE X c tc) (hd : DE X e te) (hm : lastMarks [op, op', oq] [b, c, e] = false) :
    DT2 X (.Compare a [op, op', oq] [b, c, e] pos) (fun de T Q E => ta de T (fun x T1 => tb de T1 (fun y T2 => d x y T2 fun r T3 => ∃ k, r = .bl k ∧ if k = true then tc de T3 (fun z T4 => d' y z T4 fun r2 T5 => ∃ k2, r2 = .bl k2 ∧ if k2 = true then te de T5 (fun w T6 => d2 z w T6 fun r3 T7 => ∃ k3, r3 = .bl k3 ∧ Q k3 T7) E else Q false T5) E else Q false T3) E) E) := dt_of (fun W tk =>
  PT_wk (pt_chn3 h h' h2 (ha W tk) (hb W tk) (hc W tk) (hd W tk) hm) fun σ H Q ⟨Z, de, T, Qd, E, re, rh, ht, hq, hx⟩ =>
    ⟨Z, de, T, _, E, re, rh, ht, fun x T1 v H1 h1 f1 r1 rh1 => ⟨Z, de, T1, _, E, re.fr f1, rh1, h1, fun y T2 w H2 h2 f2 r2 rh2 =>
      ⟨Z, T2, x, y, _, rh2, r1.fr f2, r2, h2, fun r T3 v3 H3 ⟨k, e, q⟩ f3 r3 rh3 => ⟨k, by subst e; exact r3, by
        cases k with
        | false => exact ⟨false, rfl, hq _ _ _ q ((f1.trans f2).trans f3) rh3⟩
        | true => exact ⟨Z, de, T3, _, E, re.fr ((f1.trans f2).trans f3), rh3, q, fun z T4 v4 H4 h4 f4 r4 rh4 => ⟨Z, T4, y, z, _, rh4, r2.fr (f3.trans f4), r4, h4, fun r5 T5 v5 H5 ⟨k2, e2, q2⟩ f5 r5' rh5 => ⟨k2, by subst e2; exact r5', by
          cases k2 with
          | false => exact ⟨false, rfl, hq _ _ _ q2 ((((f1.trans f2).trans f3).trans f4).trans f5) rh5⟩
          | true => exact ⟨Z, de, T5, _, E, re.fr ((((f1.trans f2).trans f3).trans f4).trans f5), rh5, q2, fun w6 T6 v6 H6 h6 f6 r6 rh6 => ⟨Z, T6, z, w6, _, rh6, r4.fr (f5.trans f6), r6, h6, fun d' T' v' H' ⟨k3, e3, q3⟩ f r rh' => ⟨k3, by subst e3; exact r, hq k3 T' H' q3 ((((((f1.trans f2).trans f3).trans f4).trans f5).trans f6).trans f) rh'⟩⟩, hx.fr ((((f1.trans f2).trans f3).trans f4).trans f5)⟩⟩⟩, hx.fr ((f1.trans f2).trans f3)⟩⟩⟩, hx.fr f1⟩, hx⟩) fun _ _ _ q => nomatch q
theorem da_nil : DA X [] 0 (fun _ T Q _ => Q [] T) := fun W tk => PA_wk pa_nil fun σ H Q ⟨Z, de, T, Qd, E, re, rh, ht, hq, hx⟩ => hq _ _ _ _ ht rfl .refl rfl rh
theorem da_cons {e : Expr} {es : List Expr} {n : Nat} {te : TDE} {ts : TDA} (he : DE X e te) (hs : DA X es n ts) (hn : notStar e = true) : DA X (e :: es) (n + 1) (fun de T Q E => te de T (fun x T1 => ts de T1 (fun xs T2 => Q (x :: xs) T2) E) E) := fun W tk =>
  PA_wk (pa_cons (he W tk) (hs W tk) (star_cons hn)) fun σ H Q ⟨Z, de, T, Qd, E, re, rh, ht, hq, hx⟩ =>
    ⟨Z, de, T, _, E, re, rh, ht, fun x T1 v H1 h1 f1 r1 rh1 => ⟨Z, de, T1, _, E, re.fr f1, rh1, h1, fun xs T2 vs H2 h2 l2 f2 r2 rh2 => hq _ _ _ _ h2 (by simp [l2]) (f1.trans f2) ⟨v, vs, rfl, r1.fr f2, r2⟩ rh2, hx.fr f1⟩, hx⟩
theorem line1000 {n : Nat} (h : n ≤ 1000) : n ≤ sizeLine := Nat.le_of_lt (small1000 h)
theorem de_tup {es : List Expr} {n : Nat} {ts : TDA} {k : Nat} {pos : Pos} (hs : DA X es n ts) (hn : n ≤ 1000) : DE X (.Tuple es k pos) (fun de T Q E => ts de T (fun ds T1 => Q (.tup ds) T1) E) := fun W tk =>
  PE_wk (pe_tup (hs W tk)) fun σ H Q ⟨Z, de, T, Qd, E, re, rh, ht, hq, hx⟩ =>
    ⟨Z, de, T, _, E, re, rh, ht, fun xs T1 vs H1 h1 l1 f1 r1 rh1 => ⟨by rw [r1.length, l1]; exact line1000 hn, fun p hp => newTup_ok (Qd := Qd) rh1 r1 hp h1 fun d' T' v' H' q f r rh' => hq d' T' v' H' q (f1.trans f) r rh'⟩, hx⟩
theorem de_lst {es : List Expr} {n : Nat} {ts : TDA} {m : Bool} {pos : Pos} (hs : DA X es n ts) (hn : n ≤ 1000) : DE X (.List es pos) (fun de T Q E => ts de T (fun ds T1 => newL m ds T1 Q) E) := fun W tk =>
  PE_wk (pe_lst (hs W tk)) fun σ H Q ⟨Z, de, T, Qd, E, re, rh, ht, hq, hx⟩ =>
    ⟨Z, de, T, _, E, re, rh, ht, fun xs T1 vs H1 h1 l1 f1 r1 rh1 => ⟨by rw [r1.length, l1]; exact line1000 hn, fun p hp => newL_ok (Qd := Qd) rh1 r1 hp h1 fun d' T' v' H' q f r rh' => hq d' T' v' H' q (f1.trans f) r rh'⟩, hx⟩
theorem de_fn {f : Bfn} {m : Bool} {x : Str} {e : Expr} {es : List Expr} {n : Nat} {ts : TDA} {p pos : Pos} (hs : DA X (e :: es) n ts) (hc : X.calm = true) (hr : Room 0 X.A) (gr : X.A.guards = some []) (hg : Gl X x) (hm : X.mg x = none) (hv : bootBuiltins x = some (bkVal (bfnOf f))) (hp : plainN x = true) (hst : (e :: es).all notStar = true) :
    DE X (.Call (.Name x p) (e :: es) [] pos) (fun de T Q E => ts de T (fun xs T1 => dFn f m xs T1 Q) E) := fun W tk => by
  obtain ⟨p1, p2, p3⟩ := plainN_of hp
  have h1 : notStar e = true ∧ es.all notStar = true := by rw [List.all_cons, Bool.and_eq_true] at hst; exact hst
  have key : PE X (.Call (.Name x p) (e :: es) [] pos) (tCB (lF X (dFn f m)) (lA X W n ts)) := by
    have hf := fn_D (X := X) (m := m) hc hr gr f
    cases eb : bfnOf f with
    | fn id => rw [eb] at hf hv; exact pe_callB hf hg hm hv (hs W tk) p3 p1 (star_cons h1.1) (star_plain h1.2)
    | ty id => rw [eb] at hf hv; exact pe_callTy hf hg hm hv (hs W tk) p3 p1 (star_cons h1.1) (star_plain h1.2)
  exact PE_wk key fun σ H Q ⟨Z, de, T, Qd, E, re, rh, ht, hq, hx⟩ =>
    ⟨Z, de, T, _, E, re, rh, ht, fun xs T1 vs H1 h1 l1 f1 r1 rh1 => ⟨Z, T1, xs, Qd, rh1, r1, h1, fun d' T' v' H' q f r rh' => hq d' T' v' H' q (f1.trans f) r rh'⟩, hx⟩
theorem de_mth0 {k : Mth} {m : Bool} {o : Expr} {to : TDE} {apos cpos : Pos} (hr : Room 0 X.A) (ho : DE X o to) (hb : notCall o = true) (hl : (apos.endLine == cpos.line) = true) :
    DE X (.Call (.Attribute o (mthOf k).2.1 apos) [] [] cpos) (fun de T Q E => to de T (fun x T1 => mthOk k T1 x ∧ dMth k m x [] T1 Q) E) := fun W tk => by
  obtain ⟨s1, s2, s3⟩ := mth_slot k
  exact PE_wk (pe_bm0 s1 s2 s3 (mt_D (m := m) hr k) (ho W tk) (base_plain hb) hl) fun σ H Q ⟨Z, de, T, Qd, E, re, rh, ht, hq, hx⟩ =>
      ⟨Z, de, T, _, E, re, rh, ht, fun x T1 v H1 ⟨h0, h1⟩ f1 r1 rh1 => ⟨mthOk_ty rh1 r1 h0, Z, T1, x, [], Qd, rh1, r1, rfl, h1, fun d' T' v' H' q f r rh' => hq d' T' v' H' q (f1.trans f) r rh'⟩, hx⟩
theorem de_mth {k : Mth} {m : Bool} {o e : Expr} {es : List Expr} {n : Nat} {to : TDE} {ts : TDA} {apos cpos : Pos} (hr : Room 0 X.A) (ho : DE X o to) (hs : DA X (e :: es) n ts) (hb : notCall o = true) (hl : (apos.endLine == cpos.line) = true) (hst : (e :: es).all notStar = true) (hf : (e :: es).length < 20) :
    DE X (.Call (.Attribute o (mthOf k).2.1 apos) (e :: es) [] cpos) (fun de T Q E => to de T (fun x T1 => mthOk k T1 x ∧ ts de T1 (fun xs T2 => dMth k m x xs T2 Q) E) E) := fun W tk => by
  obtain ⟨s1, s2, s3⟩ := mth_slot k
  have h1 : notStar e = true ∧ es.all notStar = true := by rw [List.all_cons, Bool.and_eq_true] at hst; exact hst
  have hfew : ((backTo cpos (starEach (e :: es) X.env)).all (fun x => !x.1) && (backToKw cpos (keywordEach [] X.env)).all (fun x => x.1.isSome)
      && decide ((e :: es).length + ([] : List Keyword).length + (if ([] : List Keyword).isEmpty then 0 else 1) < 30)) = true := by
    rw [star_all hst]
    show (true && true && decide ((e :: es).length + 0 + 0 < 30)) = true
    simp at hf ⊢; omega
  exact PE_wk (pe_bm s1 s2 s3 (mt_D (m := m) hr k) (ho W tk) (hs W tk) (base_plain hb) hfew hl (star_cons h1.1) (star_plain h1.2)) fun σ H Q ⟨Z, de, T, Qd, E, re, rh, ht, hq, hx⟩ =>
      ⟨Z, de, T, _, E, re, rh, ht, fun x T1 v H1 ⟨h0, h1⟩ f1 r1 rh1 => ⟨mthOk_ty rh1 r1 h0, Z, de, T1, _, E, re.fr f1, rh1, h1, fun xs T2 vs H2 h2 l2 f2 r2 rh2 =>
        ⟨Z, T2, x, xs, Qd, rh2, r1.fr f2, r2, h2, fun d' T' v' H' q f r rh' => hq d' T' v' H' q ((f1.trans f2).trans f) r rh'⟩, hx.fr f1⟩, hx⟩
/-! ### a call of a def -/
theorem lSp_of {n : Nat} {g : DSp} {Z : Addr → Prop} {T : DH} {H : Hp} {ds : List D} {vs : List V} {Qd : DQ} {E : EQ} {Q : VK} {W : WX} {σ : L2.St} (hn : ds.length = n) (r : RelDs ((X.K, X.mg), Z) T H ds vs) (rh : RelH ((X.K, X.mg), Z) T H) (h : g ds T Qd E)
    (hq : ThenE X Z T H Qd Q) (hx : ThenX X Z T H E W σ) : lSp X.K X.mg n g vs H Q (WE W σ) := ⟨Z, ds, T, Qd, E, hn, r, rh, h, hq, hx⟩
theorem de_call {k : Nat} {f : Addr} {fd : FuncData} {ps : List Str} {g : DSp} {x : Str} {e : Expr} {es : List Expr} {ts : TDA} {p pos : Pos}
    (F : FnG X.prog X.w X.K X.mg X.base k f fd ps (lSp X.K X.mg ps.length g)) (hr : Room k X.A) (gr : X.A.guards = some []) (hg : Gl X x) (hm : X.mg x = some (.ref f)) (hk : PySem.W.keepIn X.K (.ref f) = true) (hb : Binds X.K fd ps [])
    (ha : DA X (e :: es) ps.length ts) (hp : plainN x = true) (hst : (e :: es).all notStar = true) :
    DE X (.Call (.Name x p) (e :: es) [] pos) (fun de T Q E => ts de T (fun xs T1 => g xs T1 Q E) E) := fun W tk => by
  obtain ⟨p1, p2, p3⟩ := plainN_of hp
  have h1 : notStar e = true ∧ es.all notStar = true := by rw [List.all_cons, Bool.and_eq_true] at hst; exact hst
  refine ⟨fun pins s σ H Q I ⟨Z, de, T, Qd, E, re, rh, ht, hq, hx⟩ => ?_⟩
  refine wpAny_Call_Name_kw (ld_glob I hg hm ?_ p1)
  have args := (ha W tk).run pos pins s σ H (fun vs H1 => lSp X.K X.mg ps.length g vs H1 Q (WE W σ)) I
    ⟨Z, de, T, _, E, re, rh, ht, fun xs T1 vs H1 h1 l1 f1 r1 rh1 => lSp_of l1 r1 rh1 h1 (fun d' T' v' H' q f r rh' => hq d' T' v' H' q (f1.trans f) r rh') (hx.fr f1), hx⟩
  exact PySem.W.callWith_K (h₀ := X.base) I.ok.mod.kin hk (thn args fun us s1 ⟨vs, H1, I1, r1, q1⟩ => ⟨I1.kIn, F.goes hr gr hb tk I1 r1 q1⟩)
    (star_cons h1.1) (star_plain h1.2)
theorem de_call0 {k : Nat} {f : Addr} {fd : FuncData} {g : DSp} {x : Str} {p pos : Pos}
    (F : FnG X.prog X.w X.K X.mg X.base k f fd [] (lSp X.K X.mg 0 g)) (hr : Room k X.A) (gr : X.A.guards = some []) (hg : Gl X x) (hm : X.mg x = some (.ref f)) (hk : PySem.W.keepIn X.K (.ref f) = true) (hb : Binds X.K fd [] []) (hp : plainN x = true) :
    DE X (.Call (.Name x p) [] [] pos) (fun de T Q E => g [] T Q E) := fun W tk => by
  obtain ⟨p1, p2, p3⟩ := plainN_of hp
  refine ⟨fun pins s σ H Q I ⟨Z, de, T, Qd, E, re, rh, ht, hq, hx⟩ => ?_⟩
  refine wpAny_Call_Name_kw (ld_glob I hg hm ?_ p1)
  exact PySem.W.callWith_K0 I.kIn hk (F.goes (us := []) hr gr hb tk I .nil (lSp_of rfl (show RelDs ((X.K, X.mg), Z) T H [] [] from rfl) rh ht hq hx))
/-- keywords -/
def DK (X : Cx) (kws : List Keyword) (n : Nat) (t : TDA) : Prop := ∀ W, Takes X W → PK X kws (lA X W n t)
theorem dk_nil : DK X [] 0 (fun _ T Q _ => Q [] T) := fun W tk => ⟨fun pos pins s σ H Q I ⟨Z, de, T, Qd, E, re, rh, ht, hq, hx⟩ => pk_nil.run pos pins s σ H Q I (hq _ _ _ _ ht rfl .refl rfl rh)⟩
theorem dk_cons {nm : Option Str} {e : Expr} {kpos : Pos} {kws : List Keyword} {n : Nat} {te : TDE} {ts : TDA} (he : DE X e te) (hs : DK X kws n ts) : DK X (⟨nm, e, kpos⟩ :: kws) (n + 1) (fun de T Q E => te de T (fun x T1 => ts de T1 (fun xs T2 => Q (x :: xs) T2) E) E) := fun W tk =>
  ⟨fun pos pins s σ H Q I ⟨Z, de, T, Qd, E, re, rh, ht, hq, hx⟩ => (pk_cons (he W tk) (hs W tk)).run pos pins s σ H Q I
    ⟨Z, de, T, _, E, re, rh, ht, fun x T1 v H1 h1 f1 r1 rh1 => ⟨Z, de, T1, _, E, re.fr f1, rh1, h1, fun xs T2 vs H2 h2 l2 f2 r2 rh2 => hq _ _ _ _ h2 (by simp [l2]) (f1.trans f2) ⟨v, vs, rfl, r1.fr f2, r2⟩ rh2, hx.fr f1⟩, hx⟩⟩
theorem kw_some {env : Env} {pos : Pos} : ∀ {ks : List Str} {kws : List Keyword}, chkKw ks kws = true → (backToKw pos (keywordEach kws env)).all (·.1.isSome) = true ∧ (backToKw pos (keywordEach kws env)).any (·.1.isNone) = false ∧ (backToKw pos (keywordEach kws env)).filterMap (·.1) = ks
  | [], [], _ => ⟨rfl, rfl, rfl⟩
  | [], _ :: _, h => by unfold chkKw at h; cases h
  | _ :: _, [], h => by unfold chkKw at h; cases h
  | k :: ks, ⟨none, _, _⟩ :: r, h => by unfold chkKw at h; cases h
  | k :: ks, ⟨some n, v, p⟩ :: r, h => by
    unfold chkKw at h
    simp only [Bool.and_eq_true, decide_eq_true_eq] at h
    obtain ⟨rfl, h⟩ := h
    obtain ⟨h1, h2, h3⟩ := kw_some (env := env) (pos := pos) h
    refine ⟨?_, ?_, ?_⟩
    · show (true && (backToKw pos (keywordEach r env)).all (·.1.isSome)) = true
      rw [h1]; rfl
    · show (false || (backToKw pos (keywordEach r env)).any (·.1.isNone)) = false
      rw [h2]; rfl
    · show n :: (backToKw pos (keywordEach r env)).filterMap (·.1) = _
      rw [h3]
theorem vals_append {as bs : List V} {us ws : List Value} (h : Vals as us) (g : Vals bs ws) : Vals (as ++ bs) (us ++ ws) := h.append g
theorem arr_rel {K : KZ} {T : DH} {H : Hp} {arr : List (Nat ⊕ Int)} {dv : Int → Value} {xs : List D} {vs : List V} {us : List Value} {m : Nat} (r : RelDs K T H xs vs) (rv : Vals vs us) (hd : ∀ k, RelV (.int k) (dv k)) (hm : us.length = m) (hb : ∀ a ∈ arr, ∀ i, a = .inl i → i < m) :
    ∃ ws : List V, RelDs K T H (arrD arr xs) ws ∧ Vals ws (arrV arr dv us) := by
  induction arr with
  | nil => exact ⟨[], rfl, .nil⟩
  | cons a arr ih =>
    obtain ⟨ws, h1, h2⟩ := ih fun b hb' => hb b (List.mem_cons_of_mem _ hb')
    cases a with
    | inr k => exact ⟨.int k :: ws, ⟨.int k, ws, rfl, rfl, h1⟩, .cons (hd k) h2⟩
    | inl i =>
      have hi : i < us.length := by rw [hm]; exact hb _ List.mem_cons_self i rfl
      have l1 := rv.length
      have l2 := r.length
      obtain ⟨v, e1, r1⟩ := r.get (List.getElem?_eq_getElem (show i < xs.length by omega))
      obtain ⟨u, e2, r2⟩ := rv.get e1
      refine ⟨v :: ws, ⟨v, ws, rfl, ?_, h1⟩, ?_⟩
      · show RelD K T H (xs.getD i .non) v
        rw [List.getD_eq_getElem?_getD, List.getElem?_eq_getElem (show i < xs.length by omega)]; exact r1
      · show Vals (v :: ws) (us.getD i .none :: arrV arr dv us)
        rw [List.getD_eq_getElem?_getD, e2]
        exact .cons r2 h2
theorem cf_tail {k n : Nat} {f : Addr} {fd : FuncData} {ps ks : List Str} {arr : List (Nat ⊕ Int)} {g : DSp} {W : WX}
    (F : FnG X.prog X.w X.K X.mg X.base k f fd ps (lSp X.K X.mg ps.length g)) (hr : Room k X.A) (gr : X.A.guards = some []) (hb : CfOk X.K fd ps n ks arr) (tk : Takes X W)
    {pins : List (Addr × Obj)} {s2 : Shared} {σ : L2.St} {H2 : Hp} {Q : VK} {Z : Addr → Prop} {T2 : DH} {Qd : DQ} {E : EQ} {xs zs : List D} {vs ws : List V} {us us2 : List Value} (I : Inv X pins σ H2 s2) (r1 : RelDs ((X.K, X.mg), Z) T2 H2 xs vs) (v1 : Vals vs us) (l1 : us.length = n) (r2 : RelDs ((X.K, X.mg), Z) T2 H2 zs ws) (v2 : Vals ws us2) (l2 : us2.length = ks.length)
    (rh : RelH ((X.K, X.mg), Z) T2 H2) (h : g (arrD arr (xs ++ zs)) T2 Qd E) (hq : ThenE X Z T2 H2 Qd Q) (hx : ThenX X Z T2 H2 E W σ) : wpAny (model X.prog X.w) X.A (call (.ref f) us (ks.zip us2)) (EP X pins σ Q) X.xe s2 := by
  obtain ⟨al, ab, dv, hdv, bnd⟩ := hb
  obtain ⟨ys, g1, g2⟩ := arr_rel (arr := arr) (dv := dv) (r1.append r2) (v1.append v2) hdv (by rw [List.length_append, l1, l2]) ab
  exact F.goesF hr gr (bnd s2 us us2 I.kIn l1 l2) tk I g2 ⟨Z, _, T2, Qd, E, by unfold arrD; rw [List.length_map, al], g1, rh, h, hq, hx⟩
theorem de_callF {k n : Nat} {f : Addr} {fd : FuncData} {ps ks : List Str} {arr : List (Nat ⊕ Int)} {g : DSp} {x : Str} {e : Expr} {es : List Expr} {kws : List Keyword} {ts tk2 : TDA} {p pos : Pos}
    (F : FnG X.prog X.w X.K X.mg X.base k f fd ps (lSp X.K X.mg ps.length g)) (hr : Room k X.A) (gr : X.A.guards = some []) (hg : Gl X x) (hm : X.mg x = some (.ref f)) (hk : PySem.W.keepIn X.K (.ref f) = true) (hb : CfOk X.K fd ps n ks arr)
    (ha : DA X (e :: es) n ts) (hkw : DK X kws ks.length tk2) (hp : plainN x = true) (hst : (e :: es).all notStar = true) (hks : chkKw ks kws = true) :
    DE X (.Call (.Name x p) (e :: es) kws pos) (fun de T Q E => ts de T (fun xs T1 => tk2 de T1 (fun ws T2 => g (arrD arr (xs ++ ws)) T2 Q E) E) E) := fun W tk => by
  obtain ⟨p1, p2, p3⟩ := plainN_of hp
  obtain ⟨q1, q2, q3⟩ := kw_some (env := X.env) (pos := pos) hks
  refine ⟨fun pins s σ H Q I ⟨Z, de, T, Qd, E, re, rh, ht, hq, hx⟩ => ?_⟩
  refine wpAny_Call_Name_kw (ld_glob I hg hm ?_ p1)
  have h1 : notStar e = true ∧ es.all notStar = true := by rw [List.all_cons, Bool.and_eq_true] at hst; exact hst
  have args := (ha W tk).run pos pins s σ H (fun vs H1 => ∃ Z de T1 xs Qd E, RelEnv ((X.K, X.mg), Z) T1 H1 de σ ∧ RelH ((X.K, X.mg), Z) T1 H1 ∧ RelDs ((X.K, X.mg), Z) T1 H1 xs vs ∧ xs.length = n ∧ tk2 de T1 (fun ws T2 => g (arrD arr (xs ++ ws)) T2 Qd E) E ∧ ThenE X Z T1 H1 Qd Q ∧ ThenX X Z T1 H1 E W σ) I
    ⟨Z, de, T, _, E, re, rh, ht, fun xs T1 vs H1 h1 l1 f1 r1 rh1 => ⟨Z, de, T1, xs, Qd, E, re.fr f1, rh1, r1, l1, h1, fun d' T' v' H' q f r rh' => hq d' T' v' H' q (f1.trans f) r rh', hx.fr f1⟩, hx⟩
  refine PySem.W.callWith_KW (h₀ := X.base) I.ok.mod.kin hk q1 (thn args fun us s1 ⟨vs, H1, I1, r1, Z1, de1, T1, xs, Qd1, E1, re1, rh1, rx, lx, ht1, hq1, hx1⟩ => ?_) (by rw [q2, star_cons h1.1]; show ((false || (backTo pos (starEach es X.env)).any (·.1)) || false) = false; rw [star_plain h1.2]; rfl) (star_cons h1.1)
  refine thn ((hkw W tk).run pos pins s1 σ H1 (fun ws H2 => ∃ T2 zs, Fr T1 H1 T2 H2 ∧ RelH ((X.K, X.mg), Z1) T2 H2 ∧ RelDs ((X.K, X.mg), Z1) T2 H2 zs ws ∧ zs.length = ks.length ∧ g (arrD arr (xs ++ zs)) T2 Qd1 E1) I1
    ⟨Z1, de1, T1, _, E1, re1, rh1, ht1, fun zs T2 ws H2 h2 l2 f2 r2 rh2 => ⟨T2, zs, f2, rh2, r2, l2, h2⟩, hx1⟩) fun us2 s2 ⟨ws, H2, I2, r2, T2, zs, f2, rh2, rz, lz, h2⟩ => ⟨I2.kIn, ?_⟩
  rw [q3]
  exact cf_tail (us := us) F hr gr hb tk I2 (rx.fr f2) r1 (by rw [← r1.length, rx.length, lx]) rz r2 (by rw [← r2.length, rz.length, lz]) rh2 h2 (fun d' T' v' H' q f r rh' => hq1 d' T' v' H' q (f2.trans f) r rh') (hx1.fr f2)
theorem de_callF0 {k : Nat} {f : Addr} {fd : FuncData} {ps ks : List Str} {arr : List (Nat ⊕ Int)} {g : DSp} {x : Str} {kws : List Keyword} {tk2 : TDA} {p pos : Pos}
    (F : FnG X.prog X.w X.K X.mg X.base k f fd ps (lSp X.K X.mg ps.length g)) (hr : Room k X.A) (gr : X.A.guards = some []) (hg : Gl X x) (hm : X.mg x = some (.ref f)) (hk : PySem.W.keepIn X.K (.ref f) = true) (hb : CfOk X.K fd ps 0 ks arr)
    (hkw : DK X kws ks.length tk2) (hp : plainN x = true) (hks : chkKw ks kws = true) :
    DE X (.Call (.Name x p) [] kws pos) (fun de T Q E => tk2 de T (fun ws T2 => g (arrD arr ([] ++ ws)) T2 Q E) E) := fun W tk => by
  obtain ⟨p1, p2, p3⟩ := plainN_of hp
  obtain ⟨q1, q2, q3⟩ := kw_some (env := X.env) (pos := pos) hks
  refine ⟨fun pins s σ H Q I ⟨Z, de, T, Qd, E, re, rh, ht, hq, hx⟩ => ?_⟩
  refine wpAny_Call_Name_kw (ld_glob I hg hm ?_ p1)
  refine PySem.W.callWith_KW0 (h₀ := X.base) I.ok.mod.kin hk q1 ?_ (by rw [q2]; rfl)
  refine thn ((hkw W tk).run pos pins s σ H (fun ws H2 => ∃ T2 zs, Fr T H T2 H2 ∧ RelH ((X.K, X.mg), Z) T2 H2 ∧ RelDs ((X.K, X.mg), Z) T2 H2 zs ws ∧ zs.length = ks.length ∧ g (arrD arr ([] ++ zs)) T2 Qd E) I
    ⟨Z, de, T, _, E, re, rh, ht, fun zs T2 ws H2 h2 l2 f2 r2 rh2 => ⟨T2, zs, f2, rh2, r2, l2, h2⟩, hx⟩) fun us2 s2 ⟨ws, H2, I2, r2, T2, zs, f2, rh2, rz, lz, h2⟩ => ⟨I2.kIn, ?_⟩
  rw [q3]
  exact cf_tail (us := []) F hr gr hb tk I2 (show RelDs ((X.K, X.mg), Z) T2 H2 [] [] from rfl) .nil rfl rz r2 (by rw [← r2.length, rz.length, lz]) rh2 h2 (fun d' T' v' H' q f r rh' => hq d' T' v' H' q (f2.trans f) r rh') (hx.fr f2)
/-! ### truth -/
theorem de_not {a : Expr} {ta : TDE} {pos : Pos} (ha : DE X a ta) : DE X (.UnaryOp .Not a pos) (fun de T Q E => ta de T (fun x T1 => ∃ b, truD T1 x = some b ∧ Q (.bl (!b)) T1) E) := fun W tk =>
  PE_wk (pe_notT (ha W tk)) fun σ H Q ⟨Z, de, T, Qd, E, re, rh, ht, hq, hx⟩ =>
    ⟨Z, de, T, _, E, re, rh, ht, fun x T1 v H1 ⟨b, h1, h2⟩ f1 r1 rh1 => ⟨b, tru_rel rh1 r1 h1, hq _ _ _ _ h2 f1 rfl rh1⟩, hx⟩
theorem de_neg {a : Expr} {ta : TDE} {pos : Pos} (ha : DE X a ta) : DE X (.UnaryOp .USub a pos) (fun de T Q E => ta de T (fun x T1 => dNeg x T1 Q) E) := fun W tk =>
  PE_wk (pe_un un_D (ha W tk)) fun σ H Q ⟨Z, de, T, Qd, E, re, rh, ht, hq, hx⟩ =>
    ⟨Z, de, T, _, E, re, rh, ht, fun x T1 v H1 h1 f1 r1 rh1 => ⟨Z, T1, x, Qd, rh1, r1, h1, fun d' T' v' H' q f r rh' => hq d' T' v' H' q (f1.trans f) r rh'⟩, hx⟩
theorem de_and {a b : Expr} {rest : List Expr} {ta tb : TDE} {pos : Pos} (ha : DE X a ta) (hb : DE X (.BoolOp .And (b :: rest) pos) tb) :
    DE X (.BoolOp .And (a :: b :: rest) pos) (fun de T Q E => ta de T (fun x T1 => ∃ k, truD T1 x = some k ∧ if k = true then tb de T1 Q E else Q x T1) E) := fun W tk =>
  PE_wk (pe_andT (ha W tk) (hb W tk)) fun σ H Q ⟨Z, de, T, Qd, E, re, rh, ht, hq, hx⟩ =>
    ⟨Z, de, T, _, E, re, rh, ht, fun x T1 v H1 ⟨k, h1, h2⟩ f1 r1 rh1 => ⟨k, tru_rel rh1 r1 h1, by
      cases k with
      | false => exact hq _ _ _ _ h2 f1 r1 rh1
      | true => exact ⟨Z, de, T1, Qd, E, re.fr f1, rh1, h2, fun d' T' v' H' q f r rh' => hq d' T' v' H' q (f1.trans f) r rh', hx.fr f1⟩⟩, hx⟩
theorem de_or {a b : Expr} {rest : List Expr} {ta tb : TDE} {pos : Pos} (ha : DE X a ta) (hb : DE X (.BoolOp .Or (b :: rest) pos) tb) :
    DE X (.BoolOp .Or (a :: b :: rest) pos) (fun de T Q E => ta de T (fun x T1 => ∃ k, truD T1 x = some k ∧ if k = true then Q x T1 else tb de T1 Q E) E) := fun W tk =>
  PE_wk (pe_orT (ha W tk) (hb W tk)) fun σ H Q ⟨Z, de, T, Qd, E, re, rh, ht, hq, hx⟩ =>
    ⟨Z, de, T, _, E, re, rh, ht, fun x T1 v H1 ⟨k, h1, h2⟩ f1 r1 rh1 => ⟨k, tru_rel rh1 r1 h1, by
      cases k with
      | true => exact hq _ _ _ _ h2 f1 r1 rh1
      | false => exact ⟨Z, de, T1, Qd, E, re.fr f1, rh1, h2, fun d' T' v' H' q f r rh' => hq d' T' v' H' q (f1.trans f) r rh', hx.fr f1⟩⟩, hx⟩
theorem de_one {op} {a : Expr} {ta : TDE} {pos : Pos} (ha : DE X a ta) : DE X (.BoolOp op [a] pos) ta := fun W tk => pe_one (ha W tk)
theorem dt_not {a : Expr} {ta : TDT} {pos : Pos} (ha : DT2 X a ta) : DT2 X (.UnaryOp .Not a pos) (fun de T Q E => ta de T (fun b T1 => Q (!b) T1) E) := dt_of (fun W tk =>
  PT_wk (pt_not (ha W tk).1) fun σ H Q ⟨Z, de, T, Qd, E, re, rh, ht, hq, hx⟩ => ⟨Z, de, T, _, E, re, rh, ht, fun b T1 H1 h1 f1 rh1 => hq _ _ _ h1 f1 rh1, hx⟩) fun _ _ _ q => nomatch q
theorem dt_tv {a : Expr} {ta : TDE} (ha : DE X a ta) (hv : tvB a = true) : DT2 X a (fun de T Q E => ta de T (fun x T1 => ∃ b, truD T1 x = some b ∧ Q b T1) E) := dt_of (fun W tk =>
  PT_wk (pt_truth (ha W tk) (tv_plain hv)) fun σ H Q ⟨Z, de, T, Qd, E, re, rh, ht, hq, hx⟩ => ⟨Z, de, T, _, E, re, rh, ht, fun x T1 v H1 ⟨b, h1, h2⟩ f1 r1 rh1 => ⟨b, tru_rel rh1 r1 h1, hq _ _ _ h2 f1 rh1⟩, hx⟩)
  fun op vs pos q => by subst q; cases hv
theorem PW_wk {e : Expr} {t t' : TT} (h : PW X e t) (w : ∀ σ H Q, t' σ H Q → t σ H Q) : PW X e t' := ⟨fun wh pins s σ H Q I q => h.run wh pins s σ H Q I (w σ H Q q)⟩
theorem dt_and {a b : Expr} {rest : List Expr} {ta tb : TDT} {pos : Pos} (ha : DT2 X a ta) (hb : ∀ W, Takes X W → PW X (.BoolOp .And (b :: rest) pos) (lT X W tb)) :
    DT2 X (.BoolOp .And (a :: b :: rest) pos) (fun de T Q E => ta de T (fun k T1 => if k = true then tb de T1 Q E else Q false T1) E) := fun W tk => by
  have key : PW X (.BoolOp .And (a :: b :: rest) pos) (lT X W (fun de T Q E => ta de T (fun k T1 => if k = true then tb de T1 Q E else Q false T1) E)) :=
    PW_wk (pw_and (ha W tk).1 (hb W tk)) fun σ H Q ⟨Z, de, T, Qd, E, re, rh, ht, hq, hx⟩ => ⟨Z, de, T, _, E, re, rh, ht, fun k T1 H1 h1 f1 rh1 => by
      cases k with
      | false => exact hq _ _ _ h1 f1 rh1
      | true => exact ⟨Z, de, T1, Qd, E, re.fr f1, rh1, h1, fun d' T' H' q f rh' => hq d' T' H' q (f1.trans f) rh', hx.fr f1⟩, hx⟩
  exact ⟨key.pt, fun _ _ _ _ => key⟩
theorem dt_or {a b : Expr} {rest : List Expr} {ta tb : TDT} {pos : Pos} (ha : DT2 X a ta) (hb : ∀ W, Takes X W → PW X (.BoolOp .Or (b :: rest) pos) (lT X W tb)) :
    DT2 X (.BoolOp .Or (a :: b :: rest) pos) (fun de T Q E => ta de T (fun k T1 => if k = true then Q true T1 else tb de T1 Q E) E) := fun W tk => by
  have key : PW X (.BoolOp .Or (a :: b :: rest) pos) (lT X W (fun de T Q E => ta de T (fun k T1 => if k = true then Q true T1 else tb de T1 Q E) E)) :=
    PW_wk (pw_or (ha W tk).1 (hb W tk)) fun σ H Q ⟨Z, de, T, Qd, E, re, rh, ht, hq, hx⟩ => ⟨Z, de, T, _, E, re, rh, ht, fun k T1 H1 h1 f1 rh1 => by
      cases k with
      | true => exact hq _ _ _ h1 f1 rh1
      | false => exact ⟨Z, de, T1, Qd, E, re.fr f1, rh1, h1, fun d' T' H' q f rh' => hq d' T' H' q (f1.trans f) rh', hx.fr f1⟩, hx⟩
  exact ⟨key.pt, fun _ _ _ _ => key⟩
theorem de_ife {c a b : Expr} {tc : TDT} {ta tb : TDE} {pos : Pos} (hc : DT2 X c tc) (ha : DE X a ta) (hb : DE X b tb) : DE X (.IfExp c a b pos) (fun de T Q E => tc de T (fun k T1 => if k = true then ta de T1 Q E else tb de T1 Q E) E) := fun W tk =>
  PE_wk (pe_ifExp (hc W tk).1 (ha W tk) (hb W tk)) fun σ H Q ⟨Z, de, T, Qd, E, re, rh, ht, hq, hx⟩ => ⟨Z, de, T, _, E, re, rh, ht, fun k T1 H1 h1 f1 rh1 => by
      have q2 : ThenE X Z T1 H1 Qd Q := fun d' T' v' H' q f r rh' => hq d' T' v' H' q (f1.trans f) r rh'
      cases k with
      | true => exact ⟨Z, de, T1, Qd, E, re.fr f1, rh1, h1, q2, hx.fr f1⟩
      | false => exact ⟨Z, de, T1, Qd, E, re.fr f1, rh1, h1, q2, hx.fr f1⟩, hx⟩
theorem de_ix {a i : Expr} {ta ti : TDE} {pos : Pos} (hr : Room 0 X.A) (ha : DE X a ta) (hi : DE X i ti) (hs : notSl i = true) : DE X (.Subscript a i pos) (fun de T Q E => ta de T (fun x T1 => ti de T1 (fun y T2 => dIx x y T2 Q) E) E) := fun W tk =>
  PE_wk (pe_ix (ix_D hr) (ha W tk) (hi W tk) (sub_plain hs)) fun σ H Q ⟨Z, de, T, Qd, E, re, rh, ht, hq, hx⟩ =>
    ⟨Z, de, T, _, E, re, rh, ht, fun x T1 v H1 h1 f1 r1 rh1 => ⟨Z, de, T1, _, E, re.fr f1, rh1, h1, fun y T2 w H2 h2 f2 r2 rh2 =>
      ⟨Z, T2, x, y, Qd, rh2, r1.fr f2, r2, h2, fun d' T' v' H' q f r rh' => hq d' T' v' H' q ((f1.trans f2).trans f) r rh'⟩, hx.fr f1⟩, hx⟩
def lO (X : Cx) (W : WX) (t : DEnv → DH → (Option Int → DH → Prop) → EQ → Prop) : TO := fun σ H Q => ∃ Z de T Qd E, RelEnv ((X.K, X.mg), Z) T H de σ ∧ RelH ((X.K, X.mg), Z) T H ∧ t de T Qd E ∧ (∀ o T' H', Qd o T' → Fr T H T' H' → RelH ((X.K, X.mg), Z) T' H' → Q o H') ∧ ThenX X Z T H E W σ
def DOp (X : Cx) (o : Option Expr) (t : DEnv → DH → (Option Int → DH → Prop) → EQ → Prop) : Prop := ∀ W, Takes X W → PO X o (lO X W t)
theorem PO_wk {o : Option Expr} {t t' : TO} (h : PO X o t) (w : ∀ σ H Q, t' σ H Q → t σ H Q) : PO X o t' := by
  refine ⟨fun pins s σ H Q I q => ?_⟩
  exact h.run pins s σ H Q I (w σ H Q q)
theorem do_none : DOp X none (fun _ T Q _ => Q none T) := fun W tk => PO_wk po_none fun σ H Q ⟨Z, de, T, Qd, E, re, rh, ht, hq, hx⟩ => hq _ _ _ ht .refl rh
theorem do_some {e : Expr} {te : TDE} (he : DE X e te) : DOp X (some e) (fun de T Q E => te de T (fun x T1 => ∃ i, x = .int i ∧ Q (some i) T1) E) := fun W tk =>
  PO_wk (po_some (he W tk)) fun σ H Q ⟨Z, de, T, Qd, E, re, rh, ht, hq, hx⟩ => ⟨Z, de, T, _, E, re, rh, ht, fun x T1 v H1 ⟨i, e, h1⟩ f1 r1 rh1 => ⟨i, by subst e; exact r1, hq _ _ _ h1 f1 rh1⟩, hx⟩
theorem de_sl {m : Bool} {a : Expr} {lo hi : Option Expr} {ta : TDE} {tl th : DEnv → DH → (Option Int → DH → Prop) → EQ → Prop} {p2 pos : Pos} (ha : DE X a ta) (hl : DOp X lo tl) (hh : DOp X hi th) :
    DE X (.Subscript a (.Slice lo hi none p2) pos) (fun de T Q E => ta de T (fun x T1 => tl de T1 (fun l T2 => th de T2 (fun h T3 => dSl m x l h T3 Q) E) E) E) := fun W tk =>
  PE_wk (pe_slice (sl_D (m := m)) (ha W tk) (hl W tk) (hh W tk)) fun σ H Q ⟨Z, de, T, Qd, E, re, rh, ht, hq, hx⟩ =>
    ⟨Z, de, T, _, E, re, rh, ht, fun x T1 v H1 h1 f1 r1 rh1 => ⟨Z, de, T1, _, E, re.fr f1, rh1, h1, fun l T2 H2 h2 f2 rh2 => ⟨Z, de, T2, _, E, re.fr (f1.trans f2), rh2, h2, fun h T3 H3 h3 f3 rh3 =>
      ⟨Z, T3, x, Qd, rh3, r1.fr (f2.trans f3), h3, fun d' T' v' H' q f r rh' => hq d' T' v' H' q (((f1.trans f2).trans f3).trans f) r rh'⟩, hx.fr (f1.trans f2)⟩, hx.fr f1⟩, hx⟩
theorem de_rev {m : Bool} {a : Expr} {ta : TDE} {k : Nat} {p1 p2 p3 pos : Pos} (ha : DE X a ta) : DE X (.Subscript a (.Slice none none (some (.UnaryOp .USub (.Constant (.int 1) k p1) p2)) p3) pos) (fun de T Q E => ta de T (fun x T1 => dRev m x T1 Q) E) := fun W tk =>
  PE_wk (pe_revB (ha W tk)) fun σ H Q ⟨Z, de, T, Qd, E, re, rh, ht, hq, hx⟩ =>
    ⟨Z, de, T, _, E, re, rh, ht, fun x T1 v H1 h1 f1 r1 rh1 => by
      have q2 : ThenE X Z T1 H1 Qd Q := fun d' T' v' H' q f r rh' => hq d' T' v' H' q (f1.trans f) r rh'
      have h1 : dRev m x T1 Qd := h1
      unfold dRev at h1
      split at h1
      · obtain ⟨a, vs, e, g1, t1, g2⟩ := r1
        exact .inr ⟨a, vs, e, .of g1, fun l hl => newTup_ok rh1 g2.reverse hl h1 q2⟩
      · obtain ⟨ds, h1, h2⟩ := h1
        obtain ⟨p, vs, e, g1, g2⟩ := lst_rel rh1 r1 h1
        exact .inl ⟨p, vs, e, .of g1, fun l hl => newL_ok rh1 g2.reverse hl h2 q2⟩, hx⟩
theorem ty_rel {Z : Addr → Prop} {T : DH} {H : Hp} {d : D} {v : V} {u : Ty} (rh : RelH ((X.K, X.mg), Z) T H) (r : RelD ((X.K, X.mg), Z) T H d v) (h : tyD T d = some u) : tyPlain u = true ∧ ∃ n, TyX X.K H v (.type n) ∧ tyIs u n := by
  cases d <;> simp only [tyD] at h <;> try cases h
  · rw [show v = _ from r]; exact ⟨rfl, _, .base (.bl _), rfl⟩
  · rw [show v = _ from r]; exact ⟨rfl, _, .base (.int _), rfl⟩
  · rw [show v = _ from r]; exact ⟨rfl, _, .base (.str _), rfl⟩
  · obtain ⟨a, vs, e, h1, _⟩ := r; rw [e]; exact ⟨rfl, _, .base (.tup h1), rfl⟩
  · obtain ⟨a, vs, e, h1, _⟩ := r; rw [e]; exact ⟨rfl, _, .base (.lst h1), rfl⟩
  · obtain ⟨a, e, h1, _⟩ := r; rw [e]; exact ⟨rfl, _, .base (.dK h1), rfl⟩
  · rename_i a
    rw [show v = .ref a from r]
    cases e : T a with
    | none => rw [e] at h; cases h
    | some o =>
      rw [e] at h
      cases o <;> cases h
      · obtain ⟨vs, h1, _⟩ := rh.ob a _ e; exact ⟨rfl, _, .base (.lst h1), rfl⟩
      · obtain ⟨vs, h1, _⟩ := rh.ob a _ e; exact ⟨rfl, _, .base (.dK h1), rfl⟩
      · obtain ⟨vs, h1, _⟩ := rh.ob a _ e; exact ⟨rfl, _, .base (.dT h1), rfl⟩
theorem tyStr (t : Ty) (h : tyPlain t = true) : ∃ n, bootBuiltins (tyName t) = some (.type n) ∧ tyIs t n := by
  cases t <;> first | (cases h; done) | exact ⟨_, by decide +kernel, rfl⟩
theorem de_isi {a : Expr} {ta : TDE} {t : Ty} {p p2 pos : Pos} (ha : DE X a ta) (ht : tyPlain t = true) (hg : Gl X "isinstance") (hm : X.mg "isinstance" = none) (hg2 : Gl X (tyName t)) (hm2 : X.mg (tyName t) = none) (hn : notStar a = true) (hpl : plainN (tyName t) = true) :
    DE X (.Call (.Name "isinstance" p) [a, .Name (tyName t) p2] [] pos) (fun de T Q E => ta de T (fun x T1 => dIsi T1 x t Q) E) := fun W tk => by
  obtain ⟨n, hv, en⟩ := tyStr t ht
  obtain ⟨q1, q2, q3⟩ := plainN_of hpl
  have key : PE X (.Call (.Name "isinstance" p) [a, .Name (tyName t) p2] [] pos) (tCB (rIsi X.K) (tCons (lE X W ta) (tCons (tC (.ty n)) tNil))) :=
    pe_callB call_isi hg hm (by decide +kernel) (pa_cons (ha W tk) (pa_cons (pe_bltn hg2 hm2 hv rfl q3 q1) pa_nil) (star_cons hn)) (by decide) (by decide) (star_cons hn) (star_plain (by rfl))
  exact PE_wk key fun σ H Q ⟨Z, de, T, Qd, E, re, rh, hT, hq, hx⟩ => ⟨Z, de, T, _, E, re, rh, hT, fun x T1 v H1 h1 f1 r1 rh1 => by
    show rIsi X.K [v, .ty n] H1 Q
    have h1 : dIsi T1 x t Qd := h1
    unfold dIsi at h1
    split at h1
    · refine ⟨v, .ty n, .type "NoneType", .type n, false, rfl, .ty n, ?_, kit_ty (kit_non t ht n en), hq _ _ _ _ h1 f1 rfl rh1⟩
      rw [show v = .non from r1]; exact .base .non
    · obtain ⟨u, h2, h3⟩ := h1
      obtain ⟨pu, n', h4, h5⟩ := ty_rel rh1 r1 h2
      exact ⟨v, .ty n, .type n', .type n, _, rfl, .ty n, h4, kit_ty (kit_tyB u t pu ht n' n h5 en), hq _ _ _ _ h3 f1 rfl rh1⟩, hx⟩
/-- {k: v} -/
theorem de_dic {k v : Expr} {tk tv : TDE} {pos : Pos} (hk : DE X k tk) (hv : DE X v tv) :
    DE X (.Dict [some k] [v] pos) (fun de T Q E => tk de T (fun x T1 => tv de T1 (fun y T2 => ∃ j, keyD x = some j ∧ ∀ p, T2 p = none → Q (.ref p) (updD T2 p (.dK [(j, y)]))) E) E) := fun W tw =>
  PE_wk (pe_disp (pps_cons (hk W tw) (hv W tw) pps_nil) rfl rfl (by simp) (by show 1 ≤ 15; decide)) fun σ H Q ⟨Z, de, T, Qd, E, re, rh, ht, hq, hx⟩ p hp => by
    have bet : ∀ d v, RelD ((X.K, X.mg), Z) T H d v → RelD ((X.K, X.mg), fun a => Z a ∨ a = p) T (upd H p (.dK [])) d v := fun d v r => RelD.stir (K := ((X.K, X.mg), Z)) (RelD.hide (K := ((X.K, X.mg), Z)) hp r)
    have nz : ¬ Z p := rh.nothid hp
    have rh1 : RelH ((X.K, X.mg), fun a => Z a ∨ a = p) T (upd H p (.dK [])) := rh.newHid hp
    have hp1 : upd H p (.dK []) p = some (.dK []) := upd_same
    have frB : ∀ {T2 : DH} {H2 : Hp}, Fr T (upd H p (.dK [])) T2 H2 → Fr T H T2 H2 := fun f a o e t => by
      have n := ne_of_none e hp
      exact f a o (by rw [upd_ne n]; exact e) t
    have exB : ∀ {T1 : DH} {H1 : Hp}, Fr T (upd H p (.dK [])) T1 H1 → ThenX X (fun a => Z a ∨ a = p) T1 H1 E W σ := fun f x T' cls dd H' e g r rx =>
      hx x T' cls dd H' e (frB (f.trans g)) (RelH.show (K := ((X.K, X.mg), Z)) r) (by
        obtain ⟨C, r0, r1, r2⟩ := rx
        refine ⟨C, r0, r1, r2.imp (fun z => z) fun ⟨a, ws, e1, e2, e3, e4⟩ => ⟨a, ws, e1, e2, ⟨e3.1, fun z => e3.2 (.inl z)⟩, RelKs.show (K := ((X.K, X.mg), Z)) e4⟩⟩)
    refine ⟨fun a => Z a ∨ a = p, de, T, _, E, re.map bet, rh1, ht, fun x T1 v1 H1 h1 f1 r1 rh2 => ?_, exB .refl⟩
    refine ⟨fun a => Z a ∨ a = p, de, T1, _, E, (re.map bet).fr f1, rh2, h1, fun y T2 v2 H2 ⟨j, ej, hj⟩ f2 r2 rh3 => ?_, exB f1⟩
    have hp2 := ((f1.trans f2) p _ hp1 (rh1.hid p (.inr rfl)).2 nofun).1
    have tp := (rh3.hid p (.inr rfl)).2
    refine ⟨hp2, [(j, v2)], ?_, by show 1 ≤ 15; decide, ?_⟩
    · rw [List.map_cons, List.map_nil, key_rel r1 ej]
    have rh4 : RelH ((X.K, X.mg), fun a => Z a ∨ a = p) T2 (upd H2 p (.dK [(j, v2)])) := RelH.stir (K := ((X.K, X.mg), Z)) rh3
    have r4 : RelD ((X.K, X.mg), fun a => Z a ∨ a = p) T2 (upd H2 p (.dK [(j, v2)])) y v2 := RelD.stir (K := ((X.K, X.mg), Z)) r2
    refine hq _ _ _ _ (hj p tp) (fun a o e t nt => ?_) rfl (RelH.adopt (K := ((X.K, X.mg), Z)) rh4 nz ⟨_, upd_same, v2, [], rfl, RelD.adopt (K := ((X.K, X.mg), Z)) r4, rfl⟩)
    have n := ne_of_none e hp
    have g := frB (f1.trans f2) a o e t nt
    exact ⟨by rw [show mergeK [] [(j, v2)] = [(j, v2)] from rfl, upd_ne n]; exact g.1, by rw [updD_ne n]; exact g.2⟩
/-! {k: v, ..} -/
def chainE : List TDE → TDA
  | [], _, T, Q, _ => Q [] T
  | t :: ts, de, T, Q, E => t de T (fun x T1 => chainE ts de T1 (fun xs T2 => Q (x :: xs) T2) E) E
inductive DEl (X : Cx) : List Expr → List TDE → Prop
  | nil : DEl X [] []
  | cons {e : Expr} {t : TDE} {es : List Expr} {ts : List TDE} : DE X e t → DEl X es ts → DEl X (e :: es) (t :: ts)
theorem pps_of {W : WX} (tk : Takes X W) {pos : Pos} : ∀ {ks : List Key} {kx : List (Option Expr)} {es : List Expr} {ts : List TDE}, chkKs ks kx = true → ks.length = ts.length → DEl X es ts → PPs X pos kx es ((ks.zip ts).map fun kt => (tC (kV kt.1), lE X W kt.2))
  | [], [], [], [], _, _, .nil => pps_nil
  | k :: ks, some kx :: kxs, e :: es, t :: ts, h, hl, .cons h1 h2 => by
    unfold chkKs at h
    rw [Bool.and_eq_true] at h
    refine pps_cons ?_ (h1 W tk) (pps_of tk h.2 (by simpa using hl) h2)
    have hk := h.1
    unfold chkK at hk
    split at hk
    · rename_i e1; cases e1; obtain rfl := of_decide_eq_true hk; exact pe_int
    · rename_i e1; cases e1; obtain rfl := of_decide_eq_true hk; exact pe_str
    · cases hk
  | [], _ :: _, _, _, h, _, _ => by unfold chkKs at h; cases h
  | _ :: _, [], _, _, h, _, _ => by unfold chkKs at h; cases h
  | k :: ks, none :: kxs, _, _, h, _, _ => by unfold chkKs chkK at h; cases k <;> simp at h
  | [], [], _ :: _, _ :: _, _, hl, _ => by simp at hl
  | _ :: _, _ :: _, [], [], _, hl, _ => by simp at hl
theorem tp_of {Z' : Addr → Prop} {W : WX} {σ : L2.St} : ∀ (ks : List Key) (ts : List TDE), ks.length = ts.length → ∀ {de : DEnv} {T : DH} {H : Hp} {Qd : List D → DH → Prop} {E : EQ} {R : List (V × V) → Hp → Prop}, RelEnv ((X.K, X.mg), Z') T H de σ → RelH ((X.K, X.mg), Z') T H → chainE ts de T Qd E →
    (∀ ds T' vs H', Qd ds T' → ds.length = ts.length → Fr T H T' H' → RelDs ((X.K, X.mg), Z') T' H' ds vs → RelH ((X.K, X.mg), Z') T' H' → R ((ks.zip vs).map fun kv => (kV kv.1, kv.2)) H') → ThenX X Z' T H E W σ →
    tPairs ((ks.zip ts).map fun kt => (tC (kV kt.1), lE X W kt.2)) σ H R
  | [], [], _, _, T, H, _, _, R, re, rh, h, q, hx => q [] T [] H h rfl .refl rfl rh
  | k :: ks, t :: ts, hl, de, T, H, Qd, E, R, re, rh, h, q, hx => by
    show lE X W t σ H _
    refine ⟨Z', de, T, _, E, re, rh, h, fun x T1 v H1 h1 f1 r1 rh1 => ?_, hx⟩
    refine tp_of ks ts (by simpa using hl) (re.fr f1) rh1 h1 (fun ds T' vs H' h2 l2 f2 r2 rh2 => ?_) (hx.fr f1)
    exact q (x :: ds) T' (v :: vs) H' h2 (by simp [l2]) (f1.trans f2) ⟨v, vs, rfl, r1.fr f2, r2⟩ rh2
theorem merge_rel {Z : Addr → Prop} {T : DH} {H : Hp} : ∀ (ks : List Key) (ds : List D) {vs : List V} {kvs : List (Key × D)} {ws : List (Key × V)}, RelDs ((X.K, X.mg), Z) T H ds vs → RelKs ((X.K, X.mg), Z) T H kvs ws →
    RelKs ((X.K, X.mg), Z) T H ((ks.zip ds).foldl (fun acc kv => putKD acc kv.1 kv.2) kvs) (mergeK ws (ks.zip vs))
  | [], _, _, _, _, _, g => by simpa [mergeK] using g
  | _ :: _, [], _, _, _, r, g => by
    have e : _ = [] := r
    subst e
    simpa [mergeK] using g
  | k :: ks, d :: ds, _, kvs, ws, r, g => by
    obtain ⟨v, r', e, r1, r2⟩ := r
    subst e
    exact merge_rel ks ds (kvs := putKD kvs k d) (ws := putK ws k v) r2 (putK_rel r1 g)
theorem de_dsp {ks : List Key} {kx : List (Option Expr)} {es : List Expr} {ts : List TDE} {pos : Pos} (hk : chkKs ks kx = true) (h0 : kx ≠ []) (hl : ks.length = ts.length) (h15 : ks.length ≤ 15) (hs : DEl X es ts) :
    DE X (.Dict kx es pos) (fun de T Q E => chainE ts de T (fun ds T1 => ∀ p, T1 p = none → Q (.ref p) (updD T1 p (.dK (dspD ks ds)))) E) := fun W tw => by
  have hkl : ∀ {ks : List Key} {kx : List (Option Expr)}, chkKs ks kx = true → kx.length = ks.length ∧ kx.all (·.isSome) = true := by
    intro ks
    induction ks with
    | nil =>
      intro kx h
      cases kx with
      | nil => exact ⟨rfl, rfl⟩
      | cons _ _ => unfold chkKs at h; cases h
    | cons k ks ih =>
      intro kx h
      cases kx with
      | nil => unfold chkKs at h; cases h
      | cons e kx =>
        unfold chkKs at h
        rw [Bool.and_eq_true] at h
        obtain ⟨h1, h2⟩ := ih h.2
        refine ⟨by simp [h1], ?_⟩
        rw [List.all_cons, h2]
        cases e with
        | none => have h3 := h.1; unfold chkK at h3; cases k <;> simp at h3
        | some _ => rfl
  have hel : ∀ {es : List Expr} {ts : List TDE}, DEl X es ts → es.length = ts.length := by
    intro es ts h
    induction h with
    | nil => rfl
    | cons _ _ ih => simp [ih]
  obtain ⟨k1, k2⟩ := hkl hk
  refine PE_wk (pe_disp (pps_of tw hk hl hs) k2 (by rw [k1, hl, hel hs]) h0 (by rw [k1]; exact h15)) fun σ H Q ⟨Z, de, T, Qd, E, re, rh, ht, hq, hx⟩ p hp => ?_
  have bet : ∀ d v, RelD ((X.K, X.mg), Z) T H d v → RelD ((X.K, X.mg), fun a => Z a ∨ a = p) T (upd H p (.dK [])) d v := fun d v r => RelD.stir (K := ((X.K, X.mg), Z)) (RelD.hide (K := ((X.K, X.mg), Z)) hp r)
  have nz : ¬ Z p := rh.nothid hp
  have rh1 : RelH ((X.K, X.mg), fun a => Z a ∨ a = p) T (upd H p (.dK [])) := rh.newHid hp
  have hp1 : upd H p (.dK []) p = some (.dK []) := upd_same
  have frB : ∀ {T2 : DH} {H2 : Hp}, Fr T (upd H p (.dK [])) T2 H2 → Fr T H T2 H2 := fun f a o e t => by
    have n := ne_of_none e hp
    exact f a o (by rw [upd_ne n]; exact e) t
  have exB : ∀ {T1 : DH} {H1 : Hp}, Fr T (upd H p (.dK [])) T1 H1 → ThenX X (fun a => Z a ∨ a = p) T1 H1 E W σ := fun f x T' cls dd H' e g r rx =>
    hx x T' cls dd H' e (frB (f.trans g)) (RelH.show (K := ((X.K, X.mg), Z)) r) (by
      obtain ⟨C, r0, r1, r2⟩ := rx
      refine ⟨C, r0, r1, r2.imp (fun z => z) fun ⟨a, ws, e1, e2, e3, e4⟩ => ⟨a, ws, e1, e2, ⟨e3.1, fun z => e3.2 (.inl z)⟩, RelKs.show (K := ((X.K, X.mg), Z)) e4⟩⟩)
  refine tp_of ks ts hl (re.map bet) rh1 ht (fun ds T2 vs H2 hj lj f2 r2 rh3 => ?_) (exB .refl)
  have hp2 := (f2 p _ hp1 (rh1.hid p (.inr rfl)).2 nofun).1
  have tp := (rh3.hid p (.inr rfl)).2
  refine ⟨hp2, ks.zip vs, rfl, by rw [List.length_zip]; omega, ?_⟩
  have rh4 : RelH ((X.K, X.mg), fun a => Z a ∨ a = p) T2 (upd H2 p (.dK (mergeK [] (ks.zip vs)))) := RelH.stir (K := ((X.K, X.mg), Z)) rh3
  have r4 : RelDs ((X.K, X.mg), fun a => Z a ∨ a = p) T2 (upd H2 p (.dK (mergeK [] (ks.zip vs)))) ds vs := RelDs.stir (K := ((X.K, X.mg), Z)) r2
  refine hq _ _ _ _ (hj p tp) (fun a o e t nt => ?_) rfl (RelH.adopt (K := ((X.K, X.mg), Z)) rh4 nz ⟨_, upd_same, merge_rel ks ds (RelDs.adopt (K := ((X.K, X.mg), Z)) r4) rfl⟩)
  have n := ne_of_none e hp
  have g := frB f2 a o e t nt
  exact ⟨by rw [upd_ne n]; exact g.1, by rw [updD_ne n]; exact g.2⟩
/-! x in range(a, b) -/
theorem pe_rng2 {a b : Expr} {ta tb : TE} {p pos : Pos} (hg : Gl X "range") (hm : X.mg "range" = none) (ha : PE X a ta) (hb : PE X b tb) (sa : notStar a = true) (sb : notStar b = true) :
    PE X (.Call (.Name "range" p) [a, b] [] pos) (tCB (fun vs H Q => ∃ i j, vs = [V.int i, V.int j] ∧ ∀ p, H p = none → Q (.ref p) (upd H p (.rng i j))) (tCons ta (tCons tb tNil))) :=
  pe_callTy cr_range2 hg hm (by decide +kernel) (pa_cons ha (pa_cons hb pa_nil (star_cons sb)) (star_cons sa)) (by decide) (by decide) (star_cons sa) (by rw [star_cons sb]; rfl)
theorem inr_rel {W : WX} {tx ta tb : TDE} {Qb : Bool → DH → Prop} {Z : Addr → Prop} {de : DEnv} {T : DH} {H : Hp} {E : EQ} {σ : L2.St} {Q : VK}
    (re : RelEnv ((X.K, X.mg), Z) T H de σ) (rh : RelH ((X.K, X.mg), Z) T H) (ht : tx de T (fun x T1 => ta de T1 (fun y T2 => tb de T2 (fun z T3 => dInr x y z fun k => Qb k T3) E) E) E)
    (hq : ∀ k T' H', Qb k T' → Fr T H T' H' → RelH ((X.K, X.mg), Z) T' H' → Q (.bl k) H') (hx : ThenX X Z T H E W σ) :
    lE X W tx σ H fun u H1 => tCB (fun vs H Q => ∃ i j, vs = [V.int i, V.int j] ∧ ∀ p, H p = none → Q (.ref p) (upd H p (.rng i j))) (tCons (lE X W ta) (tCons (lE X W tb) tNil)) σ H1 fun v H2 => ∃ i a lo hi, u = V.int i ∧ v = V.ref a ∧ H2 a = some (.rng lo hi) ∧ Q (.bl (decide (lo ≤ i ∧ i < hi))) H2 := by
  refine ⟨Z, de, T, _, E, re, rh, ht, fun dx T1 u H1 h1 f1 r1 rh1 => ?_, hx⟩
  refine ⟨Z, de, T1, _, E, re.fr f1, rh1, h1, fun dy T2 v H2 h2 f2 r2 rh2 => ?_, hx.fr f1⟩
  refine ⟨Z, de, T2, _, E, re.fr (f1.trans f2), rh2, h2, fun dz T3 w H3 h3 f3 r3 rh3 => ?_, hx.fr (f1.trans f2)⟩
  have h3 : dInr dx dy dz fun k => Qb k T3 := h3
  unfold dInr at h3
  split at h3
  · rw [show u = .int _ from r1]
    refine ⟨_, _, by rw [show v = .int _ from r2, show w = .int _ from r3], fun p hp => ⟨_, p, _, _, rfl, rfl, upd_same, ?_⟩⟩
    exact hq _ _ _ h3 (((f1.trans f2).trans f3).trans (fr_new hp)) (rh3.new hp)
  · exact h3.elim
theorem de_inr {x a b : Expr} {tx ta tb : TDE} {p q pos : Pos} (hg : Gl X "range") (hm : X.mg "range" = none) (hx : DE X x tx) (ha : DE X a ta) (hb : DE X b tb) (sa : notStar a = true) (sb : notStar b = true) :
    DE X (.Compare x [.In] [.Call (.Name "range" p) [a, b] [] q] pos) (fun de T Q E => tx de T (fun x T1 => ta de T1 (fun y T2 => tb de T2 (fun z T3 => dInr x y z fun k => Q (.bl k) T3) E) E) E) := fun W tk =>
  PE_wk (pe_cmpR op_in_rng (hx W tk) (pe_rng2 hg hm (ha W tk) (hb W tk) sa sb) rfl) fun σ H Q ⟨Z, de, T, Qd, E, re, rh, ht, hq, hx⟩ =>
    inr_rel (Qb := fun k T => Qd (.bl k) T) re rh ht (fun k T' H' h f rh' => hq _ _ _ _ h f rfl rh') hx
theorem dt_inr {x a b : Expr} {tx ta tb : TDE} {p q pos : Pos} (hg : Gl X "range") (hm : X.mg "range" = none) (hx : DE X x tx) (ha : DE X a ta) (hb : DE X b tb) (sa : notStar a = true) (sb : notStar b = true) :
    DT2 X (.Compare x [.In] [.Call (.Name "range" p) [a, b] [] q] pos) (fun de T Q E => tx de T (fun x T1 => ta de T1 (fun y T2 => tb de T2 (fun z T3 => dInr x y z fun k => Q k T3) E) E) E) := dt_of (fun W tk =>
  PT_wk (pt_cmpR op_in_rng (hx W tk) (pe_rng2 hg hm (ha W tk) (hb W tk) sa sb) rfl) fun σ H Q ⟨Z, de, T, Qd, E, re, rh, ht, hq, hx⟩ =>
    inr_rel (Q := fun v H' => ∃ k, v = .bl k ∧ Q k H') re rh ht (fun k T' H' h f rh' => ⟨k, rfl, hq _ _ _ h f rh'⟩) hx) fun _ _ _ q => nomatch q
theorem rg_rel {Z : Addr → Prop} {T : DH} {H : Hp} {a b : Int} : RelDs ((X.K, X.mg), Z) T H ((intsFrom a b).map .int) (rgV a b) := by
  have e : rgV a b = (intsFrom a b).map V.int := by unfold rgV intsFrom; rw [List.map_map]; rfl
  rw [e]; exact .ofInts _
/-- the end of list(range), tuple(range) -/
theorem rg_ends {t m : Bool} {Z : Addr → Prop} {T : DH} {H : Hp} {a b : Int} {Qd : DQ} {Q : VK} (rh : RelH ((X.K, X.mg), Z) T H) (h : rgD t m a b T Qd) (hq : ThenE X Z T H Qd Q) :
    ∀ q, H q = none → Q (.ref q) (upd H q (if t = true then .tup (rgV a b) else .lst (rgV a b))) := by
  intro q hn
  cases t with
  | true => exact newTup_ok rh rg_rel hn h hq
  | false => exact newL_ok rh rg_rel hn h hq
theorem de_rgl1 {t m : Bool} {x : Str} {z : Expr} {tz : TDE} {p p1 pos1 pos : Pos} (hc : X.calm = true) (hx : x = if t = true then "tuple" else "list") (hg : Gl X x) (hm : X.mg x = none) (hr : Gl X "range") (hr2 : X.mg "range" = none) (hz : DE X z tz) (sz : notStar z = true) :
    DE X (.Call (.Name x p) [.Call (.Name "range" p1) [z] [] pos1] [] pos) (fun de T Q E => tz de T (fun y T2 => ∃ j, y = .int j ∧ RgOk 0 j ∧ rgD t m 0 j T2 Q) E) := fun W tk => by
  cases t with
  | true =>
    obtain rfl := hx
    exact PE_wk (pe_tupRg hc hg hm (prg_1 hr hr2 (hz W tk) (star_cons sz)) (star_cons rfl)) fun σ H Q ⟨Z, de, T, Qd, E, re, rh, ht, hq, hx⟩ => ⟨Z, de, T, _, E, re, rh, ht, fun y T1 v H1 ⟨j, e1, h1, h2⟩ f r rh1 => by
      subst e1
      exact ⟨j, r, h1, rg_ends (t := true) rh1 h2 fun d' T' v' H' q g r2 rh' => hq d' T' v' H' q (f.trans g) r2 rh'⟩, hx⟩
  | false =>
    obtain rfl := hx
    exact PE_wk (pe_listRg hc hg hm (prg_1 hr hr2 (hz W tk) (star_cons sz)) (star_cons rfl)) fun σ H Q ⟨Z, de, T, Qd, E, re, rh, ht, hq, hx⟩ => ⟨Z, de, T, _, E, re, rh, ht, fun y T1 v H1 ⟨j, e1, h1, h2⟩ f r rh1 => by
      subst e1
      exact ⟨j, r, h1, rg_ends (t := false) rh1 h2 fun d' T' v' H' q g r2 rh' => hq d' T' v' H' q (f.trans g) r2 rh'⟩, hx⟩
theorem de_rgl2 {t m : Bool} {x : Str} {y z : Expr} {ty tz : TDE} {p p1 pos1 pos : Pos} (hc : X.calm = true) (hx : x = if t = true then "tuple" else "list") (hg : Gl X x) (hm : X.mg x = none) (hr : Gl X "range") (hr2 : X.mg "range" = none) (hy : DE X y ty) (hz : DE X z tz) (sy : notStar y = true) (sz : notStar z = true) :
    DE X (.Call (.Name x p) [.Call (.Name "range" p1) [y, z] [] pos1] [] pos) (fun de T Q E => ty de T (fun w T1 => ∃ i, w = .int i ∧ tz de T1 (fun y T2 => ∃ j, y = .int j ∧ RgOk i j ∧ rgD t m i j T2 Q) E) E) := fun W tk => by
  have st : starEach [y, z] X.env = (false, eval y X.env) :: starEach [z] X.env := star_cons sy
  cases t with
  | true =>
    obtain rfl := hx
    exact PE_wk (pe_tupRg hc hg hm (prg_2 hr hr2 (hy W tk) (hz W tk) st (star_cons sz) (star_plain (by rw [List.all_cons, sz]; rfl))) (star_cons rfl)) fun σ H Q ⟨Z, de, T, Qd, E, re, rh, ht, hq, hx⟩ => ⟨Z, de, T, _, E, re, rh, ht, fun w T1 v1 H1 ⟨i, e1, h1⟩ f1 r1 rh1 =>
      ⟨Z, de, T1, _, E, re.fr f1, rh1, h1, fun u T2 v2 H2 ⟨j, e2, h2, h3⟩ f2 r2 rh2 => by
        subst e1 e2
        exact ⟨i, j, r1, r2, h2, rg_ends (t := true) rh2 h3 fun d' T' v' H' q g r3 rh' => hq d' T' v' H' q ((f1.trans f2).trans g) r3 rh'⟩, hx.fr f1⟩, hx⟩
  | false =>
    obtain rfl := hx
    exact PE_wk (pe_listRg hc hg hm (prg_2 hr hr2 (hy W tk) (hz W tk) st (star_cons sz) (star_plain (by rw [List.all_cons, sz]; rfl))) (star_cons rfl)) fun σ H Q ⟨Z, de, T, Qd, E, re, rh, ht, hq, hx⟩ => ⟨Z, de, T, _, E, re, rh, ht, fun w T1 v1 H1 ⟨i, e1, h1⟩ f1 r1 rh1 =>
      ⟨Z, de, T1, _, E, re.fr f1, rh1, h1, fun u T2 v2 H2 ⟨j, e2, h2, h3⟩ f2 r2 rh2 => by
        subst e1 e2
        exact ⟨i, j, r1, r2, h2, rg_ends (t := false) rh2 h3 fun d' T' v' H' q g r3 rh' => hq d' T' v' H' q ((f1.trans f2).trans g) r3 rh'⟩, hx.fr f1⟩, hx⟩
/-! len(range(a, b)) -/
theorem call_lenRng : CallR X (.builtin "len") (fun vs H Q => ∃ (a : Addr) (lo hi : Int), vs = [V.ref a] ∧ H a = some (.rng lo hi) ∧ hi - lo < 2 ^ 62 ∧ Q (.int (hi - lo).toNat) H) := by
  intro pins s σ H vs us Q I r h
  obtain ⟨a, lo, hi, rfl, ha, hb, q⟩ := h
  obtain ⟨u, rfl, rx⟩ := vals1 r
  obtain rfl : u = Value.ref a := rx
  obtain ⟨t1, t2, t3, ho⟩ := I.hok a _ ha
  refine call_len_range (n := (hi - lo).toNat) ho (PyProof.Rows.rangeSize_nat lo hi) (by omega) ⟨.int _, H, I.tok _, ⟨_, rfl⟩, q⟩
theorem de_rlen {a b : Expr} {ta tb : TDE} {p p1 q pos : Pos} (hl : Gl X "len") (hl2 : X.mg "len" = none) (hg : Gl X "range") (hm : X.mg "range" = none) (ha : DE X a ta) (hb : DE X b tb) (sa : notStar a = true) (sb : notStar b = true) :
    DE X (.Call (.Name "len" p) [.Call (.Name "range" p1) [a, b] [] q] [] pos) (fun de T Q E => ta de T (fun x T1 => tb de T1 (fun y T2 => ∃ i j, x = .int i ∧ y = .int j ∧ j - i < 2 ^ 62 ∧ Q (.int (j - i).toNat) T2) E) E) := fun W tk =>
  PE_wk (pe_callB call_lenRng hl hl2 boot_len (pa_cons (pe_rng2 (p := p1) (pos := q) hg hm (ha W tk) (hb W tk) sa sb) pa_nil (star_cons rfl))) fun σ H Q ⟨Z, de, T, Qd, E, re, rh, ht, hq, hx⟩ => by
    refine ⟨Z, de, T, _, E, re, rh, ht, fun dx T1 u H1 h1 f1 r1 rh1 => ?_, hx⟩
    refine ⟨Z, de, T1, _, E, re.fr f1, rh1, h1, fun dy T2 v H2 h2 f2 r2 rh2 => ?_, hx.fr f1⟩
    obtain ⟨i, j, rfl, rfl, h3, h4⟩ := h2
    refine ⟨i, j, by rw [show u = .int _ from r1, show v = .int _ from r2], fun p hp => ⟨p, i, j, rfl, upd_same, h3, ?_⟩⟩
    exact hq _ _ _ _ h4 ((f1.trans f2).trans (fr_new hp)) rfl (rh2.new hp)
end
end DL

set_option linter.all false
set_option maxRecDepth 100000
set_option maxHeartbeats 8000000
namespace DL
open PySem PySem.Spec L2
/-! ### classes of errors -/
section
variable {K : PySem.W.Frag} {mg : Str → Option Value} {ex : List Str} {P C D : Addr} {c d : Str}
theorem excN_not {k : Str} (h : k ∈ excN) : k ≠ "PlayError" := fun e => by rw [e] at h; revert h; decide
theorem ExCl.sub (h : ExCl K mg c C P) {x : Value} {b : Bool} (hb : ∀ l, l = .ref C :: ((if c = "PlayError" then [] else [.ref P]) ++ [.type "ValueError", .type "Exception", .type "BaseException", .type "object"]) → l.contains x = b) : PySem.W.subIn K (.ref C) x = some b := by
  obtain ⟨cd, h1, h2, h3⟩ := h.cd
  show PySem.W.mroIn K C x = some b
  unfold PySem.W.mroIn
  rw [h1]
  show (if cd.mro.isEmpty then none else some (cd.mro.contains x)) = some b
  have e : cd.mro.isEmpty = false := by rw [h3]; rfl
  rw [e, hb _ h3]; rfl
theorem ExCl.base (h : ExCl K mg c C P) {n : String} (hn : n ∈ (["ValueError", "Exception", "BaseException", "object"] : List String)) : PySem.W.subIn K (.ref C) (.type n) = some true :=
  h.sub fun l e => by
    rw [e]
    rw [List.contains_iff_mem]
    simp only [List.mem_cons, List.mem_append, List.not_mem_nil, or_false] at hn ⊢
    rcases hn with rfl | rfl | rfl | rfl <;> simp
theorem ExAll.sub2 (A : ExAll K mg ex P) (hc : ExCl K mg c C P) (hd : ExCl K mg d D P) (hcn : c ∈ excN) (hdv : d ≠ "ValueError") : PySem.W.subIn K (.ref C) (.ref D) = some (isEx d c) := by
  have hcp := excN_not hcn
  refine hc.sub fun l e => ?_
  rw [if_neg hcp] at e
  rw [e]
  by_cases h1 : d = c
  · subst h1
    have : D = C := by have := hd.gC.symm.trans hc.gC; cases this; rfl
    rw [this]
    unfold isEx; simp
  · by_cases h2 : d = "PlayError"
    · subst h2
      have : D = P := by have := hd.gC.symm.trans A.gP; cases this; rfl
      rw [this]
      unfold isEx; simp
    · have n1 : D ≠ C := fun z => by
        obtain ⟨cd1, a1, a2, _⟩ := hd.cd
        obtain ⟨cd2, b1, b2, _⟩ := hc.cd
        rw [z, b1] at a1; cases a1
        exact h1 (a2.symm.trans b2)
      have n2 : D ≠ P := fun z => by
        obtain ⟨cd1, a1, a2, _⟩ := hd.cd
        obtain ⟨cd2, b1, b2⟩ := A.cP
        rw [z, b1] at a1; cases a1
        exact h2 (a2.symm.trans b2)
      unfold isEx
      rw [decide_eq_false h1, decide_eq_false h2, decide_eq_false hdv]
      simp [n1, n2]
theorem ExCl.isS (h : ExCl K mg c C P) : (PySem.W.clsIn K C).isSome = true := by obtain ⟨cd, h1, _⟩ := h.cd; rw [h1]; rfl
theorem ExAll.exm (A : ExAll K mg ex P) (hc : ExCl K mg c C P) (hd : ExCl K mg d D P) (hcn : c ∈ excN) (hdv : d ≠ "ValueError") : PySem.W.exmOne K (.ref C) (.ref D) = some (isEx d c) :=
  PySem.W.exm_ref (hd.base (by decide)) hd.hd hd.ty (A.sub2 hc hd hcn hdv)
theorem ExAll.kit (A : ExAll K mg ex P) (hc : ExCl K mg c C P) (hd : ExCl K mg d D P) (hcn : c ∈ excN) (hdv : d ≠ "ValueError") : PySem.W.kitOne K (.ref C) (.ref D) = some (isEx d c) := by
  have s := A.sub2 hc hd hcn hdv
  unfold PySem.W.kitOne
  by_cases e : ((Value.ref C == .ref D) = true)
  · rw [if_pos e]
    have e2 : C = D := Value.ref.inj (beq_iff_eq.mp e)
    subst e2
    have e3 : c = d := by
      obtain ⟨cd1, a1, a2, _⟩ := hd.cd
      obtain ⟨cd2, b1, b2, _⟩ := hc.cd
      rw [b1] at a1; cases a1
      exact b2.symm.trans a2
    unfold isEx; simp [e3]
  · rw [if_neg e]
    unfold PySem.W.kitCls
    have e1 : ((PySem.W.clsIn K D).isSome && PySem.W.typeIn K (.ref D) == some (.type "type")) = true := by rw [hd.isS, hd.ty]; rfl
    dsimp only
    rw [if_pos e1]; exact s
theorem ExCl.kitV (hc : ExCl K mg c C P) : PySem.W.kitOne K (.ref C) (.type "ValueError") = some true := by
  unfold PySem.W.kitOne
  rw [if_neg (by simp)]
  unfold PySem.W.kitCls
  dsimp only
  rw [if_pos (by decide +kernel)]
  exact hc.base (by decide)
theorem ExAll.excC (A : ExAll K mg ex P) (hc : ExCl K mg c C P) : ExcC K C where
  hg := hc.ga
  hk := hc.gg
  hs := hc.base (by decide)
  hd := hc.hd
  ha := hc.ha
  hn := A.hn
  ht := A.ht
  hm := hc.base (n := "object") (by decide)
end
/-! ### isinstance -/
section
open PySem.W
variable {prog : Program} {w : World} {A : Around} {E : Value → Shared → Prop} {s : Shared} {K : Frag} {x D : Addr} {ox : Obj} {od : Option Obj}
theorem findObj_dataG {C : Addr} {name : Str} {a g : Value} (hc : (clsIn K C).isSome = true) (ha : findIn K (.ref C) name = some (some a)) (hg : specialIn K a "__get__" = some (some g)) (ht : takesIn K a = some true) : findObj K C od name = some (.bind g a) := by
  obtain ⟨cd, hc⟩ := Option.isSome_iff_exists.mp hc
  unfold findObj
  rw [hc, Option.bind_some, ha, Option.bind_some]
  simp [hg, ht]
theorem kin_classG {Q : Option Value → Shared → Prop} (F : ExcC K D) (X : K.In s.heap) (I : InstAt s.heap x ox D od) (h : Q (some (.ref D)) { s with toks := s.toks + 1 }) : wpAny (model prog w) A (getAttr? (.ref x) "__class__") Q E s := by
  have hf : findObj K D od "__class__" = some (.bind (.builtin "getset_descriptor.__get__") (.builtin "object.__class__")) := findObj_dataG (by obtain ⟨cd, hc, _⟩ := any_some F.hd; rw [hc]; rfl) F.ha F.hn F.ht
  obtain ⟨hp, g, d, t, os⟩ := s
  have L0 := I.type (M := model prog w)
  have L1 := looks_findIn (M := model prog w) X F.hg
  have L2 := looks_findIn (M := model prog w) X F.hk
  have L3 := looks_find (M := model prog w) X I hf
  have sub : Looks (model prog w) hp (isInstance (.ref x) (.type "BaseException")) true := L0.andThen (looks_subIn X F.hs)
  have hx0 : (false && onTheHeap (Value.builtin "BaseException.__getattribute__")) = false := rfl
  have hx2 : (Value.builtin "BaseException.__getattribute__" == Value.builtin "object.__getattribute__") = false := by decide +kernel
  have hx1 : (onTheHeap (Value.ref D) && Value.builtin "BaseException.__getattribute__" == Value.builtin "object.__getattribute__") = false := by rw [hx2]; rfl
  unfold getAttr? getAttrBy? getAttrBy
  refine wpAny_bind (wpAny_mkText (wpAny_bind (wpAny_attempt (wpAny_holding (wpAny_bind (L0.at (wpAny_bind (L1.at ?_))))))))
  show wpAny _ _ (if (onTheHeap (Value.ref D) && Value.builtin "BaseException.__getattribute__" == Value.builtin "object.__getattribute__") = true then _ else _) _ _ _
  rw [hx1, if_neg Bool.false_ne_true]
  unfold getAttrByItsOwn hookBefore
  refine wpAny_bind ?_
  rw [if_pos (show onTheHeap (Value.ref D) = true from rfl)]
  refine L2.at ?_
  refine wpAny_bind (wpAny_attempt (wpAny_holding ?_))
  unfold callGetattribute
  rw [hx0, if_neg Bool.false_ne_true]
  unfold boundAndCalled
  rw [PySem.F.excAttr_ValueError.ga.bind (.ref x)]
  refine wpAny_bind (wpAny_pure ?_)
  show wpAny _ _ (call (.builtin "BaseException.__getattribute__") [.ref x, .str "__class__" t]) _ _ _
  refine wpAny_call (codeAny_call_builtin PySem.F.excAttr_ValueError.ga.plain PySem.F.entry_bexc_ga ?_)
  refine @check_slot (model prog w) _ _ ⟨hp, g, d, t + 1, os⟩ "BaseException.__getattribute__" "BaseException" "__getattribute__" (.ref x) [.str "__class__" t] [] _ (by decide +kernel) (by decide +kernel) sub (PySem.F.args_bexc_ga (.ref x) (.str "__class__" t)) ?_
  unfold Builtin.«object.__getattribute__»
  refine wpAny_bind (wpAny_of_eq (a := ((Value.ref x : Value), [Value.str "__class__" t])) (by first | rfl | (simp only [slotArgs]; rfl)) ?_)
  refine wpAny_bind (wpAny_pure (wpAny_bind (L0.at (wpAny_bind (L3.at ?_)))))
  show wpAny _ _ (holding [Value.builtin "object.__class__"] (call (.builtin "getset_descriptor.__get__") [.builtin "object.__class__", .ref x, .ref D]) >>= ret) _ _ _
  refine wpAny_bind (wpAny_holding (wpAny_call (class_get (s := ⟨hp, g, d, t + 1, os⟩) (ox := ox) (od := od) X I F.hm ?_)))
  refine wpAny_pure ?_
  show wpAny _ _ (handedOut (.ref D)) _ _ _
  rw [handedOut_of (v := .ref D) rfl]
  first
    | exact wpAny_pure (wpAny_pure h)
    | exact wpAny_pure h
    | exact wpAny_pure (wpAny_bind (wpAny_pure (wpAny_pure h)))
theorem kitx_excG (F : ExcC K D) : KitX K (.ref x) (.ref D) (fun h => ∃ ox od, InstAt h x ox D od) where
  ty := fun _ _ _ ⟨_, _, I⟩ => I.type
  it := fun _ _ X _ => by
    obtain ⟨cdD, hcD, _⟩ := any_some F.hd
    unfold clsIn at hcD
    split at hcD
    · rename_i c' d' cd' sl' ho
      intro A' Q' E' s' k q
      unfold isType loadHead
      exact wpAny_bind (wpAny_loadPart (k _ _ (X _ _ ho)) (wpAny_pure q))
    · cases hcD
  ne := fun h tp dd its n sl X htp => by
    obtain ⟨cdD, hcD, _⟩ := any_some F.hd
    refine Bool.eq_false_iff.mpr fun q => ?_
    have e : D = tp := Value.ref.inj (beq_iff_eq.mp q)
    subst e
    unfold clsIn at hcD
    split at hcD
    · rename_i c' d' cd' sl' ho
      have z := (X _ _ ho).symm.trans htp
      cases z
    · cases hcD
  ca := fun X ⟨_, _, I⟩ k => kin_classG F X I k
end
section
variable {X : Cx} {Z : Addr → Prop} {T : DH} {H : Hp}
/-- a kept error at a: what the heap has there -/
theorem exn_at {pins : List (Addr × Obj)} {σ : L2.St} {s : Shared} {a C : Addr} {dd : Option Addr} {fs : List (Str × D)} (I : L2.Inv X pins σ H s) (h : H a = some (ExK (.ref C) dd a)) (r : ExR ((X.K, X.mg), Z) T H fs dd) : ∃ ox od, PySem.W.InstAt s.heap a ox C od := by
  obtain ⟨⟨oe, vs, g1, g2, g3⟩, _⟩ := I.hok a _ h
  rcases r with ⟨_, e⟩ | ⟨d, ws, e, h1, _, _⟩
  · exact ⟨oe, none, g1, g2.1, by unfold PySem.W.notCls; rw [g3], by rw [g2.2, e]; trivial⟩
  · have hx : ObjOk X.prog X.w H s.heap d (.xd ws) := I.hok d _ h1
    obtain ⟨mA, hns, hr⟩ := hx
    obtain ⟨od, ho, hl⟩ := lookIn_ns hns
    exact ⟨oe, some od, g1, g2.1, by unfold PySem.W.notCls; rw [g3], by rw [g2.2, e]; exact ho⟩
theorem call_isx {pins : List (Addr × Obj)} {σ : L2.St} {s : Shared} {a C : Addr} {c : Str} {fs : List (Str × D)} {us : List Value} {cl : V} {u : Value} {b : Bool} {Q : VK} (rh : RelH ((X.K, X.mg), Z) T H) (ht : T a = some (.exn c fs)) (hm : X.mg c = some (.ref C)) (F : ExcC X.K C)
    (I : L2.Inv X pins σ H s) (r : Vals [.ref a, cl] us) (k : ClsV cl u) (e : PySem.W.kitOne X.K (.ref C) u = some b) (q : Q (.bl b) H) : wpAny (model X.prog X.w) X.A (call (.builtin "isinstance") us) (EP X pins σ Q) X.xe s := by
  obtain ⟨u1, u2, rfl, r1, r2⟩ := vals2 r
  cases r1
  have e2 := k.eq r2
  subst e2
  obtain ⟨C', dd, h0, h1, h2⟩ := rh.ob a _ ht
  have eC : C' = C := by have z := h0.symm.trans hm; cases z; rfl
  subst eC
  exact PySem.W.kia_one (kitx_excG F) I.kIn (exn_at I h1 h2) e (fun z => nomatch z) fun tk => ⟨.bl b, H, I.tok tk, rfl, q⟩
theorem call_isxT {pins : List (Addr × Obj)} {σ : L2.St} {s : Shared} {a C tp : Addr} {c : Str} {fs : List (Str × D)} {us : List Value} {cs : List V} {ws : List Value} {b : Bool} {Q : VK} (rh : RelH ((X.K, X.mg), Z) T H) (ht : T a = some (.exn c fs)) (hm : X.mg c = some (.ref C)) (F : ExcC X.K C)
    (I : L2.Inv X pins σ H s) (r : Vals [.ref a, .ref tp] us) (hT : H tp = some (.tup cs)) (k : Paired ClsV cs ws) (e : PySem.W.kitAny X.K (.ref C) ws = some b) (q : Q (.bl b) H) : wpAny (model X.prog X.w) X.A (call (.builtin "isinstance") us) (EP X pins σ Q) X.xe s := by
  obtain ⟨u1, u2, rfl, r1, r2⟩ := vals2 r
  cases r1
  cases (show u2 = Value.ref tp from r2)
  obtain ⟨C', dd, h0, h1, h2⟩ := rh.ob a _ ht
  have eC : C' = C := by have z := h0.symm.trans hm; cases z; rfl
  subst eC
  obtain ⟨_, its, rv, o, g1, g2, n, g3⟩ := (show ObjOk X.prog X.w H s.heap tp (.tup cs) from I.hok tp _ hT)
  have e3 := ClsV.all k rv
  subst e3
  obtain ⟨oc, od, dt, sl⟩ := o
  simp only at g2 g3
  subst g2 g3
  exact PySem.W.kia_tup (kitx_excG F) I.kIn (exn_at I h1 h2) g1 e (fun z => nomatch z) fun tk => ⟨.bl b, H, I.tok tk, rfl, q⟩
end
end DL

set_option linter.all false
set_option maxRecDepth 100000
set_option maxHeartbeats 8000000
namespace DL
open PySem PySem.Spec L2
theorem boot_VE : bootBuiltins "ValueError" = some (.type "ValueError") := by decide +kernel
section
variable {tb : Tab} {G : Nat → DSp} {X : Cx} {N : List Str} {sc : Scope} {st : List Str} {k : Nat}
theorem ExAll.one {K : PySem.W.Frag} {mg : Str → Option Value} {ex : List Str} {P P' : Addr} (A : ExAll K mg ex P) (B : ExAll K mg ex P') : P = P' := by have z := A.gP.symm.trans B.gP; cases z; rfl
/-- the name of a class of errors: what it tells -/
structure ClsE (X : Cx) (tb : Tab) (d : Str) (v : V) (u : Value) : Prop where
  pe : ∀ p, PE X (.Name d p) (tC v)
  cl : ClsV v u
  kit : ∀ P, ExAll X.K X.mg tb.ex P → ∀ c C, ExCl X.K X.mg c C P → c ∈ excN → PySem.W.kitOne X.K (.ref C) u = some (isEx d c)
  names : Names X d u
  exm : d ≠ "ValueError" → ∀ P, ExAll X.K X.mg tb.ex P → ∀ c C, ExCl X.K X.mg c C P → c ∈ excN → PySem.W.exmOne X.K (.ref C) u = some (isEx d c)
theorem Cok.cls (c : Cok tb G X N sc st k) {d : Str} (h : exB tb sc d = true) : ∃ v u, ClsE X tb d v u := by
  unfold exB at h
  simp only [Bool.and_eq_true] at h
  obtain ⟨⟨h1, h2⟩, h3⟩ := h
  have hg : Gl X d := by
    show X.env.scope.names.lookup d = _
    rw [c.hsc]; exact gl_of h1
  obtain ⟨q1, q2, q3⟩ := plainN_of h2
  by_cases e : d = "ValueError"
  · subst e
    rw [if_pos rfl] at h3
    have hm := c.bl _ (List.contains_iff_mem.mp h3)
    exact ⟨.ty "ValueError", .type "ValueError", fun p => pe_bltn hg hm boot_VE rfl q3 q1, .ty _, fun P A c C hc _ => by rw [hc.kitV]; unfold isEx; simp, ⟨hg, q1, .inr ⟨hm, boot_VE, q3⟩⟩, fun z => absurd rfl z⟩
  · rw [if_neg e] at h3
    have hm := List.contains_iff_mem.mp h3
    obtain ⟨P, A⟩ := c.ex (List.ne_nil_of_mem hm)
    obtain ⟨D, hD⟩ := A.all d hm
    refine ⟨.ref D, .ref D, fun p => pe_glob hg hD.gC rfl q1, .own D, fun P' A' c' C hc hk => ?_, ⟨hg, q1, .inl hD.gC⟩, fun _ P' A' c' C hc hk => ?_⟩
    · have := A.one A'; subst this
      exact A.kit hc hD hk e
    · have := A.one A'; subst this
      exact A.exm hc hD hk e
theorem ksB_mem {ks : List Str} (h : ksB tb ks = true) {c : Str} (hc : c ∈ ks) : c ∈ tb.ex ∧ c ∈ excN := by
  unfold ksB at h
  have := List.all_eq_true.mp h c hc
  simpa using this
/-- the classes of a known error -/
theorem Cok.exn (c : Cok tb G X N sc st k) {ks : List Str} (h : ksB tb ks = true) {x : Str} (hx : x ∈ ks) : ∃ P C, ExAll X.K X.mg tb.ex P ∧ ExCl X.K X.mg x C P ∧ x ∈ excN := by
  obtain ⟨h1, h2⟩ := ksB_mem h hx
  obtain ⟨P, A⟩ := c.ex (List.ne_nil_of_mem h1)
  obtain ⟨C, hC⟩ := A.all x h1
  exact ⟨P, C, A, hC, h2⟩
def rIsX1 (X : Cx) : List V → Hp → VK → Prop := fun xs H Q => ∃ (Z : Addr → Prop) (T : DH) (a : Addr) (c : Str) (fs : List (Str × D)) (C : Addr) (cl : V) (u : Value) (b : Bool), xs = [.ref a, cl] ∧ RelH ((X.K, X.mg), Z) T H ∧ T a = some (.exn c fs) ∧ X.mg c = some (.ref C) ∧ ExcC X.K C ∧ ClsV cl u ∧ PySem.W.kitOne X.K (.ref C) u = some b ∧ Q (.bl b) H
def rIsXT (X : Cx) : List V → Hp → VK → Prop := fun xs H Q => ∃ (Z : Addr → Prop) (T : DH) (a : Addr) (c : Str) (fs : List (Str × D)) (C tp : Addr) (cs : List V) (us : List Value) (b : Bool), xs = [.ref a, .ref tp] ∧ RelH ((X.K, X.mg), Z) T H ∧ T a = some (.exn c fs) ∧ X.mg c = some (.ref C) ∧ ExcC X.K C ∧ H tp = some (.tup cs) ∧ Paired ClsV cs us ∧ PySem.W.kitAny X.K (.ref C) us = some b ∧ Q (.bl b) H
theorem call_isX1 : CallR X (.builtin "isinstance") (rIsX1 X) := by
  intro pins s σ H xs us Q I r ⟨Z, T, a, c, fs, C, cl, u, b, e, rh, ht, hm, F, k, e2, q⟩
  subst e
  exact call_isx rh ht hm F I r k e2 q
theorem call_isXT : CallR X (.builtin "isinstance") (rIsXT X) := by
  intro pins s σ H xs us Q I r ⟨Z, T, a, c, fs, C, tp, cs, ws, b, e, rh, ht, hm, F, hT, k, e2, q⟩
  subst e
  exact call_isxT rh ht hm F I r hT k e2 q
theorem isx_at {x : D} {ks cs : List Str} {T : DH} {Q : DQ} (h : dIsx x ks cs T Q) : ∃ a c fs, x = .ref a ∧ T a = some (.exn c fs) ∧ c ∈ ks ∧ Q (.bl (cs.any fun d => isEx d c)) T := by
  unfold dIsx at h
  split at h
  · rename_i a
    split at h
    · rename_i c fs e
      exact ⟨a, c, fs, rfl, e, h⟩
    · exact h.elim
  · exact h.elim
theorem de_isx {a : Expr} {ta : TDE} {ks : List Str} {d : Str} {p p2 pos : Pos} (c : Cok tb G X N sc st k) (hks : ksB tb ks = true) (ha : DE X a ta) (hd : exB tb sc d = true) (hg : Gl X "isinstance") (hm : X.mg "isinstance" = none) (hn : notStar a = true) :
    DE X (.Call (.Name "isinstance" p) [a, .Name d p2] [] pos) (fun de T Q E => ta de T (fun x T1 => dIsx x ks [d] T1 Q) E) := fun W tk => by
  obtain ⟨v, u, F⟩ := c.cls hd
  have key : PE X (.Call (.Name "isinstance" p) [a, .Name d p2] [] pos) (tCB (rIsX1 X) (tCons (lE X W ta) (tCons (tC v) tNil))) :=
    pe_callB call_isX1 hg hm (by decide +kernel) (pa_cons (ha W tk) (pa_cons (F.pe _) pa_nil) (star_cons hn)) (by decide) (by decide) (star_cons hn) (star_plain (by rfl))
  exact PE_wk key fun σ H Q ⟨Z, de, T, Qd, E, re, rh, hT, hq, hx⟩ => ⟨Z, de, T, _, E, re, rh, hT, fun x T1 w H1 h1 f1 r1 rh1 => by
    show rIsX1 X [w, v] H1 Q
    obtain ⟨a', c', fs, rfl, e, hc, q⟩ := isx_at h1
    obtain ⟨P, C, A, hC, hk⟩ := c.exn hks hc
    obtain rfl : w = .ref a' := r1
    refine ⟨Z, T1, a', c', fs, C, v, u, _, rfl, rh1, e, hC.gC, A.excC hC, F.cl, F.kit P A _ _ hC hk, ?_⟩
    simp only [List.any_cons, List.any_nil, Bool.or_false] at q
    exact hq _ _ _ _ q f1 rfl rh1, hx⟩
theorem clsT (c : Cok tb G X N sc st k) : ∀ {cs : List Str} {es : List Expr}, chkXT tb cs sc es = true → es.all notStar = true ∧ ∃ vs us, PA X es (fun _ H Q => Q vs H) ∧ Paired ClsV vs us ∧ vs.length = es.length ∧
    ∀ P, ExAll X.K X.mg tb.ex P → ∀ x C, ExCl X.K X.mg x C P → x ∈ excN → PySem.W.kitAny X.K (.ref C) us = some (cs.any fun d => isEx d x)
  | [], [], _ => ⟨rfl, [], [], PA_wk pa_nil fun σ H Q h => h, .nil, rfl, fun _ _ _ _ _ _ => rfl⟩
  | [], e :: es, h => by unfold chkXT at h; cases h
  | d :: cs, [], h => by unfold chkXT at h; cases h
  | d :: cs, e :: es, h => by
    cases e <;> try (unfold chkXT at h; cases h; done)
    rename_i x p
    unfold chkXT at h
    simp only [Bool.and_eq_true, decide_eq_true_eq] at h
    obtain ⟨⟨rfl, h2⟩, h3⟩ := h
    obtain ⟨i1, vs, us, i2, i3, i4, i5⟩ := clsT c h3
    obtain ⟨v, u, F⟩ := c.cls h2
    refine ⟨by rw [List.all_cons, i1]; rfl, v :: vs, u :: us, PA_wk (pa_cons (F.pe p) i2 (by rfl)) fun σ H Q h => h, .cons F.cl i3, by simp [i4], fun P A x C hC hk => ?_⟩
    have k1 := F.kit P A x C hC hk
    have k2 := i5 P A x C hC hk
    refine kitAny_cons k1 (fun hb => ?_) fun hb => ?_
    · rw [k2, List.any_cons, hb, Bool.false_or]
    · rw [List.any_cons, hb, Bool.true_or]
theorem de_isxT {a : Expr} {ta : TDE} {ks cs : List Str} {es : List Expr} {j : Nat} {p p2 pos : Pos} (c : Cok tb G X N sc st k) (hks : ksB tb ks = true) (ha : DE X a ta) (hd : chkXT tb cs sc es = true) (hl : es.length ≤ 1000) (hg : Gl X "isinstance") (hm : X.mg "isinstance" = none) (hn : notStar a = true) :
    DE X (.Call (.Name "isinstance" p) [a, .Tuple es j p2] [] pos) (fun de T Q E => ta de T (fun x T1 => dIsx x ks cs T1 Q) E) := fun W tk => by
  obtain ⟨i1, vs, us, i2, i3, i4, i5⟩ := clsT c hd
  have key : PE X (.Call (.Name "isinstance" p) [a, .Tuple es j p2] [] pos) (tCB (rIsXT X) (tCons (lE X W ta) (tCons (tTup (fun _ H Q => Q vs H)) tNil))) :=
    pe_callB call_isXT hg hm (by decide +kernel) (pa_cons (ha W tk) (pa_cons (pe_tup i2) pa_nil) (star_cons hn)) (by decide) (by decide) (star_cons hn) (star_plain (by rfl))
  exact PE_wk key fun σ H Q ⟨Z, de, T, Qd, E, re, rh, hT, hq, hx⟩ => ⟨Z, de, T, _, E, re, rh, hT, fun x T1 w H1 h1 f1 r1 rh1 => by
    obtain ⟨a', c', fs, rfl, e, hc, q⟩ := isx_at h1
    obtain ⟨P, C, A, hC, hk⟩ := c.exn hks hc
    obtain rfl : w = .ref a' := r1
    refine ⟨by rw [i4, sizeLine_eq]; omega, fun tp htp => ?_⟩
    show rIsXT X [.ref a', .ref tp] (upd H1 tp (.tup vs)) Q
    exact ⟨Z, T1, a', c', fs, C, tp, vs, us, _, rfl, rh1.new htp, e, hC.gC, A.excC hC, upd_same, i3, i5 P A _ _ hC hk, hq _ _ _ _ q (f1.trans (fr_new htp)) rfl (rh1.new htp)⟩, hx⟩
/-! ### fields of an error -/
theorem fld_at {x : D} {k f : Str} {T : DH} {Q : DQ} (h : dFld x k f T Q) : ∃ a fs d, x = .ref a ∧ T a = some (.exn k fs) ∧ fs.lookup f = some d ∧ Q d T := by
  unfold dFld at h
  split at h
  · rename_i a
    split at h
    · rename_i c fs e
      obtain ⟨rfl, d, h1, h2⟩ := h
      exact ⟨a, fs, d, rfl, e, h1, h2⟩
    · exact h.elim
  · exact h.elim
theorem lookup_rel {Z : Addr → Prop} {T : DH} {H : Hp} {f : Str} {d : D} : ∀ {fs : List (Str × D)} {ws : List (Str × V)}, RelKs ((X.K, X.mg), Z) T H fs ws → fs.lookup f = some d → ∃ v, ws.lookup f = some v ∧ RelD ((X.K, X.mg), Z) T H d v
  | [], _, _, h => by cases h
  | (g, x) :: fs, _, r, h => by
    obtain ⟨v, r', e, h1, h2⟩ := r
    subst e
    rw [List.lookup_cons] at h ⊢
    dsimp only at h1 ⊢
    cases hb : f == g with
    | true => rw [hb] at h; cases h; exact ⟨v, rfl, h1⟩
    | false => rw [hb] at h; exact lookup_rel h2 h
theorem de_fld {a : Expr} {ta : TDE} {c' f : Str} {pos : Pos} (c : Cok tb G X N sc st k) (h1 : f ∈ fldN) (h2 : c' ∈ tb.ex) (h3 : simpEx c' = false) (hn : notCall a = true) (ha : DE X a ta) : DE X (.Attribute a f pos) (fun de T Q E => ta de T (fun x T1 => dFld x c' f T1 Q) E) := fun W tk => by
  obtain ⟨P, A⟩ := c.ex (List.ne_nil_of_mem h2)
  obtain ⟨C, hC⟩ := A.all c' h2
  have hno : PySem.W.findIn X.K (.ref C) f = some none := by
    obtain ⟨g1, g2, g3⟩ := hC.fl h3
    unfold fldN at h1
    simp only [List.mem_cons, List.not_mem_nil, or_false] at h1
    rcases h1 with rfl | rfl | rfl <;> assumption
  refine ⟨fun pins s σ H Q I ⟨Z, de, T, Qd, E, re, rh, hT, hq, hx⟩ => ?_⟩
  refine attr_of (base_plain hn) (thn ((ha W tk).run pins s σ H (fun w H1 => ∃ T1 x, dFld x c' f T1 Qd ∧ Fr T H T1 H1 ∧ RelD ((X.K, X.mg), Z) T1 H1 x w ∧ RelH ((X.K, X.mg), Z) T1 H1) I ⟨Z, de, T, _, E, re, rh, hT, fun x T1 w H1 h1 f1 r1 rh1 => ⟨T1, x, h1, f1, r1, rh1⟩, hx⟩) fun u s1 hh => ?_)
  obtain ⟨w, H1, I1, rw1, T1, x, hf, f1, r1, rh1⟩ := hh
  obtain ⟨a', fs, d, rfl, e, l, q⟩ := fld_at hf
  obtain rfl : w = .ref a' := r1
  obtain rfl : u = Value.ref a' := rw1
  obtain ⟨C', dd, h0, g1, g2⟩ := rh1.ob a' _ e
  have eC : C' = C := by have z := h0.symm.trans hC.gC; cases z; rfl
  subst eC
  obtain ⟨⟨oe, vs, k1, k2, k3⟩, _⟩ := I1.hok a' _ g1
  rcases g2 with ⟨z, _⟩ | ⟨dx, ws, e1, m1, m2, m3⟩
  · rw [z] at l; cases l
  · have hx : ObjOk X.prog X.w H1 s1.heap dx (.xd ws) := I1.hok dx _ m1
    obtain ⟨mA, hns, hr⟩ := hx
    obtain ⟨od, ho, hl⟩ := lookIn_ns hns
    obtain ⟨v, lv, rv⟩ := lookup_rel m3 l
    obtain ⟨u, hu, ru⟩ := RelO.some_of (v := v) (o := mA f) (by rw [← lv]; exact hr f)
    have J : PySem.W.InstAt s1.heap a' oe C' (some od) := ⟨k1, k2.1, by unfold PySem.W.notCls; rw [k3], by rw [k2.2, e1]; exact ho⟩
    exact HandSPX.exc_get I1.kIn J hC.ga hC.gg (hC.base (by decide)) (PySem.W.findObj_own hC.hd hno rfl (by rw [hl, hu])) (handed_of ru) ⟨v, H1, I1.tok _, ru, hq _ _ _ _ q f1 rv rh1⟩
end
end DL

set_option linter.all false
set_option maxRecDepth 100000
set_option maxHeartbeats 4000000
namespace DL
open PySem PySem.Spec L2
/-! ### targets -/
def lG (X : Cx) (g : Tgt) : TG := fun v σ H Q => ∃ Z de T d de1, RelEnv ((X.K, X.mg), Z) T H de σ ∧ RelH ((X.K, X.mg), Z) T H ∧ RelD ((X.K, X.mg), Z) T H d v ∧ bindT g d de = some de1 ∧
  ∀ σ1, RelEnv ((X.K, X.mg), Z) T H de1 σ1 → (∀ j, j ∉ slotsT g → σ1[j]? = σ[j]?) → σ1.length = σ.length → Q σ1 H
def lGs (X : Cx) (g : List Tgt) : TGs := fun vs σ H Q => ∃ Z de T ds de1, RelEnv ((X.K, X.mg), Z) T H de σ ∧ RelH ((X.K, X.mg), Z) T H ∧ RelDs ((X.K, X.mg), Z) T H ds vs ∧ bindTs g ds de = some de1 ∧
  ∀ σ1, RelEnv ((X.K, X.mg), Z) T H de1 σ1 → (∀ j, j ∉ slotsTs g → σ1[j]? = σ[j]?) → σ1.length = σ.length → Q σ1 H
theorem PG_wk {X : Cx} {e : Expr} {t t' : TG} (h : PG X e t) (w : ∀ v σ H Q, t' v σ H Q → t v σ H Q) : PG X e t' := ⟨fun pins s σ H v u Q I r q => h.run pins s σ H v u Q I r (w v σ H Q q)⟩
theorem PGs_wk {X : Cx} {e : List Expr} {t t' : TGs} (h : PGs X e t) (w : ∀ v σ H Q, t' v σ H Q → t v σ H Q) : PGs X e t' := ⟨fun pins s σ H v u Q I r q => h.run pins s σ H v u Q I r (w v σ H Q q)⟩
theorem asg_len {env : Env} : ∀ {es : List Expr}, es.all notStar = true → (assignEach es env).length = es.length ∧ (assignEach es env).findIdx? (·.1) = none
  | [], _ => ⟨rfl, rfl⟩
  | e :: es, h => by
    rw [List.all_cons, Bool.and_eq_true] at h
    obtain ⟨h1, h2⟩ := asg_len (env := env) h.2
    rw [assign_cons h.1]
    refine ⟨by simp [h1], ?_⟩
    rw [List.findIdx?_cons]
    simp [h2]
theorem chkGs_star : ∀ {ts : List Tgt} {N st : List Str} {es : List Expr}, chkGs ts N st es = true → es.all notStar = true
  | [], _, _, [], _ => rfl
  | [], _, _, e :: es, h => by unfold chkGs at h; cases h
  | t :: ts, _, _, [], h => by unfold chkGs at h; cases h
  | t :: ts, N, st, e :: es, h => by
    unfold chkGs at h
    simp only [Bool.and_eq_true] at h
    rw [List.all_cons, h.1.1, chkGs_star h.2]; rfl
theorem bindTs_cons {t : Tgt} {ts : List Tgt} {d : D} {ds : List D} {de de1 : DEnv} (h : bindTs (t :: ts) (d :: ds) de = some de1) : ∃ de0, bindT t d de = some de0 ∧ bindTs ts ds de0 = some de1 := by
  unfold bindTs at h
  cases e : bindT t d de with
  | none => rw [e] at h; cases h
  | some de0 => rw [e] at h; exact ⟨de0, rfl, h⟩
theorem bindT_tp {ts : List Tgt} {d : D} {de de1 : DEnv} (h : bindT (.tp ts) d de = some de1) : ∃ ds, d = .tup ds ∧ bindTs ts ds de = some de1 := by
  cases d <;> unfold bindT at h <;> try cases h
  exact ⟨_, rfl, h⟩
theorem bindTs_two : ∀ {ts : List Tgt} {ds : List D} {de de1 : DEnv}, bindTs ts ds de = some de1 → ds.length = ts.length
  | [], [], _, _, _ => rfl
  | [], _ :: _, _, _, h => by unfold bindTs at h; cases h
  | _ :: _, [], _, _, h => by unfold bindTs at h; cases h
  | t :: ts, d :: ds, de, de1, h => by
    obtain ⟨de0, _, h2⟩ := bindTs_cons h
    simp [bindTs_two h2]
structure Tok (X : Cx) (N st : List Str) : Prop where
  calm : X.calm = true
  hN : X.N = N
  nd : N.Nodup
  st : ∀ x ∈ st, Loc X.env.scope x ∧ (X.fn x = true ∨ X.env.scope.names.lookup x = some .local)
theorem Cok.tok {tb : Tab} {G : Nat → DSp} {X : Cx} {N : List Str} {sc : Scope} {st : List Str} {k : Nat} (c : Cok tb G X N sc st k) : Tok X N st := ⟨c.calm, c.hN, c.nd, c.st⟩
mutual
theorem sG {X : Cx} {N st : List Str} (c : Tok X N st) : ∀ (g : Tgt) (e : Expr), chkG g N st e = true → PG X e (lG X g)
  | .nm i, e, h => by
    unfold chkG at h
    split at h
    · rename_i x pos
      simp only [Bool.and_eq_true, decide_eq_true_eq, List.contains_iff_mem] at h
      obtain ⟨h1, h2⟩ := c.st x h.2
      refine PG_wk (pg_name (i := i) (c.hN ▸ c.nd) (by rw [c.hN]; exact h.1) h1 h2) fun v σ H Q ⟨Z, de, T, d, de1, re, rh, rd, hb, q⟩ => ?_
      have e : bindT (.nm i) d de = some (de.set i (some d)) := by unfold bindT; rfl
      rw [e] at hb; cases hb
      refine q _ (re.set rd i) (fun j hj => ?_) (by simp)
      have hj : j ≠ i := fun z => hj (by unfold slotsT; simp [z])
      rw [List.getElem?_set_ne (Ne.symm hj)]
    · cases h
  | .tp ts, e, h => by
    unfold chkG at h
    split at h
    · rename_i es k pos
      have hs := chkGs_star h
      obtain ⟨h1, h2⟩ := asg_len (env := X.env) hs
      refine PG_wk (pg_tup c.calm (sGs c ts es h) h1 h2) fun v σ H Q ⟨Z, de, T, d, de1, re, rh, rd, hb, q⟩ => ?_
      obtain ⟨ds, e1, e2⟩ := bindT_tp hb
      subst e1
      obtain ⟨a, vs, e3, e4, e5, e6⟩ := rd
      refine ⟨a, vs, e3, .of e4, ?_, Z, de, T, ds, de1, re, rh, e6, e2, fun σ1 r1 j1 l1 => q σ1 r1 (fun j hj => j1 j fun z => hj (by unfold slotsT; exact z)) l1⟩
      rw [e6.length, bindTs_two e2]
      exact (chkGs_len ts es h).symm
    · cases h
theorem chkGs_len {N st : List Str} : ∀ (ts : List Tgt) (es : List Expr), chkGs ts N st es = true → es.length = ts.length
  | [], [], _ => rfl
  | [], e :: es, h => by unfold chkGs at h; cases h
  | t :: ts, [], h => by unfold chkGs at h; cases h
  | t :: ts, e :: es, h => by
    unfold chkGs at h
    simp only [Bool.and_eq_true] at h
    simp [chkGs_len ts es h.2]
theorem sGs {X : Cx} {N st : List Str} (c : Tok X N st) : ∀ (g : List Tgt) (es : List Expr), chkGs g N st es = true → PGs X es (lGs X g)
  | [], es, h => by
    unfold chkGs at h
    split at h
    · refine PGs_wk pgs_nil fun vs σ H Q ⟨Z, de, T, ds, de1, re, rh, rd, hb, q⟩ => ?_
      cases ds with
      | cons d ds => unfold bindTs at hb; cases hb
      | nil =>
        have e : bindTs [] [] de = some de := by unfold bindTs; rfl
        rw [e] at hb; cases hb
        exact ⟨rd, q σ re (fun _ _ => rfl) rfl⟩
    · cases h
  | t :: ts, [], h => by unfold chkGs at h; cases h
  | t :: ts, e :: es, h => by
    unfold chkGs at h
    simp only [Bool.and_eq_true] at h
    refine PGs_wk (pgs_cons (sG c t e h.1.2) (sGs c ts es h.2) (by rw [assign_cons h.1.1]; rfl)) fun vs σ H Q ⟨Z, de, T, ds, de1, re, rh, rd, hb, q⟩ => ?_
    cases ds with
    | nil => unfold bindTs at hb; cases hb
    | cons d ds =>
      obtain ⟨de0, b1, b2⟩ := bindTs_cons hb
      obtain ⟨v, r, e1, e2, e3⟩ := rd
      exact ⟨v, r, e1, Z, de, T, d, de0, re, rh, e2, b1, fun σ1 r1 j1 l1 => ⟨Z, de0, T, ds, de1, r1, rh, e3, b2, fun σ2 r2 j2 l2 => q σ2 r2 (fun j hj => by
        unfold slotsTs at hj
        rw [j2 j fun z => hj (List.mem_append_right _ z), j1 j fun z => hj (List.mem_append_left _ z)]) (l2.trans l1)⟩⟩
end
/-! ### comprehensions -/
theorem ie_true {c : Bool} {a b : Prop} (h : if c = true then a else b) (e : c = true) : a := by rw [if_pos e] at h; exact h
theorem wipe_eq {σ σ1 : L2.St} {vs : List Nat} (l : σ1.length = σ.length) (h : ∀ j, j ∉ vs → σ1[j]? = (wipe σ vs)[j]?) : wipe σ1 vs = wipe σ vs := by
  apply List.ext_getElem?
  intro j
  by_cases hj : j ∈ vs
  · have key : ∀ (vs : List Nat) (τ : L2.St), j ∈ vs → (wipe τ vs)[j]? = if j < τ.length then some none else none := by
      intro vs
      induction vs with
      | nil => intro τ z; cases z
      | cons v vs ih =>
        intro τ z
        unfold wipe
        by_cases e : v = j
        · subst e
          by_cases hl : v < τ.length
          · rw [List.getElem?_set_self (by rw [wipe_length]; exact hl), if_pos hl]
          · rw [if_neg hl, List.getElem?_eq_none_iff.mpr]
            rw [List.length_set, wipe_length]; omega
        · rw [List.getElem?_set_ne e]
          exact ih τ ((List.mem_cons.mp z).resolve_left fun q => e q.symm)
    rw [key vs _ hj, key vs _ hj, l]
  · rw [wipe_out hj, h j hj]
section
variable {X : Cx}
abbrev Cx.blkOf (X : Cx) (scope : Scope) (s : Shared) (H : Hp) (C : Addr) (cl : List (Str × Addr)) (fp : List Addr) : Cx := X.blk s H scope (compEnvC scope cl C X.env) fp
/-- what a comprehension's loop keeps -/
theorem lc_ok {σ : L2.St} {Z : Addr → Prop} {T1 : DH} {H1 : Hp} {J : It} {src : Src} {D : Addr} {vs : List Nat} {g : Tgt} {ct : TDT} {ce : TDE} {de : DEnv} {m : Bool} {Qd : DQ} {Q : VK} {gt : TG} {tt : TT} {te : TE}
    (re : RelEnv ((X.K, X.mg), Z) T1 H1 de σ) (rh : RelH ((X.K, X.mg), Z) T1 H1) (ok : SrcOk X Z J src T1 H1) (hD : H1 D = none) (hsl : ∀ j ∈ slotsT g, j ∈ vs)
    (hg : ∀ v σ H Q, lG X g v σ H Q → gt v σ H Q)
    (ht : ∀ σ H Q, lT X (fun _ _ _ _ => False) ct σ H Q → tt σ H Q)
    (he : ∀ σ H Q, lE X (fun _ _ _ _ => False) ce σ H Q → te σ H Q)
    (h : lcL g src ct ce (wipeD de vs) src.xs [] T1 (fun ds T2 => newL m ds T2 Qd)) (q : ThenE X Z T1 H1 Qd Q) :
    ∃ W : Nat → Nat → Hp → Prop, (∃ m, W 0 m (upd H1 D (.lst []))) ∧ ∀ i m H, W i m H →
      (J.stop i H ∧ Q (.ref D) H) ∨ (J.go i H ∧ ∃ Nx : Hp → Prop, (∀ H', Nx H' → ∃ m', m' < m ∧ W (i + 1) m' H') ∧ ∀ x H', J.yld i H x H' → gt x (wipe σ vs) H' fun σ2 H2 => wipe σ2 vs = wipe σ vs ∧ tt σ2 H2 fun b H3 =>
        if b = true then te σ2 H3 fun y H4 => ∃ acc, H4 D = some (.lst acc) ∧ acc.length < sizeLine ∧ Nx (upd H4 D (.lst (acc ++ [y]))) else Nx H3) := by
  have nz : ¬ Z D := rh.nothid hD
  have frD : ∀ {T : DH} {H : Hp} {u : HO}, Fr T1 H1 T H → Fr T1 H1 T (upd H D u) := fun {T H u} f a o e t nt => by
    have n := ne_of_none e hD
    exact ⟨by rw [upd_ne n]; exact (f a o e t nt).1, (f a o e t nt).2⟩
  have hK : hidK ((X.K, X.mg), Z) D = ((X.K, X.mg), fun a => Z a ∨ a = D) := rfl
  have bet : Better ((X.K, X.mg), Z) ((X.K, X.mg), fun a => Z a ∨ a = D) T1 H1 := Better.hide hD
  have rew : ∀ {T : DH} {H : Hp}, Fr T1 H1 T H → RelEnv ((X.K, X.mg), fun a => Z a ∨ a = D) T H (wipeD de vs) (wipe σ vs) := fun {T H} f => ((re.map fun d v r => RelD.hide (K := ((X.K, X.mg), Z)) hD r).fr f).wipe vs
  let P : Nat → Hp → Prop := fun i H => ∃ T acc vacc, Fr T1 H1 T H ∧ RelH ((X.K, X.mg), fun a => Z a ∨ a = D) T H ∧ H D = some (.lst vacc) ∧ RelDs ((X.K, X.mg), fun a => Z a ∨ a = D) T H acc vacc ∧ lcL g src ct ce (wipeD de vs) (src.xs.drop i) acc T (fun ds T2 => newL m ds T2 Qd)
  refine ⟨fun i k H => k = src.xs.length - i ∧ i ≤ src.xs.length ∧ P i H, ⟨src.xs.length, by simp, Nat.zero_le _, T1, [], [], frD .refl, rh.newHid hD, upd_same, rfl, by simpa using h⟩, ?_⟩
  rintro i k H ⟨rfl, hi, T, acc, vacc, f, rh2, hDv, ra, hl⟩
  by_cases hlt : i < src.xs.length
  · obtain ⟨x0, e0⟩ : ∃ x, src.xs[i]? = some x := ⟨_, List.getElem?_eq_getElem hlt⟩
    have ed : src.xs.drop i = x0 :: src.xs.drop (i + 1) := by
      obtain ⟨h1, h2⟩ := List.getElem?_eq_some_iff.mp e0
      rw [List.drop_eq_getElem_cons hlt, h2]
    rw [ed] at hl
    unfold lcL at hl
    obtain ⟨so, de1, hb, hl⟩ := hl
    refine .inr ⟨ok.goes _ i T H bet hlt f rh2 so, P (i + 1), fun H' p' => ⟨src.xs.length - (i + 1), by omega, rfl, hlt, p'⟩, fun x H' y => ?_⟩
    obtain ⟨d, e1, rd, f1, rh3⟩ := ok.ylds _ i T H x H' bet hlt f rh2 so y
    rw [e0] at e1; cases e1
    have hD1 : ∀ {H2 : Hp} {T2 : DH}, Fr T H T2 H2 → H2 D = some (.lst vacc) := fun f2 => (f2 D _ hDv (rh2.hid D (.inr rfl)).2 nofun).1
    refine hg _ _ _ _ ⟨fun a => Z a ∨ a = D, wipeD de vs, T, x0, de1, rew (f.trans f1), rh3, rd, hb, fun σ2 r2 j2 l2 => ⟨wipe_eq (by rw [l2, wipe_length]) fun j hj => j2 j fun z => hj (hsl j z), ?_⟩⟩
    refine ht _ _ _ ⟨fun a => Z a ∨ a = D, de1, T, _, _, r2, rh3, hl, fun b T3 H3 hb3 f3 rh4 => ?_, fun _ _ _ _ _ z => z.elim⟩
    cases b with
    | false =>
      simp only [Bool.false_eq_true, if_false] at hb3 ⊢
      exact ⟨T3, acc, vacc, (f.trans f1).trans f3, rh4, hD1 (f1.trans f3), (ra.fr f1).fr f3, hb3⟩
    | true =>
      simp only [if_true] at hb3 ⊢
      refine he _ _ _ ⟨fun a => Z a ∨ a = D, de1, T3, _, _, r2.fr f3, rh4, hb3, fun y T4 w H4 ⟨hz, hy⟩ f4 r4 rh5 => ?_, fun _ _ _ _ _ z => z.elim⟩
      have hv := hD1 ((f1.trans f3).trans f4)
      have ra4 := ((ra.fr f1).fr f3).fr f4
      refine ⟨vacc, hv, by rw [ra.length]; exact hz, T4, acc ++ [y], vacc ++ [w], frD (((f.trans f1).trans f3).trans f4), ?_, upd_same, ?_, hy⟩
      · exact RelH.stir (K := ((X.K, X.mg), Z)) rh5
      · exact RelDs.stir (K := ((X.K, X.mg), Z)) (ra4.append (.one r4))
  · have e : i = src.xs.length := by omega
    subst e
    rw [List.drop_length] at hl
    unfold lcL at hl
    obtain ⟨so, hl⟩ := hl
    refine .inl ⟨ok.stops _ T H bet f rh2 so, ?_⟩
    cases m with
    | false =>
      have hl : Qd (.lst acc) T := hl
      refine q _ _ _ _ hl f ⟨D, vacc, rfl, hDv, ⟨(rh2.hid D (.inr rfl)).2, nz⟩, RelDs.show (K := ((X.K, X.mg), Z)) ra⟩ (RelH.show (K := ((X.K, X.mg), Z)) rh2)
    | true =>
      have hl : ∀ p, T p = none → Qd (.ref p) (updD T p (.lst acc)) := hl
      have tD := (rh2.hid D (.inr rfl)).2
      refine q _ _ _ _ (hl D tD) (fun a o e t nt => ?_) rfl (RelH.adopt (K := ((X.K, X.mg), Z)) rh2 nz ⟨vacc, hDv, RelDs.adopt (K := ((X.K, X.mg), Z)) ra⟩)
      have n := ne_of_none e hD
      exact ⟨(f a o e t nt).1, by rw [updD_ne n]; exact (f a o e t nt).2⟩
theorem lc_of {g : Tgt} {ti : TDI} {ct : TDT} {ce : TDE} {m : Bool} {vs : List Nat} {W : WX} {gt : TG} {tt : TT} {te : TE} (hsl : ∀ j ∈ slotsT g, j ∈ vs)
    (hg : ∀ v σ H Q, lG X g v σ H Q → gt v σ H Q)
    (ht : ∀ σ H Q, lT X (fun _ _ _ _ => False) ct σ H Q → tt σ H Q)
    (he : ∀ σ H Q, lE X (fun _ _ _ _ => False) ce σ H Q → te σ H Q) (σ : L2.St) (H : Hp) (Q : VK)
    (h : lE X W (fun de T Q E => ti de T (fun src T1 => lcL g src ct ce (wipeD de vs) src.xs [] T1 (fun ds T2 => newL m ds T2 Q)) E) σ H Q) : tLc (lI X W ti) gt tt te vs σ H Q := by
  obtain ⟨Z, de, T, Qd, E, re, rh, h, hq, hx⟩ := h
  exact ⟨Z, de, T, _, E, re, rh, h, fun src T1 J H1 hl f1 rh1 ok D hD => lc_ok (re.fr f1) rh1 ok hD hsl hg ht he hl fun d' T' v' H' q f r rh' => hq d' T' v' H' q (f1.trans f) r rh', hx⟩
end
end DL

set_option linter.all false
set_option maxRecDepth 100000
set_option maxHeartbeats 8000000
namespace DL
open PySem PySem.Spec PyProof.Rows L2
/-! ### lambdas without parameters, handed to a def -/
theorem evV_ex : ∀ {vs : List Nat} {de : DEnv} {q : List D → Prop}, evV vs de q → ∃ ds, ds.length = vs.length ∧ (∀ (j i : Nat), vs[j]? = some i → ∃ d, ds[j]? = some d ∧ de[i]? = some (some d)) ∧ q ds
  | [], de, q, h => ⟨[], rfl, fun j i e => by simp at e, h⟩
  | v :: vs, de, q, h => by
    obtain ⟨d, h1, h2⟩ := h
    obtain ⟨ds, l, c, h3⟩ := evV_ex h2
    refine ⟨d :: ds, by simp [l], fun j i e => ?_, h3⟩
    cases j with
    | zero => simp at e; subst e; exact ⟨d, rfl, h1⟩
    | succ j =>
      obtain ⟨x, a, b⟩ := c j i (by simpa using e)
      exact ⟨x, by simpa using a, b⟩
theorem relV_ex : ∀ v : V, ∃ u, L2.RelV v u
  | .non => ⟨_, rfl⟩
  | .bl b => ⟨_, rfl⟩
  | .int i => ⟨.int i 0, 0, rfl⟩
  | .str i => ⟨.str i 0, 0, rfl⟩
  | .byt i => ⟨.bytes i 0, 0, rfl⟩
  | .flt i => ⟨.float i 0, 0, rfl⟩
  | .ref a => ⟨_, rfl⟩
  | .ty a => ⟨_, rfl⟩
theorem vals_ex : ∀ ws : List V, ∃ us, Vals ws us
  | [] => ⟨[], .nil⟩
  | w :: ws => by
    obtain ⟨u, h⟩ := relV_ex w
    obtain ⟨us, g⟩ := vals_ex ws
    exact ⟨u :: us, .cons h g⟩
theorem relV_one {v w : V} {u : Value} (h : L2.RelV v u) (g : L2.RelV w u) : v = w := by
  cases v <;> cases w <;> simp only [L2.RelV] at h g <;> first
    | rfl
    | (subst h; cases g; rfl)
    | (subst h; cases g; done)
    | (subst h; obtain ⟨_, g⟩ := g; cases g; done)
    | (subst g; obtain ⟨_, h⟩ := h; cases h; done)
    | (obtain ⟨_, h⟩ := h; obtain ⟨_, g⟩ := g; subst h; cases g; first | rfl | done)
theorem vals_one : ∀ {vs ws : List V} {us : List Value}, Vals vs us → Vals ws us → vs = ws
  | [], [], _, _, _ => rfl
  | [], _ :: _, _, .nil, h => nomatch h
  | _ :: _, [], _, h, .nil => nomatch h
  | v :: vs, w :: ws, _, .cons a b, .cons c d => by rw [relV_one a c, vals_one b d]
theorem capt_ws {K : KZ} {T : DH} {H : Hp} {de : DEnv} {σ : L2.St} (re : RelEnv K T H de σ) : ∀ {vs : List Nat} {ds : List D}, ds.length = vs.length → (∀ (j i : Nat), vs[j]? = some i → ∃ d, ds[j]? = some d ∧ de[i]? = some (some d)) →
    ∃ ws, RelDs K T H ds ws ∧ ∀ (j i : Nat), vs[j]? = some i → ∃ w, ws[j]? = some w ∧ σ[i]? = some (some w)
  | [], [], _, _ => ⟨[], rfl, fun j i e => by simp at e⟩
  | [], _ :: _, l, _ => by simp at l
  | _ :: _, [], l, _ => by simp at l
  | v :: vs, d :: ds, l, h => by
    obtain ⟨d', a, b⟩ := h 0 v rfl
    cases a
    obtain ⟨w, g1, g2⟩ := re.2 v d b
    obtain ⟨ws, g3, g4⟩ := capt_ws re (vs := vs) (ds := ds) (by simpa using l) fun j i e => by simpa using h (j + 1) i (by simpa using e)
    refine ⟨w :: ws, ⟨w, ws, rfl, g2, g3⟩, fun j i e => ?_⟩
    cases j with
    | zero => simp at e; subst e; exact ⟨w, rfl, g1⟩
    | succ j =>
      obtain ⟨x, a, b⟩ := g4 j i (by simpa using e)
      exact ⟨x, by simpa using a, b⟩
theorem noPar_eq {a : Arguments} (h : noPar a = true) : a = ⟨[], [], none, [], [], none, []⟩ := by
  obtain ⟨p, q, r, s, t, u, v⟩ := a
  unfold noPar at h
  simp only [Bool.and_eq_true, List.isEmpty_iff, Option.isNone_iff_eq_none] at h
  obtain ⟨⟨⟨⟨⟨⟨rfl, rfl⟩, rfl⟩, rfl⟩, rfl⟩, rfl⟩, rfl⟩ := h
  rfl
section
variable {X : Cx} {pins : List (Addr × Obj)} {σ : L2.St} {H : Hp} {s : Shared}
/-- a new object of ours is told of from now on -/
theorem Inv.adoptG {a : Addr} {o : Obj} {u : HO} (I : L2.Inv X pins σ H s) (ga : s.heap.get? a = some o) (na : H a = none) (n0 : X.s_0.heap.get? a = none) (nL : a ≠ X.env.locals) (nc : ∀ v, o.data ≠ .cell v) (np : ∀ p ∈ X.pn ++ pins, p.1 ≠ a) (ok : ObjOk X.prog X.w (upd H a u) s.heap a u) :
    L2.Inv X pins σ (upd H a u) s := by
  have ne : ∀ b w, H b = some w → b ≠ a := fun b w e => ne_of_none e na
  have ne0 : ∀ b o, X.s_0.heap.get? b = some o → b ≠ a := fun b o e z => by rw [z, n0] at e; cases e
  refine ⟨I.ok, I.os, I.bare, ⟨I.base.keep, I.base.slot, fun b w e n hx => ?_, I.base.there, fun b xs e => ?_, fun b w v e => ?_, fun b ps e => ?_⟩, I.loc, I.cell, ?_, fun x c e => ?_, fun p hp => ?_, fun b w e => ?_, I.len⟩
  · rw [upd_ne (ne0 b w e)]; exact I.base.free b w e n hx
  · rw [upd_ne (ne _ _ (I.base.tups b xs e))]; exact I.base.tups b xs e
  · rw [upd_ne (ne _ _ (I.base.frzs b w v e))]; exact I.base.frzs b w v e
  · obtain ⟨m, q⟩ := I.base.tbls b ps e
    refine ⟨m, ?_⟩
    rw [upd_ne (ne _ _ q)]; exact q
  · rw [upd_ne (Ne.symm nL)]; exact I.free
  · have hc : c ≠ a := fun z => by
      obtain ⟨v, w, ho, hdc⟩ := I.cell x c e
      subst z
      rw [ga] at ho; cases ho
      exact nc _ hdc
    rw [upd_ne hc]; exact I.freeC x c e
  · obtain ⟨e, n, l⟩ := I.pin p hp
    refine ⟨e, ?_, l⟩
    rw [upd_ne (np p hp)]; exact n
  · by_cases hb : b = a
    · subst hb
      rw [upd_same] at e
      cases e
      exact ok
    · rw [upd_ne hb] at e
      refine (I.hok b w e).stay (fun c v _ q => q) (fun c q => ?_) fun c xs q => ?_
      · rw [upd_ne (ne _ _ q)]; exact q
      · rw [upd_ne (ne _ _ q)]; exact q
theorem lamO_ok {P : Program} {w : World} {H' : Hp} {h : Heap} {a : Addr} {o : Obj} {k : Nat} {us : List Value} (e : h.get? a = some o) : ObjOk P w H' h a (LamO a o k us) :=
  ⟨e, .inl e, ⟨o, e⟩, fun _ _ z k => z.elim (fun z => .inl (k _ z)) fun z => .inr (k _ z)⟩
/-- what a growing table does to the rest -/
theorem RelH.grow {Z : Addr → Prop} {T : DH} {P c : Addr} {q : Str} {ps : Array Value} {pos : Pos} (r : RelH ((X.K, X.mg), Z) T H) (it : IsTab X.K P q) (uq : ∀ q', IsTab X.K P q' → q' = q) (hP : H P = some (.tbl ps)) (hc : H c = none) :
    Fr T H T (upd (upd H P (.tbl (ps ++ #[rawInt pos.line, rawInt pos.col, .ref c]))) c (LamX.CodeO c q)) ∧ RelH ((X.K, X.mg), Z) T (upd (upd H P (.tbl (ps ++ #[rawInt pos.line, rawInt pos.col, .ref c]))) c (LamX.CodeO c q)) := by
  obtain ⟨ps', h1, h2, h3, h4⟩ := r.tab P q it
  rw [hP] at h1; cases h1
  have nPc : P ≠ c := ne_of_none hP hc
  have at_ : ∀ b, b ≠ P → b ≠ c → upd (upd H P (.tbl (ps ++ #[rawInt pos.line, rawInt pos.col, .ref c]))) c (LamX.CodeO c q) b = H b := fun b g1 g2 => by
    rw [upd_ne g2, upd_ne g1]
  have f : Fr T H T (upd (upd H P (.tbl (ps ++ #[rawInt pos.line, rawInt pos.col, .ref c]))) c (LamX.CodeO c q)) := fun a o e t n => by
    refine ⟨?_, t⟩
    rw [at_ a (fun z => n ps (by subst z; rw [hP] at e; exact (Option.some.inj e).symm)) (ne_of_none e hc)]
    exact e
  refine ⟨f, fun a o e => ?_, fun a z => ?_, fun P2 q2 it2 => ?_⟩
  · obtain ⟨w, hw⟩ := (r.ob a o e).there
    refine (r.ob a o e).fr f (at_ a (fun z => ?_) (ne_of_none hw hc))
    subst z; rw [h2.1] at e; cases e
  · obtain ⟨⟨o, e⟩, t⟩ := r.hid a z
    exact ⟨⟨o, by rw [at_ a (fun y => h2.2 (by rw [← y]; exact z)) (ne_of_none e hc)]; exact e⟩, t⟩
  · have codes : ∀ {c2 : Addr} {q' : Str}, H c2 = some (LamX.CodeO c2 q') → upd (upd H P (.tbl (ps ++ #[rawInt pos.line, rawInt pos.col, .ref c]))) c (LamX.CodeO c q) c2 = some (LamX.CodeO c2 q') := fun {c2 q'} e => by
      rw [at_ c2 (fun z => ?_) (ne_of_none e hc)]
      · exact e
      · subst z; rw [hP] at e; exact absurd (Option.some.inj e).symm (LamX.codeO_ne _)
    by_cases hp2 : P2 = P
    · subst hp2
      obtain rfl := uq _ it2
      refine ⟨_, by rw [upd_ne nPc, upd_same], h2, ?_, fun p2 cv hcv => ?_⟩
      · have e : (ps ++ #[rawInt pos.line, rawInt pos.col, .ref c]).toList = ps.toList ++ [rawInt pos.line, rawInt pos.col, .ref c] := by simp
        rw [e]; exact PySem.TriplesOk_snoc _ _ _ _ h3
      · have e : (ps ++ #[rawInt pos.line, rawInt pos.col, .ref c]).toList = ps.toList ++ [rawInt pos.line, rawInt pos.col, .ref c] := by simp
        rw [e] at hcv
        rcases LamX.among_app _ h3 hcv with z | z
        · obtain ⟨c0, e1, e2, e3⟩ := h4 p2 cv z
          exact ⟨c0, e1, codes e2, e3⟩
        · exact ⟨c, z, upd_same, r.free hc, r.nothid hc⟩
    · obtain ⟨ps2, g1, g2, g3, g4⟩ := r.tab P2 q2 it2
      refine ⟨ps2, by rw [at_ P2 hp2 (ne_of_none g1 hc)]; exact g1, g2, g3, fun p2 cv hcv => ?_⟩
      obtain ⟨c0, e1, e2, e3⟩ := g4 p2 cv hcv
      exact ⟨c0, e1, codes e2, e3⟩
theorem among_new {pos : Pos} {c : Value} : ∀ {l : List Value}, TriplesOk l → codeAmong pos l = none → codeAmong pos (l ++ [rawInt pos.line, rawInt pos.col, c]) = some c := by
  intro l h hc
  fun_induction TriplesOk l with
  | case1 => simp [codeAmong, rawInt]
  | case2 a t b u x rest ih =>
    simp only [List.cons_append, codeAmong] at hc ⊢
    split at hc
    · cases hc
    · rename_i q
      rw [if_neg q]; exact ih h hc
  | case3 l h1 h2 => exact h.elim
theorem among_more {pos : Pos} {cv : Value} (r : List Value) : ∀ (l : List Value), TriplesOk l → codeAmong pos l = some cv → codeAmong pos (l ++ r) = some cv := by
  intro l h hc
  fun_induction TriplesOk l with
  | case1 => simp [codeAmong] at hc
  | case2 a t b u x rest ih =>
    simp only [List.cons_append, codeAmong] at hc ⊢
    split at hc
    · rename_i q
      rw [if_pos q]; exact hc
    · rename_i q
      rw [if_neg q]; exact ih h hc
  | case3 l h1 h2 => exact h.elim
end
section
variable {tb : Tab} {G : Nat → DSp} {X : Cx} {N : List Str} {sc : Scope} {st : List Str} {k : Nat}
/-- x(lambda: body) -/
theorem de_lamc {f kk : Nat} {vs : List Nat} {x : Str} {ps : List Str} {ck : Scope → Expr → Bool} {params : Arguments} {body : Expr} {scope : Scope} {p lpos pos : Pos} (c : Cok tb G X N sc st k) (ef : tb.ft[f]? = some (x, ps)) (hps : ps.length = 1) (el : tb.lam[kk]? = some (N, vs, ck)) (hg : Gl X x) (hpx : plainN x = true)
    (hclo : tb.clo.contains f = true) (hmk : tb.mkr = true) (hnp : noPar params = true) (hls : LamX.lamSB sc scope = true) (hck : ck scope body = true) :
    DE X (.Call (.Name x p) [.Lambda params body scope lpos] [] pos) (fun de T Q E => evV vs de fun ds => ∀ a, T a = none → G f [.ref a] (updD T a (.clo kk ds)) Q E) := fun W tk => by
  obtain ⟨pl1, pl2, pl3⟩ := plainN_of hpx
  refine ⟨fun pins s σ H Q I ⟨Z, de, T, Qd, E, re, rh, ht, hq, hx⟩ => ?_⟩
  obtain ⟨ds, dl, hcap, hgo⟩ := evV_ex ht
  obtain ⟨ws, rw0, hws⟩ := capt_ws re dl hcap
  obtain ⟨us, hus⟩ := vals_ex ws
  obtain ⟨fa, fd, f1, f2, f3, F⟩ := c.fc f _ _ ef hclo
  obtain ⟨x0, hx0, cc, P, t0, hcode, hqual, TB, uq⟩ := c.mkr hmk
  have hquL : X.env.qual ++ ("<lambda>" : String) = qualL x0 := by rw [hqual]; rfl
  have it : IsTab X.K P (qualL x0) := ⟨x0, hx0, cc, t0, rfl⟩
  have uqT : ∀ q', IsTab X.K P q' → q' = qualL x0 := fun q' ⟨y, hy, c2, e1, e2⟩ => by rw [e2, uq y hy c2 e1]
  have LS : LamX.LamS X.env.scope scope := LamX.lamS_by (by rw [c.hsc]; exact hls)
  have hfree := LS.has I.ok
  have hdef : defaultsOf params X.env = ([], []) := by rw [noPar_eq hnp]; rfl
  obtain ⟨tp, hP, tP, tt, _⟩ := rh.tab P _ it
  have hP' : s.heap.get? P = some { cls := .none, data := .fields tp } := I.hok P _ hP
  have bP : s.heap.BuiltinsAt X.mg P := TB.bm.keeps I.bk
  refine wpAny_Call_Name_kw (ld_glob I hg f1 ?_ pl1)
  refine PySem.W.callWith_K (h₀ := X.base) I.ok.mod.kin f2 ?_ (by rfl) (by rfl)
  show wpAny _ _ (spliced ((false, eval (.Lambda params body scope lpos) X.env) :: backTo pos (starEach [] X.env))) _ _ s
  have go : ∀ (a c' : Addr) (pm ctv : Value) (H1 : Hp) (s' : Shared) (tp' : Array Value), L2.Inv X pins σ H1 s' → RelH ((X.K, X.mg), Z) T H1 → Fr T H T H1 →
      s'.heap.get? a = some (PySem.W.kla_obj "<lambda>" (X.env.qual ++ ("<lambda>" : String)) params body scope (cloFrom X.env.cells scope.names []) pm c' ctv) → s.heap.objs.size ≤ a → H1 a = none →
      H1 P = some (.tbl tp') → TriplesOk tp'.toList → codeAmong lpos tp'.toList = some (.ref c') →
      wpAny (model X.prog X.w) X.A (spliced (backTo pos (starEach [] X.env)) >>= fun r => pure (Value.ref a :: r)) (fun us' s2 => X.K.In s2.heap ∧ wpAny (model X.prog X.w) X.A (call (.ref fa) us') (EP X pins σ Q) X.xe s2) X.xe s' := by
    intro a c' pm ctv H1 s' tp' I1 rh1 fr1 ha hsz na hP1 ht1 hc1
    refine wpAny_bind (Calls.spliced_nil (wpAny_pure ⟨I1.kIn, ?_⟩))
    have n0 : X.s_0.heap.get? a = none := Heap.get?_none_of_le (Nat.le_trans I.sz hsz)
    have nL : a ≠ X.env.locals := Nat.ne_of_gt (Nat.lt_of_lt_of_le I.lt hsz)
    have np : ∀ q ∈ X.pn ++ pins, q.1 ≠ a := fun q hq' => Nat.ne_of_lt (Nat.lt_of_lt_of_le (Heap.lt_size (I.pin q hq').1) hsz)
    have I2 := Inv.adoptG (u := LamO a (PySem.W.kla_obj "<lambda>" (X.env.qual ++ ("<lambda>" : String)) params body scope (cloFrom X.env.cells scope.names []) pm c' ctv) kk us) I1 ha na n0 nL nofun np (lamO_ok ha)
    have f2' : Fr T H1 (updD T a (.clo kk ds)) (upd H1 a (LamO a (PySem.W.kla_obj "<lambda>" (X.env.qual ++ ("<lambda>" : String)) params body scope (cloFrom X.env.cells scope.names []) pm c' ctv) kk us)) := fr_newT na
    have rh2 : RelH ((X.K, X.mg), Z) (updD T a (.clo kk ds)) (upd H1 a (LamO a (PySem.W.kla_obj "<lambda>" (X.env.qual ++ ("<lambda>" : String)) params body scope (cloFrom X.env.cells scope.names []) pm c' ctv) kk us)) :=
      rh1.newT na ⟨_, us, ws, rfl, upd_same, hus, (rw0.fr fr1).fr f2'⟩
    have bnd := f3 s' [.ref a] I2.kIn (by rw [List.append_nil, hps]; rfl)
    rw [List.append_nil] at bnd
    have sp : lSp X.K X.mg ps.length (G f) [.ref a] (upd H1 a (LamO a (PySem.W.kla_obj "<lambda>" (X.env.qual ++ ("<lambda>" : String)) params body scope (cloFrom X.env.cells scope.names []) pm c' ctv) kk us)) Q (WE W σ) :=
      ⟨Z, [.ref a], _, Qd, E, hps.symm, .one rfl, rh2, hgo a (rh1.free na), fun d T' v H' q f r r' => hq d T' v H' q ((fr1.trans f2').trans f) r r', fun y T' cls dd H' e f r rx => hx y T' cls dd H' e ((fr1.trans f2').trans f) r rx⟩
    have key := F.run X.A X.stack s' _ ⟨[.ref a], []⟩ [.ref a] [.ref a] Q (WE W σ) c.room c.grd I2.env0 bnd (.cons rfl .nil) sp fun b eb => by
      cases eb
      exact ⟨X, pins, σ, kk, N, vs, ck, params, body, scope, pm, c', ctv, us, ws, P, tp', lpos, ⟨rfl, rfl, rfl, rfl, rfl, rfl, c.hN⟩, I2, LS, hnp, upd_same, el, hck, by rw [hquL]; exact it, by rw [upd_ne (ne_of_none hP1 na)]; exact hP1, ht1, hc1, hus, hws⟩
    refine wpAny_call (codeAny_mono key fun res s2 hres => ?_)
    match res, hres with
    | .error e, hres => exact passAtD tk σ pins _ s' e s2 I2 hres
    | .ok (.ret u), hres => exact I2.after hres
    | .ok .next, hres => exact False.elim hres
    | .ok .brk, hres => exact False.elim hres
    | .ok .cont, hres => exact False.elim hres
  refine Calls.spliced_cons (PySem.W.kla_eval hdef ?_)
  cases hc : codeAmong lpos tp.toList with
  | none =>
    refine PySem.W.kla_makeFunction (closure_ok hfree) I.ok.glob (I.mod.glob.keeps I.bk) hcode (TB.code.keeps I.bk) hP' tt hc TB.gP bP fun c' ctv h' tk' hx' hge hlt hrec htb => ?_
    obtain ⟨c2, oc, vs', t, e2, hoc, hd, hv⟩ := hrec
    cases e2
    have hsz : s.heap.objs.size ≤ h'.objs.size := Nat.le_trans hge (Nat.le_of_lt hlt)
    have nC : H c' = none := I.hok.fresh hge
    have nP : H h'.objs.size = none := I.hok.fresh hsz
    obtain ⟨g1, g2⟩ := rh.grow (pos := lpos) it uqT hP nC
    have I1 := LamX.inv_table (q := qualL x0) (t' := tk') (more := #[rawInt lpos.line, rawInt lpos.col, .ref c']) (h' := h'.push (PySem.W.kla_obj "<lambda>" (X.env.qual ++ ("<lambda>" : String)) params body scope (cloFrom X.env.cells scope.names []) ((X.mg "__name__").getD .none) c' ctv)) I hP
      (fun b o hb e => Heap.get?_push_of_some _ (hx' b o hb e)) (Heap.get?_push_of_some _ htb) hge ⟨oc, vs', t, Heap.get?_push_of_some _ hoc, hd, by rw [← hquL]; exact hv⟩
    have eL : (tp ++ #[rawInt lpos.line, rawInt lpos.col, .ref c']).toList = tp.toList ++ [rawInt lpos.line, rawInt lpos.col, .ref c'] := by simp
    refine go h'.objs.size c' _ ctv _ _ _ I1 g2 g1 (Heap.get?_push_size _ rfl) hsz ?_ (by rw [upd_ne (ne_of_none hP nC), upd_same]) (by rw [eL]; exact PySem.TriplesOk_snoc _ _ _ _ tt) ?_
    · rw [upd_ne (Nat.ne_of_gt hlt), upd_ne (Ne.symm (ne_of_none hP nP))]; exact nP
    · rw [eL]; exact among_new tt hc
  | some cv =>
    obtain ⟨_, h1, _, _, h4⟩ := rh.tab P _ it
    rw [hP] at h1; cases h1
    obtain ⟨c', e, hco⟩ := h4 lpos cv hc
    subst e
    refine PySem.W.kla_makeFunctionHit (closure_ok hfree) I.ok.glob (I.mod.glob.keeps I.bk) hcode (TB.code.keeps I.bk) hP' tt hc bP fun ctv h' tk' hx' hsz => ?_
    have I1 : L2.Inv X pins σ H { s with heap := h'.push (PySem.W.kla_obj "<lambda>" (X.env.qual ++ ("<lambda>" : String)) params body scope (cloFrom X.env.cells scope.names []) ((X.mg "__name__").getD .none) c' ctv), toks := tk' } := I.kept fun b o e => Heap.get?_push_of_some _ (hx' b o e)
    exact go h'.objs.size c' _ ctv H _ tp I1 rh .refl (Heap.get?_push_size _ rfl) hsz (I.hok.fresh hsz) hP tt hc
end
end DL

set_option linter.all false
set_option maxRecDepth 100000
set_option maxHeartbeats 8000000
namespace DL
open PySem PySem.Spec L2
variable {tb : Tab} {G : Nat → DSp}
theorem stOf_mem {sc : Scope} {x : Str} (h : x ∈ stOf sc) : sc.names.lookup x = some .local ∨ sc.names.lookup x = some .cell := by
  unfold stOf at h
  obtain ⟨⟨n, kd⟩, h1, h2⟩ := List.mem_filterMap.mp h
  simp only at h2
  split at h2
  · cases h2; exact .inl (by assumption)
  · cases h2; exact .inr (by assumption)
  · cases h2
theorem Cok.blk {X : Cx} {N : List Str} {sc : Scope} {st : List Str} {k : Nat} (c : Cok tb G X N sc st k) {scope : Scope} {own : List (Str × Nat)} (ok : BlkOk N sc scope own) (s : Shared) (H : Hp) (C : Addr) (cl : List (Str × Addr)) (fp : List Addr) :
    Cok tb G (X.blk s H scope (compEnvC scope cl C X.env) fp) N (relS scope sc) (stOf scope) k := by
  have hs : (compEnvC scope cl C X.env).scope = relS scope sc := by rw [← c.hsc]; rfl
  refine ⟨c.calm, c.hN, c.nd, hs, ok.kind, fun x hx => ?_, PassesOwn.never, c.room, c.k2, c.grd, c.bl, c.ex, c.gi, c.gs, c.mkr, c.fc, c.ft⟩
  show Loc (compEnvC scope cl C X.env).scope x ∧ ((scope.names.lookup x == some .cell) = true ∨ (compEnvC scope cl C X.env).scope.names.lookup x = some .local)
  rw [hs]
  rcases stOf_mem hx with h | h
  · have e : (relS scope sc).names.lookup x = some .local := lookup_relS_keep (by decide) h
    exact ⟨.inl e, .inr e⟩
  · have e : (relS scope sc).names.lookup x = some .cell := lookup_relS_keep (by decide) h
    exact ⟨.inr e, .inl (by rw [h]; decide)⟩
theorem Cok.gl {X : Cx} {N : List Str} {sc : Scope} {st : List Str} {k : Nat} (c : Cok tb G X N sc st k) {x : Str} (h : glB sc x = true) : Gl X x := by
  show X.env.scope.names.lookup x = _
  rw [c.hsc]; exact gl_of h
theorem Cok.vis {X : Cx} {N : List Str} {sc : Scope} {st : List Str} {k : Nat} (c : Cok tb G X N sc st k) {x : Str} (h : visB sc x = true) : Vis X.env.scope x := by
  rw [c.hsc]; exact vis_of h
theorem Cok.hNd {X : Cx} {N : List Str} {sc : Scope} {st : List Str} {k : Nat} (c : Cok tb G X N sc st k) : X.N.Nodup := c.hN ▸ c.nd
theorem chkEs_star : ∀ {es : List IE} {N : List Str} {sc : Scope} {fs : List Expr}, chkEs tb es N sc fs = true → fs.all notStar = true ∧ fs.length = es.length
  | [], _, _, [], _ => ⟨rfl, rfl⟩
  | [], _, _, _ :: _, h => by unfold chkEs at h; cases h
  | _ :: _, _, _, [], h => by unfold chkEs at h; cases h
  | e :: es, N, sc, f :: fs, h => by
    unfold chkEs at h
    simp only [Bool.and_eq_true] at h
    obtain ⟨h1, h2⟩ := chkEs_star h.2
    exact ⟨by rw [List.all_cons, h.1.1, h1]; rfl, by simp [h2]⟩
theorem bfn_boot (f : Bfn) : bootBuiltins (bkName (bfnOf f)) = some (bkVal (bfnOf f)) := by cases f <;> decide +kernel
theorem de_var {X : Cx} {i : Nat} {x : Str} {pos : Pos} (hN : X.N[i]? = some x) (hv : Vis X.env.scope x) (hp : plainN x = true) : DE X (.Name x pos) (fun de T Q _ => ∃ d, de[i]? = some (some d) ∧ Q d T) := fun W tk => by
  obtain ⟨p1, p2, p3⟩ := plainN_of hp
  exact PE_wk (pe_var hN hv p1 p2) fun σ H Q ⟨Z, de, T, Qd, E, re, rh, ⟨d, e, ht⟩, hq, hx⟩ => by
    obtain ⟨v, h1, h2⟩ := re.2 i d e
    exact ⟨v, h1, hq _ _ _ _ ht .refl h2 rh⟩
theorem de_dem {X : Cx} {pos : Pos} : DE X (.Dict [] [] pos) (fun _ T Q _ => Q .emp T) := fun W tk =>
  PE_wk pe_dnewK fun σ H Q ⟨Z, de, T, Qd, E, re, rh, ht, hq, hx⟩ p hp => hq _ _ _ _ ht (fr_new hp) ⟨p, rfl, upd_same, ⟨rh.free hp, rh.nothid hp⟩⟩ (rh.new hp)
theorem de_dnew {X : Cx} {t : Nat} {pos : Pos} : DE X (.Dict [] [] pos) (fun _ T Q _ => ∀ p, T p = none → Q (.ref p) (updD T p (newDict t))) := fun W tk => by
  match t with
  | 0 => exact PE_wk pe_dnewK fun σ H Q ⟨Z, de, T, Qd, E, re, rh, ht, hq, hx⟩ p hp => hq _ _ _ _ (ht p (rh.free hp)) (fr_newT hp) rfl (rh.newT hp ⟨[], upd_same, rfl⟩)
  | 1 => exact PE_wk pe_dnewT fun σ H Q ⟨Z, de, T, Qd, E, re, rh, ht, hq, hx⟩ p hp => hq _ _ _ _ (ht p (rh.free hp)) (fr_newT hp) rfl (rh.newT hp ⟨[], upd_same, rfl⟩)
  | n + 2 => exact PE_wk pe_dnewN fun σ H Q ⟨Z, de, T, Qd, E, re, rh, ht, hq, hx⟩ p hp => hq _ _ _ _ (ht p (rh.free hp)) (fr_newT hp) rfl (rh.newT hp ⟨[], upd_same, rfl⟩)
theorem chain_eq : ∀ (es : List IE) (de : DEnv) (T : DH) (Q : List D → DH → Prop) (E : EQ), chainE (es.map (evE G)) de T Q E = evEs G es de T Q E
  | [], de, T, Q, E => rfl
  | e :: es, de, T, Q, E => by
    show evE G e de T (fun x T1 => chainE (es.map (evE G)) de T1 (fun xs T2 => Q (x :: xs) T2) E) E = evE G e de T (fun x T1 => evEs G es de T1 (fun xs T2 => Q (x :: xs) T2) E) E
    congr 1
    funext x T1
    exact chain_eq es de T1 _ E
theorem lE_blk {X : Cx} {s : Shared} {H0 : Hp} {scope : Scope} {cenv : Env} {fp : List Addr} {t : TDE} : lE (X.blk s H0 scope cenv fp) (fun _ _ _ _ => False) t = lE X (fun _ _ _ _ => False) t := rfl
theorem lT_blk {X : Cx} {s : Shared} {H0 : Hp} {scope : Scope} {cenv : Env} {fp : List Addr} {t : TDT} : lT (X.blk s H0 scope cenv fp) (fun _ _ _ _ => False) t = lT X (fun _ _ _ _ => False) t := rfl
theorem lG_blk {X : Cx} {s : Shared} {H0 : Hp} {scope : Scope} {cenv : Env} {fp : List Addr} {t : Tgt} : lG (X.blk s H0 scope cenv fp) t = lG X t := rfl
/-- a clause's tests -/
def DC (X : Cx) (es : List Expr) (t : TDT) : Prop := ∀ W, Takes X W → PTs X es (lT X W t)
theorem PTs_wk {X : Cx} {e : List Expr} {t t' : TT} (h : PTs X e t) (w : ∀ σ H Q, t' σ H Q → t σ H Q) : PTs X e t' := ⟨fun pins s σ H Q I q => h.run pins s σ H Q I (w σ H Q q)⟩
theorem takesD0 {X : Cx} : Takes X (fun _ _ _ _ => False) := takes_L2 fun _ _ z => by obtain ⟨_, _, _, _, _, _, _, _, _, _, _, _, _, _, _, _, w⟩ := z; exact w.elim
/-- the parts of a comprehension -/
theorem lc_parts {X : Cx} {N : List Str} {sc : Scope} {st : List Str} {k : Nat} (c : Cok tb G X N sc st k) {scope : Scope} {own : List (Str × Nat)} {g : Tgt} {tg x : Expr} {ifs : List Expr} {ct : TDT} {ce : TDE} (ok : BlkOk N sc scope own)
    (hg : chkG g N (stOf scope) tg = true) (hc : ∀ {X : Cx}, Cok tb G X N (relS scope sc) (stOf scope) k → DC X ifs ct) (he : ∀ {X : Cx}, Cok tb G X N (relS scope sc) (stOf scope) k → DE X x ce) :
    (∀ (s : Shared) (H : Hp) (C : Addr) (cl : List (Str × Addr)) (fp : List Addr), PG (X.blk s H scope (compEnvC scope cl C X.env) fp) tg (lG X g)) ∧
    (∀ (s : Shared) (H : Hp) (C : Addr) (cl : List (Str × Addr)) (fp : List Addr), PTs (X.blk s H scope (compEnvC scope cl C X.env) fp) ifs (lT X (fun _ _ _ _ => False) ct)) ∧
    (∀ (s : Shared) (H : Hp) (C : Addr) (cl : List (Str × Addr)) (fp : List Addr), PE (X.blk s H scope (compEnvC scope cl C X.env) fp) x (lE X (fun _ _ _ _ => False) ce)) :=
  ⟨fun s H C cl fp => sG (c.blk ok s H C cl fp).tok g tg hg, fun s H C cl fp => hc (c.blk ok s H C cl fp) _ takesD0, fun s H C cl fp => he (c.blk ok s H C cl fp) _ takesD0⟩
theorem de_lc {X : Cx} {N : List Str} {sc : Scope} {st : List Str} {k : Nat} (c : Cok tb G X N sc st k) {scope : Scope} {own : List (Str × Nat)} {g : Tgt} {tg it x : Expr} {ifs : List Expr} {ti : TDI} {ct : TDT} {ce : TDE} {m : Bool} {pos : Pos} (ok : BlkOk N sc scope own)
    (hi : DI X tg it ti) (hsl : ∀ j ∈ slotsT g, j ∈ own.map (·.2)) (hns : notSet it = true)
    (hg : chkG g N (stOf scope) tg = true) (hc : ∀ {X : Cx}, Cok tb G X N (relS scope sc) (stOf scope) k → DC X ifs ct) (he : ∀ {X : Cx}, Cok tb G X N (relS scope sc) (stOf scope) k → DE X x ce) :
    DE X (.ListComp x [⟨tg, it, ifs, 0⟩] scope pos) (fun de T Q E => ti de T (fun src T1 => lcL g src ct ce (wipeD de (own.map (·.2))) src.xs [] T1 (fun ds T2 => newL m ds T2 Q)) E) := fun W tk => by
  obtain ⟨h1, h2, h3⟩ := lc_parts c ok hg hc he
  exact PE_wk (pe_lc c.calm c.hNd (hi W tk) (by rw [c.hN, c.hsc]; exact ok) h1 h2 h3 (fold_plain hns)) fun σ H Q h =>
    lc_of hsl (fun _ _ _ _ h => h) (fun _ _ _ h => h) (fun _ _ _ h => h) σ H Q h
theorem cE {X : Cx} {e : Expr} {t t' : TDE} (h : DE X e t) (w : t = t') : DE X e t' := w ▸ h
theorem cT {X : Cx} {e : Expr} {t t' : TDT} (h : DT2 X e t) (w : t = t') : DT2 X e t' := w ▸ h
theorem cA {X : Cx} {e : List Expr} {n : Nat} {t t' : TDA} (h : DA X e n t) (w : t = t') : DA X e n t' := w ▸ h
theorem cO {X : Cx} {e : Option Expr} {t t' : DEnv → DH → (Option Int → DH → Prop) → EQ → Prop} (h : DOp X e t) (w : t = t') : DOp X e t' := w ▸ h
theorem cI {X : Cx} {tg e : Expr} {t t' : TDI} (h : DI X tg e t) (w : t = t') : DI X tg e t' := w ▸ h
mutual
theorem sE : ∀ (ir : IE) {X : Cx} {N : List Str} {sc : Scope} {st : List Str} {k : Nat}, Cok tb G X N sc st k → ∀ (e : Expr), chkE tb ir N sc e = true → DE X e (evE G ir)
  | .kN, X, N, sc, st, k, c, e, h => by
    unfold chkE at h; split at h
    · exact de_c pe_non fun _ _ _ => rfl
    · cases h
  | .kB b, X, N, sc, st, k, c, e, h => by
    unfold chkE at h; split at h
    · obtain rfl := of_decide_eq_true h
      exact de_c pe_bl fun _ _ _ => rfl
    · cases h
  | .kI i, X, N, sc, st, k, c, e, h => by
    unfold chkE at h; split at h
    · obtain rfl := of_decide_eq_true h
      exact de_c pe_int fun _ _ _ => rfl
    · cases h
  | .kS s, X, N, sc, st, k, c, e, h => by
    unfold chkE at h; split at h
    · obtain rfl := of_decide_eq_true h
      exact de_c pe_str fun _ _ _ => rfl
    · cases h
  | .var i, X, N, sc, st, k, c, e, h => by
    unfold chkE at h; split at h
    · simp only [Bool.and_eq_true, decide_eq_true_eq] at h
      exact de_var (by rw [c.hN]; exact h.1.1) (c.vis h.1.2) h.2
    · cases h
  | .gli y n, X, N, sc, st, k, c, e, h => by
    unfold chkE at h; split at h
    · simp only [Bool.and_eq_true, decide_eq_true_eq] at h
      obtain ⟨⟨⟨rfl, h2⟩, h3⟩, h4⟩ := h
      obtain ⟨t, h5⟩ := c.gi _ _ h4
      exact de_c (pe_glob (v := .int n) (c.gl h2) h5 ⟨t, rfl⟩ (plainN_of h3).1) fun _ _ _ => rfl
    · cases h
  | .gls y s, X, N, sc, st, k, c, e, h => by
    unfold chkE at h; split at h
    · simp only [Bool.and_eq_true, decide_eq_true_eq] at h
      obtain ⟨⟨⟨rfl, h2⟩, h3⟩, h4⟩ := h
      obtain ⟨t, h5⟩ := c.gs _ _ h4
      exact de_c (pe_glob (v := .str s) (c.gl h2) h5 ⟨t, rfl⟩ (plainN_of h3).1) fun _ _ _ => rfl
    · cases h
  | .tup es, X, N, sc, st, k, c, e, h => by
    unfold chkE at h; split at h
    · simp only [Bool.and_eq_true, decide_eq_true_eq] at h
      exact cE (de_tup (sEs es c _ h.1) h.2) rfl
    · cases h
  | .lst m es, X, N, sc, st, k, c, e, h => by
    unfold chkE at h; split at h
    · simp only [Bool.and_eq_true, decide_eq_true_eq] at h
      exact cE (de_lst (m := m) (sEs es c _ h.1) h.2) rfl
    · cases h
  | .dem, X, N, sc, st, k, c, e, h => by
    unfold chkE at h; split at h
    · exact de_dem
    · cases h
  | .dnew t, X, N, sc, st, k, c, e, h => by
    unfold chkE at h; split at h
    · exact de_dnew
    · cases h
  | .dic a b, X, N, sc, st, k, c, e, h => by
    unfold chkE at h; split at h
    · simp only [Bool.and_eq_true] at h
      exact cE (de_dic (sE a c _ h.1) (sE b c _ h.2)) rfl
    · cases h
  | .dsp ks vs, X, N, sc, st, k, c, e, h => by
    unfold chkE at h; split at h
    · simp only [Bool.and_eq_true, decide_eq_true_eq] at h
      obtain ⟨⟨⟨⟨⟨h1, h2⟩, h3⟩, h4⟩, h5⟩, h6⟩ := h
      refine cE (de_dsp h1 h3 (by rw [List.length_map]; exact h4) h5 (sEl vs c _ h6)) ?_
      funext de T Q E
      exact chain_eq vs de T _ E
    · cases h
  | .inr a b d, X, N, sc, st, k, c, e, h => by
    unfold chkE at h; split at h
    · simp only [Bool.and_eq_true, decide_eq_true_eq, List.contains_iff_mem] at h
      obtain ⟨⟨⟨⟨⟨⟨⟨rfl, h1⟩, h2⟩, h3⟩, h4⟩, h5⟩, h6⟩, h7⟩ := h
      exact cE (de_inr (c.gl h1) (c.bl _ h2) (sE a c _ h5) (sE b c _ h6) (sE d c _ h7) h3 h4) rfl
    · cases h
  | .bin o m a b, X, N, sc, st, k, c, e, h => by
    unfold chkE at h; split at h
    · simp only [Bool.and_eq_true, bopB, decide_eq_true_eq] at h
      obtain ⟨⟨rfl, h1⟩, h2⟩ := h
      exact cE (de_op (op_binD (X := X) (m := m) o) (sE a c _ h1) (sE b c _ h2)) rfl
    · cases h
  | .neg a, X, N, sc, st, k, c, e, h => by
    unfold chkE at h; split at h
    · exact cE (de_neg (sE a c _ h)) rfl
    · cases h
  | .not a, X, N, sc, st, k, c, e, h => by
    unfold chkE at h; split at h
    · exact cE (de_not (sE a c _ h)) rfl
    · cases h
  | .and a b, X, N, sc, st, k, c, e, h => by
    unfold chkE at h; split at h
    · simp only [Bool.and_eq_true] at h
      exact cE (de_and (sE a c _ h.1) (de_one (sE b c _ h.2))) rfl
    · simp only [Bool.and_eq_true] at h
      exact cE (de_and (sE a c _ h.1) (sE b c _ h.2)) rfl
    · cases h
  | .or a b, X, N, sc, st, k, c, e, h => by
    unfold chkE at h; split at h
    · simp only [Bool.and_eq_true] at h
      exact cE (de_or (sE a c _ h.1) (de_one (sE b c _ h.2))) rfl
    · simp only [Bool.and_eq_true] at h
      exact cE (de_or (sE a c _ h.1) (sE b c _ h.2)) rfl
    · cases h
  | .cmp o a b, X, N, sc, st, k, c, e, h => by
    unfold chkE at h; split at h
    · simp only [Bool.and_eq_true, copB, decide_eq_true_eq] at h
      obtain ⟨⟨⟨rfl, h1⟩, h2⟩, h3⟩ := h
      exact cE (de_cmp (op_cmpD (c.room.mono (Nat.zero_le _)) o) (sE a c _ h1) (sE b c _ h2) (nomarkS h3)) rfl
    · cases h
  | .chn o p a b d, X, N, sc, st, k, c, e, h => by
    unfold chkE at h; split at h
    · simp only [Bool.and_eq_true, copB, decide_eq_true_eq] at h
      obtain ⟨⟨⟨⟨⟨rfl, rfl⟩, h1⟩, h2⟩, h3⟩, h4⟩ := h
      exact cE (de_chn (op_cmpD (c.room.mono (Nat.zero_le _)) o) (op_cmpD (c.room.mono (Nat.zero_le _)) p) (sE a c _ h1) (sE b c _ h2) (sE d c _ h3) (nomarkS h4)) rfl
    · cases h
  | .ife d a b, X, N, sc, st, k, c, e, h => by
    unfold chkE at h; split at h
    · simp only [Bool.and_eq_true] at h
      exact cE (de_ife (sT d c _ h.1.1) (sE a c _ h.1.2) (sE b c _ h.2)) rfl
    · cases h
  | .ix a i, X, N, sc, st, k, c, e, h => by
    unfold chkE at h; split at h
    · simp only [Bool.and_eq_true] at h
      exact cE (de_ix (c.room.mono (Nat.zero_le _)) (sE a c _ h.1.1) (sE i c _ h.1.2) h.2) rfl
    · cases h
  | .sl m a lo hi, X, N, sc, st, k, c, e, h => by
    unfold chkE at h; split at h
    · simp only [Bool.and_eq_true] at h
      exact cE (de_sl (m := m) (sE a c _ h.1.1) (sO lo c _ h.1.2) (sO hi c _ h.2)) rfl
    · cases h
  | .rev m a, X, N, sc, st, k, c, e, h => by
    unfold chkE at h; split at h
    · exact cE (de_rev (m := m) (sE a c _ h)) rfl
    · cases h
  | .sset l m a, X, N, sc, st, k, c, e, h => by
    unfold chkE at h; split at h
    · simp only [Bool.and_eq_true, decide_eq_true_eq, List.contains_iff_mem] at h
      obtain ⟨⟨⟨⟨⟨⟨⟨h1, rfl⟩, h3⟩, h4⟩, h5⟩, h6⟩, h7⟩, h8⟩ := h
      exact cE (de_sset (l := l) (m := m) (by have := c.room.un; omega) (sE a c _ h8) c.calm h1 (c.gl h3) (c.bl _ h5) (c.gl h4) (c.bl _ h6) h7) rfl
    · cases h
  | .fn f m es, X, N, sc, st, k, c, e, h => by
    unfold chkE at h; split at h
    · simp only [Bool.and_eq_true, decide_eq_true_eq, List.contains_iff_mem] at h
      obtain ⟨⟨⟨⟨rfl, h1⟩, h2⟩, h3⟩, h4⟩ := h
      exact cE (de_fn (f := f) (m := m) (sEs es c _ h4) c.calm (c.room.mono (Nat.zero_le _)) c.grd (c.gl h1) (c.bl _ h3) (bfn_boot f) h2 (chkEs_star h4).1) rfl
    · cases h
  | .isi a t, X, N, sc, st, k, c, e, h => by
    unfold chkE at h; split at h
    · simp only [Bool.and_eq_true, decide_eq_true_eq, List.contains_iff_mem] at h
      obtain ⟨⟨⟨⟨⟨⟨⟨⟨rfl, h1⟩, h2⟩, h3⟩, h4⟩, h5⟩, rfl⟩, h6⟩, h7⟩ := h
      exact cE (de_isi (sE a c _ h3) h5 (c.gl h1) (c.bl _ h2) (c.gl h6) (c.bl _ h7) h4 (by cases t <;> first | rfl | decide +kernel | cases h5)) rfl
    · cases h
  | .isx a ks cs, X, N, sc, st, k, c, e, h => by
    unfold chkE at h; split at h
    · simp only [Bool.and_eq_true, decide_eq_true_eq, List.contains_iff_mem] at h
      obtain ⟨⟨⟨⟨⟨⟨h0, rfl⟩, h1⟩, h2⟩, h3⟩, h4⟩, h5⟩ := h
      unfold chkX at h5
      split at h5
      · rename_i heq
        injection heq with q1 q2
        subst q1 q2
        simp only [Bool.and_eq_true, decide_eq_true_eq] at h5
        obtain ⟨rfl, h5⟩ := h5
        exact cE (de_isx c h0 (sE a c _ h3) h5 (c.gl h1) (c.bl _ h2) h4) rfl
      · cases h5
    · simp only [Bool.and_eq_true, decide_eq_true_eq, List.contains_iff_mem] at h
      obtain ⟨⟨⟨⟨⟨⟨⟨h0, rfl⟩, h1⟩, h2⟩, h3⟩, h4⟩, h5⟩, h6⟩ := h
      exact cE (de_isxT c h0 (sE a c _ h3) h5 h6 (c.gl h1) (c.bl _ h2) h4) rfl
    · cases h
  | .fld a cc f, X, N, sc, st, k, c, e, h => by
    unfold chkE at h; split at h
    · simp only [Bool.and_eq_true, decide_eq_true_eq, List.contains_iff_mem, Bool.not_eq_true'] at h
      obtain ⟨⟨⟨⟨⟨rfl, h1⟩, h2⟩, h3⟩, h4⟩, h5⟩ := h
      exact cE (de_fld c h1 h2 h3 h4 (sE a c _ h5)) rfl
    · cases h
  | .rgl t m a b, X, N, sc, st, k, c, e, h => by
    unfold chkE at h; split at h
    · split at h
      · simp only [Bool.and_eq_true, decide_eq_true_eq, List.contains_iff_mem] at h
        obtain ⟨⟨⟨⟨⟨⟨⟨h0, h1⟩, h2⟩, rfl⟩, h3⟩, h4⟩, h5⟩, h6⟩ := h
        exact cE (de_rgl1 (t := t) (m := m) c.calm (by cases t <;> exact h0) (c.gl h1) (c.bl _ h2) (c.gl h3) (c.bl _ h4) (sE b c _ h6) h5) rfl
      · cases h
    · cases a with
      | none => cases h
      | some a =>
        simp only [Bool.and_eq_true, decide_eq_true_eq, List.contains_iff_mem, true_and] at h
        obtain ⟨⟨⟨⟨⟨⟨⟨⟨⟨h0, h1⟩, h2⟩, rfl⟩, h3⟩, h4⟩, h5⟩, h6⟩, h7⟩, h8⟩ := h
        unfold chkO at h7
        exact cE (de_rgl2 (t := t) (m := m) c.calm (by cases t <;> exact h0) (c.gl h1) (c.bl _ h2) (c.gl h3) (c.bl _ h4) (sE a c _ h7) (sE b c _ h8) h5 h6) rfl
    · cases h
  | .rlen a b, X, N, sc, st, k, c, e, h => by
    unfold chkE at h; split at h
    · simp only [Bool.and_eq_true, decide_eq_true_eq, List.contains_iff_mem] at h
      obtain ⟨⟨⟨⟨⟨⟨⟨⟨⟨rfl, h1⟩, h2⟩, rfl⟩, h3⟩, h4⟩, h5⟩, h6⟩, h7⟩, h8⟩ := h
      exact cE (de_rlen (c.gl h1) (c.bl _ h2) (c.gl h3) (c.bl _ h4) (sE a c _ h7) (sE b c _ h8) h5 h6) rfl
    · cases h
  | .call f es, X, N, sc, st, k, c, e, h => by
    unfold chkE at h; split at h
    · rename_i x p fs pos
      split at h
      · rename_i y ps ef
        simp only [Bool.and_eq_true, decide_eq_true_eq] at h
        obtain ⟨⟨⟨⟨⟨rfl, h1⟩, h2⟩, h3⟩, h4⟩, h5⟩ := h
        obtain ⟨fa, fd, f1, f2, f3, f4, _⟩ := c.ft f _ _ ef (by simpa using h5)
        have s1 := sEs es c _ h4
        obtain ⟨l1, l2⟩ := chkEs_star h4
        cases fs with
        | cons e es' =>
          rw [h3] at s1
          exact cE (de_call (p := p) (pos := pos) f4 c.room c.grd (c.gl h1) f1 f2 f3 s1 h2 l1) rfl
        | nil =>
          cases es with
          | cons _ _ => cases l2
          | nil =>
            cases ps with
            | cons _ _ => cases h3
            | nil =>
              exact cE (de_call0 (p := p) (pos := pos) f4 c.room c.grd (c.gl h1) f1 f2 f3 h2) rfl
      · cases h
    · cases h
  | .callF f n ks arr es zs, X, N, sc, st, k, c, e, h => by
    unfold chkE at h; split at h
    · rename_i x p fs kws pos
      split at h
      · rename_i y ps ef
        simp only [Bool.and_eq_true, decide_eq_true_eq] at h
        obtain ⟨⟨⟨⟨⟨⟨⟨⟨⟨rfl, h1⟩, h2⟩, rfl⟩, h4⟩, h5⟩, h6⟩, h7⟩, h8⟩, h9⟩ := h
        obtain ⟨fa, fd, f1, f2, f3, f4, f5⟩ := c.ft f _ _ ef (by simpa using h9)
        have s2 := sKs zs c ks kws h7 h8
        rw [h4] at s2
        cases fs with
        | cons e es' => exact cE (de_callF (p := p) (pos := pos) f4 c.room c.grd (c.gl h1) f1 f2 (f5 _ _ _ (cfB_mem h5)) (sEs es c _ h6) s2 h2 (chkEs_star h6).1 h7) rfl
        | nil =>
          cases es with
          | cons _ _ => exact absurd (chkEs_star h6).2 nofun
          | nil => exact cE (de_callF0 (p := p) (pos := pos) f4 c.room c.grd (c.gl h1) f1 f2 (f5 _ _ _ (cfB_mem h5)) s2 h2 h7) rfl
      · cases h
    · cases h
  | .mth o m a es, X, N, sc, st, k, c, e, h => by
    unfold chkE at h; split at h
    · rename_i x mm apos fs cpos
      simp only [Bool.and_eq_true, decide_eq_true_eq] at h
      obtain ⟨⟨⟨⟨⟨rfl, h1⟩, h2⟩, h3⟩, h4⟩, h5⟩ := h
      obtain ⟨l1, l2⟩ := chkEs_star h4
      cases fs with
      | cons e es' =>
        exact cE (de_mth (k := o) (m := m) (c.room.mono (Nat.zero_le _)) (sE a c _ h3) (sEs es c _ h4) h2 h1 l1 h5) rfl
      | nil =>
        cases es with
        | cons _ _ => cases l2
        | nil =>
          exact cE (de_mth0 (k := o) (m := m) (c.room.mono (Nat.zero_le _)) (sE a c _ h3) h2 h1) rfl
    · cases h
  | .lc m g own it cs e0, X, N, sc, st, k, c, e, h => by
    unfold chkE at h; split at h
    · rename_i x tg iter ifs a scope pos
      simp only [Bool.and_eq_true, decide_eq_true_eq, List.all_eq_true, List.contains_iff_mem] at h
      obtain ⟨⟨⟨⟨⟨⟨⟨rfl, h1⟩, h2⟩, h3⟩, h4⟩, h5⟩, h6⟩, h7⟩ := h
      exact cE (de_lc (m := m) (pos := pos) c (blkOk_by h1) (sI it c tg _ h3) h2 h4 h5 (fun c' => sC cs c' _ h6) (fun c' => sE e0 c' _ h7)) rfl
    · cases h
  | .lamc f kk vs, X, N, sc, st, k, c, e, h => by
    unfold chkE at h; split at h
    · split at h
      · rename_i y ps ef
        split at h
        · rename_i N' us ck el
          simp only [Bool.and_eq_true, decide_eq_true_eq] at h
          obtain ⟨⟨⟨⟨⟨⟨⟨⟨⟨⟨rfl, h1⟩, h2⟩, h3⟩, h4⟩, h5⟩, rfl⟩, rfl⟩, h6⟩, h7⟩, h8⟩ := h
          exact cE (de_lamc c ef h3 el (c.gl h1) h2 h4 h5 h6 h7 h8) rfl
        · cases h
      · cases h
    · cases h
termination_by structural x => x
theorem sT : ∀ (ir : IT) {X : Cx} {N : List Str} {sc : Scope} {st : List Str} {k : Nat}, Cok tb G X N sc st k → ∀ (e : Expr), chkT tb ir N sc e = true → DT2 X e (evT G ir)
  | .tnot a, X, N, sc, st, k, c, e, h => by
    unfold chkT at h; split at h
    · exact cT (dt_not (sT a c _ h)) rfl
    · cases h
  | .tand a b, X, N, sc, st, k, c, e, h => by
    unfold chkT at h; split at h
    · simp only [Bool.and_eq_true] at h
      exact cT (dt_and (sT a c _ h.1) (fun W tk => pw_and1 (sT b c _ h.2 W tk).1)) rfl
    · simp only [Bool.and_eq_true] at h
      exact cT (dt_and (sT a c _ h.1) (fun W tk => (sT b c _ h.2 W tk).2 _ _ _ rfl)) rfl
    · cases h
  | .tor a b, X, N, sc, st, k, c, e, h => by
    unfold chkT at h; split at h
    · simp only [Bool.and_eq_true] at h
      exact cT (dt_or (sT a c _ h.1) (fun W tk => pw_or1 (sT b c _ h.2 W tk).1)) rfl
    · simp only [Bool.and_eq_true] at h
      exact cT (dt_or (sT a c _ h.1) (fun W tk => (sT b c _ h.2 W tk).2 _ _ _ rfl)) rfl
    · cases h
  | .tcmp o a b, X, N, sc, st, k, c, e, h => by
    unfold chkT at h; split at h
    · simp only [Bool.and_eq_true, copB, decide_eq_true_eq] at h
      obtain ⟨⟨⟨rfl, h1⟩, h2⟩, h3⟩ := h
      exact cT (dt_cmp (op_cmpD (c.room.mono (Nat.zero_le _)) o) (sE a c _ h1) (sE b c _ h2) (nomarkS h3)) rfl
    · cases h
  | .tchn o p a b d, X, N, sc, st, k, c, e, h => by
    unfold chkT at h; split at h
    · simp only [Bool.and_eq_true, copB, decide_eq_true_eq] at h
      obtain ⟨⟨⟨⟨⟨rfl, rfl⟩, h1⟩, h2⟩, h3⟩, h4⟩ := h
      exact cT (dt_chn (op_cmpD (c.room.mono (Nat.zero_le _)) o) (op_cmpD (c.room.mono (Nat.zero_le _)) p) (sE a c _ h1) (sE b c _ h2) (sE d c _ h3) (nomarkS h4)) rfl
    · cases h
  | .tchn3 o p q a b d f, X, N, sc, st, k, c, e, h => by
    unfold chkT at h; split at h
    · simp only [Bool.and_eq_true, copB, decide_eq_true_eq] at h
      obtain ⟨⟨⟨⟨⟨⟨⟨rfl, rfl⟩, rfl⟩, h1⟩, h2⟩, h3⟩, h5⟩, h4⟩ := h
      exact cT (dt_chn3 (op_cmpD (c.room.mono (Nat.zero_le _)) o) (op_cmpD (c.room.mono (Nat.zero_le _)) p) (op_cmpD (c.room.mono (Nat.zero_le _)) q) (sE a c _ h1) (sE b c _ h2) (sE d c _ h3) (sE f c _ h5) (nomarkS h4)) rfl
    · cases h
  | .tinr a b d, X, N, sc, st, k, c, e, h => by
    unfold chkT at h; split at h
    · simp only [Bool.and_eq_true, decide_eq_true_eq, List.contains_iff_mem] at h
      obtain ⟨⟨⟨⟨⟨⟨⟨rfl, h1⟩, h2⟩, h3⟩, h4⟩, h5⟩, h6⟩, h7⟩ := h
      exact cT (dt_inr (c.gl h1) (c.bl _ h2) (sE a c _ h5) (sE b c _ h6) (sE d c _ h7) h3 h4) rfl
    · cases h
  | .tv a, X, N, sc, st, k, c, e, h => by
    unfold chkT at h
    simp only [Bool.and_eq_true] at h
    exact cT (dt_tv (sE a c _ h.2) h.1) rfl
termination_by structural x => x
theorem sEs : ∀ (ir : List IE) {X : Cx} {N : List Str} {sc : Scope} {st : List Str} {k : Nat}, Cok tb G X N sc st k → ∀ (e : List Expr), chkEs tb ir N sc e = true → DA X e ir.length (evEs G ir)
  | [], X, N, sc, st, k, c, e, h => by
    unfold chkEs at h; split at h
    · exact da_nil
    · cases h
  | a :: as, X, N, sc, st, k, c, e, h => by
    unfold chkEs at h; split at h
    · simp only [Bool.and_eq_true] at h
      exact cA (da_cons (sE a c _ h.1.2) (sEs as c _ h.2) h.1.1) rfl
    · cases h
termination_by structural x => x
theorem sKs : ∀ (ir : List IE) {X : Cx} {N : List Str} {sc : Scope} {st : List Str} {k : Nat}, Cok tb G X N sc st k → ∀ (ks : List Str) (e : List Keyword), chkKw ks e = true → chkEs tb ir N sc (e.map Keyword.value) = true → DK X e ir.length (evEs G ir)
  | [], X, N, sc, st, k, c, ks, e, hk, h => by
    cases e with
    | nil => exact dk_nil
    | cons _ _ => rw [List.map_cons] at h; unfold chkEs at h; cases h
  | a :: as, X, N, sc, st, k, c, ks, e, hk, h => by
    cases e with
    | nil => unfold chkEs at h; cases h
    | cons kw r =>
      rw [List.map_cons] at h
      unfold chkEs at h
      simp only [Bool.and_eq_true] at h
      cases ks with
      | nil => unfold chkKw at hk; cases hk
      | cons kn ks =>
        obtain ⟨nm, v, kp⟩ := kw
        have hk' : chkKw ks r = true := by
          cases nm with
          | none => unfold chkKw at hk; cases hk
          | some n =>
            unfold chkKw at hk
            simp only [Bool.and_eq_true] at hk
            exact hk.2
        exact dk_cons (sE a c _ h.1.2) (sKs as c ks r hk' h.2)
termination_by structural x => x
theorem sEl : ∀ (ir : List IE) {X : Cx} {N : List Str} {sc : Scope} {st : List Str} {k : Nat}, Cok tb G X N sc st k → ∀ (e : List Expr), chkEs tb ir N sc e = true → DEl X e (ir.map (evE G))
  | [], X, N, sc, st, k, c, e, h => by
    unfold chkEs at h; split at h
    · exact .nil
    · cases h
  | a :: as, X, N, sc, st, k, c, e, h => by
    unfold chkEs at h; split at h
    · simp only [Bool.and_eq_true] at h
      exact .cons (sE a c _ h.1.2) (sEl as c _ h.2)
    · cases h
termination_by structural x => x
theorem sO : ∀ (ir : Option IE) {X : Cx} {N : List Str} {sc : Scope} {st : List Str} {k : Nat}, Cok tb G X N sc st k → ∀ (e : Option Expr), chkO tb ir N sc e = true → DOp X e (evO G ir)
  | none, X, N, sc, st, k, c, e, h => by
    unfold chkO at h; split at h
    · exact do_none
    · cases h
  | some a, X, N, sc, st, k, c, e, h => by
    unfold chkO at h; split at h
    · exact cO (do_some (sE a c _ h)) rfl
    · cases h
termination_by structural x => x
theorem sC : ∀ (ir : Option IT) {X : Cx} {N : List Str} {sc : Scope} {st : List Str} {k : Nat}, Cok tb G X N sc st k → ∀ (e : List Expr), chkC tb ir N sc e = true → DC X e (evC G ir)
  | none, X, N, sc, st, k, c, e, h => by
    unfold chkC at h; split at h
    · exact fun W tk => PTs_wk pts_nil fun σ H Q ⟨Z, de, T, Qd, E, re, rh, ht, hq, hx⟩ => hq _ _ _ ht .refl rh
    · cases h
  | some a, X, N, sc, st, k, c, e, h => by
    unfold chkC at h; split at h
    · exact fun W tk => pts_one (sT a c _ h W tk).1
    · cases h
termination_by structural x => x
theorem sI : ∀ (ir : II) {X : Cx} {N : List Str} {sc : Scope} {st : List Str} {k : Nat}, Cok tb G X N sc st k → ∀ (tg it : Expr), chkI tb ir N sc tg it = true → DI X tg it (evI G ir)
  | .seq a, X, N, sc, st, k, c, tg, e, h => by
    unfold chkI at h
    exact cI (di_seq (tg := tg) (sE a c _ h)) rfl
  | .rng1 a, X, N, sc, st, k, c, tg, e, h => by
    unfold chkI at h; split at h
    · simp only [Bool.and_eq_true, decide_eq_true_eq, List.contains_iff_mem] at h
      obtain ⟨⟨⟨⟨rfl, h1⟩, h2⟩, h3⟩, h4⟩ := h
      refine fun W tk => PI_wk ((di_rng1 (c.gl h1) (c.bl _ h2) (da_cons (sE a c _ h4) da_nil h3) (star_cons h3)) W tk) fun σ H R ⟨Z, de, T, S, E, re, rh, ht, hS, hx⟩ => ⟨Z, de, T, S, E, re, rh, ?_, hS, hx⟩
      simp only [List.cons.injEq, and_true]
      exact ht
    · cases h
  | .rng2 a b, X, N, sc, st, k, c, tg, e, h => by
    unfold chkI at h; split at h
    · simp only [Bool.and_eq_true, decide_eq_true_eq, List.contains_iff_mem] at h
      obtain ⟨⟨⟨⟨⟨⟨rfl, h1⟩, h2⟩, h3⟩, h4⟩, h5⟩, h6⟩ := h
      refine fun W tk => PI_wk ((di_rng2 (c.gl h1) (c.bl _ h2) (da_cons (sE a c _ h5) (da_cons (sE b c _ h6) da_nil h4) h3) (by rw [star_cons h3, star_cons h4]; rfl) (star_cons h4)) W tk) fun σ H R ⟨Z, de, T, S, E, re, rh, ht, hS, hx⟩ => ⟨Z, de, T, S, E, re, rh, ?_, hS, hx⟩
      simp only [List.cons.injEq, and_true, and_assoc]
      simp only [evI, and_assoc] at ht
      exact ht
    · cases h
  | .rngW a b, X, N, sc, st, k, c, tg, e, h => by
    unfold chkI at h; split at h
    · simp only [Bool.and_eq_true, decide_eq_true_eq, List.contains_iff_mem] at h
      obtain ⟨⟨⟨⟨⟨⟨rfl, h1⟩, h2⟩, h3⟩, h4⟩, h5⟩, h6⟩ := h
      refine fun W tk => PI_wk ((di_rngW (c.gl h1) (c.bl _ h2) (da_cons (sE a c _ h5) (da_cons (sE b c _ h6) da_nil h4) h3) (by rw [star_cons h3, star_cons h4]; rfl) (star_cons h4)) W tk) fun σ H R ⟨Z, de, T, S, E, re, rh, ht, hS, hx⟩ => ⟨Z, de, T, S, E, re, rh, ?_, hS, hx⟩
      simp only [List.cons.injEq, and_true, and_assoc]
      simp only [evI, and_assoc] at ht
      exact ht
    · cases h
  | .rng3 a b d, X, N, sc, st, k, c, tg, e, h => by
    unfold chkI at h; split at h
    · simp only [Bool.and_eq_true, decide_eq_true_eq, List.contains_iff_mem] at h
      obtain ⟨⟨⟨⟨⟨⟨⟨⟨rfl, h1⟩, h2⟩, h3⟩, h4⟩, h5⟩, h6⟩, h7⟩, h8⟩ := h
      refine fun W tk => PI_wk ((di_rng3 (c.gl h1) (c.bl _ h2) (da_cons (sE a c _ h6) (da_cons (sE b c _ h7) (da_cons (sE d c _ h8) da_nil h5) h4) h3) (star_cons h3) (by rw [star_cons h4, star_cons h5]; rfl)) W tk) fun σ H R ⟨Z, de, T, S, E, re, rh, ht, hS, hx⟩ => ⟨Z, de, T, S, E, re, rh, ?_, hS, hx⟩
      simp only [List.cons.injEq, and_true, and_assoc]
      simp only [evI, and_assoc] at ht
      exact ht
    · cases h
  | .enum a, X, N, sc, st, k, c, tg, e, h => by
    unfold chkI at h; split at h
    · split at h
      · simp only [Bool.and_eq_true, decide_eq_true_eq, List.contains_iff_mem] at h
        obtain ⟨⟨⟨⟨rfl, h1⟩, h2⟩, h3⟩, h4⟩ := h
        refine fun W tk => PI_wk ((di_enum (c.gl h1) (c.bl _ h2) (da_cons (sE a c _ h4) da_nil h3) (star_cons h3)) W tk) fun σ H R ⟨Z, de, T, S, E, re, rh, ht, hS, hx⟩ => ⟨Z, de, T, S, E, re, rh, ?_, hS, hx⟩
        have ht : evE G a de T (fun x T1 => enumD x T1 S) E := ht
        have e : (fun (x : D) (T1 : DH) => ∃ x', [x] = [x'] ∧ enumD x' T1 S) = fun x T1 => enumD x T1 S := by
          funext x T1
          simp
        rw [← e] at ht; exact ht
      · cases h
    · cases h
  | .zip a b, X, N, sc, st, k, c, tg, e, h => by
    unfold chkI at h; split at h
    · split at h
      · simp only [Bool.and_eq_true, decide_eq_true_eq, List.contains_iff_mem] at h
        obtain ⟨⟨⟨⟨⟨⟨rfl, h1⟩, h2⟩, h3⟩, h4⟩, h5⟩, h6⟩ := h
        refine fun W tk => PI_wk ((di_zip (c.gl h1) (c.bl _ h2) (da_cons (sE a c _ h5) (da_cons (sE b c _ h6) da_nil h4) h3) (star_cons h3) (by rw [star_cons h4]; rfl)) W tk) fun σ H R ⟨Z, de, T, S, E, re, rh, ht, hS, hx⟩ => ⟨Z, de, T, S, E, re, rh, ?_, hS, hx⟩
        have ht : evE G a de T (fun x T1 => evE G b de T1 (fun y T2 => ∃ ds es, frzSeq x = some ds ∧ frzSeq y = some es ∧ S ⟨ds.zipWith (fun d e => D.tup [d, e]) es, none⟩ T2) E) E := ht
        have e : (fun (x : D) (T1 : DH) => evE G b de T1 (fun y T2 => ∃ x' y' ds es, [x, y] = [x', y'] ∧ frzSeq x' = some ds ∧ frzSeq y' = some es ∧ S ⟨ds.zipWith (fun d e => D.tup [d, e]) es, none⟩ T2) E) = fun x T1 => evE G b de T1 (fun y T2 => ∃ ds es, frzSeq x = some ds ∧ frzSeq y = some es ∧ S ⟨ds.zipWith (fun d e => D.tup [d, e]) es, none⟩ T2) E := by
          funext x T1
          congr 1
          funext y T2
          simp only [List.cons.injEq, and_true]
          apply propext
          constructor
          · rintro ⟨x', y', ds, es, ⟨rfl, rfl⟩, h⟩; exact ⟨ds, es, h⟩
          · rintro ⟨ds, es, h⟩; exact ⟨x, y, ds, es, ⟨rfl, rfl⟩, h⟩
        rw [← e] at ht; exact ht
      · cases h
    · cases h
  | .items _, X, N, sc, st, k, c, tg, e, h => by unfold chkI at h; cases h
termination_by structural x => x
end
end DL

set_option linter.all false
set_option maxRecDepth 100000
set_option maxHeartbeats 8000000
namespace DL
open PySem PySem.Spec PyProof.Rows L2
/-! ### except (A, B): -/
theorem flying_ext {B h h' : Heap} {l : List Env} {a : Addr} {Z : Obj → Prop} (x : HandSPX.FlyingZ B l a Z h) (k : ∀ b o, h.get? b = some o → h'.get? b = some o) : HandSPX.FlyingZ B l a Z h' := by
  obtain ⟨k1, k2, k3, oe, vs, T, oT, ts, he, hz, hd, h1, n1, n2, hT, hdT, h3⟩ := x
  exact ⟨fun b o e => k _ _ (k1 b o e), k2, k3.of_keeps fun b o e _ => ⟨o, k _ _ e, rfl⟩, oe, vs, T, oT, ts, k _ _ he, hz, hd, h1, n1, n2, k _ _ hT, hdT, h3⟩
def wTwo (K : PySem.W.Frag) (c1 c2 : Value) (ts : Addr → Value → Option Addr → TS) (Wout : WX) (D : L2.Ends) : WX := fun cls d σ H =>
  ∃ b, PySem.W.exmAny K cls [c1, c2] = some b ∧ (b = true → ∀ a, H a = none → ts a cls d D σ H) ∧ (b = false → Wout cls d σ H)
section
variable {X : Cx} {x1 x2 : Str} {c1 c2 : Value} {body suite : List Stmt} {b₀ : Stmt} {j : Nat} {p1 p2 np pos pos' : Pos} {tb : WX → TS} {ts : Addr → Value → Option Addr → TS} {Wout : WX}
theorem names_eval {Y : Cx} {pins : List (Addr × Obj)} {σ : L2.St} {H : Hp} {s : Shared} {x : Str} {c : Value} {p : Pos} {Q E : Value → Shared → Prop} (I : L2.Inv Y pins σ H s) (hc : Names Y x c) (q : Q c s) : wpAny (model Y.prog Y.w) Y.A (eval (.Name x p) Y.env) Q E s := by
  obtain ⟨hg, hdbg, hm | ⟨hm, hv, hnn⟩⟩ := hc
  · exact ld_glob I hg hm q hdbg
  · exact ld_blt I hg hm hv q hnn hdbg
theorem ps_try_two (hs : X.stack = X.env :: X.outer) (hf : X.env.frame = some X.env.locals) (hc1 : Names X x1 c1) (hc2 : Names X x2 c2) (tk : L2.Takes X Wout)
    (hb : ∀ (W : WX) (pn : List (Addr × Obj)) (xe : Value → Shared → Prop), L2.Takes (X.tr pn xe) W → PassesOwn (model X.prog X.w) X.A X.env xe → PSs (X.tr pn xe) body (tb W))
    (hsu : ∀ (a : Addr) (oe : Obj) (cls : Value) (d : Option Addr) (pn : List (Addr × Obj)), Zc cls d oe → (∃ vs, oe.data = .fields vs) → PSs (X.suite a ((a, oe) :: pn)) (b₀ :: suite) (ts a cls d)) :
    PS X (.Try body [.ExceptHandler (some (.Tuple [.Name x1 p1, .Name x2 p2] j np)) none (b₀ :: suite) pos'] [] [] pos) (fun D σ H => tb (wTwo X.K c1 c2 ts Wout D) D σ H) := by
  refine ⟨fun pins s σ H D I h => ?_⟩
  have ok := I.ok
  have hfr : X.A.frames = some (X.env :: X.outer) := by rw [ok.frames, hs]
  refine wpAny_Try_except ?_
  refine wpAny_mono ((hb (wTwo X.K c1 c2 ts Wout D) (X.pn ++ pins) (fun e s₁ => wpAny (model X.prog X.w) X.A (noteFrame e X.env) (fun _ s₂ => wpAny (model X.prog X.w) X.A (setFlight e none) (fun _ s₃ =>
    wpAny (model X.prog X.w) X.A (handleBy e X.env [.ExceptHandler (some (.Tuple [.Name x1 p1, .Name x2 p2] j np)) none (b₀ :: suite) pos']) (SP X pins D) X.xe s₃) X.xe s₂) X.xe s₁) (fun u s' xx => ?_) PassesOwn.looking).run [] s σ H D (I.toTry _) h) (fun f s1 hsp => ?_) (fun e s1 he => he)
  · obtain ⟨a, B, sI, pins', σ', H', cls, d, rfl, J', nb, up, sky, na, os, ag, b, hb1, hyes, hno⟩ := xx
    have J : L2.Inv X pins σ' H' sI := J'.ofTry ok
    have sky' : Sky B (X.env :: X.outer) a (Zc cls d) X.env.locals s'.heap := by rw [← hs]; exact sky
    show wpAny (model X.prog X.w) X.A (noteFrame (.ref a) X.env) _ _ _
    refine Sky.land Zc.steady hfr hf sky' fun h3 fl3 up3 => ?_
    have J3 : L2.Inv X pins σ' H' { s' with heap := h3 } := J.landed nb fl3.1 (up.trans up3) os ag
    obtain ⟨oe3, vs3, he3, hz3, hd3⟩ := fl3.there
    have notFr : ∀ {h : Heap} {o : Obj} {vs : Array Value}, h.FunFrames B (X.env :: X.outer) → h.get? a = some o → o.data = .fields vs → a ∉ frs (X.env :: X.outer) := fun {h o vs} ff e dd hm => by
      obtain ⟨_, o', e', hnf⟩ := ff.mem hm
      rw [e] at e'; cases e'
      exact hnf _ dd
    have nfr := notFr fl3.2.2.1 he3 hd3
    have nL : a ≠ X.env.locals := fun z => nfr (List.mem_filterMap.mpr ⟨X.env, List.mem_cons_self, by rw [hf, z]⟩)
    have nF : a ∉ X.fs := fun hm => by
      obtain ⟨e, he, q⟩ := List.mem_filterMap.mp hm
      exact nfr (List.mem_filterMap.mpr ⟨e, List.mem_cons_of_mem _ he, q⟩)
    have S3 := J3.suite he3 hd3 na nL nF
    refine wpAny_handleBy_cons (codeAny_handlers_test ?_) (by intro q; cases q)
    have k3 : ∀ b o, h3.get? b = some o → (h3.push { cls := .type "tuple", data := .seq [c1, c2].toArray }).get? b = some o := fun b o e => Heap.get?_push_of_some _ e
    generalize hp3 : h3.push { cls := .type "tuple", data := .seq [c1, c2].toArray } = h3' at k3
    have hpt : h3'.get? h3.objs.size = some { cls := .type "tuple", data := .seq [c1, c2].toArray } := by rw [← hp3]; exact Heap.get?_push_size _ rfl
    have fl3' := flying_ext fl3 k3
    have upx : h3.UpToSlots h3' := fun b o e _ => ⟨o.slots, k3 _ _ e⟩
    have J3' : L2.Inv X pins σ' H' { s' with heap := h3' } := J.landed nb fl3'.1 ((up.trans up3).trans upx) os ag
    have LT : PySem.W.Looks (model X.prog X.w) h3' (typeOf (.ref a)) cls := fun A Q E s k q => wpAny_typeOf_ref (k _ _ (k3 _ _ he3)) (by rw [hz3.1]; exact q)
    have LM := PySem.W.exm_tup2 (M := model X.prog X.w) (J3'.kIn) LT hpt hb1
    have test : ∀ {Q : Value → Shared → Prop} {E : Value → Shared → Prop}, Q (.ref h3.objs.size) { s' with heap := h3' } → wpAny (model X.prog X.w) (X.A.mark (some (.ref a))) (eval (.Tuple [.Name x1 p1, .Name x2 p2] j np) X.env) Q E { s' with heap := h3 } := fun {Q E} q => by
      refine wpAny_Tuple_spliced (Calls.spliced_cons (names_eval (Y := X.suite a ((a, oe3) :: (X.pn ++ pins))) S3 hc1 ?_))
      refine Calls.spliced_cons (names_eval (Y := X.suite a ((a, oe3) :: (X.pn ++ pins))) S3 hc2 ?_)
      refine Calls.spliced_nil ⟨by show 2 ≤ sizeLine; rw [sizeLine_eq]; omega, ?_⟩
      rw [← hp3] at q
      exact q
    refine test (LM.here ?_)
    cases b with
    | true =>
      refine codeAny_handlers_suite ?_
      refine HandSPX.lands_againZ fl3' fun h4 fl4 up4 => ?_
      have J4 : L2.Inv X pins σ' H' { s' with heap := h4 } := J.landed nb fl4.1 (((up.trans up3).trans upx).trans up4) os ag
      obtain ⟨oe4, vs4, he4, hz4, hd4⟩ := fl4.there
      have S4 := J4.suite he4 hd4 na nL nF
      refine wpAny_mono ((hsu a oe4 cls d (X.pn ++ pins) hz4 ⟨_, hd4⟩).run [] _ _ H' _ S4 (hyes rfl a na)) (fun f s6 hsp => ?_) (fun _ _ z => False.elim z)
      cases f with
      | next =>
        obtain ⟨σ6, H6, S6, q6⟩ := hsp
        exact ⟨_, _, S6.unsuite ok, q6⟩
      | brk =>
        obtain ⟨σ6, H6, S6, q6⟩ := hsp
        exact ⟨_, _, S6.unsuite ok, q6⟩
      | cont =>
        obtain ⟨σ6, H6, S6, q6⟩ := hsp
        exact ⟨_, _, S6.unsuite ok, q6⟩
      | ret u =>
        obtain ⟨v6, σ6, H6, S6, r6, q6⟩ := hsp
        exact ⟨_, _, _, S6.unsuite ok, r6, q6⟩
    | false =>
      show wpAny _ X.A (handleBy (.ref a) X.env []) _ _ _
      refine wpAny_handleBy_nil ?_
      obtain ⟨k1, k2, k3, oe, vs, T, oT, ts', he, hz, hd, h1, hr⟩ := id fl3'
      unfold PySem.passOn
      refine wpAny_bind (wpAny_field he hd h1 ?_)
      rw [if_neg (show ¬ ((Value.ref T == Value.none) = true) from by simp)]
      have fin : wpAny (model X.prog X.w) X.A (setFlight (.ref a) X.env.frame) (fun _ s4 => wpAny (model X.prog X.w) X.A (throw (.ref a) : Sem Flow) (SP X pins D) X.xe s4) X.xe { s' with heap := h3' } := by
        rw [hf]
        refine HandSPX.setFlight_upZ fl3' fun h4 hh4 up4 => wpAny_throw (tk _ _ ?_)
        exact ⟨a, B, sI, pins, σ', H', cls, d, rfl, J, nb, ((up.trans up3).trans upx).trans up4, .inr (.inr (by rw [hs]; exact hh4)), na, os, ag, hno rfl⟩
      first
        | exact wpAny_bind (wpAny_pure (wpAny_bind fin))
        | exact wpAny_bind fin
  · cases f with
    | next =>
      obtain ⟨σ', H', J', q⟩ := hsp
      exact wpAny_execs_nil ⟨σ', H', J'.ofTry ok, q⟩
    | brk =>
      obtain ⟨σ', H', J', q⟩ := hsp
      exact ⟨σ', H', J'.ofTry ok, q⟩
    | cont =>
      obtain ⟨σ', H', J', q⟩ := hsp
      exact ⟨σ', H', J'.ofTry ok, q⟩
    | ret u =>
      obtain ⟨v, σ', H', J', r, q⟩ := hsp
      exact ⟨v, σ', H', J'.ofTry ok, r, q⟩
end
/-! ### except X as n: y = n.f -/
theorem suite_repn {X : Cx} {a : Addr} {p q : List (Addr × Obj)} {pp qq : List (Addr × Obj)} {σ : L2.St} {H : Hp} {s : Shared} (I : L2.Inv (X.suite a p) pp σ H s) (ok : X.Ok) (h : ∀ z ∈ q ++ qq, z ∈ p ++ pp) : L2.Inv (X.suite a q) qq σ H s :=
  ⟨ok.suite _ _, I.os, I.bare, I.base, I.loc, I.cell, I.free, I.freeC, fun z hz => I.pin z (h z hz), I.hok, I.len⟩
theorem suite_out {X : Cx} {a : Addr} {pins : List (Addr × Obj)} {σ : L2.St} {H : Hp} {s : Shared} (I : L2.Inv (X.suite a (X.pn ++ pins)) [] σ H s) (ok : X.Ok) : L2.Inv X pins σ H s :=
  ⟨ok, I.os, I.bare, I.base, I.loc, I.cell, I.free, I.freeC, fun z hz => I.pin z (List.mem_append_left _ hz), I.hok, I.len⟩
theorem pe_exfld {Y : Cx} {e : Expr} {te : TE} {f c : Str} {C P : Addr} {pos : Pos} (hC : ExCl Y.K Y.mg c C P) (hno : PySem.W.findIn Y.K (.ref C) f = some none) (hn : notCall e = true) (he : PE Y e te) :
    PE Y (.Attribute e f pos) (fun σ H Q => te σ H fun w H1 => ∃ a dx ws v, w = .ref a ∧ H1 a = some (ExK (.ref C) (some dx) a) ∧ H1 dx = some (.xd ws) ∧ ws.lookup f = some v ∧ Q v H1) := by
  refine ⟨fun pins s σ H Q I h => ?_⟩
  refine attr_of (base_plain hn) (thn (he.run pins s σ H _ I h) fun u s1 hh => ?_)
  obtain ⟨w, H1, I1, rw1, a', dx, ws, v, rfl, g1, m1, lv, q⟩ := hh
  obtain rfl : u = Value.ref a' := rw1
  obtain ⟨⟨oe, vs, k1, k2, k3⟩, _⟩ := I1.hok a' _ g1
  have hx : ObjOk Y.prog Y.w H1 s1.heap dx (.xd ws) := I1.hok dx _ m1
  obtain ⟨mA, hns, hr⟩ := hx
  obtain ⟨od, ho, hl⟩ := lookIn_ns hns
  obtain ⟨u, hu, ru⟩ := RelO.some_of (v := v) (o := mA f) (by rw [← lv]; exact hr f)
  have J : PySem.W.InstAt s1.heap a' oe C (some od) := ⟨k1, k2.1, by unfold PySem.W.notCls; rw [k3], by rw [k2.2]; exact ho⟩
  exact HandSPX.exc_get I1.kIn J hC.ga hC.gg (hC.base (by decide)) (PySem.W.findObj_own hC.hd hno rfl (by rw [hl, hu])) (handed_of ru) ⟨v, H1, I1.tok _, ru, q⟩
def wFld (K : PySem.W.Frag) (c : Value) (C : Addr) (i j : Nat) (f : Str) (Wout : WX) (D : L2.Ends) : WX := fun cls d σ H =>
  ∃ b, PySem.W.exmOne K cls c = some b ∧ (b = true → cls = .ref C ∧ ∃ dx ws v, d = some dx ∧ H dx = some (.xd ws) ∧ ws.lookup f = some v ∧ ∀ a, H a = none → D.nx ((σ.set i (some v)).set j none) (upd H a (ExK cls d a))) ∧ (b = false → Wout cls d σ H)
section
variable {X : Cx} {x n y f cn : Str} {c : Value} {C P : Addr} {i j : Nat} {body : List Stmt} {np np2 py ap fp pos pos' : Pos} {tb : WX → TS} {Wout : WX}
theorem ps_try_fld (hC : ExCl X.K X.mg cn C P) (hno : PySem.W.findIn X.K (.ref C) f = some none) (hs : X.stack = X.env :: X.outer) (hf : X.env.frame = some X.env.locals) (hex : X.ex = []) (hN : X.N.Nodup) (hi : X.N[i]? = some y) (hj : X.N[j]? = some n) (hij : i ≠ j) (hly : X.env.kindOf y = some .local) (hln : X.env.kindOf n = some .local) (hpn : plainN n = true) (hc : Names X x c) (tk : L2.Takes X Wout)
    (hb : ∀ (W : WX) (pn : List (Addr × Obj)) (xe : Value → Shared → Prop), L2.Takes (X.tr pn xe) W → PassesOwn (model X.prog X.w) X.A X.env xe → PSs (X.tr pn xe) body (tb W)) :
    PS X (.Try body [.ExceptHandler (some (.Name x np)) (some n) [.Assign [.Name y py] (.Attribute (.Name n np2) f fp) ap] pos'] [] [] pos) (fun D σ H => tb (wFld X.K c C i j f Wout D) D σ H) := by
  refine ⟨fun pins s σ H D I h => ?_⟩
  have ok := I.ok
  have hfr : X.A.frames = some (X.env :: X.outer) := by rw [ok.frames, hs]
  have hloc : Loc X.env.scope n := .inl hln
  refine wpAny_Try_except ?_
  refine wpAny_mono ((hb (wFld X.K c C i j f Wout D) (X.pn ++ pins) (fun e s₁ => wpAny (model X.prog X.w) X.A (noteFrame e X.env) (fun _ s₂ => wpAny (model X.prog X.w) X.A (setFlight e none) (fun _ s₃ =>
    wpAny (model X.prog X.w) X.A (handleBy e X.env [.ExceptHandler (some (.Name x np)) (some n) [.Assign [.Name y py] (.Attribute (.Name n np2) f fp) ap] pos']) (SP X pins D) X.xe s₃) X.xe s₂) X.xe s₁) (fun u s' xx => ?_) PassesOwn.looking).run [] s σ H D (I.toTry _) h) (fun fl s1 hsp => ?_) (fun e s1 he => he)
  · obtain ⟨a, B, sI, pins', σ', H', cls, d, rfl, J', nb, up, sky, na, os, ag, b, hb1, hyes, hno'⟩ := xx
    have J : L2.Inv X pins σ' H' sI := J'.ofTry ok
    have sky' : Sky B (X.env :: X.outer) a (Zc cls d) X.env.locals s'.heap := by rw [← hs]; exact sky
    show wpAny (model X.prog X.w) X.A (noteFrame (.ref a) X.env) _ _ _
    refine Sky.land Zc.steady hfr hf sky' fun h3 fl3 up3 => ?_
    have J3 : L2.Inv X pins σ' H' { s' with heap := h3 } := J.landed nb fl3.1 (up.trans up3) os ag
    obtain ⟨oe3, vs3, he3, hz3, hd3⟩ := fl3.there
    have notFr : ∀ {h : Heap} {o : Obj} {vs : Array Value}, h.FunFrames B (X.env :: X.outer) → h.get? a = some o → o.data = .fields vs → a ∉ frs (X.env :: X.outer) := fun {h o vs} ff e dd hm => by
      obtain ⟨_, o', e', hnf⟩ := ff.mem hm
      rw [e] at e'; cases e'
      exact hnf _ dd
    have nfr := notFr fl3.2.2.1 he3 hd3
    have nL : a ≠ X.env.locals := fun z => nfr (List.mem_filterMap.mpr ⟨X.env, List.mem_cons_self, by rw [hf, z]⟩)
    have nF : a ∉ X.fs := fun hm => by
      obtain ⟨e, he, q⟩ := List.mem_filterMap.mp hm
      exact nfr (List.mem_filterMap.mpr ⟨e, List.mem_cons_of_mem _ he, q⟩)
    have nI : sI.heap.get? a = none := by
      cases e : sI.heap.get? a with
      | none => rfl
      | some o =>
        have z := nb a o e (by rw [hs]; exact nfr)
        rw [fl3.2.1] at z; cases z
    have n0 : X.s_0.heap.get? a = none := by
      cases e : X.s_0.heap.get? a with
      | none => rfl
      | some o =>
        obtain ⟨o', z⟩ := J.base.there a o e (by rw [hex]; simp)
        rw [nI] at z; cases z
    have npn : ∀ p ∈ X.pn ++ pins, p.1 ≠ a := fun p hp z => by
      have q := (J.pin p hp).1
      rw [z, nI] at q; cases q
    have S3 := J3.suite he3 hd3 na nL nF
    refine wpAny_handleBy_cons (codeAny_handlers_test ?_) (by intro q; cases q)
    have LT : PySem.W.Looks (model X.prog X.w) h3 (typeOf (.ref a)) cls := fun A Q E s k q => wpAny_typeOf_ref (k _ _ he3) (by rw [hz3.1]; exact q)
    have LM := PySem.W.exm_one (M := model X.prog X.w) (J3.kIn) LT hb1
    have test : ∀ {Q : Value → Shared → Prop} {E : Value → Shared → Prop}, Q c { s' with heap := h3 } → wpAny (model X.prog X.w) (X.A.mark (some (.ref a))) (eval (.Name x np) X.env) Q E { s' with heap := h3 } := fun {Q E} q =>
      names_eval (Y := X.suite a ((a, oe3) :: (X.pn ++ pins))) S3 hc q
    refine test (LM.here ?_)
    cases b with
    | true =>
      refine codeAny_handlers_suite_as ?_
      refine HandSPX.lands_againZ fl3 fun h4 fl4 up4 => ?_
      have J4 : L2.Inv X pins σ' H' { s' with heap := h4 } := J.landed nb fl4.1 ((up.trans up3).trans up4) os ag
      obtain ⟨oe4, vs4, he4, hz4, hd4⟩ := fl4.there
      have S4 := J4.suite he4 hd4 na nL nF
      have hjl : j < σ'.length := by
        rw [J.len]
        exact (List.getElem?_eq_some_iff.mp hj).1
      obtain ⟨ecl, dx, ws, v, ed, hdx, lv, hnx⟩ := hyes rfl
      subst ecl ed
      refine store_ok (X := X.suite a ((a, oe4) :: (X.pn ++ pins))) (v := .ref a) S4 hN hj hloc rfl (fun s5 S5 => ?_) (.inr hln)
      obtain ⟨d1, d2, d3⟩ := plainN_of hpn
      have S5a : L2.Inv (X.suite a (X.pn ++ pins)) ((a, oe4) :: []) (σ'.set j (some (.ref a))) H' s5 := suite_repn S5 ok fun z hz => by
        simp only [List.mem_append, List.mem_cons, List.not_mem_nil, or_false] at hz ⊢
        rcases hz with (hz | hz) | hz
        · exact .inr (.inl hz)
        · exact .inr (.inr hz)
        · exact .inl hz
      have S5b := Inv.adoptE S5a n0 hz4 hd4 (fun p hp => npn p (by simpa using hp))
      have hne : dx ≠ a := ne_of_none hdx na
      refine wpAny_mono ((pss_one (ps_set (X := X.suite a (X.pn ++ pins)) (i := i) hN hi (.inl hly) (pe_exfld (Y := X.suite a (X.pn ++ pins)) hC hno rfl (pe_var (i := j) hj (.inl hln) d1 d2)) rfl (.inr hly))).run [] s5 (σ'.set j (some (.ref a))) (upd H' a (ExK (.ref C) (some dx) a)) { nx := fun σ6 H6 => σ6 = ((σ'.set j (some (.ref a))).set i (some v)) ∧ H6 = upd H' a (ExK (.ref C) (some dx) a), rt := fun _ _ => False } S5b ⟨.ref a, by rw [List.getElem?_set_self hjl], a, dx, ws, v, rfl, upd_same, by rw [upd_ne hne]; exact hdx, lv, rfl, rfl⟩) (fun f s6 hsp => ?_) (fun _ _ z => False.elim z)
      cases f with
      | next =>
        obtain ⟨σ6, H6, S6, rfl, rfl⟩ := hsp
        refine gone_ok (suite_out S6 ok) hN hj hln fun s7 J7 => ?_
        refine ⟨_, _, J7, ?_⟩
        have e := hnx a na
        have e2 : (((σ'.set j (some (.ref a))).set i (some v)).set j none) = ((σ'.set i (some v)).set j none) := by
          rw [List.set_comm _ _ hij, List.set_set, List.set_comm _ _ (Ne.symm hij)]
        rw [e2]; exact e
      | brk => obtain ⟨_, _, _, q6⟩ := hsp; exact q6.elim
      | cont => obtain ⟨_, _, _, q6⟩ := hsp; exact q6.elim
      | ret u => obtain ⟨_, _, _, _, _, q6⟩ := hsp; exact q6.elim
    | false =>
      show wpAny _ X.A (handleBy (.ref a) X.env []) _ _ _
      refine wpAny_handleBy_nil ?_
      obtain ⟨k1, k2, k3, oe, vs, T, oT, ts', he, hz, hd, h1, hr⟩ := id fl3
      unfold PySem.passOn
      refine wpAny_bind (wpAny_field he hd h1 ?_)
      rw [if_neg (show ¬ ((Value.ref T == Value.none) = true) from by simp)]
      have fin : wpAny (model X.prog X.w) X.A (setFlight (.ref a) X.env.frame) (fun _ s4 => wpAny (model X.prog X.w) X.A (throw (.ref a) : Sem Flow) (SP X pins D) X.xe s4) X.xe { s' with heap := h3 } := by
        rw [hf]
        refine HandSPX.setFlight_upZ fl3 fun h4 hh4 up4 => wpAny_throw (tk _ _ ?_)
        exact ⟨a, B, sI, pins, σ', H', cls, d, rfl, J, nb, (up.trans up3).trans up4, .inr (.inr (by rw [hs]; exact hh4)), na, os, ag, hno' rfl⟩
      first
        | exact wpAny_bind (wpAny_pure (wpAny_bind fin))
        | exact wpAny_bind fin
  · cases fl with
    | next =>
      obtain ⟨σ', H', J', q⟩ := hsp
      exact wpAny_execs_nil ⟨σ', H', J'.ofTry ok, q⟩
    | brk =>
      obtain ⟨σ', H', J', q⟩ := hsp
      exact ⟨σ', H', J'.ofTry ok, q⟩
    | cont =>
      obtain ⟨σ', H', J', q⟩ := hsp
      exact ⟨σ', H', J'.ofTry ok, q⟩
    | ret u =>
      obtain ⟨v, σ', H', J', r, q⟩ := hsp
      exact ⟨v, σ', H', J'.ofTry ok, r, q⟩
end
end DL

set_option linter.all false
set_option maxRecDepth 100000
set_option maxHeartbeats 8000000
namespace DL
open PySem PySem.Spec PyProof.Rows L2
/-! ### a def calls the lambda that it was handed -/
/-- the names of a lambda's maker, those captured alone -/
def capEnv (n : Nat) (vs : List Nat) (ds : List D) : DEnv := (vs.zip ds).foldl (fun de p => de.set p.1 (some p.2)) (List.replicate n none)
theorem cap_len {n : Nat} {vs : List Nat} {ds : List D} : (capEnv n vs ds).length = n := by
  have key : ∀ (l : List (Nat × D)) (de : DEnv), (l.foldl (fun de p => de.set p.1 (some p.2)) de).length = de.length := by
    intro l
    induction l with
    | nil => intro de; rfl
    | cons p l ih => intro de; rw [List.foldl_cons, ih, List.length_set]
  unfold capEnv
  rw [key, List.length_replicate]
theorem cap_get {n : Nat} {vs : List Nat} {ds : List D} {i : Nat} {d : D} (h : (capEnv n vs ds)[i]? = some (some d)) : ∃ j : Nat, vs[j]? = some i ∧ ds[j]? = some d := by
  have key : ∀ (l : List (Nat × D)) (de : DEnv), (l.foldl (fun de p => de.set p.1 (some p.2)) de)[i]? = some (some d) → de[i]? = some (some d) ∨ (i, d) ∈ l := by
    intro l
    induction l with
    | nil => intro de h; exact .inl h
    | cons p l ih =>
      intro de h
      rw [List.foldl_cons] at h
      rcases ih _ h with z | z
      · by_cases e : p.1 = i
        · by_cases hl : i < de.length
          · rw [e, List.getElem?_set_self hl] at z
            have : p.2 = d := by simpa using z
            exact .inr (by rw [← e, ← this]; exact List.mem_cons_self)
          · rw [List.getElem?_eq_none (by rw [List.length_set]; omega)] at z; cases z
        · rw [List.getElem?_set_ne e] at z; exact .inl z
      · exact .inr (List.mem_cons_of_mem _ z)
  rcases key _ _ h with z | z
  · rw [List.getElem?_replicate] at z
    split at z <;> cases z
  · obtain ⟨j, hj⟩ := List.getElem?_of_mem z
    rw [List.getElem?_zip_eq_some] at hj
    exact ⟨j, hj.1, hj.2⟩
theorem lam_startD {X : Cx} {pins : List (Addr × Obj)} {σ : L2.St} {H HZ : Hp} {s s1 : Shared} {A : Around} {outer : List Env} {E : XK} {scope : Scope} {f c' : Addr} {h₁ : Heap} {tk : Nat} (I : L2.Inv X pins σ H s) (L : LamX.LamS X.env.scope scope) (e0 : Env0 X.prog X.w X.K X.mg X.base A outer s1 HZ) (hd : A.handled = none)
    (un : Un (frs X.stack) [] H HZ s.heap s1.heap) (hns : h₁.Ns s1.heap.objs.size fun y => ([] : List (Str × Value)).reverse.lookup y) (kp : ∀ b o, s1.heap.get? b = some o → h₁.get? b = some o) :
    L2.Inv (lamD X A outer s1 HZ E scope f c') [] σ HZ { s1 with heap := h₁, toks := tk } := (LamX.lam_start2 (E := E) (f := f) (c' := c') (tk := tk) I L e0 hd un hns kp).wish _
/-- the promise of a lambda's body -/
structure LamPr (P : Program) (w : World) (K : PySem.W.Frag) (mg : Str → Option Value) (base : Heap) (m : Nat) (N : List Str) (vs : List Nat) (ck : Scope → Expr → Bool) (g : DSp) : Prop where
  run : ∀ (X : Cx) (A : Around) (outer : List Env) (s : Shared) (H : Hp) (E : XK) (scope : Scope) (body : Expr) (f c' : Addr), X.prog = P → X.w = w → X.K = K → X.mg = mg → X.base = base → X.N = N → ck scope body = true → scope.kind = .function → Room m A → A.guards = some [] →
    PE (lamD X A outer s H E scope f c') body (lE (lamD X A outer s H E scope f c') (fun cls d _ H => E cls d H) (fun de T Q E => ∃ ds, de = capEnv N.length vs ds ∧ g ds T Q E))
theorem act_pe {L : List LForm} {Y : Cx} {p : Addr} {j m : Nat} {x : Str} {G : Nat → DSp} {p1 p2 : Pos} (ca : CloAt L Y.prog Y.w Y.K Y.mg Y.base Y.outer Y.s_0 Y.H_0 p) (hex : Y.ex = []) (hcalm : Y.calm = true)
    (lam : ∀ (kk : Nat) N vs ck, L[kk]? = some (N, vs, ck) → LamPr Y.prog Y.w Y.K Y.mg Y.base m N vs ck (G (lamIx kk))) (room : Room m Y.A) (grd : Y.A.guards = some []) (hN : Y.N[j]? = some x) (hv : Vis Y.env.scope x) (hpn : plainN x = true) :
    DE Y (.Call (.Name x p1) [] [] p2) (fun de T Q E => ∃ d, de[j]? = some (some d) ∧ withAct G p actIx [d] T Q E) := fun W tk => by
  obtain ⟨pl1, pl2, pl3⟩ := plainN_of hpn
  refine ⟨fun pins sZ σZ HZ Q IZ ⟨Z, de, T, Qd, E, re, rh, ⟨d, hd, ht⟩, hq, hx⟩ => ?_⟩
  unfold withAct at ht
  rw [if_pos rfl] at ht
  obtain ⟨ed, kk1, es, hT, hgo⟩ := ht
  obtain rfl : d = .ref p := by simpa using ed
  obtain ⟨v, sv, rv⟩ := re.2 j _ hd
  obtain rfl : v = .ref p := rv
  obtain ⟨X, pins0, σ, kk, N, vs, ck, params, body, scope, pm, c', ctv, us, ws, P0, tp, lpos, ⟨e1, e2, e3, e4, e5, e6, e7⟩, I, LS, hnp, hH, el, hck, it, hP, ht3, hc, hus, hws⟩ := ca.ex
  have hZ : HZ p = some (LamO p _ kk us) := IZ.base.frzs p _ _ hH
  obtain ⟨o2, us2, vs2, fo, g1, g2, g3⟩ := rh.ob p _ hT
  have of2 : sZ.heap.get? p = some o2 := (IZ.hok p _ g1).1
  obtain ⟨_, ek, eu⟩ := LamO_inj of2 fo (Option.some.inj (g1.symm.trans hZ))
  subst ek eu
  obtain rfl := vals_one g2 hus
  obtain ⟨more, hPZ⟩ := IZ.base.tbls P0 tp hP
  obtain ⟨tp', q1, q2, q3, q4⟩ := rh.tab P0 _ it
  rw [hPZ] at q1
  cases q1
  obtain ⟨c0, ec, hco, _⟩ := q4 lpos (.ref c') (by rw [Array.toList_append]; exact among_more _ _ ht3 hc)
  cases ec
  have lp := lam kk1 N vs ck el
  obtain ⟨xprog, xw, xK, xmg, xbase, xA, xN, xs0, xH0, xenv, xouter, xstack, xex, xfn, xcalm, xpn, xxe⟩ := X
  dsimp only at e1 e2 e3 e4 e5 e6 e7 LS I hH hZ it hco
  subst e1 e2 e3 e4 e5 e6 e7
  refine wpAny_Call_Name_kw (thn ((pe_var (pos := p1) (i := j) hN hv pl1 pl2).run pins sZ σZ HZ (fun v H1 => v = .ref p ∧ H1 = HZ) IZ ⟨.ref p, sv, rfl, rfl⟩) fun u s1 ⟨v, H1, I1, r1, q1⟩ => ?_)
  obtain ⟨rfl, rfl⟩ := q1
  obtain rfl : u = Value.ref p := r1
  have of1 := (I1.hok p _ hZ).1
  obtain ⟨⟨oc, vsc, t, hoc, hdc, hvc⟩, _, _⟩ := I1.hok c' _ hco
  refine PySem.W.callWith_F0 ⟨_, _, _, _, of1⟩ ?_
  have un : Un (frs Y.outer) [] Y.H_0 H1 Y.s_0.heap s1.heap := by
    have := I1.base
    rw [hex] at this
    exact this
  have rc : codeAny (model Y.prog Y.w) Y.A (.call (.ref p) ⟨[], []⟩) (CR (CXD Y.K Y.prog Y.w) Y.stack Y.prog Y.w H1 s1 Q (WE W σZ)) s1 := by
    refine PySem.W.kla_callFunE room.depth of1 rfl LS.co LS.gen rfl ⟨c', oc, vsc, t, rfl, hoc, hdc, hvc⟩ ?_
    rw [noPar_eq hnp]
    refine wpAny_pure (wpAny_newFunctionEnv (fun y hy => (LS.own y hy).2) (fun y hy => absurd hy (by simp)) (fun h₁ hns hsb => ⟨I1.nolimit.fresh _ hsb, ?_⟩) LS.kind)
    have kp : ∀ b o, s1.heap.get? b = some o → h₁.get? b = some o := fun b o e => hsb.extBut b o (Nat.ne_of_lt (Heap.lt_size e)) (Heap.get?_push_of_some _ e)
    have J := lam_startD (E := WE W σZ) (f := p) (c' := c') (tk := s1.toks + ([] : List (Str × Value)).length) I LS I1.env0 (I1.ok.hd hcalm) un hns kp
    have hbody : lE (lamD { prog := Y.prog, w := Y.w, K := Y.K, mg := Y.mg, base := Y.base, A := xA, N := xN, s_0 := xs0, H_0 := xH0, env := xenv, outer := xouter, stack := Y.outer, ex := xex, fn := xfn, calm := xcalm, pn := xpn, xe := xxe } Y.A Y.stack s1 H1 (WE W σZ) scope p c') (fun cls d _ H => WE W σZ cls d H) (fun de T Q E => ∃ ds, de = capEnv xN.length vs ds ∧ G (lamIx kk1) ds T Q E) σ H1 Q :=
      ⟨Z, capEnv xN.length vs es, T, Qd, E, ⟨by rw [cap_len]; exact I.len.symm, fun i d hi => by
        obtain ⟨j', a1, a2⟩ := cap_get hi
        obtain ⟨w1, a3, a4⟩ := hws j' i a1
        obtain ⟨w2, a5, a6⟩ := g3.get a2
        rw [a3] at a5; cases a5
        exact ⟨w1, a4, a6⟩⟩, rh, ⟨es, rfl, hgo⟩, hq, hx⟩
    refine PySem.W.kla_codeExpr (wpAny_mono ((lp.run { prog := Y.prog, w := Y.w, K := Y.K, mg := Y.mg, base := Y.base, A := xA, N := xN, s_0 := xs0, H_0 := xH0, env := xenv, outer := xouter, stack := Y.outer, ex := xex, fn := xfn, calm := xcalm, pn := xpn, xe := xxe } Y.A Y.stack s1 H1 (WE W σZ) scope body p c' rfl rfl rfl rfl rfl rfl hck LS.kind room grd).run [] _ σ H1 Q J hbody) (fun v s' hq' => ?_) fun e s' hq' => hq')
    obtain ⟨w', H', J', rv', q'⟩ := hq'
    exact ⟨w', H', J'.os, J'.bare, J'.base, J'.hok, rv', q'⟩
  refine wpAny_call (codeAny_mono rc fun res s2 hres => ?_)
  match res, hres with
  | .error e, hres => exact passAtD tk σZ pins _ s1 e s2 I1 hres
  | .ok (.ret u), hres => exact I1.after hres
  | .ok .next, hres => exact False.elim hres
  | .ok .brk, hres => exact False.elim hres
  | .ok .cont, hres => exact False.elim hres
end DL

set_option linter.all false
set_option maxRecDepth 100000
set_option maxHeartbeats 8000000
namespace DL
open PySem PySem.Spec L2
variable {tb : Tab} {G : Nat → DSp}
/-! ### statements -/
structure SEnds (X : Cx) (Z : Addr → Prop) (T : DH) (H : Hp) (W : WX) (Dd : DEnds) (D : L2.Ends) : Prop where
  nx : ∀ de' T' σ' H', Dd.nx de' T' → Fr T H T' H' → RelEnv ((X.K, X.mg), Z) T' H' de' σ' → RelH ((X.K, X.mg), Z) T' H' → D.nx σ' H'
  rt : ∀ d T' v H', Dd.rt d T' → Fr T H T' H' → RelD ((X.K, X.mg), Z) T' H' d v → RelH ((X.K, X.mg), Z) T' H' → D.rt v H'
  ex : ∀ x de' T' σ' cls dd H', Dd.ex x de' T' → Fr T H T' H' → RelEnv ((X.K, X.mg), Z) T' H' de' σ' → RelH ((X.K, X.mg), Z) T' H' → RelX ((X.K, X.mg), Z) X.mg T' H' x cls dd → W cls dd σ' H'
theorem SEnds.fr {X : Cx} {Z : Addr → Prop} {T T1 : DH} {H H1 : Hp} {W : WX} {Dd : DEnds} {D : L2.Ends} (s : SEnds X Z T H W Dd D) (f : Fr T H T1 H1) : SEnds X Z T1 H1 W Dd D :=
  ⟨fun de' T' σ' H' n g => s.nx de' T' σ' H' n (f.trans g), fun d T' v H' n g => s.rt d T' v H' n (f.trans g), fun x de' T' σ' cls dd H' n g => s.ex x de' T' σ' cls dd H' n (f.trans g)⟩
def lS (X : Cx) (W : WX) (t : TDS) : TS := fun D σ H => ∃ Z de T Dd, RelEnv ((X.K, X.mg), Z) T H de σ ∧ RelH ((X.K, X.mg), Z) T H ∧ t Dd de T ∧ SEnds X Z T H W Dd D
def DS (X : Cx) (s : Stmt) (t : TDS) : Prop := ∀ W, Takes X W → PS X s (lS X W t)
def DSs (X : Cx) (s : List Stmt) (t : TDS) : Prop := ∀ W, Takes X W → PSs X s (lS X W t)
theorem cS {X : Cx} {e : Stmt} {t t' : TDS} (h : DS X e t) (w : t = t') : DS X e t' := w ▸ h
theorem cSs {X : Cx} {e : List Stmt} {t t' : TDS} (h : DSs X e t) (w : t = t') : DSs X e t' := w ▸ h
section
variable {X : Cx} {Z : Addr → Prop} {T : DH} {H : Hp} {W : WX} {Dd : DEnds} {D : L2.Ends} {σ : L2.St} {de : DEnv}
theorem SEnds.thenX (s : SEnds X Z T H W Dd D) (re : RelEnv ((X.K, X.mg), Z) T H de σ) : ThenX X Z T H (fun x T1 => Dd.ex x de T1) W σ := fun x T' cls dd H' e f rh rx => s.ex x de T' σ cls dd H' e f (re.fr f) rh rx
theorem dss_nil : DSs X [] (fun D de T => D.nx de T) := fun W tk => PSs_wk pss_nil fun D σ H ⟨Z, de, T, Dd, re, rh, ht, s⟩ => s.nx _ _ _ _ ht .refl re rh
theorem dss_cons {st : Stmt} {rest : List Stmt} {t u : TDS} (h1 : DS X st t) (h2 : DSs X rest u) : DSs X (st :: rest) (fun D de T => t { D with nx := fun de1 T1 => u D de1 T1 } de T) := fun W tk =>
  PSs_wk (pss_cons (h1 W tk) (h2 W tk)) fun D σ H ⟨Z, de, T, Dd, re, rh, ht, s⟩ =>
    ⟨Z, de, T, _, re, rh, ht, fun de' T' σ' H' n f re' rh' => ⟨Z, de', T', Dd, re', rh', n, s.fr f⟩, s.rt, s.ex⟩
theorem ds_pass {pos : Pos} : DS X (.Pass pos) (fun D de T => D.nx de T) := fun W tk => PS_wk ps_pass fun D σ H ⟨Z, de, T, Dd, re, rh, ht, s⟩ => s.nx _ _ _ _ ht .refl re rh
theorem ds_doc {x : Str} {j : Nat} {p pos : Pos} : DS X (.Expr (.Constant (.str x) j p) pos) (fun D de T => D.nx de T) := fun W tk => PS_wk ps_doc fun D σ H ⟨Z, de, T, Dd, re, rh, ht, s⟩ => s.nx _ _ _ _ ht .refl re rh
theorem ds_expr {e : Expr} {te : TDE} {pos : Pos} (he : DE X e te) (hl : notLC e = true) : DS X (.Expr e pos) (fun D de T => te de T (fun _ T1 => D.nx de T1) (fun x T1 => D.ex x de T1)) := fun W tk =>
  PS_wk (ps_expr (he W tk) (swaps_no hl)) fun D σ H ⟨Z, de, T, Dd, re, rh, ht, s⟩ => ⟨Z, de, T, _, _, re, rh, ht, fun d T' v H' n f rd rh' => s.nx _ _ _ _ n f (re.fr f) rh', s.thenX re⟩
theorem ds_ret {e : Expr} {te : TDE} {pos : Pos} (he : DE X e te) : DS X (.Return (some e) pos) (fun D de T => te de T D.rt (fun x T1 => D.ex x de T1)) := fun W tk =>
  PS_wk (ps_ret (he W tk)) fun D σ H ⟨Z, de, T, Dd, re, rh, ht, s⟩ => ⟨Z, de, T, _, _, re, rh, ht, fun d T' v H' n f rd rh' => s.rt _ _ _ _ n f rd rh', s.thenX re⟩
theorem ds_retN {pos : Pos} : DS X (.Return none pos) (fun D _ T => D.rt .non T) := fun W tk => PS_wk ps_retN fun D σ H ⟨Z, de, T, Dd, re, rh, ht, s⟩ => s.rt _ _ _ _ ht .refl rfl rh
theorem ds_if {c : Expr} {a b : List Stmt} {tc : TDT} {t u : TDS} {pos : Pos} (hc : DT2 X c tc) (ha : DSs X a t) (hb : DSs X b u) : DS X (.If c a b pos) (fun D de T => tc de T (fun k T1 => if k = true then t D de T1 else u D de T1) (fun x T1 => D.ex x de T1)) := fun W tk =>
  PS_wk (ps_if (hc W tk).1 (ha W tk) (hb W tk)) fun D σ H ⟨Z, de, T, Dd, re, rh, ht, s⟩ => ⟨Z, de, T, _, _, re, rh, ht, fun k T' H' n f rh' => by
    cases k with
    | true => exact ⟨Z, de, T', Dd, re.fr f, rh', n, s.fr f⟩
    | false => exact ⟨Z, de, T', Dd, re.fr f, rh', n, s.fr f⟩, s.thenX re⟩
theorem ds_set {i : Nat} {x : Str} {e : Expr} {te : TDE} {pos pos' : Pos} (hN : X.N.Nodup) (hi : X.N[i]? = some x) (hx : Loc X.env.scope x) (hf : X.fn x = true ∨ X.env.scope.names.lookup x = some .local) (he : DE X e te) (hs : swapsWith e (some (.Name x pos')) pos.line X.env = pure false) :
    DS X (.Assign [.Name x pos'] e pos) (fun D de T => te de T (fun d T1 => D.nx (de.set i (some d)) T1) (fun x T1 => D.ex x de T1)) := fun W tk =>
  PS_wk (ps_set hN hi hx (he W tk) hs hf) fun D σ H ⟨Z, de, T, Dd, re, rh, ht, s⟩ => ⟨Z, de, T, _, _, re, rh, ht, fun d T' v H' n f rd rh' => s.nx _ _ _ _ n f ((re.fr f).set rd i) rh', s.thenX re⟩
theorem ds_unp {g : Tgt} {tg e : Expr} {te : TDE} {pos : Pos} (hg : PG X tg (lG X g)) (he : DE X e te) (hs : swapsWithSole [tg] e pos.line X.env = pure false) (hw : swappedStores [tg] e X.env = pure none) (h1 : (assignEach [tg] X.env).map (·.2) = [assign tg X.env]) :
    DS X (.Assign [tg] e pos) (fun D de T => te de T (fun d T1 => ∃ de1, bindT g d de = some de1 ∧ D.nx de1 T1) (fun x T1 => D.ex x de T1)) := fun W tk =>
  PS_wk (ps_asg (he W tk) hg hs hw h1) fun D σ H ⟨Z, de, T, Dd, re, rh, ht, s⟩ => ⟨Z, de, T, _, _, re, rh, ht, fun d T' v H' ⟨de1, hb, n⟩ f rd rh' => ⟨Z, de, T', d, de1, re.fr f, rh', rd, hb, fun σ1 r1 _ _ => s.nx _ _ _ _ n f r1 rh'⟩, s.thenX re⟩
/-- a, b = x, y of plain local names -/
def parB (x y : Str) (px py : Pos) (a b : Expr) (sc : Scope) : Bool :=
  decide (x ≠ y) && (decide (sc.names.lookup x = some .local) && (decide (sc.names.lookup y = some .local) && (decide (py.line = px.line) && (notStar a && (notStar b && (!(foldedForSure 8 a && foldedForSure 8 b) && !(constantsAlone 8 a && constantsAlone 8 b)))))))
theorem par_sw {x y : Str} {px py pt pt2 : Pos} {a b : Expr} {sc : Scope} {kt k2} (h : parB x y px py a b sc = true) (hs : X.env.scope = sc) (hf : sc.kind = .function) : swappedStores [.Tuple [.Name x px, .Name y py] kt pt] (.Tuple [a, b] k2 pt2) X.env = pure (some [x, y]) := by
  unfold parB at h
  simp only [Bool.and_eq_true, decide_eq_true_eq, Bool.not_eq_true'] at h
  obtain ⟨h1, h2, h3, h4, h5, h6, h7, h8⟩ := h
  have bk : X.env.blockKind = .function := by unfold Env.blockKind; rw [hs, hf]; rfl
  have k1 : X.env.kindOf x = some .local := by unfold Env.kindOf; rw [hs]; exact h2
  have k2' : X.env.kindOf y = some .local := by unfold Env.kindOf; rw [hs]; exact h3
  have ns : ∀ e : Expr, notStar e = true → (match e with | .Starred .. => true | _ => false) = false := fun e h => by cases e <;> first | rfl | cases h
  have n1 := ns a h5
  have n2 := ns b h6
  have ne : (x == y) = false := by simpa using h1
  have ne2 : (y == x) = false := by simpa using Ne.symm h1
  unfold swappedStores
  simp [bk, n1, n2, k1, k2', h4, ne, ne2, h7, h8, List.eraseDups_cons, Expr.pos]
  intro h
  exfalso
  rcases h with h | h
  · cases a <;> first | (cases h; done) | cases h5
  · cases b <;> first | (cases h; done) | cases h6
theorem ds_par {i j : Nat} {x y : Str} {a b : Expr} {ta tb : TDE} {px py pt pt2 pos : Pos} {kt k2} {sc : Scope} (hc : X.calm = true) (hN : X.N.Nodup) (hi : X.N[i]? = some x) (hj : X.N[j]? = some y) (hp : parB x y px py a b sc = true) (hs : X.env.scope = sc) (hf : sc.kind = .function) (ha : DE X a ta) (hb : DE X b tb) :
    DS X (.Assign [.Tuple [.Name x px, .Name y py] kt pt] (.Tuple [a, b] k2 pt2) pos) (fun D de T => ta de T (fun d T1 => tb de T1 (fun e T2 => D.nx ((de.set i (some d)).set j (some e)) T2) (fun x T1 => D.ex x de T1)) (fun x T1 => D.ex x de T1)) := fun W tk => by
  have hw := par_sw (X := X) (pt := pt) (pt2 := pt2) (kt := kt) (k2 := k2) hp hs hf
  unfold parB at hp
  simp only [Bool.and_eq_true, decide_eq_true_eq, Bool.not_eq_true'] at hp
  obtain ⟨h1, h2, h3, h4, h5, h6, h7, h8⟩ := hp
  have ij : i ≠ j := fun e => h1 (by rw [e, hj] at hi; exact (Option.some.inj hi).symm)
  refine PS_wk (ps_par hc hN hi hj ij (by rw [hs]; exact h2) (by rw [hs]; exact h3) (pa_cons (ha W tk) (pa_cons (hb W tk) pa_nil (star_cons h6)) (star_cons h5)) hw) fun D σ H ⟨Z, de, T, Dd, re, rh, ht, s⟩ => ?_
  refine ⟨Z, de, T, _, _, re, rh, ht, fun d T1 v H1 n1 f1 r1 rh1 => ?_, s.thenX re⟩
  refine ⟨Z, de, T1, _, _, re.fr f1, rh1, n1, fun e T2 w H2 n2 f2 r2 rh2 => ?_, (s.thenX re).fr f1⟩
  exact ⟨v, w, rfl, s.nx _ _ _ _ n2 (f1.trans f2) (((re.fr (f1.trans f2)).set (r1.fr f2) i).set r2 j) rh2⟩
/-- o[i] = v by deep values -/
def lPut (X : Cx) : TSet := fun o i v H Q => ∃ Z T x y d k, RelH ((X.K, X.mg), Z) T H ∧ RelD ((X.K, X.mg), Z) T H x o ∧ RelD ((X.K, X.mg), Z) T H y i ∧ RelD ((X.K, X.mg), Z) T H d v ∧ dPut x y d T k ∧ ∀ T' H', k T' → Fr T H T' H' → RelH ((X.K, X.mg), Z) T' H' → Q H'
theorem put_dict (hu : X.A.units + 1 < cLine) : PSet X (fun o i v H Q => ∃ a H', o = .ref a ∧ DPut H a i v H' ∧ Q H') := by
  intro pins s σ H o i v ov iv u Q I ro ri rv h
  obtain ⟨a, H', eo, g, q⟩ := h
  subst eo
  cases (show ov = Value.ref a from ro)
  exact d_setItem hu I g ri rv fun s' I' => ⟨H', I', q⟩
theorem put_D (hr : Room 0 X.A) : PSet X (lPut X) := by
  intro pins s σ H o i v ov iv u Q I ro ri rv ⟨Z, T, x, y, d, k, rh, rx, ry, rd, hp, q⟩
  cases x <;> (unfold dPut at hp; try exact hp.elim)
  rename_i a
  obtain rfl : o = .ref a := rx
  dsimp only at hp
  cases e : T a with
  | none => rw [e] at hp; exact hp.elim
  | some ob =>
    rw [e] at hp
    cases ob with
    | ins _ _ => exact hp.elim
    | exn _ _ => exact hp.elim
    | clo _ _ => exact hp.elim
    | lst ds =>
      obtain ⟨n, j, e1, e2, hk⟩ := hp
      subst e1
      obtain ⟨vs, h1, h2⟩ := rh.ob a _ e
      refine set_list pins s σ H _ i v ov iv u Q I ro ri rv ⟨a, vs, n, j, rfl, ry, h1, by rw [h2.length]; exact e2, ?_⟩
      exact q _ _ hk (fr_wr e) (rh.wr e ⟨_, upd_same, (h2.fr (fr_wr e)).set (rd.fr (fr_wr e)) j⟩)
    | dK kvs =>
      obtain ⟨j, e1, e2, hk⟩ := hp
      obtain ⟨ws, h1, h2⟩ := rh.ob a _ e
      refine put_dict (by have := hr.un; omega) pins s σ H _ i v ov iv u Q I ro ri rv ⟨a, _, rfl, ?_, q _ _ hk (fr_wr e) (rh.wr e ⟨_, upd_same, putK_rel (rd.fr (fr_wr e)) (h2.fr (fr_wr e))⟩)⟩
      rw [key_rel ry e1]
      exact DPut.k h1 (by rw [h2.length]; exact e2)
    | dT kvs =>
      obtain ⟨j, e1, e2, hk⟩ := hp
      obtain ⟨ws, h1, h2⟩ := rh.ob a _ e
      obtain ⟨b, e3, e4⟩ := keys_rel ry e1
      refine put_dict (by have := hr.un; omega) pins s σ H _ i v ov iv u Q I ro ri rv ⟨a, _, rfl, ?_, q _ _ hk (fr_wr e) (rh.wr e ⟨_, upd_same, putK_rel (rd.fr (fr_wr e)) (h2.fr (fr_wr e))⟩)⟩
      rw [e3]
      exact DPut.t h1 e4 (by rw [h2.length]; exact e2)
    | dN kvs =>
      obtain ⟨j, n, e1, e2, e3, hk⟩ := hp
      subst e2
      obtain ⟨as, h1, h2⟩ := rh.ob a _ e
      rw [show v = .int n from rd] at rv
      obtain ⟨t, rfl⟩ := rv
      obtain rfl : ov = Value.ref a := ro
      have un := hr.un
      refine n_setItem (A := X.A) (Z := Z) (T := T) (a := a) (kvs := kvs) (as := as) (k := y) (j := j) (by omega) I ⟨h1, h2, e1, ry⟩ ri e3 fun bs s' rb I' => ⟨_, I', ?_⟩
      exact q _ _ hk (fr_wr e) (rh.wr e ⟨bs, upd_same, rb _ _ (fr_wr e)⟩)
theorem ds_put {o i e : Expr} {to ti te : TDE} {p pos : Pos} (hr : Room 0 X.A) (ho : DE X o to) (hi : DE X i ti) (he : DE X e te) (hsl : notSl i = true) (hl : notLC e = true) :
    DS X (.Assign [.Subscript o i p] e pos) (fun D de T => te de T (fun v T1 => to de T1 (fun x T2 => ti de T2 (fun y T3 => dPut x y v T3 fun T4 => D.nx de T4) (fun x T1 => D.ex x de T1)) (fun x T1 => D.ex x de T1)) (fun x T1 => D.ex x de T1)) := fun W tk =>
  PS_wk (ps_asg (he W tk) (pg_sub (ho W tk) (hi W tk) (put_D hr) (by intro v; cases i <;> first | rfl | cases hsl)) (by unfold swapsWithSole; exact swaps_no hl) rfl rfl) fun D σ H ⟨Z, de, T, Dd, re, rh, ht, s⟩ =>
    ⟨Z, de, T, _, _, re, rh, ht, fun d T' v H' n f rd rh' => ⟨Z, de, T', _, _, re.fr f, rh', n, fun x T2 w H2 n2 f2 rx rh2 => ⟨Z, de, T2, _, _, (re.fr f).fr f2, rh2, n2, fun y T3 w3 H3 n3 f3 ry rh3 =>
      ⟨Z, T3, x, y, d, _, rh3, rx.fr f3, ry, (rd.fr f2).fr f3, n3, fun T4 H4 n4 f4 rh4 => s.nx _ _ _ _ n4 (((f.trans f2).trans f3).trans f4) ((((re.fr f).fr f2).fr f3).fr f4) rh4⟩,
      ((s.fr f).fr f2).thenX ((re.fr f).fr f2)⟩, (s.fr f).thenX (re.fr f)⟩, s.thenX re⟩
theorem get_D : PGet X (l2 X dGetI) := by
  intro pins s σ H o i ov iv Q I ro ri ⟨Z, T, x, y, Qd, rh, rx, ry, h, q⟩
  cases x <;> (unfold dGetI at h; try exact h.elim)
  rename_i a
  obtain ⟨ds, n, d, h1, rfl, h2, h3, h4, h5⟩ := h
  obtain rfl : o = .ref a := rx
  obtain rfl : i = .int n := ry
  obtain ⟨t, rfl⟩ := ri
  obtain rfl : ov = Value.ref a := ro
  obtain ⟨vs, g1, g2⟩ := rh.ob a _ h1
  obtain ⟨its, rv, hl, hz⟩ := I.list (SqL.of g1)
  obtain ⟨v, e1, r1⟩ := g2.get h4
  obtain ⟨u, e2, r2⟩ := rv.get e1
  exact wpAny_getItem_list hl.isList h2 h3 (by simpa using e2) ⟨v, H, I, r2, q _ _ _ _ h5 .refl r1 rh⟩
theorem ds_aug {o i e : Expr} {to ti te : TDE} {p pos : Pos} (hr : Room 0 X.A) (ho : DE X o to) (hi : DE X i ti) (he : DE X e te) (hsl : notSl i = true) :
    DS X (.AugAssign (.Subscript o i p) .Add e pos) (fun D de T => to de T (fun x T1 => ti de T1 (fun y T2 => dGetI x y T2 fun z T3 => te de T3 (fun v T4 => ∃ j k, z = .int j ∧ v = .int k ∧ dPut x y (.int (j + k)) T4 fun T5 => D.nx de T5) (fun x T1 => D.ex x de T1)) (fun x T1 => D.ex x de T1)) (fun x T1 => D.ex x de T1)) := fun W tk =>
  PS_wk (ps_augS (ho W tk) (hi W tk) get_D (he W tk) ip_add (put_D hr) (by intro a b c; cases i <;> first | rfl | cases hsl)) fun D σ H ⟨Z, de, T, Dd, re, rh, ht, s⟩ =>
    ⟨Z, de, T, _, _, re, rh, ht, fun x T1 vx H1 n1 f1 rx rh1 =>
      ⟨Z, de, T1, _, _, re.fr f1, rh1, n1, fun y T2 vy H2 n2 f2 ry rh2 =>
        ⟨Z, T2, x, y, _, rh2, rx.fr f2, ry, n2, fun z T3 vz H3 n3 f3 rz rh3 =>
          ⟨Z, de, T3, _, _, ((re.fr f1).fr f2).fr f3, rh3, n3, fun v T4 vv H4 n4 f4 rv rh4 => by
            obtain ⟨j, k, rfl, rfl, n4⟩ := n4
            exact ⟨j, k, rz, rv, ⟨Z, T4, x, y, .int (j + k), _, rh4, ((rx.fr f2).fr f3).fr f4, (ry.fr f3).fr f4, rfl, n4, fun T5 H5 n5 f5 rh5 => s.nx _ _ _ _ n5 ((((f1.trans f2).trans f3).trans f4).trans f5) (((((re.fr f1).fr f2).fr f3).fr f4).fr f5) rh5⟩⟩,
          (((s.fr f1).fr f2).fr f3).thenX (((re.fr f1).fr f2).fr f3)⟩⟩,
      (s.fr f1).thenX (re.fr f1)⟩, s.thenX re⟩
theorem ds_for {g : Tgt} {tg iter : Expr} {body : List Stmt} {ti : TDI} {t : TDS} {pos : Pos} (hp : PassesOwn (model X.prog X.w) X.A X.env X.xe) (hc : X.calm = true) (hi : DI X tg iter ti) (hg : PG X tg (lG X g)) (hb : DSs X body t) (hs : notSet iter = true) :
    DS X (.For tg iter body [] pos) (fun D de T => ti de T (fun src T1 => forL g src t D src.xs de T1) (fun x T1 => D.ex x de T1)) := fun W tk =>
  PS_wk (ps_for hp hc (hi W tk) hg (hb W tk) (fold_plain hs)) fun D σ H ⟨Z, de, T, Dd, re, rh, ht, s⟩ => by
    refine ⟨Z, de, T, _, _, re, rh, ht, fun src T1 J H1 hl f1 rh1 ok => ?_, s.thenX re⟩
    let P : Nat → L2.St → Hp → Prop := fun i σ H => ∃ de T, Fr T1 H1 T H ∧ RelEnv ((X.K, X.mg), Z) T H de σ ∧ RelH ((X.K, X.mg), Z) T H ∧ forL g src t Dd (src.xs.drop i) de T
    refine ⟨fun i k σ H => k = src.xs.length - i ∧ i ≤ src.xs.length ∧ P i σ H, ⟨src.xs.length, by simp, Nat.zero_le _, de, T1, .refl, re.fr f1, rh1, by simpa using hl⟩, ?_⟩
    rintro i k σ2 H2 ⟨rfl, hi, de2, T2, f2, re2, rh2, hl⟩
    by_cases hlt : i < src.xs.length
    · obtain ⟨x0, e0⟩ : ∃ x, src.xs[i]? = some x := ⟨_, List.getElem?_eq_getElem hlt⟩
      have ed : src.xs.drop i = x0 :: src.xs.drop (i + 1) := by
        obtain ⟨h1, h2⟩ := List.getElem?_eq_some_iff.mp e0
        rw [List.drop_eq_getElem_cons hlt, h2]
      rw [ed] at hl
      unfold forL at hl
      obtain ⟨so, de1, hb1, hl⟩ := hl
      refine .inr ⟨ok.goes _ i T2 H2 .refl hlt f2 rh2 so, P (i + 1), fun σ' H' p' => ⟨src.xs.length - (i + 1), by omega, rfl, hlt, p'⟩, fun x H' y => ?_⟩
      obtain ⟨d, e1, rd, f3, rh3⟩ := ok.ylds _ i T2 H2 x H' .refl hlt f2 rh2 so y
      rw [e0] at e1; cases e1
      refine ⟨Z, de2, T2, x0, de1, re2.fr f3, rh3, rd, hb1, fun σ3 r3 _ _ => ⟨Z, de1, T2, _, r3, rh3, hl, fun de' T' σ' H' n f re' rh' => ⟨de', T', (f2.trans f3).trans f, re', rh', n⟩, ((s.fr f1).fr (f2.trans f3)).rt, ((s.fr f1).fr (f2.trans f3)).ex⟩⟩
    · have e : i = src.xs.length := by omega
      subst e
      rw [List.drop_length] at hl
      unfold forL at hl
      exact .inl ⟨ok.stops _ T2 H2 .refl f2 rh2 hl.1, s.nx _ _ _ _ hl.2 (f1.trans f2) re2 rh2⟩
theorem ds_while {c : Expr} {body : List Stmt} {tc : TDT} {t : TDS} {pos : Pos} (hp : PassesOwn (model X.prog X.w) X.A X.env X.xe) (hc : DT2 X c tc) (hb : DSs X body t) :
    DS X (.While c body [] pos) (fun D de T => ∃ W : Nat → DEnv → DH → Prop, (∃ m, W m de T) ∧ ∀ m de T, W m de T →
      tc de T (fun k T1 => if k = true then t { D with nx := fun de2 T2 => ∃ m', m' < m ∧ W m' de2 T2 } de T1 else D.nx de T1) (fun x T1 => D.ex x de T1)) := fun W tk =>
  PS_wk (ps_while hp (hc W tk).1 (hb W tk)) fun D σ H ⟨Z, de, T, Dd, re, rh, ⟨V, ⟨m0, v0⟩, turn⟩, s⟩ => by
    refine ⟨fun m σ2 H2 => ∃ de2 T2, Fr T H T2 H2 ∧ RelEnv ((X.K, X.mg), Z) T2 H2 de2 σ2 ∧ RelH ((X.K, X.mg), Z) T2 H2 ∧ V m de2 T2, ⟨m0, de, T, .refl, re, rh, v0⟩, ?_⟩
    rintro m σ2 H2 ⟨de2, T2, f2, re2, rh2, v2⟩
    refine ⟨Z, de2, T2, _, _, re2, rh2, turn m de2 T2 v2, fun k T3 H3 h3 f3 rh3 => ?_, (s.fr f2).thenX re2⟩
    cases k with
    | false =>
      simp only [Bool.false_eq_true, if_false] at h3 ⊢
      exact s.nx _ _ _ _ h3 (f2.trans f3) (re2.fr f3) rh3
    | true =>
      simp only [if_true] at h3 ⊢
      refine ⟨fun σ' H' => ∃ m', m' < m ∧ ∃ de2 T2, Fr T H T2 H' ∧ RelEnv ((X.K, X.mg), Z) T2 H' de2 σ' ∧ RelH ((X.K, X.mg), Z) T2 H' ∧ V m' de2 T2, fun σ' H' n => n, Z, de2, T3, _, re2.fr f3, rh3, h3, fun de' T' σ' H' ⟨m', hm, n⟩ f re' rh' => ⟨m', hm, de', T', (f2.trans f3).trans f, re', rh', n⟩, (s.fr (f2.trans f3)).rt, (s.fr (f2.trans f3)).ex⟩
theorem ds_never {st : Stmt} : DS X st (fun _ _ _ => False) := fun W tk => PS_wk ps_never fun D σ H ⟨Z, de, T, Dd, re, rh, ht, s⟩ => ht
end
/-! ### errors raised, and caught -/
/-- the frame of a def's body -/
structure Frm (tb : Tab) (G : Nat → DSp) (X : Cx) : Prop where
  hs : X.stack = X.env :: X.outer
  hf : X.env.frame = some X.env.locals
  hex : X.ex = []
  act : tb.act = true → ∀ (pn : List (Addr × Obj)) (xe : Value → Shared → Prop) (j : Nat) (x : Str) (p1 p2 : Pos), X.N[j]? = some x → Vis X.env.scope x → plainN x = true →
    DE (X.tr pn xe) (.Call (.Name x p1) [] [] p2) (fun de T Q E => ∃ d, de[j]? = some (some d) ∧ G actIx [d] T Q E)
theorem Frm.tr {tb : Tab} {G : Nat → DSp} {X : Cx} (f : Frm tb G X) (pn : List (Addr × Obj)) (xe : Value → Shared → Prop) : Frm tb G (X.tr pn xe) := ⟨f.hs, f.hf, f.hex, fun h pn' xe' => f.act h pn' xe'⟩
theorem Cok.tr {X : Cx} {N : List Str} {sc : Scope} {st : List Str} {k : Nat} (c : Cok tb G X N sc st k) (pn : List (Addr × Obj)) {xe : Value → Shared → Prop} (h : PassesOwn (model X.prog X.w) X.A X.env xe) : Cok tb G (X.tr pn xe) N sc st k :=
  ⟨c.calm, c.hN, c.nd, c.hsc, c.fun_, c.st, h, c.room, c.k2, c.grd, c.bl, c.ex, c.gi, c.gs, c.mkr, c.fc, c.ft⟩
theorem relKs_app {κ : Type} {K : KZ} {T : DH} {H : Hp} : ∀ {ps qs : List (κ × D)} {us ws : List (κ × V)}, RelKs K T H ps us → RelKs K T H qs ws → RelKs K T H (ps ++ qs) (us ++ ws)
  | [], qs, us, ws, h, g => by
    have h : us = [] := h
    subst h; exact g
  | p :: ps, qs, us, ws, h, g => by
    obtain ⟨v, r, e, h1, h2⟩ := h
    subst e
    exact ⟨v, r ++ ws, rfl, h1, relKs_app h2 g⟩
theorem relKs_rev {κ : Type} {K : KZ} {T : DH} {H : Hp} : ∀ {ps : List (κ × D)} {us : List (κ × V)}, RelKs K T H ps us → RelKs K T H ps.reverse us.reverse
  | [], us, h => by
    have h : us = [] := h
    subst h; exact rfl
  | p :: ps, us, h => by
    obtain ⟨v, r, e, h1, h2⟩ := h
    subst e
    rw [List.reverse_cons, List.reverse_cons]
    exact relKs_app (relKs_rev h2) ⟨v, [], rfl, h1, rfl⟩
theorem relKs_zip {κ : Type} {K : KZ} {T : DH} {H : Hp} : ∀ {ks : List κ} {ds : List D} {vs : List V}, RelDs K T H ds vs → RelKs K T H (ks.zip ds) (ks.zip vs)
  | [], ds, vs, h => rfl
  | k :: ks, [], vs, h => by
    have h : vs = [] := h
    subst h; exact rfl
  | k :: ks, d :: ds, vs, h => by
    obtain ⟨v, r, e, h1, h2⟩ := h
    subst e
    exact ⟨v, ks.zip r, rfl, h1, relKs_zip h2⟩
theorem ExCl.notNB {K : PySem.W.Frag} {mg : Str → Option Value} {c : Str} {C P : Addr} (h : ExCl K mg c C P) (hn : c ≠ "NoBar") : ¬ nbC K (.ref C) := fun ⟨C', cd, e, h1, h2⟩ => by
  cases e
  obtain ⟨cd', g1, g2, _⟩ := h.cd
  rw [h1] at g1
  cases g1
  exact hn (g2.symm.trans h2)
theorem ExCl.isNB {K : PySem.W.Frag} {mg : Str → Option Value} {C P : Addr} (h : ExCl K mg "NoBar" C P) : nbC K (.ref C) := by
  obtain ⟨cd, g1, g2, _⟩ := h.cd
  exact ⟨C, cd, rfl, g1, g2⟩
theorem ds_raise {X : Cx} {N : List Str} {sc : Scope} {st : List Str} {k : Nat} {d m : Str} {j : Nat} {p p2 pos pos' : Pos} (c : Cok tb G X N sc st k) (hd : d ∈ tb.ex) (hs : simpEx d = true) (hg : Gl X d) (hp : plainN d = true) :
    DS X (.Raise (some (.Call (.Name d p) [.Constant (.str m) j p2] [] pos)) none pos') (fun D de T => D.ex ⟨d, []⟩ de T) := fun W tk => by
  obtain ⟨P, A⟩ := c.ex (List.ne_nil_of_mem hd)
  obtain ⟨C, hC⟩ := A.all d hd
  refine PS_wk (L2N.ps_raise c.calm tk.n (L2N.pmk_own PySem.F.excBase_ValueError (hC.x hs) hC.gC hC.kp (raises_own (hC.base (by decide)) hC.ty) hg (plainN_of hp).1)) fun D σ H ⟨Z, de, T, Dd, re, rh, ht, s⟩ => ?_
  exact s.ex _ _ _ _ _ _ _ ht .refl re rh ⟨C, rfl, hC.gC, .inl ⟨rfl, rfl⟩⟩
theorem ds_raiseA {X : Cx} {N : List Str} {sc : Scope} {st : List Str} {k n : Nat} {d : Str} {e : Expr} {es : List Expr} {te : TDA} {p pos pos' : Pos} (c : Cok tb G X N sc st k) (hd : d ∈ tb.ex) (hs : simpEx d = false) (hg : Gl X d) (hp : plainN d = true)
    (hn : n = (excFs d).length) (he : DA X (e :: es) n te) (h1 : starEach (e :: es) X.env = (false, eval e X.env) :: starEach es X.env) (h2 : (backTo pos (starEach es X.env)).any (·.1) = false) :
    DS X (.Raise (some (.Call (.Name d p) (e :: es) [] pos)) none pos') (fun D de T => te de T (fun ds T1 => D.ex ⟨d, ((excFs d).zip ds).reverse⟩ de T1) (fun x T1 => D.ex x de T1)) := fun W tk => by
  obtain ⟨P, A⟩ := c.ex (List.ne_nil_of_mem hd)
  obtain ⟨C, hC⟩ := A.all d hd
  have I := hC.ini hs
  obtain ⟨fI, fd, ps, i1, i2, i3, i4, i5⟩ := I.ex
  refine PS_wk (L2.ps_raise c.calm tk.a (pmk_oex I.T i1 i2 (i5 X.prog X.w X.base 0) (c.room.mono c.k2) i3 .nil passL hg hC.gC (he W tk) (plainN_of hp).1 h1 h2)) fun D σ H ⟨Z, de, T, Dd, re, rh, ht, s⟩ => ?_
  refine ⟨Z, de, T, _, _, re, rh, ht, fun ds T1 vs H1 n1 hl f1 rv rh1 => ?_, s.thenX re⟩
  have lv : vs.length = (excFs d).length := by rw [rv.length, hl, hn]
  have l2 : (excFs d).length ≤ 2 := by
    unfold excFs
    split
    · decide
    · split <;> decide
  refine ⟨by omega, fun a ha => ⟨a, vs, by rw [List.append_nil], lv, upd_same, fun dx hdx hda => ⟨rfl, dx, ((excFs d).zip vs).reverse, upd_same, by rw [upd_ne hda, upd_same], ?_, ?_⟩⟩⟩
  · rw [upd_ne hda] at hdx; exact hdx
  · rw [upd_ne hda] at hdx
    have eH : upd (del (upd (upd (upd H1 a (exo a C none)) dx (exd dx ((excFs d).zip vs).reverse)) a (exo a C (some dx))) a) dx (.xd ((excFs d).zip vs).reverse) = upd H1 dx (.xd ((excFs d).zip vs).reverse) := by
      funext b
      by_cases hb : b = dx
      · rw [hb, upd_same, upd_same]
      · rw [upd_ne hb, upd_ne hb]
        by_cases hba : b = a
        · rw [hba, del_same, ha]
        · rw [del_ne hba, upd_ne hba, upd_ne hb, upd_ne hba]
    rw [eH]
    refine ⟨s.ex _ _ _ _ _ _ _ n1 (f1.trans (fr_new hdx)) (re.fr (f1.trans (fr_new hdx))) (rh1.new hdx) ⟨C, rfl, hC.gC, .inr ⟨dx, _, rfl, upd_same, ⟨rh1.free hdx, rh1.nothid hdx⟩, ?_⟩⟩, hC.notNB fun e => absurd hs (by rw [e]; decide)⟩
    exact relKs_rev (relKs_zip (rv.fr (fr_new hdx)))
/-- what catches an error of the body -/
def exW (ks cs : List Str) (h : HK) (D : DEnds) : Exn → DEnv → DH → Prop := fun x de1 T1 => x.c ∈ ks ∧ if (cs.any fun d => isEx d x.c) = true then hkD h x D de1 T1 else thru x.c ∧ D.ex x de1 T1
theorem exn_cls {X : Cx} {N : List Str} {sc : Scope} {st : List Str} {k : Nat} {Z : Addr → Prop} {T : DH} {H : Hp} {x : Exn} {cls : Value} {dd : Option Addr} {ks : List Str} (c : Cok tb G X N sc st k) (hk : ksB tb ks = true) (hx : x.c ∈ ks) (rx : RelX ((X.K, X.mg), Z) X.mg T H x cls dd) :
    ∃ P C, cls = .ref C ∧ ExAll X.K X.mg tb.ex P ∧ ExCl X.K X.mg x.c C P ∧ x.c ∈ excN ∧ ExR ((X.K, X.mg), Z) T H x.fs dd := by
  obtain ⟨P, C, A, hC, hn⟩ := c.exn hk hx
  obtain ⟨C', e1, e2, e3⟩ := rx
  have : C' = C := by have z := e2.symm.trans hC.gC; cases z; rfl
  subst this
  exact ⟨P, C', e1, A, hC, hn, e3⟩
theorem lS_tr {X : Cx} {pn : List (Addr × Obj)} {xe : Value → Shared → Prop} {W : WX} {t : TDS} {ss : List Stmt} (h : PSs (X.tr pn xe) ss (lS (X.tr pn xe) W t)) : PSs (X.tr pn xe) ss (lS X W t) :=
  PSs_wk h fun D σ H ⟨Z, de, T, Dd, re, rh, ht, s⟩ => ⟨Z, de, T, Dd, re, rh, ht, s.nx, s.rt, s.ex⟩
theorem ds_tryKeep {X : Cx} {N : List Str} {sc : Scope} {st : List Str} {k : Nat} {ks : List Str} {d n y : Str} {i j : Nat} {body : List Stmt} {t : TDS} {np np2 py ap pos pos' : Pos} (c : Cok tb G X N sc st k) (fr : Frm tb G X) (hk : ksB tb ks = true) (hd : exB tb sc d = true) (hdv : d ≠ "ValueError")
    (hi : X.N[i]? = some y) (hj : X.N[j]? = some n) (hij : i ≠ j) (hly : X.env.kindOf y = some .local) (hln : X.env.kindOf n = some .local) (hpn : plainN n = true)
    (hb : ∀ (pn : List (Addr × Obj)) (xe : Value → Shared → Prop), PassesOwn (model X.prog X.w) X.A X.env xe → DSs (X.tr pn xe) body t) :
    DS X (.Try body [.ExceptHandler (some (.Name d np)) (some n) [.Assign [.Name y py] (.Name n np2) ap] pos'] [] [] pos) (fun D de T => t { D with ex := exW ks [d] (.keep i j) D } de T) := fun W tk => by
  obtain ⟨v, u, F⟩ := c.cls hd
  refine PS_wk (ps_try_keep (tb := fun W => lS X W t) fr.hs fr.hf fr.hex (c.hN ▸ c.nd) hi hj hij hly hln hpn F.names tk.a fun W pn xe tkW hp => lS_tr (hb pn xe hp W (takes_L2 tkW))) fun D σ H ⟨Z, de, T, Dd, re, rh, ht, s⟩ => ?_
  refine ⟨Z, de, T, _, re, rh, ht, s.nx, s.rt, fun x de' T' σ' cls dd H' ⟨hx, hh⟩ f re' rh' rx => ?_⟩
  obtain ⟨P, C, rfl, A, hC, hn, r3⟩ := exn_cls c hk hx rx
  refine ⟨isEx d x.c, F.exm hdv P A _ _ hC hn, fun e a ha => ?_, fun e => ?_⟩
  · simp only [List.any_cons, List.any_nil, Bool.or_false, e, if_true] at hh
    have ht' := hh a (rh'.free ha)
    refine s.nx _ _ _ _ ht' (f.trans (fr_newT ha)) (((re'.fr (fr_newT ha)).set (d := .ref a) (v := .ref a) rfl i).setNone j _) (rh'.newT ha ⟨C, dd, hC.gC, upd_same, r3.fr (fr_newT ha)⟩)
  · simp only [List.any_cons, List.any_nil, Bool.or_false, e, Bool.false_eq_true, if_false] at hh
    exact ⟨s.ex x de' T' σ' _ dd H' hh.2 f re' rh' ⟨C, rfl, hC.gC, r3⟩, hC.notNB (of_decide_eq_false hh.1)⟩
theorem ds_tryFld {X : Cx} {N : List Str} {sc : Scope} {st : List Str} {k : Nat} {ks : List Str} {d n y cn f : Str} {i j : Nat} {body : List Stmt} {t : TDS} {np np2 py ap fp pos pos' : Pos} (c : Cok tb G X N sc st k) (fr : Frm tb G X) (hk : ksB tb ks = true) (hd : exB tb sc d = true) (hdv : d ≠ "ValueError")
    (hf : f ∈ fldN) (hcn : cn ∈ tb.ex) (hcs : simpEx cn = false)
    (hi : X.N[i]? = some y) (hj : X.N[j]? = some n) (hij : i ≠ j) (hly : X.env.kindOf y = some .local) (hln : X.env.kindOf n = some .local) (hpn : plainN n = true)
    (hb : ∀ (pn : List (Addr × Obj)) (xe : Value → Shared → Prop), PassesOwn (model X.prog X.w) X.A X.env xe → DSs (X.tr pn xe) body t) :
    DS X (.Try body [.ExceptHandler (some (.Name d np)) (some n) [.Assign [.Name y py] (.Attribute (.Name n np2) f fp) ap] pos'] [] [] pos) (fun D de T => t { D with ex := exW ks [d] (.fld i j cn f) D } de T) := fun W tk => by
  obtain ⟨v, u, F⟩ := c.cls hd
  obtain ⟨P, A⟩ := c.ex (List.ne_nil_of_mem hcn)
  obtain ⟨C, hC⟩ := A.all cn hcn
  have hno : PySem.W.findIn X.K (.ref C) f = some none := by
    obtain ⟨g1, g2, g3⟩ := hC.fl hcs
    unfold fldN at hf
    simp only [List.mem_cons, List.not_mem_nil, or_false] at hf
    rcases hf with rfl | rfl | rfl <;> assumption
  refine PS_wk (ps_try_fld (tb := fun W => lS X W t) hC hno fr.hs fr.hf fr.hex (c.hN ▸ c.nd) hi hj hij hly hln hpn F.names tk.a fun W pn xe tkW hp => lS_tr (hb pn xe hp W (takes_L2 tkW))) fun D σ H ⟨Z, de, T, Dd, re, rh, ht, s⟩ => ?_
  refine ⟨Z, de, T, _, re, rh, ht, s.nx, s.rt, fun x de' T' σ' cls dd H' ⟨hx, hh⟩ f' re' rh' rx => ?_⟩
  obtain ⟨P', C', rfl, A', hC', hn, r3⟩ := exn_cls c hk hx rx
  refine ⟨isEx d x.c, F.exm hdv P' A' _ _ hC' hn, fun e => ?_, fun e => ?_⟩
  · simp only [List.any_cons, List.any_nil, Bool.or_false, e, if_true] at hh
    obtain ⟨ec, d0, l0, hnx⟩ := hh
    have eC : C' = C := by
      have z := hC'.gC
      rw [ec] at z
      have z2 := z.symm.trans hC.gC
      cases z2; rfl
    subst eC
    refine ⟨rfl, ?_⟩
    rcases r3 with ⟨z, _⟩ | ⟨dx, ws, e1, m1, m2, m3⟩
    · rw [z] at l0; cases l0
    · obtain ⟨w, lv, rv⟩ := lookup_rel m3 l0
      refine ⟨dx, ws, w, e1, m1, lv, fun a ha => ?_⟩
      exact s.nx _ _ _ _ hnx (f'.trans (fr_new ha)) (((re'.fr (fr_new ha)).set (rv.fr (fr_new ha)) i).setNone j _) (rh'.new ha)
  · simp only [List.any_cons, List.any_nil, Bool.or_false, e, Bool.false_eq_true, if_false] at hh
    exact ⟨s.ex x de' T' σ' _ dd H' hh.2 f' re' rh' ⟨C', rfl, hC'.gC, r3⟩, hC'.notNB (of_decide_eq_false hh.1)⟩
/-- a constant in an except suite -/
def cstB (a : IE) (e : Expr) : Bool := match a with
  | .kN => match e with
    | .Constant .none _ _ => true
    | _ => false
  | .kB b => match e with
    | .Constant (.bool c) _ _ => decide (b = c)
    | _ => false
  | _ => false
def cV : IE → V
  | .kB b => .bl b
  | _ => .non
theorem cV_rel {K : KZ} {T : DH} {H : Hp} (a : IE) : RelD K T H (cD a) (cV a) := by cases a <;> rfl
theorem cst_pe {X : Cx} {a : IE} {e : Expr} (h : cstB a e = true) : PE X e (tC (cV a)) := by
  cases a <;> try (unfold cstB at h; cases h; done)
  · unfold cstB at h
    dsimp only at h
    split at h
    · exact pe_non
    · cases h
  · unfold cstB at h
    dsimp only at h
    split at h
    · obtain rfl := of_decide_eq_true h
      exact pe_bl
    · cases h
theorem wOnly_of {X : Cx} {N : List Str} {sc : Scope} {st : List Str} {k : Nat} {ks : List Str} {d : Str} {t : TDS} {v : V} {u : Value} {ts : Addr → Value → Option Addr → TS} {hk : HK} {W : WX} {D : L2.Ends} {σ : L2.St} {H : Hp} (c : Cok tb G X N sc st k) (h : ksB tb ks = true) (F : ClsE X tb d v u) (hdv : d ≠ "ValueError")
    (hts : ∀ (Z : Addr → Prop) (T : DH) (H : Hp) (Dd : DEnds) (D : L2.Ends) x de' T' σ' cls dd H', SEnds X Z T H W Dd D → hkD hk x Dd de' T' → Fr T H T' H' → RelEnv ((X.K, X.mg), Z) T' H' de' σ' → RelH ((X.K, X.mg), Z) T' H' → ∀ a, H' a = none → ts a cls dd D σ' H')
    (hh : lS X W (fun D de T => t { D with ex := exW ks [d] hk D } de T) D σ H) : lS X (wOnly X.K u ts (wOut X.K W) D) t D σ H := by
  obtain ⟨Z, de, T, Dd, re, rh, ht, s⟩ := hh
  refine ⟨Z, de, T, _, re, rh, ht, s.nx, s.rt, fun x de' T' σ' cls dd H' ⟨hx, hh⟩ f re' rh' rx => ?_⟩
  obtain ⟨P, C, rfl, A, hC, hn, r3⟩ := exn_cls c h hx rx
  refine ⟨isEx d x.c, F.exm hdv P A _ _ hC hn, fun e a ha => ?_, fun e => ?_⟩
  · simp only [List.any_cons, List.any_nil, Bool.or_false, e, if_true] at hh
    exact hts Z T H Dd D x de' T' σ' _ dd H' s hh f re' rh' a ha
  · simp only [List.any_cons, List.any_nil, Bool.or_false, e, Bool.false_eq_true, if_false] at hh
    exact ⟨s.ex x de' T' σ' _ dd H' hh.2 f re' rh' ⟨C, rfl, hC.gC, r3⟩, hC.notNB (of_decide_eq_false hh.1)⟩
theorem wTwo_of {X : Cx} {N : List Str} {sc : Scope} {st : List Str} {k : Nat} {ks : List Str} {d1 d2 : Str} {t : TDS} {v1 v2 : V} {u1 u2 : Value} {ts : Addr → Value → Option Addr → TS} {hk : HK} {W : WX} {D : L2.Ends} {σ : L2.St} {H : Hp} (c : Cok tb G X N sc st k) (h : ksB tb ks = true) (F1 : ClsE X tb d1 v1 u1) (F2 : ClsE X tb d2 v2 u2) (hdv1 : d1 ≠ "ValueError") (hdv2 : d2 ≠ "ValueError")
    (hts : ∀ (Z : Addr → Prop) (T : DH) (H : Hp) (Dd : DEnds) (D : L2.Ends) x de' T' σ' cls dd H', SEnds X Z T H W Dd D → hkD hk x Dd de' T' → Fr T H T' H' → RelEnv ((X.K, X.mg), Z) T' H' de' σ' → RelH ((X.K, X.mg), Z) T' H' → ∀ a, H' a = none → ts a cls dd D σ' H')
    (hh : lS X W (fun D de T => t { D with ex := exW ks [d1, d2] hk D } de T) D σ H) : lS X (wTwo X.K u1 u2 ts (wOut X.K W) D) t D σ H := by
  obtain ⟨Z, de, T, Dd, re, rh, ht, s⟩ := hh
  refine ⟨Z, de, T, _, re, rh, ht, s.nx, s.rt, fun x de' T' σ' cls dd H' ⟨hx, hh⟩ f re' rh' rx => ?_⟩
  obtain ⟨P, C, rfl, A, hC, hn, r3⟩ := exn_cls c h hx rx
  refine ⟨isEx d1 x.c || isEx d2 x.c, ?_, fun e a ha => ?_, fun e => ?_⟩
  · have k1 := F1.exm hdv1 P A _ _ hC hn
    have k2 := F2.exm hdv2 P A _ _ hC hn
    unfold PySem.W.exmAny PySem.W.exmAny PySem.W.exmAny
    rw [k1, k2]
    simp
  · simp only [List.any_cons, List.any_nil, Bool.or_false, e, if_true] at hh
    exact hts Z T H Dd D x de' T' σ' _ dd H' s hh f re' rh' a ha
  · simp only [List.any_cons, List.any_nil, Bool.or_false, e, Bool.false_eq_true, if_false] at hh
    exact ⟨s.ex x de' T' σ' _ dd H' hh.2 f re' rh' ⟨C, rfl, hC.gC, r3⟩, hC.notNB (of_decide_eq_false hh.1)⟩
/-- the suite of an except clause without a name -/
def suiB (h : HK) (N : List Str) (sc : Scope) (ss : List Stmt) : Bool := match h with
  | .ret a => match ss with
    | [.Return (some e) _] => cstB a e
    | _ => false
  | .set i a => match ss with
    | [.Assign [.Name y _] e _] => decide (N[i]? = some y) && decide (sc.names.lookup y = some .local) && cstB a e && notLC e
    | _ => false
  | _ => false
theorem sui_ok {X : Cx} {N : List Str} {sc : Scope} {st : List Str} {k : Nat} {W : WX} (c : Cok tb G X N sc st k) {hk : HK} {ss : List Stmt} (h : suiB hk N sc ss = true) : ∃ (b₀ : Stmt) (rest : List Stmt) (ts : Addr → Value → Option Addr → TS), ss = b₀ :: rest ∧
    (∀ (a : Addr) (oe : Obj) (cls : Value) (d : Option Addr) (pn : List (Addr × Obj)), PSs (X.suite a ((a, oe) :: pn)) (b₀ :: rest) (ts a cls d)) ∧
    (∀ (Z : Addr → Prop) (T : DH) (H : Hp) (Dd : DEnds) (D : L2.Ends) x de' T' σ' cls dd H', SEnds X Z T H W Dd D → hkD hk x Dd de' T' → Fr T H T' H' → RelEnv ((X.K, X.mg), Z) T' H' de' σ' → RelH ((X.K, X.mg), Z) T' H' → ∀ a, H' a = none → ts a cls dd D σ' H') := by
  cases hk with
  | ret a =>
    unfold suiB at h
    dsimp only at h
    split at h
    · exact ⟨_, _, fun _ _ _ => fun D σ H => D.rt (cV a) H, rfl, fun _ oe cls d pn => PSs_wk (pss_one (ps_ret (cst_pe h))) fun D σ H q => q, fun Z T H Dd D x de' T' σ' cls dd H' s hk f re rh _ ha => s.rt _ _ _ _ hk f (cV_rel a) rh⟩
    · cases h
  | set i a =>
    unfold suiB at h
    dsimp only at h
    split at h
    · rename_i y py e p
      simp only [Bool.and_eq_true, decide_eq_true_eq] at h
      obtain ⟨⟨⟨h1, h2⟩, h3⟩, h4⟩ := h
      have hl : X.env.scope.names.lookup y = some .local := by rw [c.hsc]; exact h2
      exact ⟨_, _, fun _ _ _ => fun D σ H => D.nx (σ.set i (some (cV a))) H, rfl, fun b oe cls d pn => PSs_wk (pss_one (ps_set (X := X.suite b ((b, oe) :: pn)) (i := i) (c.hN ▸ c.nd) (by rw [c.hN]; exact h1) (.inl hl) (cst_pe h3) (swaps_no h4) (.inr hl))) fun D σ H q => q, fun Z T H Dd D x de' T' σ' cls dd H' s hk f re rh _ ha => s.nx _ _ _ _ hk f (re.set (cV_rel a) i) rh⟩
    · cases h
  | keep i j => unfold suiB at h; cases h
  | fld i j c f => unfold suiB at h; cases h
  | rz c => unfold suiB at h; cases h
/-! ### the checker of statements -/
def swB (v : Expr) (x : Str) (p : Pos) (sc : Scope) : Bool := match v with
  | .ListComp _ _ s vp => decide (sc.names.lookup x = some .local) && p.line == vp.line && !(s.names.any fun (n, k) => n == x && (k == .local || k == .cell))
  | _ => false
def notSC : Expr → Bool
  | .SetComp _ _ _ _ => false
  | .DictComp _ _ _ _ _ => false
  | _ => true
def notTup : Expr → Bool
  | .Tuple _ _ _ => false
  | _ => true
theorem sw_false {v : Expr} {x : Str} {p : Pos} {l : Nat} {env : Env} (hs : notSC v = true) (h : swB v x p env.scope = false) (hk : env.scope.kind = .function) : swapsWith v (some (.Name x p)) l env = pure false := by
  cases v <;> try rfl
  · rename_i e gs s vp
    have h : (decide (env.scope.names.lookup x = some .local) && p.line == vp.line && !(s.names.any fun (n, k) => n == x && (k == .local || k == .cell))) = false := h
    have hb : env.blockKind = .function := by unfold Env.blockKind; rw [hk]; rfl
    unfold swapsWith
    have e : env.kindOf x = env.scope.names.lookup x := rfl
    simp only [hb, e, Expr.pos]
    have d : (env.scope.names.lookup x == some NameKind.local) = decide (env.scope.names.lookup x = some .local) := by
      cases z : env.scope.names.lookup x with
      | none => rfl
      | some k => cases k <;> rfl
    show pure (true && (env.scope.names.lookup x == some NameKind.local) && p.line == vp.line && !(s.names.any fun (n, k) => n == x && (k == .local || k == .cell))) = pure false
    rw [d, Bool.true_and, h]
  · cases hs
  · cases hs
variable (tb)
/-- the classes that an except clause names -/
def clsB : List Str → Scope → Expr → Bool
  | [d], sc, .Name x _ => decide (x = d) && exB tb sc d && !decide (d = "ValueError")
  | [d, e], sc, .Tuple [.Name x _, .Name y _] _ _ => decide (x = d) && decide (y = e) && exB tb sc d && exB tb sc e && !decide (d = "ValueError") && !decide (e = "ValueError")
  | _, _, _ => false
def keepB : HK → List Str → List Str → Scope → Expr → Str → List Stmt → Bool
  | .keep i j, [d], N, sc, .Name x _, n, [.Assign [.Name y _] (.Name n2 _) _] => decide (x = d) && exB tb sc d && !decide (d = "ValueError") && decide (N[i]? = some y) && decide (N[j]? = some n) && decide (i ≠ j) && decide (sc.names.lookup y = some .local) && decide (sc.names.lookup n = some .local) && plainN n && decide (n2 = n)
  | .fld i j cn f, [d], N, sc, .Name x _, n, [.Assign [.Name y _] (.Attribute (.Name n2 _) g _) _] => decide (x = d) && exB tb sc d && !decide (d = "ValueError") && decide (N[i]? = some y) && decide (N[j]? = some n) && decide (i ≠ j) && decide (sc.names.lookup y = some .local) && decide (sc.names.lookup n = some .local) && plainN n && decide (n2 = n) && decide (g = f) && fldN.contains f && tb.ex.contains cn && !simpEx cn
  | _, _, _, _, _, _, _ => false
/-- raise X('..') from None in an except suite -/
def rzK : HK → Bool
  | .rz _ => true
  | _ => false
def rzB : HK → List Str → Scope → Expr → List Stmt → Bool
  | .rz r, [d], sc, .Name x _, [.Raise (some (.Call (.Name y _) [.Constant (.str _) _ _] [] _)) (some (.Constant .none _ _)) _] => decide (x = d) && (decide (d = "NoBar") && (exB tb sc d && (decide (y = r) && (tb.ex.contains r && (simpEx r && (glB sc r && (plainN r && !decide (r = "NoBar"))))))))
  | _, _, _, _, _ => false
mutual
/-- no suite of it raises out -/
def nr : IS → Bool
  | .ite _ a b => nrs a && nrs b
  | .for_ _ _ body => nrs body
  | .while_ _ body => nrs body
  | .try_ _ _ body h => !rzK h && nrs body
  | _ => true
termination_by structural x => x
def nrs : List IS → Bool
  | [] => true
  | s :: r => nr s && nrs r
termination_by structural x => x
end
mutual
def chkS : IS → List Str → Scope → Stmt → Bool
  | .pass, _, _, s => match s with
    | .Pass _ => true
    | .Expr (.Constant (.str _) _ _) _ => true
    | _ => false
  | .expr e, N, sc, s => match s with | .Expr x _ => chkE tb e N sc x && notLC x | _ => false
  | .ret e, N, sc, s => match s with | .Return (some x) _ => chkE tb e N sc x | _ => false
  | .retN, _, _, s => match s with | .Return none _ => true | _ => false
  | .set i e, N, sc, s => match s with | .Assign [.Name x p] v _ => decide (N[i]? = some x) && (stOf sc).contains x && chkE tb e N sc v && notSC v | _ => false
  | .unp t e, N, sc, s => match s with | .Assign [.Tuple es k p] v _ => chkG t N (stOf sc) (.Tuple es k p) && chkE tb e N sc v && notTup v && notLC v | _ => false
  | .par i j e1 e2, N, sc, s => match s with | .Assign [.Tuple [.Name x px, .Name y py] _ _] (.Tuple [a, b] _ _) _ => decide (N[i]? = some x) && decide (N[j]? = some y) && parB x y px py a b sc && chkE tb e1 N sc a && chkE tb e2 N sc b | _ => false
  | .put o i e, N, sc, s => match s with | .Assign [.Subscript x y _] v _ => chkE tb o N sc x && chkE tb i N sc y && chkE tb e N sc v && notSl y && notLC v | _ => false
  | .aug o i e, N, sc, s => match s with | .AugAssign (.Subscript x y _) .Add v _ => chkE tb o N sc x && chkE tb i N sc y && chkE tb e N sc v && notSl y | _ => false
  | .ite c a b, N, sc, s => match s with | .If x p q _ => chkT tb c N sc x && chkSs a N sc p && chkSs b N sc q | _ => false
  | .for_ g it body, N, sc, s => match s with | .For tg iter p [] _ => chkG g N (stOf sc) tg && chkI tb it N sc tg iter && chkSs body N sc p && notSet iter | _ => false
  | .while_ c body, N, sc, s => match s with | .While x p [] _ => chkT tb c N sc x && chkSs body N sc p | _ => false
  | .setAct i j, N, sc, s => match s with | .Assign [.Name y _] (.Call (.Name x _) [] [] _) _ => decide (N[i]? = some y) && (stOf sc).contains y && decide (N[j]? = some x) && visB sc x && plainN x && tb.act | _ => false
  | .raise d, _, sc, s => match s with | .Raise (some (.Call (.Name x _) [.Constant (.str _) _ _] [] _)) none _ => decide (x = d) && tb.ex.contains d && simpEx d && glB sc d && plainN d | _ => false
  | .raiseA d fs es, N, sc, s => match s with | .Raise (some (.Call (.Name x _) (y :: ys) [] _)) none _ => decide (x = d) && tb.ex.contains d && !simpEx d && glB sc d && plainN d && decide (fs = excFs d) && decide (es.length = fs.length) && chkEs tb es N sc (y :: ys) | _ => false
  | .try_ ks cs body h, N, sc, s => match s with
    | .Try b [.ExceptHandler (some te) none suite _] [] [] _ => ksB tb ks && (chkSs body N sc b && nrs body) && ((suiB h N sc suite && clsB tb cs sc te) || rzB tb h cs sc te suite)
    | .Try b [.ExceptHandler (some te) (some n) suite _] [] [] _ => ksB tb ks && (chkSs body N sc b && nrs body) && keepB tb h cs N sc te n suite
    | _ => false
  | .never, _, _, _ => true
termination_by structural x => x
def chkSs : List IS → List Str → Scope → List Stmt → Bool
  | [], _, _, ss => match ss with | [] => true | _ => false
  | s :: r, N, sc, ss => match ss with | x :: xs => chkS s N sc x && chkSs r N sc xs | _ => false
termination_by structural x => x
end
variable {tb}
theorem lc_form {e : IE} {N : List Str} {sc : Scope} {x : Expr} {gs : List Comprehension} {scope : Scope} {pos : Pos} (h : chkE tb e N sc (.ListComp x gs scope pos) = true) :
    ∃ m g own it cs e0, e = .lc m g own it cs e0 := by
  cases e <;> first | exact ⟨_, _, _, _, _, _, rfl⟩ | (unfold chkE at h; cases h)
theorem ds_setLc {X : Cx} {N : List Str} {sc : Scope} {k : Nat} (c : Cok tb G X N sc (stOf sc) k) {i : Nat} {y : Str} {e : IE} {v : Expr} {py pos : Pos} (hi : X.N[i]? = some y) (h : chkE tb e N sc v = true) (hs : swB v y py sc = true) :
    DS X (.Assign [.Name y py] v pos) (fun D de T => evE G e de T (fun d T1 => D.nx (de.set i (some d)) T1) (fun x T1 => D.ex x de T1)) := by
  cases v <;> try (cases hs; done)
  rename_i x gs scope vp
  obtain ⟨m, g, own, it, cs, e0, rfl⟩ := lc_form h
  unfold chkE at h
  split at h
  · rename_i heq
    injection heq with q1 q2 q3 q4
    subst q1 q2 q3 q4
    simp only [Bool.and_eq_true, decide_eq_true_eq, List.all_eq_true, List.contains_iff_mem] at h
    obtain ⟨⟨⟨⟨⟨⟨⟨rfl, h1⟩, h2⟩, h3⟩, h4⟩, h5⟩, h6⟩, h7⟩ := h
    unfold swB at hs
    simp only [Bool.and_eq_true, decide_eq_true_eq, Bool.not_eq_true'] at hs
    have ok := blkOk_by h1
    obtain ⟨p1, p2, p3⟩ := lc_parts c ok h5 (fun c' => sC cs c' _ h6) (fun c' => sE e0 c' _ h7)
    intro W tk
    refine PS_wk (ps_setLc c.calm c.hNd hi (by rw [c.hsc]; exact hs.1.1) (sw_true (by rw [c.hsc]; exact c.fun_) (by rw [c.hsc]; exact hs.1.1) hs.1.2 hs.2) (sI it c _ _ h3 W tk) (by rw [c.hN, c.hsc]; exact ok) p1 p2 p3 (fold_plain h4)) ?_
    intro D σ H ⟨Z, de, T, Dd, re, rh, ht, s⟩
    exact lc_of (W := W) (m := m) (ti := evI G it) (ct := evC G cs) (ce := evE G e0) h2 (fun _ _ _ _ h => h) (fun _ _ _ h => h) (fun _ _ _ h => h) σ H _ ⟨Z, de, T, _, _, re, rh, ht, fun d T' v H' n f rd rh' => s.nx _ _ _ _ n f ((re.fr f).set rd i) rh', s.thenX re⟩
  · cases h
theorem ds_try0 {X : Cx} {N : List Str} {sc : Scope} {st : List Str} {k : Nat} {ks cs : List Str} {hk : HK} {body suite : List Stmt} {te : Expr} {t : TDS} {pos pos' : Pos} (c : Cok tb G X N sc st k) (fr : Frm tb G X) (h1 : ksB tb ks = true)
    (hb : ∀ (pn : List (Addr × Obj)) (xe : Value → Shared → Prop), PassesOwn (model X.prog X.w) X.A X.env xe → DSs (X.tr pn xe) body t) (h3 : suiB hk N sc suite = true) (h4 : clsB tb cs sc te = true) :
    DS X (.Try body [.ExceptHandler (some te) none suite pos'] [] [] pos) (fun D de T => t { D with ex := exW ks cs hk D } de T) := fun W tk => by
  obtain ⟨b₀, rest, ts, rfl, g1, g2⟩ := sui_ok (W := W) c h3
  unfold clsB at h4
  split at h4
  · rename_i d sc' x p
    simp only [Bool.and_eq_true, decide_eq_true_eq, Bool.not_eq_true', decide_eq_false_iff_not] at h4
    obtain ⟨⟨rfl, h5⟩, h6⟩ := h4
    obtain ⟨v, u, F⟩ := c.cls h5
    exact PS_wk (ps_try_only (tb := fun W => lS X W t) fr.hs fr.hf F.names tk.a (fun W pn xe tkW hp => lS_tr (hb pn xe hp W (takes_L2 tkW))) fun a oe cls d pn _ _ => g1 a oe cls d pn) fun D σ H hh => wOnly_of c h1 F h6 g2 hh
  · rename_i d e sc' x p y q j tp
    simp only [Bool.and_eq_true, decide_eq_true_eq, Bool.not_eq_true', decide_eq_false_iff_not] at h4
    obtain ⟨⟨⟨⟨⟨rfl, rfl⟩, h5⟩, h6⟩, h7⟩, h8⟩ := h4
    obtain ⟨v1, u1, F1⟩ := c.cls h5
    obtain ⟨v2, u2, F2⟩ := c.cls h6
    exact PS_wk (ps_try_two (tb := fun W => lS X W t) fr.hs fr.hf F1.names F2.names tk.a (fun W pn xe tkW hp => lS_tr (hb pn xe hp W (takes_L2 tkW))) fun a oe cls d pn _ _ => g1 a oe cls d pn) fun D σ H hh => wTwo_of c h1 F1 F2 h7 h8 g2 hh
  · cases h4
theorem ds_tryN {X : Cx} {N : List Str} {sc : Scope} {st : List Str} {k : Nat} {ks cs : List Str} {hk : HK} {body suite : List Stmt} {te : Expr} {n : Str} {t : TDS} {pos pos' : Pos} (c : Cok tb G X N sc st k) (fr : Frm tb G X) (h1 : ksB tb ks = true)
    (hb : ∀ (pn : List (Addr × Obj)) (xe : Value → Shared → Prop), PassesOwn (model X.prog X.w) X.A X.env xe → DSs (X.tr pn xe) body t) (h3 : keepB tb hk cs N sc te n suite = true) :
    DS X (.Try body [.ExceptHandler (some te) (some n) suite pos'] [] [] pos) (fun D de T => t { D with ex := exW ks cs hk D } de T) := by
  unfold keepB at h3
  split at h3
  · simp only [Bool.and_eq_true, decide_eq_true_eq, Bool.not_eq_true', decide_eq_false_iff_not] at h3
    obtain ⟨⟨⟨⟨⟨⟨⟨⟨⟨rfl, h4⟩, h5⟩, h6⟩, h7⟩, h8⟩, h9⟩, h10⟩, h11⟩, rfl⟩ := h3
    refine ds_tryKeep c fr h1 h4 h5 (by rw [c.hN]; exact h6) (by rw [c.hN]; exact h7) h8 ?_ ?_ h11 hb
    · show X.env.scope.names.lookup _ = _
      rw [c.hsc]; exact h9
    · show X.env.scope.names.lookup _ = _
      rw [c.hsc]; exact h10
  · simp only [Bool.and_eq_true, decide_eq_true_eq, Bool.not_eq_true', decide_eq_false_iff_not, List.contains_iff_mem] at h3
    obtain ⟨⟨⟨⟨⟨⟨⟨⟨⟨⟨⟨⟨⟨rfl, h4⟩, h5⟩, h6⟩, h7⟩, h8⟩, h9⟩, h10⟩, h11⟩, rfl⟩, rfl⟩, h12⟩, h13⟩, h14⟩ := h3
    refine ds_tryFld c fr h1 h4 h5 h12 h13 h14 (by rw [c.hN]; exact h6) (by rw [c.hN]; exact h7) h8 ?_ ?_ h11 hb
    · show X.env.scope.names.lookup _ = _
      rw [c.hsc]; exact h9
    · show X.env.scope.names.lookup _ = _
      rw [c.hsc]; exact h10
  · cases h3
/-- .. a suite that raises -/
def PAt (X : Cx) : Prop := ∀ hd : Option Value, PassesOwnAt (model X.prog X.w) (X.A.mark hd) X.A X.env X.xe
theorem pmk5_own {X : Cx} {C : Addr} {bmB : List Value} {B newId initId : String} {x m : Str} {j : Nat} {p p2 pos : Pos} (F : ExcBaseFacts B newId initId bmB) (q : PySem.W.excIn X.K C bmB newId = true) (gC : X.mg x = some (.ref C)) (kC : PySem.W.keepIn X.K (.ref C) = true) (r : Raises X (.ref C)) (hg : Gl X x)
    (hdb : (x == ("__debug__" : Str)) = false) : L2H.PMk5 X (.Call (.Name x p) [.Constant (.str m) j p2] [] pos) (fun _ H Q => Q (.ref C) none H) := by
  intro pins s σ H Q I h
  refine wpAny_Call_Name_kw (ld_glob I hg gC ?_ hdb)
  have ha : PA X [.Constant (.str m) j p2] (tCons (tC (.str m)) tNil) := pa_cons pe_str pa_nil
  refine PySem.W.callWith_K (h₀ := X.base) I.ok.mod.kin kC (thn (ha.run pos pins s σ H (fun vs H1 => vs = [V.str m] ∧ H = H1) I ⟨rfl, rfl⟩) fun us s1 hh => ?_)
  obtain ⟨vs, H1, I1, r1, ev, eH⟩ := hh
  subst ev
  rw [← eH] at I1
  refine ⟨I1.kIn, ?_⟩
  cases r1 with
  | cons ru rn =>
    rename_i u us'
    cases rn
    show wpAny _ _ (call (.ref C) [u]) _ _ _
    obtain ⟨bm, N, nm, qn, bs, hdct, sn, sub, ab, col, dd, k0, k1, k2, k3, k5, mN, hC, hN, hni, T⟩ := exc_obj I1.kIn q
    refine wpAny_call_exc_subT F T hC hN hni (fun h' e hm => ?_) (by show 1 ≤ sizeLine; rw [sizeLine_eq]; omega)
    exact L2H.mk_of5 I1 hm r h (I1.hok.gone hm.new)
theorem ds_tryRz {X : Cx} {N : List Str} {sc : Scope} {st : List Str} {k : Nat} {ks cs : List Str} {hk : HK} {body suite : List Stmt} {te : Expr} {t : TDS} {pos pos' : Pos} (c : Cok tb G X N sc st k) (fr : Frm tb G X) (h1 : ksB tb ks = true) (pat : rzK hk = false ∨ PAt X)
    (hb : ∀ (pn : List (Addr × Obj)) (xe : Value → Shared → Prop), PassesOwn (model X.prog X.w) X.A X.env xe → DSs (X.tr pn xe) body t) (h3 : rzB tb hk cs sc te suite = true) :
    DS X (.Try body [.ExceptHandler (some te) none suite pos'] [] [] pos) (fun D de T => t { D with ex := exW ks cs hk D } de T) := fun W tk => by
  unfold rzB at h3
  split at h3
  · rename_i r d sc' x p y py m j p2 p3 j2 p4 p5
    simp only [Bool.and_eq_true, decide_eq_true_eq, Bool.not_eq_true', decide_eq_false_iff_not, List.contains_iff_mem] at h3
    obtain ⟨rfl, rfl, h5, rfl, h6, h7, h8, h9, h10⟩ := h3
    have pa : PAt X := pat.resolve_left (by simp [rzK])
    obtain ⟨v, u, F⟩ := c.cls h5
    obtain ⟨P, A⟩ := c.ex (List.ne_nil_of_mem h6)
    obtain ⟨C, hC⟩ := A.all _ h6
    refine PS_wk (L2H.ps_try_onlyX (tb := fun W1 => lS X (fun cls d σ H => W1 cls d σ H ∧ (¬ nbC X.K cls → L2H.wPass X.K u (wOut X.K W) cls d σ H)) t) (ts := fun _ _ _ => fun _ σ H => wOut X.K W (.ref C) none σ H) (Wout := wOut X.K W) (c := u) fr.hs fr.hf F.names pa tk.a
      (fun W1 pn xe tn tw hp => lS_tr (hb pn xe hp _ ⟨tw.imp fun _ _ _ _ h => h.1.2 h.2, tn.imp fun _ _ _ _ h => h.1⟩)) (fun a oe cls d pn z fl tkS hot => ?_)) fun D σ H hh => ?_
    · exact PSs_wk (pss_one (L2H.ps_raiseHN hot tkS (pmk5_own (X := L2H.suiteX X a ((a, oe) :: pn)) PySem.F.excBase_ValueError (hC.x h7) hC.gC hC.kp (raises_own (hC.base (by decide)) hC.ty) (c.gl h8) (plainN_of h9).1))) fun D σ H q => q
    · obtain ⟨Z, de, T, Dd, re, rh, ht, s⟩ := hh
      refine ⟨Z, de, T, _, re, rh, ht, s.nx, s.rt, fun x de' T' σ' cls dd H' ⟨hx, hh⟩ f re' rh' rx => ?_⟩
      obtain ⟨P', C', rfl, A', hC', hn, r3⟩ := exn_cls c h1 hx rx
      have em := F.exm (by decide) P' A' _ _ hC' hn
      simp only [List.any_cons, List.any_nil, Bool.or_false] at hh
      refine ⟨⟨_, em, fun e a ha => ?_, fun e => ?_⟩, fun nn => ?_⟩
      · rw [if_pos e] at hh
        exact ⟨s.ex _ de' T' σ' _ none H' hh f re' rh' ⟨C, rfl, hC.gC, .inl ⟨rfl, rfl⟩⟩, hC.notNB h10⟩
      · rw [if_neg (by rw [e]; decide)] at hh
        exact ⟨s.ex x de' T' σ' _ dd H' hh.2 f re' rh' ⟨C', rfl, hC'.gC, r3⟩, hC'.notNB (of_decide_eq_false hh.1)⟩
      · have ne : x.c ≠ "NoBar" := fun e => nn (by rw [e] at hC'; exact hC'.isNB)
        have e : isEx "NoBar" x.c = false := by
          unfold isEx
          rw [decide_eq_false (fun z => ne z.symm)]
          decide
        rw [if_neg (by rw [e]; decide)] at hh
        exact ⟨em.trans (by rw [e]), s.ex x de' T' σ' _ dd H' hh.2 f re' rh' ⟨C', rfl, hC'.gC, r3⟩, nn⟩
  · cases h3
theorem orL {p q : Bool} {P : Prop} (h : (p && q) = true ∨ P) : p = true ∨ P := h.imp (fun h => (Bool.and_eq_true _ _ ▸ h : _ ∧ _).1) id
theorem orR {p q : Bool} {P : Prop} (h : (p && q) = true ∨ P) : q = true ∨ P := h.imp (fun h => (Bool.and_eq_true _ _ ▸ h : _ ∧ _).2) id
mutual
theorem sS : ∀ (ir : IS) {X : Cx} {N : List Str} {sc : Scope} {k : Nat}, Cok tb G X N sc (stOf sc) k → Frm tb G X → (nr ir = true ∨ PAt X) → ∀ (s : Stmt), chkS tb ir N sc s = true → DS X s (evS G ir)
  | .pass, X, N, sc, k, c, fr, hq, s, h => by
    unfold chkS at h; split at h
    · exact ds_pass
    · exact ds_doc
    · cases h
  | .expr e, X, N, sc, k, c, fr, hq, s, h => by
    unfold chkS at h; split at h
    · simp only [Bool.and_eq_true] at h
      exact cS (ds_expr (sE e c _ h.1) h.2) rfl
    · cases h
  | .ret e, X, N, sc, k, c, fr, hq, s, h => by
    unfold chkS at h; split at h
    · exact cS (ds_ret (sE e c _ h)) rfl
    · cases h
  | .retN, X, N, sc, k, c, fr, hq, s, h => by
    unfold chkS at h; split at h
    · exact ds_retN
    · cases h
  | .set i e, X, N, sc, k, c, fr, hq, s, h => by
    unfold chkS at h; split at h
    · rename_i x p v pos
      simp only [Bool.and_eq_true, decide_eq_true_eq, List.contains_iff_mem] at h
      obtain ⟨⟨⟨h1, h2⟩, h3⟩, h4⟩ := h
      obtain ⟨l1, l2⟩ := c.st _ h2
      cases hw : swB v x p sc with
      | false => exact cS (ds_set c.hNd (by rw [c.hN]; exact h1) l1 l2 (sE e c _ h3) (sw_false h4 (by rw [c.hsc]; exact hw) (by rw [c.hsc]; exact c.fun_))) rfl
      | true => exact cS (ds_setLc c (by rw [c.hN]; exact h1) h3 hw) rfl
    · cases h
  | .unp t e, X, N, sc, k, c, fr, hq, s, h => by
    unfold chkS at h; split at h
    · simp only [Bool.and_eq_true] at h
      obtain ⟨⟨⟨h1, h2⟩, h3⟩, h4⟩ := h
      exact cS (ds_unp (sG c.tok t _ h1) (sE e c _ h2) (by unfold swapsWithSole; exact swaps_no h4) (by rename_i v _; cases v <;> first | rfl | cases h3) rfl) rfl
    · cases h
  | .par i j e1 e2, X, N, sc, k, c, fr, hq, s, h => by
    unfold chkS at h; split at h
    · simp only [Bool.and_eq_true, decide_eq_true_eq] at h
      obtain ⟨⟨⟨⟨h1, h2⟩, h3⟩, h4⟩, h5⟩ := h
      exact cS (ds_par c.calm c.hNd (by rw [c.hN]; exact h1) (by rw [c.hN]; exact h2) h3 c.hsc c.fun_ (sE e1 c _ h4) (sE e2 c _ h5)) rfl
    · cases h
  | .put o i e, X, N, sc, k, c, fr, hq, s, h => by
    unfold chkS at h; split at h
    · simp only [Bool.and_eq_true] at h
      obtain ⟨⟨⟨⟨h1, h2⟩, h3⟩, h4⟩, h5⟩ := h
      exact cS (ds_put (c.room.mono (Nat.zero_le _)) (sE o c _ h1) (sE i c _ h2) (sE e c _ h3) h4 h5) rfl
    · cases h
  | .aug o i e, X, N, sc, k, c, fr, hq, s, h => by
    unfold chkS at h; split at h
    · simp only [Bool.and_eq_true] at h
      obtain ⟨⟨⟨h1, h2⟩, h3⟩, h4⟩ := h
      exact cS (ds_aug (c.room.mono (Nat.zero_le _)) (sE o c _ h1) (sE i c _ h2) (sE e c _ h3) h4) rfl
    · cases h
  | .ite d a b, X, N, sc, k, c, fr, hq, s, h => by
    unfold chkS at h; split at h
    · simp only [Bool.and_eq_true] at h
      exact cS (ds_if (sT d c _ h.1.1) (sSs a c fr (orL (by unfold nr at hq; exact hq)) _ h.1.2) (sSs b c fr (orR (by unfold nr at hq; exact hq)) _ h.2)) rfl
    · cases h
  | .for_ g it body, X, N, sc, k, c, fr, hq, s, h => by
    unfold chkS at h; split at h
    · simp only [Bool.and_eq_true] at h
      obtain ⟨⟨⟨h1, h2⟩, h3⟩, h4⟩ := h
      exact cS (ds_for c.pass c.calm (sI it c _ _ h2) (sG c.tok g _ h1) (sSs body c fr (by unfold nr at hq; exact hq) _ h3) h4) rfl
    · cases h
  | .while_ d body, X, N, sc, k, c, fr, hq, s, h => by
    unfold chkS at h; split at h
    · simp only [Bool.and_eq_true] at h
      exact cS (ds_while c.pass (sT d c _ h.1) (sSs body c fr (by unfold nr at hq; exact hq) _ h.2)) rfl
    · cases h
  | .setAct i j, X, N, sc, k, c, fr, hq, s, h => by
    unfold chkS at h; split at h
    · rename_i y p x p1 p2 pos
      simp only [Bool.and_eq_true, decide_eq_true_eq, List.contains_iff_mem] at h
      obtain ⟨⟨⟨⟨⟨h1, h2⟩, h3⟩, h4⟩, h5⟩, h6⟩ := h
      obtain ⟨l1, l2⟩ := c.st _ h2
      exact cS (ds_set c.hNd (by rw [c.hN]; exact h1) l1 l2 (fr.act h6 X.pn X.xe j x p1 p2 (by rw [c.hN]; exact h3) (c.vis h4) h5) (sw_false rfl rfl (by rw [c.hsc]; exact c.fun_))) rfl
    · cases h
  | .raise d, X, N, sc, k, c, fr, hq, s, h => by
    unfold chkS at h; split at h
    · simp only [Bool.and_eq_true, decide_eq_true_eq, List.contains_iff_mem] at h
      obtain ⟨⟨⟨⟨rfl, h1⟩, h2⟩, h3⟩, h4⟩ := h
      exact cS (ds_raise c h1 h2 (c.gl h3) h4) rfl
    · cases h
  | .raiseA d fs es, X, N, sc, k, c, fr, hq, s, h => by
    unfold chkS at h; split at h
    · simp only [Bool.and_eq_true, decide_eq_true_eq, List.contains_iff_mem, Bool.not_eq_true'] at h
      obtain ⟨⟨⟨⟨⟨⟨⟨rfl, h1⟩, h2⟩, h3⟩, h4⟩, h5⟩, h6⟩, h7⟩ := h
      subst h5
      obtain ⟨l1, l2⟩ := chkEs_star h7
      rw [List.all_cons, Bool.and_eq_true] at l1
      exact cS (ds_raiseA c h1 h2 (c.gl h3) h4 h6 (sEs es c _ h7) (star_cons l1.1) (star_plain l1.2)) rfl
    · cases h
  | .try_ ks cs body hk, X, N, sc, k, c, fr, hq, s, h => by
    unfold chkS at h; split at h
    · simp only [Bool.and_eq_true, Bool.or_eq_true] at h
      obtain ⟨⟨h1, h2, hn⟩, h3⟩ := h
      rcases h3 with ⟨h3, h4⟩ | h3
      · exact ds_try0 c fr h1 (fun pn xe hp => sSs body (c.tr pn hp) (fr.tr pn xe) (.inl hn) _ h2) h3 h4
      · exact ds_tryRz c fr h1 ((orL (show (!rzK hk && nrs body) = true ∨ PAt X from by unfold nr at hq; exact hq)).imp (fun h => by simpa using h) id) (fun pn xe hp => sSs body (c.tr pn hp) (fr.tr pn xe) (.inl hn) _ h2) h3
    · simp only [Bool.and_eq_true] at h
      obtain ⟨⟨h1, h2, hn⟩, h3⟩ := h
      exact ds_tryN c fr h1 (fun pn xe hp => sSs body (c.tr pn hp) (fr.tr pn xe) (.inl hn) _ h2) h3
    · cases h
  | .never, X, N, sc, k, c, fr, hq, s, h => ds_never
termination_by structural x => x
theorem sSs : ∀ (ir : List IS) {X : Cx} {N : List Str} {sc : Scope} {k : Nat}, Cok tb G X N sc (stOf sc) k → Frm tb G X → (nrs ir = true ∨ PAt X) → ∀ (s : List Stmt), chkSs tb ir N sc s = true → DSs X s (evSs G ir)
  | [], X, N, sc, k, c, fr, hq, s, h => by
    unfold chkSs at h; split at h
    · exact dss_nil
    · cases h
  | a :: as, X, N, sc, k, c, fr, hq, s, h => by
    unfold chkSs at h; split at h
    · simp only [Bool.and_eq_true] at h
      exact cSs (dss_cons (sS a c fr (orL (by unfold nrs at hq; exact hq)) _ h.1) (sSs as c fr (orR (by unfold nrs at hq; exact hq)) _ h.2)) rfl
    · cases h
termination_by structural x => x
end
end DL

set_option linter.all false
set_option maxRecDepth 100000
set_option maxHeartbeats 8000000
namespace DL
open PySem PySem.Spec L2
/-! ### what is handed back may be frozen -/
mutual
inductive Fz (T T0 : DH) : D → D → Prop where
  | same (d : D) : Fz T T0 d d
  | ref {a : Addr} {ds es : List D} : T a = some (.lst ds) → T0 a = none → Fzs T T0 ds es → Fz T T0 (.ref a) (.lst es)
  | tup {ds es : List D} : Fzs T T0 ds es → Fz T T0 (.tup ds) (.tup es)
  | lst {ds es : List D} : Fzs T T0 ds es → Fz T T0 (.lst ds) (.lst es)
inductive Fzs (T T0 : DH) : List D → List D → Prop where
  | nil : Fzs T T0 [] []
  | cons {d e : D} {ds es : List D} : Fz T T0 d e → Fzs T T0 ds es → Fzs T T0 (d :: ds) (e :: es)
end
section
variable {K : KZ} {T T0 : DH} {H : Hp}
mutual
theorem Fz.ok (s : Sub T0 T) (rh : RelH K T H) : ∀ {d e : D} {v : V}, Fz T T0 d e → RelD K T H d v → RelD K T0 H e v
  | _, _, _, .same d, r => r.fr s.fr
  | _, _, _, @Fz.ref _ _ a ds es h1 h2 h3, r => by
    obtain ⟨vs, h4, h5⟩ := rh.ob a _ h1
    exact ⟨a, vs, r, h4, ⟨h2, fun z => by rw [(rh.hid a z).2] at h1; cases h1⟩, Fzs.ok s rh h3 h5⟩
  | _, _, _, .tup h3, r => by
    obtain ⟨a, vs, e, h1, h2, h4⟩ := r
    exact ⟨a, vs, e, h1, ⟨s.noneOf h2.1, h2.2⟩, Fzs.ok s rh h3 h4⟩
  | _, _, _, .lst h3, r => by
    obtain ⟨a, vs, e, h1, h2, h4⟩ := r
    exact ⟨a, vs, e, h1, ⟨s.noneOf h2.1, h2.2⟩, Fzs.ok s rh h3 h4⟩
theorem Fzs.ok (s : Sub T0 T) (rh : RelH K T H) : ∀ {d e : List D} {v : List V}, Fzs T T0 d e → RelDs K T H d v → RelDs K T0 H e v
  | _, _, _, .nil, r => r
  | _, _, _, .cons h1 h2, r => by
    obtain ⟨v, r', e, h3, h4⟩ := r
    exact ⟨v, r', e, Fz.ok s rh h1 h3, Fzs.ok s rh h2 h4⟩
end
end
/-- a def's end: less may be told -/
def RetD (Q : DQ) : DQ := fun d' T' => ∃ d T0, Sub T0 T' ∧ Fz T' T0 d' d ∧ Q d T0
theorem RetD.of {Q : DQ} {d : D} {T T0 : DH} (s : Sub T0 T) (h : Q d T0) : RetD Q d T := ⟨d, T0, s, .same d, h⟩
theorem RetD.now {Q : DQ} {d : D} {T : DH} (h : Q d T) : RetD Q d T := ⟨d, T, .refl, .same d, h⟩
def endsD (Q : DQ) (E : EQ) : DEnds := ⟨fun _ T' => RetD Q .non T', RetD Q, fun x _ T' => E x T'⟩
def startD (N : List Str) (ds : List D) : DEnv := ds.map some ++ List.replicate (N.length - ds.length) none
theorem start_rel {K : KZ} {T : DH} {H : Hp} {N : List Str} {ds : List D} {vs : List V} (r : RelDs K T H ds vs) : RelEnv K T H (startD N ds) (L2.start N vs) := by
  have hl := r.length
  refine ⟨by simp [startD, L2.start, hl], fun i d e => ?_⟩
  unfold startD at e
  unfold L2.start
  by_cases hi : i < ds.length
  · rw [List.getElem?_append_left (by simpa using hi)] at e
    rw [List.getElem?_append_left (by simpa [hl] using hi)]
    rw [List.getElem?_map] at e ⊢
    cases e2 : ds[i]? with
    | none => rw [e2] at e; cases e
    | some d' =>
      rw [e2] at e
      cases e
      obtain ⟨v, h1, h2⟩ := r.get e2
      exact ⟨v, by rw [h1]; rfl, h2⟩
  · rw [List.getElem?_append_right (by simpa using hi)] at e
    rw [List.getElem?_replicate] at e
    split at e <;> cases e
/-- a def as it stands, defaults or none -/
structure FunQ (K : PySem.W.Frag) (x qual : Str) (st : Stmt) (f : Addr) (fd : FuncData) : Prop where
  ex : ∃ (oc : Value) (od : Option Addr) (dV kV doc pm : Value) (an : Option Addr) (cdv ct : Value) (osl : Array (Option Value)),
    fd = PySem.W.fnOf x qual (defArgs st) (defBody st) (defScope st) dV kV doc pm an cdv ct ∧ K.lookup f = some ⟨oc, od, .func fd, osl⟩ ∧ PySem.W.codeIn K cdv qual = true
  kp : PySem.W.keepIn K (.ref f) = true
theorem Fun.q {K : PySem.W.Frag} {x qual : Str} {st : Stmt} {f : Addr} {fd : FuncData} (F : Fun K x qual st f fd) : FunQ K x qual st f fd := by
  obtain ⟨oc, od, kV, doc, pm, an, cdv, ct, osl, h⟩ := F.ex
  exact ⟨⟨oc, od, _, kV, doc, pm, an, cdv, ct, osl, h⟩, F.kp⟩
theorem funq_mk {K : PySem.W.Frag} {x qual : Str} {st : Stmt} {f : Addr} {oc : Value} {od an : Option Addr} {osl : Array (Option Value)} {dV kV doc pm cdv ct : Value} (l : K.lookup f = some ⟨oc, od, .func (PySem.W.fnOf x qual (defArgs st) (defBody st) (defScope st) dV kV doc pm an cdv ct), osl⟩)
    (c : PySem.W.codeIn K cdv qual = true) (k : PySem.W.keepIn K (.ref f) = true) : FunQ K x qual st f (PySem.W.fnOf x qual (defArgs st) (defBody st) (defScope st) dV kV doc pm an cdv ct) := ⟨⟨oc, od, dV, kV, doc, pm, an, cdv, ct, osl, rfl, l, c⟩, k⟩
def arrB (m : Nat) (arr : List (Nat ⊕ Int)) : Bool := arr.all fun a => match a with
  | .inl i => decide (i < m)
  | .inr _ => true
theorem arrB_of {m : Nat} {arr : List (Nat ⊕ Int)} (h : arrB m arr = true) : ∀ a ∈ arr, ∀ i, a = .inl i → i < m := by
  intro a ha i e
  subst e
  have := List.all_eq_true.mp h _ ha
  exact of_decide_eq_true this
/-- calls that bind without defaults -/
theorem cf_of {K : PySem.W.Frag} {fd : FuncData} {ps : List Str} {n : Nat} {ks : List Str} {arr : List (Nat ⊕ Int)} (hl : arr.length = ps.length) (hb : arrB (n + ks.length) arr = true) (tk : PySem.Tok)
    (h : ∀ us ws : List Value, us.length = n → ws.length = ks.length → bindArgs fd ⟨us, ks.zip ws⟩ = pure (ps.zip (arrV arr (fun k => .int k tk) (us ++ ws)))) : CfOk K fd ps n ks arr :=
  ⟨hl, arrB_of hb, fun k => .int k tk, fun k => ⟨tk, rfl⟩, fun s us ws _ h1 h2 => .of_eq (h us ws h1 h2)⟩
theorem cf_none {i : Nat} {P : Nat → List Str → List (Nat ⊕ Int) → Prop} {cf : List CForm} (h : cf.all (fun c => decide (c.1 ≠ i)) = true) : ∀ n ks arr, (i, n, ks, arr) ∈ cf → P n ks arr := fun n ks arr hm =>
  absurd rfl (of_decide_eq_true (List.all_eq_true.mp h _ hm))
/-- the token of a number among some values -/
def pickT : List Value → Int → Value → Value
  | [], _, v => v
  | .int i t :: r, k, v => if i = k then .int i t else pickT r k v
  | _ :: r, k, v => pickT r k v
theorem pickT_rel {k : Int} {v : Value} (hv : RelV (.int k) v) : ∀ (l : List Value), RelV (.int k) (pickT l k v)
  | [] => hv
  | x :: r => by
    unfold pickT
    split
    · exact hv
    · rename_i h
      cases h
      split
      · rename_i e; subst e; exact ⟨_, rfl⟩
      · exact pickT_rel hv _
    · rename_i h
      cases h
      exact pickT_rel hv _
/-- calls that look up the defaults -/
theorem cf_dfl {K : PySem.W.Frag} {fd : FuncData} {ps : List Str} {n : Nat} {ks : List Str} {arr : List (Nat ⊕ Int)} {A : Addr} {o : Obj} {its : List Value} {m : Nat} (hl : arr.length = ps.length) (hb : arrB (n + ks.length) arr = true) (tk : PySem.Tok)
    (lT : K.lookup A = some o) (oT : o.data = .seq its.toArray m)
    (h : ∀ us ws : List Value, us.length = n → ws.length = ks.length → ∃ k, bindArgs fd ⟨us, ks.zip ws⟩ = seqItems? (.ref A) >>= k ∧ k (some its.toArray) = pure (ps.zip (arrV arr (fun k => pickT its k (.int k tk)) (us ++ ws)))) : CfOk K fd ps n ks arr :=
  ⟨hl, arrB_of hb, fun k => pickT its k (.int k tk), fun k => pickT_rel ⟨tk, rfl⟩ _, fun s us ws X h1 h2 => by
    obtain ⟨k, e1, e2⟩ := h us ws h1 h2
    refine BindsTo.of_looks fun M => ?_
    rw [e1]
    exact looks_items X lT oT (.of_pure e2)⟩
theorem binds_dfl {K : PySem.W.Frag} {fd : FuncData} {ps : List Str} {A : Addr} {o : Obj} {its : List Value} {m : Nat} (lT : K.lookup A = some o) (oT : o.data = .seq its.toArray m)
    (h : ∀ us : List Value, us.length = ps.length → ∃ k, bindArgs fd ⟨us, []⟩ = seqItems? (.ref A) >>= k ∧ k (some its.toArray) = pure (ps.zip us)) : Binds K fd ps [] := fun s us X hl => by
  rw [List.append_nil] at hl ⊢
  obtain ⟨k, e1, e2⟩ := h us hl
  refine BindsTo.of_looks fun M => ?_
  rw [e1]
  exact looks_items X lT oT (.of_pure e2)
/-- the checker of one def: whether it makes lambdas, whether it is handed one -/
def tbV (tb : Tab) (mk ac : Bool) : Tab := { tb with mkr := mk, act := ac }
/-- a maker's table of code objects -/
def MkTab (K : PySem.W.Frag) (x : Str) (fd : FuncData) : Prop := x ∈ lamNames ∧ ∃ c P, PySem.W.tabIn K x = some (c, P) ∧ fd.code = .ref c ∧ ∀ y ∈ lamNames, ∀ c2, PySem.W.tabIn K y = some (c2, P) → y = x
/-- what the text says of a def -/
structure DefOk (tb : Tab) (K : PySem.W.Frag) (mg : Str → Option Value) (G : Nat → Nat → DSp) (f : Nat) (x : Str) (ps : List Str) : Prop where
  ex : ∃ (fa : Addr) (fd : FuncData) (st : Stmt) (N : List Str) (ir : List IS) (mk : Bool), mg x = some (.ref fa) ∧ FunQ K x x st fa fd ∧ Binds K fd ps [] ∧ (∀ n ks arr, (f, n, ks, arr) ∈ tb.cf → CfOk K fd ps n ks arr) ∧ FnScope N ps (defScope st) ∧
    chkSs (tbV tb mk (tb.clo.contains f)) ir N (defScope st) (defBody st) = true ∧ (mk = true → MkTab K x fd) ∧
    (tb.clo.contains f = false → ∀ n ds T Q E, ds.length = ps.length → G (n + 1) f ds T Q E → evSs (G n) ir (endsD Q E) (startD N ds) T) ∧
    (tb.clo.contains f = true → ∀ n ds T Q E, ds.length = ps.length → G (n + 1) f ds T Q E → ∃ p, ds = [.ref p] ∧ evSs (withAct (G n) p) ir (endsD Q E) (startD N ds) T)
/-- .. of a lambda -/
structure LamOk (tb : Tab) (G : Nat → Nat → DSp) (kk : Nat) (N : List Str) (vs : List Nat) (ck : Scope → Expr → Bool) : Prop where
  ex : ∃ e : IE, N.Nodup ∧ (∀ scope body, ck scope body = true → chkE (tbV tb false false) e N scope body = true) ∧ ∀ n ds T Q E, G (n + 1) (lamIx kk) ds T Q E → evE (G n) e (capEnv N.length vs ds) T Q E
structure Below (P : Program) (w : World) (K : PySem.W.Frag) (mg : Str → Option Value) (base : Heap) (tb : Tab) (G : Nat → DSp) (n : Nat) : Prop where
  fn : ∀ (f : Nat) x ps, tb.ft[f]? = some (x, ps) → tb.clo.contains f = false → ∃ fa fd, mg x = some (.ref fa) ∧ PySem.W.keepIn K (.ref fa) = true ∧ Binds K fd ps [] ∧ FnG P w K mg base n fa fd ps (lSp K mg ps.length (G f)) ∧ ∀ n ks arr, (f, n, ks, arr) ∈ tb.cf → CfOk K fd ps n ks arr
  fc : ∀ (f : Nat) x ps, tb.ft[f]? = some (x, ps) → tb.clo.contains f = true → ∃ fa fd, mg x = some (.ref fa) ∧ PySem.W.keepIn K (.ref fa) = true ∧ Binds K fd ps [] ∧ FnC tb.lam P w K mg base n fa fd ps (lSp K mg ps.length (G f))
  lam : ∀ (kk : Nat) N vs ck, tb.lam[kk]? = some (N, vs, ck) → LamPr P w K mg base n N vs ck (G (lamIx kk))
structure Consts (K : PySem.W.Frag) (mg : Str → Option Value) (tb : Tab) : Prop where
  bl : ∀ b ∈ tb.bl, mg b = none
  ex : tb.ex ≠ [] → ∃ P, ExAll K mg tb.ex P
  gi : ∀ x n, tb.gi.lookup x = some n → ∃ t, mg x = some (.int n t)
  gs : ∀ x s, tb.gs.lookup x = some s → ∃ t, mg x = some (.str s t)
  few : tb.ft.length ≤ 1000
def TabBs (K : PySem.W.Frag) (mg : Str → Option Value) (base : Heap) : Prop := ∀ x ∈ lamNames, ∀ c P, PySem.W.tabIn K x = some (c, P) → LamX.TabB base mg c P
theorem withAct_ne {G : Nat → DSp} {p : Addr} {f : Nat} (h : f ≠ actIx) : withAct G p f = G f := by unfold withAct; rw [if_neg h]
theorem tbV_lam {tb : Tab} {mk ac : Bool} : (tbV tb mk ac).lam = tb.lam := rfl
/-- the context of a def's body -/
theorem cok_def {P : Program} {w : World} {K : PySem.W.Frag} {mg : Str → Option Value} {base : Heap} {tb : Tab} {G G' : Nat → DSp} {n : Nat} {fa : Addr} {x : Str} {st : Stmt} {N ps : List Str} {mk ac : Bool} {an : Option Addr} {dV kV doc pm cdv ct : Value} {A : Around} {outer : List Env} {s : Shared} {H : Hp} {E : XK}
    (C : Consts K mg tb) (hn : 2 ≤ n) (ih : Below P w K mg base tb G n) (S : FnScope N ps (defScope st)) (hmk : mk = true → MkTab K x (PySem.W.fnOf x x (defArgs st) (defBody st) (defScope st) dV kV doc pm an cdv ct)) (TB : TabBs K mg base) (hG : ∀ f, f < 1000 → G' f = G f) (room : Room (n + 1) A) (grd : A.guards = some []) :
    Cok (tbV tb mk ac) G' (cxOf (CXD K P w) P w K mg base N x (defScope st) fa cdv A outer s H E) N (defScope st) (stOf (defScope st)) n := by
  have lt : ∀ (f : Nat) y, tb.ft[f]? = some y → f < 1000 := fun f y h => Nat.lt_of_lt_of_le (List.getElem?_eq_some_iff.mp h).1 C.few
  refine ⟨rfl, rfl, S.nd, rfl, S.kind, fun y hy => ⟨stOf_mem hy, .inl rfl⟩, passes_of rfl, room.deeper _, hn, grd, C.bl, C.ex, C.gi, C.gs, fun h => ?_, fun f y ps' e h => ?_, fun f y ps' e h => ?_⟩
  · obtain ⟨h1, c, P0, h2, h3, h4⟩ := hmk h
    exact ⟨x, h1, c, P0, h2, h3, rfl, TB x h1 c P0 h2, h4⟩
  · rw [hG f (lt f _ e)]
    exact ih.fc f y ps' e h
  · rw [hG f (lt f _ e)]
    exact ih.fn f y ps' e h
theorem fn_core {P : Program} {w : World} {K : PySem.W.Frag} {mg : Str → Option Value} {base : Heap} {tb' : Tab} {G' : Nat → DSp} {n : Nat} {fa : Addr} {x : Str} {st : Stmt} {N ps : List Str} {ir : List IS} {oc : Value} {od an : Option Addr} {osl : Array (Option Value)} {dV kV doc pm cdv ct : Value} {A : Around} {outer : List Env} {s : Shared} {H : Hp} {args : Args} {us : List Value} {vs : List V} {Q : VK} {E : XK} {Z : Addr → Prop} {ds : List D} {T : DH} {Qd : DQ} {Ed : EQ}
    (lk : K.lookup fa = some ⟨oc, od, .func (PySem.W.fnOf x x (defArgs st) (defBody st) (defScope st) dV kV doc pm an cdv ct), osl⟩) (hcd : PySem.W.codeIn K cdv x = true) (S : FnScope N ps (defScope st)) (ck : chkSs tb' ir N (defScope st) (defBody st) = true)
    (c : Cok tb' G' (cxOf (CXD K P w) P w K mg base N x (defScope st) fa cdv A outer s H E) N (defScope st) (stOf (defScope st)) n) (fr : Frm tb' G' (cxOf (CXD K P w) P w K mg base N x (defScope st) fa cdv A outer s H E))
    (room : Room (n + 1) A) (e0 : Env0 P w K mg base A outer s H) (bnd : BindsTo s (PySem.W.fnOf x x (defArgs st) (defBody st) (defScope st) dV kV doc pm an cdv ct) args (ps.zip us)) (rv : Vals vs us) (e : ds.length = ps.length) (r : RelDs ((K, mg), Z) T H ds vs) (rh : RelH ((K, mg), Z) T H)
    (ob : evSs G' ir (endsD Qd Ed) (startD N ds) T) (hq : ∀ d T' v H', Qd d T' → Fr T H T' H' → RelD ((K, mg), Z) T' H' d v → RelH ((K, mg), Z) T' H' → Q v H') (hx : ∀ x T' cls dd H', Ed x T' → Fr T H T' H' → RelH ((K, mg), Z) T' H' → RelX ((K, mg), Z) mg T' H' x cls dd → E cls dd H') :
    codeAny (model P w) A (.call (.ref fa) args) (CR (CXD K P w) outer P w H s Q E) s := by
  have el : vs.length = ps.length := by rw [r.length, e]
  have there : ∀ b o, base.get? b = some o → s.heap.get? b = some o := fun b o e => (e0.bs b o e).1
  have kin := e0.mod.kin.keeps there
  refine codeAny_call_function room.depth (kin _ _ lk) rfl S.co S.gen rfl (PySem.W.codeRec_of kin hcd) (bnd _ _ _ _ ?_)
  refine wpAny_newFunctionEnv_cells S.kind (fun p hp => ?_) fun env he s1 x1 => ?_
  · rcases S.par p.1 (List.of_mem_zip hp).1 with q | q
    · exact Or.inl q
    · exact Or.inr ⟨q, PySem.W.cellsFrom_some _ _ _ (Or.inl q)⟩
  subst he
  refine ⟨(e0.mod.nolimit.keeps there).keeps x1.toInCall.keep, codeAny_func ?_⟩
  have room1 := room.deeper (PyProof.Rows.envOfC x (defScope st) s.heap.objs.size fa cdv)
  have q := sSs ir c fr (.inr fun hd => L2H.passesAt_of rfl hd) _ ck (fun cls d _ H => E cls d H) (takes_ofD rfl rfl rfl rfl)
  have start : Inv (cxOf (CXD K P w) P w K mg base N x (defScope st) fa cdv A outer s H E) [] (L2.start N vs) H s1 := inv_start S room.hd e0 el rv x1
  have body := q.run [] s1 (L2.start N vs) H { nx := fun _ H' => Q .non H', rt := Q } start
    ⟨Z, startD N ds, T, endsD Qd Ed, start_rel r, rh, ob, ⟨fun de' T' σ' H' ⟨d, T0, s0, fz, hQ⟩ f re rh' => hq d T0 _ H' hQ (f.trans s0.fr) (Fz.ok s0 rh' fz (show RelD ((K, mg), Z) T' H' .non .non from rfl)) (rh'.sub s0),
      fun d' T' v H' ⟨d, T0, s0, fz, hQ⟩ f rd rh' => hq d T0 v H' hQ (f.trans s0.fr) (Fz.ok s0 rh' fz rd) (rh'.sub s0), fun x de' T' σ' cls dd H' ex f re rh' rx => hx x T' cls dd H' ex f rh' rx⟩⟩
  refine wpAny_mono body (fun fl s2 h2 => ?_) fun _ _ h2 => h2
  match fl, h2 with
  | .next, h2 =>
    obtain ⟨σ2, H2, J, q2⟩ := h2
    exact ⟨.non, H2, J.os, J.bare, J.base, J.hok, rfl, q2⟩
  | .ret u, h2 =>
    obtain ⟨v, σ2, H2, J, ru, q2⟩ := h2
    exact ⟨v, H2, J.os, J.bare, J.base, J.hok, ru, q2⟩
  | .brk, h2 =>
    obtain ⟨_, _, _, q2⟩ := h2
    exact q2.elim
  | .cont, h2 =>
    obtain ⟨_, _, _, q2⟩ := h2
    exact q2.elim
theorem fn_step {P : Program} {w : World} {K : PySem.W.Frag} {mg : Str → Option Value} {base : Heap} {tb : Tab} {G : Nat → DSp} {g : DSp} {n : Nat} {fa : Addr} {fd : FuncData} {x : Str} {st : Stmt} {N ps : List Str} {ir : List IS} {mk : Bool}
    (C : Consts K mg tb) (hn : 2 ≤ n) (ih : Below P w K mg base tb G n) (TB : TabBs K mg base) (h2 : FunQ K x x st fa fd) (S : FnScope N ps (defScope st)) (hmk : mk = true → MkTab K x fd) (ck : chkSs (tbV tb mk false) ir N (defScope st) (defBody st) = true)
    (ob : ∀ ds T Q E, ds.length = ps.length → g ds T Q E → evSs G ir (endsD Q E) (startD N ds) T) : FnG P w K mg base (n + 1) fa fd ps (lSp K mg ps.length g) := by
  obtain ⟨oc, od, dV, kV, doc, pm, an, cdv, ct, osl, rfl, lk, hcd⟩ := h2.ex
  refine ⟨fun vs H Q E z => ?_, fun A outer s H args us vs Q E room grd e0 bnd rv z => ?_⟩
  · obtain ⟨Z, ds, T, Qd, E, e, r, _⟩ := z
    rw [r.length, e]
  obtain ⟨Z, ds, T, Qd, Ed, e, r, rh, gg, hq, hx⟩ := z
  exact fn_core lk hcd S ck (cok_def (G' := G) (ac := false) C hn ih S hmk TB (fun _ _ => rfl) room grd) ⟨rfl, rfl, rfl, fun h => nomatch h⟩ room e0 bnd rv e r rh (ob ds T Qd Ed e gg) hq hx
theorem fc_step {P : Program} {w : World} {K : PySem.W.Frag} {mg : Str → Option Value} {base : Heap} {tb : Tab} {G : Nat → DSp} {g : DSp} {n : Nat} {fa : Addr} {fd : FuncData} {x : Str} {st : Stmt} {N ps : List Str} {ir : List IS} {mk : Bool}
    (C : Consts K mg tb) (hn : 2 ≤ n) (ih : Below P w K mg base tb G n) (TB : TabBs K mg base) (h2 : FunQ K x x st fa fd) (S : FnScope N ps (defScope st)) (hmk : mk = true → MkTab K x fd) (ck : chkSs (tbV tb mk true) ir N (defScope st) (defBody st) = true)
    (ob : ∀ ds T Q E, ds.length = ps.length → g ds T Q E → ∃ p, ds = [.ref p] ∧ evSs (withAct G p) ir (endsD Q E) (startD N ds) T) : FnC tb.lam P w K mg base (n + 1) fa fd ps (lSp K mg ps.length g) := by
  obtain ⟨oc, od, dV, kV, doc, pm, an, cdv, ct, osl, rfl, lk, hcd⟩ := h2.ex
  refine ⟨fun A outer s H args us vs Q E room grd e0 bnd rv z ca => ?_⟩
  obtain ⟨Z, ds, T, Qd, Ed, e, r, rh, gg, hq, hx⟩ := z
  obtain ⟨p, rfl, hob⟩ := ob ds T Qd Ed e gg
  have ev : vs = [.ref p] := by
    obtain ⟨v, r', e1, e2, e3⟩ := r
    obtain rfl : v = .ref p := e2
    have e3 : r' = [] := e3
    rw [e1, e3]
  have CA := ca p ev
  exact fn_core lk hcd S ck (cok_def (G' := withAct G p) (ac := true) C hn ih S hmk TB (fun f hf => withAct_ne (by unfold actIx; omega)) room grd)
    ⟨rfl, rfl, rfl, fun _ pn xe j y p1 p2 hN hv hp => act_pe (Y := (cxOf (CXD K P w) P w K mg base N x (defScope st) fa cdv A outer s H E).tr pn xe) (m := n) CA rfl rfl ih.lam (room.deeper _) grd hN hv hp⟩ room e0 bnd rv e r rh hob hq hx
theorem lam_step {P : Program} {w : World} {K : PySem.W.Frag} {mg : Str → Option Value} {base : Heap} {tb : Tab} {G : Nat → DSp} {g : DSp} {n : Nat} {N : List Str} {vs : List Nat} {ck : Scope → Expr → Bool} {e : IE}
    (C : Consts K mg tb) (hn : 2 ≤ n) (ih : Below P w K mg base tb G n) (nd : N.Nodup) (hck : ∀ scope body, ck scope body = true → chkE (tbV tb false false) e N scope body = true) (ob : ∀ ds T Q E, g ds T Q E → evE G e (capEnv N.length vs ds) T Q E) :
    LamPr P w K mg base (n + 1) N vs ck g := by
  refine ⟨fun X A outer s H E scope body f c' e1 e2 e3 e4 e5 e6 hb hk room grd => ?_⟩
  obtain ⟨xprog, xw, xK, xmg, xbase, xA, xN, xs0, xH0, xenv, xouter, xstack, xex, xfn, xcalm, xpn, xxe⟩ := X
  dsimp only at e1 e2 e3 e4 e5 e6
  subst e1 e2 e3 e4 e5 e6
  have c : Cok (tbV tb false false) G (lamD ⟨xprog, xw, xK, xmg, xbase, xA, xN, xs0, xH0, xenv, xouter, xstack, xex, xfn, xcalm, xpn, xxe⟩ A outer s H E scope f c') xN scope [] n :=
    ⟨rfl, rfl, nd, rfl, hk, fun y hy => (nomatch hy), passes_of rfl, room.deeper _, hn, grd, C.bl, C.ex, C.gi, C.gs, fun h => (nomatch h), ih.fc, ih.fn⟩
  refine PE_wk (sE e c body (hck _ _ hb) (fun cls d _ H => E cls d H) (takes_ofD rfl rfl rfl rfl)) fun σ H' Q ⟨Z, de, T, Qd, Ed, re, rh, ⟨ds, ed, hg⟩, hq, hx⟩ => ?_
  subst ed
  exact ⟨Z, _, T, Qd, Ed, re, rh, ob ds T Qd Ed hg, hq, hx⟩
theorem fns_ok {P : Program} {w : World} {K : PySem.W.Frag} {mg : Str → Option Value} {base : Heap} {tb : Tab} {G : Nat → Nat → DSp} (C : Consts K mg tb) (TB : TabBs K mg base)
    (F : ∀ f x ps, tb.ft[f]? = some (x, ps) → DefOk tb K mg G f x ps) (L : ∀ kk N vs ck, tb.lam[kk]? = some (N, vs, ck) → LamOk tb G kk N vs ck) (G0 : ∀ f ds T Q E, ¬ G 0 f ds T Q E) : ∀ (n : Nat), Below P w K mg base tb (G n) (n + 2) := by
  intro n
  induction n with
  | zero =>
    refine ⟨fun f x ps h hc => ?_, fun f x ps h hc => ?_, fun kk N vs ck h => ⟨fun X A outer s H E scope body f c' _ _ _ _ _ _ _ _ _ _ => ⟨fun pins s σ H Q I q => ?_⟩⟩⟩
    · obtain ⟨fa, fd, st, N, ir, mk, h1, h2, h3, h4, _⟩ := (F f x ps h).ex
      refine ⟨fa, fd, h1, h2.kp, h3, ⟨fun vs H Q E z => ?_, fun A outer s H args us vs Q E _ _ _ _ _ z => ?_⟩, h4⟩
      · obtain ⟨Z, ds, T, Qd, E, _, _, _, g, _⟩ := z
        exact absurd g (G0 _ _ _ _ _)
      · obtain ⟨Z, ds, T, Qd, E, _, _, _, g, _⟩ := z
        exact absurd g (G0 _ _ _ _ _)
    · obtain ⟨fa, fd, st, N, ir, mk, h1, h2, h3, h4, _⟩ := (F f x ps h).ex
      refine ⟨fa, fd, h1, h2.kp, h3, ⟨fun A outer s H args us vs Q E _ _ _ _ _ z _ => ?_⟩⟩
      obtain ⟨Z, ds, T, Qd, E, _, _, _, g, _⟩ := z
      exact absurd g (G0 _ _ _ _ _)
    · obtain ⟨Z, de, T, Qd, E, _, _, ⟨ds, _, g⟩, _⟩ := q
      exact absurd g (G0 _ _ _ _ _)
  | succ n ih =>
    refine ⟨fun f x ps h hc => ?_, fun f x ps h hc => ?_, fun kk N vs ck h => ?_⟩
    · obtain ⟨fa, fd, st, N, ir, mk, h1, h2, h3, h4, S, ck, hmk, ob, _⟩ := (F f x ps h).ex
      rw [hc] at ck
      exact ⟨fa, fd, h1, h2.kp, h3, fn_step C (Nat.le_add_left 2 n) ih TB h2 S hmk ck (ob hc n), h4⟩
    · obtain ⟨fa, fd, st, N, ir, mk, h1, h2, h3, h4, S, ck, hmk, _, ob⟩ := (F f x ps h).ex
      rw [hc] at ck
      exact ⟨fa, fd, h1, h2.kp, h3, fc_step C (Nat.le_add_left 2 n) ih TB h2 S hmk ck (ob hc n)⟩
    · obtain ⟨e, nd, hck, ob⟩ := (L kk N vs ck h).ex
      exact lam_step C (Nat.le_add_left 2 n) ih nd hck (ob n)
/-- the promise of law(script) -/
def spLaw (K : PySem.W.Frag) : Sp := fun vs H Q _ => ∃ (a : Addr) (ns : List Int), vs = [.ref a] ∧ SqL K H a (ns.map V.int) ∧ ns.length ≤ 63 ∧ (∀ P q, IsTab K P q → H P = some (.tbl #[])) ∧ ∀ H', Q (.bl true) H'
theorem law_imp {P : Program} {w : World} {K : PySem.W.Frag} {mg : Str → Option Value} {base : Heap} {k : Nat} {fa : Addr} {fd : FuncData} {x : Str} {g : DSp} (F : FnG P w K mg base k fa fd [x] (lSp K mg 1 g))
    (h : ∀ (ns : List Int) (Q : DQ) (E : EQ), ns.length ≤ 63 → (∀ T, Q (.bl true) T) → g [.scr ns] (fun _ => none) Q E) : FnG P w K mg base k fa fd [x] (spLaw K) :=
  F.imp fun vs H Q E ⟨a, ns, e, hs, hl, ht, q⟩ => by
    subst e
    refine ⟨fun _ => False, [.scr ns], fun _ => none, fun d _ => d = .bl true, fun _ _ => False, rfl, .one ⟨a, rfl, ?_⟩, ⟨fun _ _ z => (nomatch z), fun _ z => z.elim, fun P0 q0 it => ⟨#[], ht P0 q0 it, ⟨rfl, fun z => z⟩, trivial, fun pos cv hc => ?_⟩⟩, h ns _ _ hl fun _ => rfl, fun d T' v H' e _ rd _ => ?_, fun _ _ _ _ _ z => z.elim⟩
    · rcases hs with hs | hs
      · exact .inl ⟨hs, rfl, fun z => z⟩
      · exact .inr (.inr hs)
    · have z : codeAmong pos [] = some cv := hc
      simp [codeAmong] at z
    · subst e
      rw [show v = .bl true from rd]
      exact q H'
theorem mem_lookupD {α : Type} : ∀ {l : List (Str × α)} {x : Str} {v : α}, l.lookup x = some v → (x, v) ∈ l
  | (k, u) :: r, x, v, h => by
    rw [List.lookup_cons] at h
    cases hb : x == k with
    | true =>
      rw [hb] at h
      have e : x = k := by simpa using hb
      cases h
      rw [e]; exact List.mem_cons_self
    | false => rw [hb] at h; exact List.mem_cons_of_mem _ (mem_lookupD h)
theorem cx_none {K : PySem.W.Frag} {P : Program} {w : World} {o : List Env} {H : Hp} {s : Shared} {e : Value} {s' : Shared} (z : CXD K P w o H s (fun _ _ _ => False) e s') : False := by
  rcases z with ⟨_, _, _, _, _, _, _, _, _, _, _, _, z⟩ | ⟨_, _, _, _, _, _, _, _, _, _, _, _, z⟩
  · exact z.1
  · exact z
theorem law_fin {P : Program} {w : World} {K : PySem.W.Frag} {mg : Str → Option Value} {base : Heap} {tb : Tab} {G : Nat → Nat → DSp} {i n : Nat} {fa : Addr} {fd : FuncData} {y : Str} {st : Stmt} {N : List Str} {x : Str} {ir : List IS} {mk : Bool}
    (C : Consts K mg tb) (TB : TabBs K mg base) (DF : ∀ f x ps, tb.ft[f]? = some (x, ps) → DefOk tb K mg G f x ps) (L : ∀ kk N vs ck, tb.lam[kk]? = some (N, vs, ck) → LamOk tb G kk N vs ck) (G0 : ∀ f ds T Q E, ¬ G 0 f ds T Q E) (F : FunQ K y y st fa fd) (S : FnScope N [x] (defScope st)) (hmk : mk = true → MkTab K y fd) (ck : chkSs (tbV tb mk false) ir N (defScope st) (defBody st) = true)
    (ob : ∀ n ds T Q E, ds.length = [x].length → G (n + 1) i ds T Q E → evSs (G n) ir (endsD Q E) (startD N ds) T)
    (hl : ∀ (ns : List Int) (Q : DQ) (E : EQ), ns.length ≤ 63 → (∀ T, Q (.bl true) T) → G (n + 1) i [.scr ns] (fun _ => none) Q E) : FnG P w K mg base (n + 3) fa fd [x] (spLaw K) :=
  law_imp (fn_step C (Nat.le_add_left 2 n) (fns_ok C TB DF L G0 n) TB F S hmk ck (ob n)) hl
/-- the tables, empty -/
def tabs (K : PySem.W.Frag) : List (Addr × Addr) := lamNames.filterMap fun x => PySem.W.tabIn K x
theorem tabs_mem {K : PySem.W.Frag} {q : Addr × Addr} (h : q ∈ tabs K) : ∃ x ∈ lamNames, PySem.W.tabIn K x = some (q.1, q.2) := by
  obtain ⟨x, hx, e⟩ := List.mem_filterMap.mp h
  exact ⟨x, hx, e⟩
theorem tabs_of {K : PySem.W.Frag} {P : Addr} {q : Str} (h : IsTab K P q) : ∃ c, (c, P) ∈ tabs K := by
  obtain ⟨x, hx, c, e, _⟩ := h
  exact ⟨c, List.mem_filterMap.mpr ⟨x, hx, e⟩⟩
abbrev tabO : Obj := { cls := .none, data := .fields #[] }
/-- the script as the law's caller laid it, in a heap where it and the tables alone may be known -/
theorem law_at {P : Program} {w : World} {K : PySem.W.Frag} {mg mb : Str → Option Value} {k : Nat} {fa a : Addr} {fd : FuncData} {x : Str} {s₁ : Shared} {ns : List Int} {H : Hp}
    (kin : K.In s₁.heap) (gl : s₁.heap.Ns mainGlobals mg) (bt : s₁.heap.Ns builtinsNs mb) (boot : ∀ x : Str, x ≠ "__name__" → mb x = bootBuiltins x) (lim : s₁.heap.NoLimit) (gens : s₁.gens = #[])
    (hT : ∀ q ∈ tabs K, s₁.heap.get? q.2 = some tabO) (hC : ∀ q ∈ tabs K, PySem.W.CodeHd s₁.heap q.1 q.2)
    (hbm : ∃ (bm : Addr) (ob : Obj), mg "__builtins__" = some (.ref bm) ∧ bm ≠ builtinsNs ∧ s₁.heap.get? bm = some ob ∧ ob.cls = .type "module" ∧ ob.dict = some builtinsNs ∧ ob.data = .plain)
    (room : Room k callerA) (F : ∀ base : Heap, K.In base → base.Ns mainGlobals mg → TabBs K mg base → FnG P w K mg base k fa fd [x] (spLaw K)) (bnd : ∀ (s : Shared) (u : Value), BindsTo s fd ⟨[u], []⟩ [(x, u)])
    (only : ∀ b o, H b = some o → (∃ ob xs, o = .frz ob (.lst xs) ∧ ob.cls = .type "list" ∧ s₁.heap.get? b = some ob) ∨ (o = .tbl #[] ∧ ∃ c, (c, b) ∈ tabs K)) (all : ∀ P0 q0, IsTab K P0 q0 → H P0 = some (.tbl #[])) (notK : ∀ b, H b ≠ none → K.lookup b = none)
    (ok : HOk P w H s₁.heap) (sq : SqL K H a (ns.map V.int)) (h63 : ns.length ≤ 63) :
    codeAny (model P w) callerA (.call (.ref fa) ⟨[.ref a], []⟩) (fun r s' => r = .ok (.ret (.bool true)) ∧ OldK s₁.heap s'.heap ∧ s'.os = s₁.os ∧ PyProof.Rows.AllBare s'.gens) s₁ := by
  have clsK : ∀ (b : Addr) (o : Obj), s₁.heap.get? b = some o → o.cls ≠ .type "list" → o ≠ tabO → H b = none := fun b o e h1 h2 => by
    cases hb : H b with
    | none => rfl
    | some u =>
      rcases only b u hb with ⟨ob, xs, _, h3, h4⟩ | ⟨_, c, h3⟩
      · rw [e] at h4; cases h4; exact absurd h3 h1
      · have := hT _ h3
        rw [e] at this; cases this; exact absurd rfl h2
  have nsB : ∀ (b : Addr) (m : Str → Option Value), s₁.heap.Ns b m → (hidT s₁.heap H).Ns b m := by
    rintro b m ⟨o, es, ep, e1, e2, e3⟩
    refine ⟨o, es, ep, hidT_get e1 ?_, e2, e3⟩
    cases hb : H b with
    | none => rfl
    | some u =>
      exfalso
      rcases only b u hb with ⟨ob, xs, rfl, h3, h4⟩ | ⟨_, c, h3⟩
      · obtain ⟨_, hl⟩ := ok b _ hb
        obtain ⟨_, its, m', _, hs⟩ := hl
        rw [e1] at hs; cases hs; cases e2
      · have := hT _ h3
        rw [e1] at this; cases this; cases e2
  have kinB : K.In (hidT s₁.heap H) := by
    intro b o e
    refine hidT_get (kin b o e) ?_
    cases hb : H b with
    | none => rfl
    | some u =>
      have := notK b (by rw [hb]; exact nofun)
      rw [e] at this; cases this
  obtain ⟨mc, l1, l2⟩ := lim
  have md : Mod K mg (hidT s₁.heap H) := ⟨kinB, nsB _ _ gl, ⟨mb, nsB _ _ bt, boot⟩, ⟨mc, nsB _ _ l1, l2⟩⟩
  have none_in : ∀ b : Addr, b ∉ frs [] := fun b z => nomatch z
  have e0 : Env0 P w K mg (hidT s₁.heap H) callerA [] s₁ H :=
    { frames := rfl, mod := md, bs := fun b o e => of_hidT e, bsz := Nat.le_of_eq (hidT_size _ _), funs := trivial, frf := fun b z => absurd z (none_in b), hok := ok, bare := .of_eq gens }
  have TB : TabBs K mg (hidT s₁.heap H) := fun y hy c P0 ht => by
    have hm : (c, P0) ∈ tabs K := List.mem_filterMap.mpr ⟨y, hy, ht⟩
    have hP0 := hT _ hm
    refine ⟨?_, ?_, fun z => ?_⟩
    · obtain ⟨o, vs, file, tf, flags, tg, inF, text, tt, e1, r1, r2⟩ := hC _ hm
      exact ⟨o, vs, file, tf, flags, tg, inF, text, tt, hidT_get e1 (clsK _ _ e1 (by rw [r1]; decide) fun z => by rw [z] at r1; cases r1), r1, r2⟩
    · obtain ⟨bm, ob, b1, b2, b3, b4, b5, b6⟩ := hbm
      refine ⟨bm, ob, b1, b2, fun z => ?_, fun z => ?_, hidT_get b3 (clsK _ _ b3 (by rw [b4]; decide) fun z => by rw [z] at b4; cases b4), b4, b5, b6⟩
      · obtain ⟨o, es, ep, e1, e2, _⟩ := gl
        rw [z, e1] at b3; cases b3
        rw [e2] at b6; cases b6
      · subst z
        rw [hP0] at b3; cases b3; cases b4
    · obtain ⟨o, es, ep, e1, e2, _⟩ := gl
      rw [z, hP0] at e1; cases e1; cases e2
  have key := (F _ kinB (nsB _ _ gl) TB).run callerA [] s₁ H ⟨[.ref a], []⟩ [.ref a] [.ref a] (fun v _ => v = .bl true) (fun _ _ _ => False) room rfl e0 (bnd s₁ (.ref a)) (.cons rfl .nil) ⟨a, ns, rfl, sq, h63, all, fun _ => rfl⟩
  refine codeAny_mono key fun res s2 hres => ?_
  match res, hres with
  | .error e, hres => exact (cx_none hres).elim
  | .ok .next, hres => exact False.elim hres
  | .ok .brk, hres => exact False.elim hres
  | .ok .cont, hres => exact False.elim hres
  | .ok (.ret u), hres =>
    obtain ⟨v, H2, os, bare, un, ok2, ru, rfl⟩ := hres
    obtain rfl : u = Value.bool true := ru
    have step : ∀ b o, s₁.heap.get? b = some o → s2.heap.get? b = some o ∨ (∃ c, (c, b) ∈ tabs K ∧ o = tabO ∧ ∃ more : Array Value, s2.heap.get? b = some { cls := .none, data := .fields more }) := fun b o e => by
      cases hb : H b with
      | none => exact .inl (un.keep b o e hb (none_in b) (by simp))
      | some u =>
        rcases only b u hb with ⟨ob, xs, rfl, h3, h4⟩ | ⟨rfl, c, h3⟩
        · have f2 := (ok2 b _ (un.frzs b ob _ hb)).1
          rw [e] at h4; cases h4
          exact .inl f2
        · obtain ⟨more, z⟩ := un.tbls b #[] hb
          have g : s2.heap.get? b = some { cls := .none, data := .fields (#[] ++ more) } := ok2 b _ z
          have := hT _ h3
          rw [e] at this
          exact .inr ⟨c, h3, Option.some.inj this, _, g⟩
    refine ⟨rfl, ⟨fun b o e => ?_, fun b o e => ?_⟩, os, bare⟩
    · rcases step b o e with h | ⟨c, h3, rfl, more, g⟩
      · exact .inl h
      · exact .inr (.inl ⟨((hC _ h3).tab (hT _ h3)).isCodeTable, rfl, #[], more, rfl, by rw [Array.empty_append]; exact g⟩)
    · rcases step b o e with h | ⟨c, h3, rfl, more, g⟩
      · exact ⟨_, h⟩
      · exact ⟨_, g⟩
open Classical in
/-- the tables, and the script where it isn't written -/
noncomputable def lawH (K : PySem.W.Frag) (a : Addr) (ob : Option HO) : Hp := fun b => if b = a ∧ ob ≠ none then ob else if ∃ c, (c, b) ∈ tabs K then some (.tbl #[]) else none
theorem lawH_of {K : PySem.W.Frag} {a b : Addr} {ob : Option HO} {o : HO} (h : lawH K a ob b = some o) : (b = a ∧ ob = some o) ∨ (o = .tbl #[] ∧ ∃ c, (c, b) ∈ tabs K) := by
  unfold lawH at h
  split at h
  · exact .inl ⟨(by assumption : _ ∧ _).1, h⟩
  · split at h
    · cases h; exact .inr ⟨rfl, by assumption⟩
    · cases h
theorem law_runs {P : Program} {w : World} {K : PySem.W.Frag} {mg mb : Str → Option Value} {k : Nat} {fa a : Addr} {fd : FuncData} {x : Str} {s₁ : Shared} {vs : List Value} {ns : List Int}
    (kin : K.In s₁.heap) (gl : s₁.heap.Ns mainGlobals mg) (bt : s₁.heap.Ns builtinsNs mb) (boot : ∀ x : Str, x ≠ "__name__" → mb x = bootBuiltins x) (lim : s₁.heap.NoLimit) (gens : s₁.gens = #[])
    (hT : ∀ q ∈ tabs K, s₁.heap.get? q.2 = some tabO) (hC : ∀ q ∈ tabs K, PySem.W.CodeHd s₁.heap q.1 q.2) (hN : ∀ q ∈ tabs K, K.lookup q.2 = none)
    (hbm : ∃ (bm : Addr) (ob : Obj), mg "__builtins__" = some (.ref bm) ∧ bm ≠ builtinsNs ∧ s₁.heap.get? bm = some ob ∧ ob.cls = .type "module" ∧ ob.dict = some builtinsNs ∧ ob.data = .plain)
    (room : Room k callerA) (F : ∀ base : Heap, K.In base → base.Ns mainGlobals mg → TabBs K mg base → FnG P w K mg base k fa fd [x] (spLaw K)) (bnd : ∀ (s : Shared) (u : Value), BindsTo s fd ⟨[u], []⟩ [(x, u)])
    (ho : s₁.heap.get? a = some { cls := .type "list", data := .seq vs.toArray }) (hnts : PyProof.Rows.IntsAre vs ns) (h63 : ns.length ≤ 63) :
    codeAny (model P w) callerA (.call (.ref fa) ⟨[.ref a], []⟩) (fun r s' => r = .ok (.ret (.bool true)) ∧ OldK s₁.heap s'.heap ∧ s'.os = s₁.os ∧ PyProof.Rows.AllBare s'.gens) s₁ := by
  have rv := vals_ints hnts
  have lv := hnts.length
  have small : ns.length ≤ sizeLine := by rw [sizeLine_eq]; omega
  have noT : ∀ c, (c, a) ∉ tabs K := fun c z => by
    have := hT _ z
    rw [ho] at this; cases this
  have tabAt : ∀ (ob : Option HO) P0 q0, IsTab K P0 q0 → lawH K a ob P0 = some (.tbl #[]) := fun ob P0 q0 it => by
    obtain ⟨c, hc⟩ := tabs_of it
    have n : P0 ≠ a := fun z => noT c (by rw [← z]; exact hc)
    unfold lawH
    rw [if_neg fun z => n z.1, if_pos ⟨c, hc⟩]
  cases hk : K.lookup a with
  | some o =>
    have e := kin a o hk
    rw [ho] at e; cases e
    refine law_at (H := lawH K a none) kin gl bt boot lim gens hT hC hbm room F bnd (fun b o z => ?_) (tabAt none) (fun b z => ?_) (fun b o z => ?_) (.inr ⟨_, vs.toArray, _, hk, rfl, rfl, rfl, by rw [List.size_toArray, lv]; exact small, by simpa using rv⟩) h63
    · rcases lawH_of z with ⟨_, z⟩ | z
      · cases z
      · exact .inr z
    · cases hb : lawH K a none b with
      | none => exact absurd hb z
      | some u =>
        rcases lawH_of hb with ⟨_, z⟩ | ⟨_, c, hc⟩
        · cases z
        · exact hN _ hc
    · rcases lawH_of z with ⟨_, z⟩ | ⟨rfl, c, hc⟩
      · cases z
      · exact hT _ hc
  | none =>
    have at_a : lawH K a (some (.frz { cls := .type "list", data := .seq vs.toArray } (.lst (ns.map V.int)))) a = some (.frz { cls := .type "list", data := .seq vs.toArray } (.lst (ns.map V.int))) := if_pos ⟨rfl, nofun⟩
    refine law_at (H := lawH K a (some (.frz { cls := .type "list", data := .seq vs.toArray } (.lst (ns.map V.int))))) kin gl bt boot lim gens hT hC hbm room F bnd (fun b o z => ?_) (tabAt _) (fun b z => ?_) (fun b o z => ?_) (.inl (.inr ⟨_, at_a⟩)) h63
    · rcases lawH_of z with ⟨eb, y⟩ | y
      · cases y
        subst eb
        exact .inl ⟨_, _, rfl, rfl, ho⟩
      · exact .inr y
    · cases hb : lawH K a (some (.frz { cls := .type "list", data := .seq vs.toArray } (.lst (ns.map V.int)))) b with
      | none => exact absurd hb z
      | some u =>
        rcases lawH_of hb with ⟨eb, y⟩ | ⟨_, c, hc⟩
        · subst eb; exact hk
        · exact hN _ hc
    · rcases lawH_of z with ⟨eb, y⟩ | ⟨eo, c, hc⟩
      · cases y
        subst eb
        exact ⟨ho, by rw [List.length_map]; exact small, vs, _, rv, ho⟩
      · subst eo; exact hT _ hc
/-- the goal that the head leaves -/
theorem walk_deep {l : PySem.W.OpenLaw} {k : Nat} {q : Program} {loose : List Str} {XP : (Str → Option Value) → Heap → Prop} {YP : World → Heap → Prop} {d : DefRec} {K : Params → PySem.W.Frag} {x : Str}
    (hn : l.most = some 63) (hdf : d.params.defaults = []) (room : Room k callerA) (hY : ∀ (w : World) (h : Heap), YP w h → (K w.params).In h)
    (hrec : ∀ y ∈ lamNames, ∃ e, (PyProof.Rows.recsOf q).find? (fun e => e.name == y) = some e)
    (F : ∀ (w : World) (mg : Str → Option Value) (fa : Addr) (h : Heap), (K w.params).In h → h.Ns mainGlobals mg → mg d.name = some (.ref fa) →
      ∃ fd : FuncData, (∀ (s : Shared) (u : Value), BindsTo s fd ⟨[u], []⟩ [(x, u)]) ∧ (∀ c ∈ tabs (K w.params), (K w.params).lookup c.2 = none) ∧ ∀ base : Heap, (K w.params).In base → base.Ns mainGlobals mg → TabBs (K w.params) mg base → FnG l.prog w (K w.params) mg base k fa fd [x] (spLaw (K w.params))) :
    PySem.W.WalkO q loose XP YP l.row.toRowW d [] (fun f vs => PySem.call f vs) := by
  refine Att.attach_call hn hdf fun w s0 s1 mg mb fa o pm cd doc a vs ns top yy h1 h2 h3 h4 h5 h6 h7 h8 => ?_
  obtain ⟨fd, b, nl, f⟩ := F w mg fa s1.heap (hY w _ yy) top.T.g h4
  have tb : ∀ c ∈ tabs (K w.params), PySem.W.CodeHd s1.heap c.1 c.2 ∧ s1.heap.get? c.2 = some tabO := fun c hc => by
    obtain ⟨y, hy, e⟩ := tabs_mem hc
    obtain ⟨e0, he0⟩ := hrec y hy
    exact PySem.W.tab_of top.T (hY w _ yy) he0 e
  exact law_runs (hY w _ yy) top.T.g top.T.b top.T.builtins top.T.nolimit h8 (fun c hc => (tb c hc).2) (fun c hc => (tb c hc).1) nl top.T.bmain room f b h5 h6 h7
end DL

set_option linter.all false
set_option maxRecDepth 100000
set_option maxHeartbeats 8000000
namespace DL
open PySem PySem.Spec PyProof.Rows L2
/-! ### own exceptions with an own __init__ -/
/-- PlayError.__init__, read off the class -/
structure PlI (K : PySem.W.Frag) (mg : Str → Option Value) (P : Addr) : Prop where
  gP : mg "PlayError" = some (.ref P)
  ga : PySem.W.specialIn K (.ref P) "__getattribute__" = some (some (.builtin "type.__getattribute__"))
  rd : PySem.W.readsIn K P (.type "type") = true
  fi : PySem.W.findCls K (.ref P) (.type "type") "__init__" = some (.val (.builtin "ValueError.__init__"))
theorem handed_vi : PySem.W.handedIn (.builtin "ValueError.__init__") = true := by decide +kernel
theorem eval_meth {env : Env} {o : Expr} {name : Str} {apos pos : Pos} {args : List Expr} (hbase : attributeBase o name env (eval o env) = eval o env)
    (hfew : ((backTo pos (starEach args env)).all (fun x => !x.1) && (backToKw pos (keywordEach [] env)).all (fun x => x.1.isSome) && decide (args.length + ([] : List Keyword).length + (if ([] : List Keyword).isEmpty then 0 else 1) < 30)) = true)
    (hline : (apos.endLine == pos.line) = true) : ∃ pl : Sem Bool, eval (.Call (.Attribute o name apos) args [] pos) env = (do
      let ov ← eval o env
      standAt apos.atName
      let (f, first) ← holding [ov] (getMethod ov name pl)
      callWith pos f first (backTo pos (starEach args env)) (backToKw pos (keywordEach [] env))) := by
  have hform : methodCallForm (args.length + ([] : List Keyword).length) (backTo pos (starEach args env)) (backToKw pos (keywordEach [] env)) = true := hfew
  have hpos : methodCallPos true o env apos pos = pure pos := by unfold methodCallPos; simp [hline]
  refine ⟨(do return (← importBound o env).getD true), ?_⟩
  rw [arm_eval_Call, hbase]
  unfold methodCall calleeOf
  rw [hform, hpos]
  simp only [if_true]
  rfl
section
variable {X : Cx} {o e : Expr} {es : List Expr} {to te : TE} {ta : TA} {f : Str} {p p' p1 p2 pos : Pos}
theorem pe_plinit {P : Addr} (L : PlI X.K X.mg P) (hg : Gl X "PlayError") (ha : PA X (e :: es) ta) (hst : (e :: es).all notStar = true) (hf : (e :: es).length < 20) (hline : (p2.endLine == pos.line) = true) :
    PE X (.Call (.Attribute (.Name "PlayError" p1) "__init__" p2) (e :: es) [] pos) (tVeI X.K ta) := by
  have h1 : notStar e = true ∧ es.all notStar = true := by rw [List.all_cons, Bool.and_eq_true] at hst; exact hst
  have hfew : ((backTo pos (starEach (e :: es) X.env)).all (fun x => !x.1) && (backToKw pos (keywordEach [] X.env)).all (fun x => x.1.isSome)
      && decide ((e :: es).length + ([] : List Keyword).length + (if ([] : List Keyword).isEmpty then 0 else 1) < 30)) = true := by
    rw [star_all hst]
    simp [backToKw, keywordEach] at hf ⊢
    omega
  obtain ⟨pl, hc⟩ := eval_meth (env := X.env) (o := .Name "PlayError" p1) (name := "__init__") (base_plain rfl) hfew hline
  have he := star_cons (es := es) (env := X.env) h1.1
  have hpl := star_plain (env := X.env) (pos := pos) h1.2
  refine ⟨fun pins s σ H Q I h => ?_⟩
  refine PySem.W.methodCall_KW (ld_glob I hg L.gP ?_ (by decide)) hc
  refine PySem.W.method_cls I.kIn L.ga (PySem.W.cls_value I.kIn L.rd L.fi handed_vi ?_)
  show wpAny _ _ (callWith pos (Value.builtin "ValueError.__init__") [] (backTo pos (starEach (e :: es) X.env)) []) _ _ _
  refine PyProof.Rows.callWith_method1 (thn (ha.run pos pins _ σ H _ (I.tok _) h) fun us s1 ⟨vs, H1, I1, r1, a, C, ws, ev, hl, T, ea, q⟩ => ?_) he hpl
  subst ev
  cases r1 with
  | @cons _ u0 _ ur ra rw' =>
    obtain rfl : u0 = Value.ref a := ra
    have hlen : ur.length ≤ sizeLine := by
      rw [← Paired.length rw', sizeLine_eq]
      omega
    exact oinit_ok T I1 ea hlen fun s' J => ⟨.non, H1, J, rfl, q⟩
end
/-- the body of such an __init__: PlayError.__init__(self, ".."); self.f = f .. -/
def iniH (N : List Str) (sc : Scope) : Stmt → Bool
  | .Expr (.Call (.Attribute (.Name x _) m p2) [.Name y _, .Constant (.str _) _ _] [] pos) _ => (p2.endLine == pos.line) && decide (x = "PlayError") && decide (m = "__init__") && decide (y = "self") && decide (N[0]? = some ("self" : Str)) && glB sc "PlayError" && visB sc "self"
  | _ => false
def iniF (N : List Str) (sc : Scope) (i : Nat) (f : Str) : Stmt → Bool
  | .Assign [.Attribute (.Name y _) g _] (.Name h _) _ => decide (y = "self") && decide (g = f) && decide (h = f) && decide (N[0]? = some ("self" : Str)) && decide (N[i]? = some f) && visB sc "self" && visB sc f && plainN f
  | _ => false
def iniB (N : List Str) (sc : Scope) : List Str → List Stmt → Bool
  | [f], [s0, s1] => iniH N sc s0 && iniF N sc 1 f s1
  | [f, g], [s0, s1, s2] => iniH N sc s0 && iniF N sc 1 f s1 && iniF N sc 2 g s2
  | _, _ => false
section
variable {X : Cx} {N : List Str} {sc : Scope} {P C : Addr}
theorem iniH_ok {s : Stmt} (h : iniH N sc s = true) (hN : X.N = N) (hs : X.env.scope = sc) (L : PlI X.K X.mg P) : ∃ m : Str, PS X s (fun D σ H => tVeI X.K (tCons (tVar 0) (tCons (tC (.str m)) tNil)) σ H fun _ H1 => D.nx σ H1) := by
  unfold iniH at h
  split at h
  · simp only [Bool.and_eq_true, decide_eq_true_eq] at h
    obtain ⟨⟨⟨⟨⟨⟨h0, rfl⟩, rfl⟩, rfl⟩, h4⟩, h5⟩, h6⟩ := h
    refine ⟨_, ps_expr (pe_plinit L (by show X.env.scope.names.lookup _ = _; rw [hs]; exact gl_of h5) (pa_cons (pe_var (by rw [hN]; exact h4) (by rw [hs]; exact vis_of h6) (by decide) (by decide)) (pa_cons pe_str pa_nil)) rfl (by simp) h0)⟩
  · cases h
theorem iniF_ok {s : Stmt} {i : Nat} {f : Str} (h : iniF N sc i f s = true) (hN : X.N = N) (hs : X.env.scope = sc) : PS X s (tOst X.K f (tVar 0) (tVar i)) := by
  unfold iniF at h
  split at h
  · simp only [Bool.and_eq_true, decide_eq_true_eq] at h
    obtain ⟨⟨⟨⟨⟨⟨⟨rfl, rfl⟩, rfl⟩, h4⟩, h5⟩, h6⟩, h7⟩, h8⟩ := h
    obtain ⟨q1, q2, q3⟩ := plainN_of h8
    exact ps_ost (pe_var (by rw [hN]; exact h4) (by rw [hs]; exact vis_of h6) (by decide) (by decide)) (pe_var (by rw [hN]; exact h5) (by rw [hs]; exact vis_of h7) q1 q2)
  · cases h
end
theorem init_ok {K : PySem.W.Frag} {mg : Str → Option Value} {P0 C fI : Addr} {qual : Str} {st : Stmt} {oc : Value} {od an : Option Addr} {osl : Array (Option Value)} {kV doc pm cdv ct : Value} {N fs : List Str}
    (l : K.lookup fI = some ⟨oc, od, .func (PySem.W.fnOf "__init__" qual (defArgs st) (defBody st) (defScope st) .none kV doc pm an cdv ct), osl⟩) (cd : PySem.W.codeIn K cdv qual = true) (S : FnScope N N (defScope st)) (hN : N.length = fs.length + 1)
    (ck : iniB N (defScope st) fs (defBody st) = true) (L : PlI K mg P0) (T : OexC K C) (no : ∀ f ∈ fs, PySem.W.findIn K (.ref C) f = some none) (iC : PySem.W.findIn K (.ref C) "__init__" = some (some (.ref fI))) (tI : PySem.W.typeIn K (.ref fI) = some (.type "function"))
    (bnd : ∀ us : List Value, us.length = N.length → bindArgs (PySem.W.fnOf "__init__" qual (defArgs st) (defBody st) (defScope st) .none kV doc pm an cdv ct) ⟨us, []⟩ = pure (N.zip us)) : InitOk K mg C fs := by
  refine ⟨?_, T, no, fI, _, N, iC, tI, .all bnd, hN, fun P w base k => fn_of l cd S (fun vs H Q E ⟨a, ws, e, hl, _⟩ => by rw [e, List.length_cons, hl, hN]) fun A outer s H vs Q E hr ⟨a, ws, e, hl, ha, q⟩ => ?_⟩
  · intro e; subst e; unfold iniB at ck; cases ck
  subst e
  generalize hbd : defBody st = bd at ck
  unfold iniB at ck
  split at ck
  · rename_i f s0 s1 _
    simp only [Bool.and_eq_true] at ck
    obtain ⟨m, g0⟩ := iniH_ok (X := cxOf (L2.CX P w) P w K mg base N qual (defScope st) fI cdv A outer s H E) ck.1 rfl rfl L
    have g1 := iniF_ok (X := cxOf (L2.CX P w) P w K mg base N qual (defScope st) fI cdv A outer s H E) ck.2 rfl rfl
    obtain ⟨w1, rfl⟩ : ∃ w1, ws = [w1] := List.length_eq_one_iff.mp hl
    refine ⟨_, pss_cons g0 (pss_one g1), ?_⟩
    refine ⟨_, rfl, a, C, [.str m], rfl, (by simp), T, ha, ?_⟩
    refine ⟨_, rfl, _, rfl, a, C, rfl, T, no f (by simp), .inl ⟨ha, fun dx hd hda => ?_⟩⟩
    exact q dx hd hda
  · rename_i f g s0 s1 s2 _
    simp only [Bool.and_eq_true] at ck
    obtain ⟨m, g0⟩ := iniH_ok (X := cxOf (L2.CX P w) P w K mg base N qual (defScope st) fI cdv A outer s H E) ck.1.1 rfl rfl L
    have g1 := iniF_ok (X := cxOf (L2.CX P w) P w K mg base N qual (defScope st) fI cdv A outer s H E) ck.1.2 rfl rfl
    have g2 := iniF_ok (X := cxOf (L2.CX P w) P w K mg base N qual (defScope st) fI cdv A outer s H E) ck.2 rfl rfl
    obtain ⟨w1, w2, rfl⟩ : ∃ w1 w2, ws = [w1, w2] := by
      match ws, hl with
      | [w1, w2], _ => exact ⟨w1, w2, rfl⟩
    refine ⟨_, pss_cons g0 (pss_cons g1 (pss_one g2)), ?_⟩
    refine ⟨_, rfl, a, C, [.str m], rfl, (by simp), T, ha, ?_⟩
    refine ⟨_, rfl, _, rfl, a, C, rfl, T, no f (by simp), .inl ⟨ha, fun dx hd hda => ?_⟩⟩
    refine ⟨_, rfl, _, rfl, a, C, rfl, T, no g (by simp), .inr ⟨dx, _, upd_same, by rw [upd_ne hda, upd_same], by simp, ?_⟩⟩
    have e : upd (upd (upd H dx (exd dx [(f, w1)])) a (exo a C (some dx))) dx (exd dx ((g, w2) :: [(f, w1)])) = upd (upd H dx (exd dx ([f, g].zip [w1, w2]).reverse)) a (exo a C (some dx)) := by
      funext b
      by_cases h1 : b = dx
      · rw [h1, upd_same, upd_ne hda, upd_same]; rfl
      · rw [upd_ne h1]
        by_cases h2 : b = a
        · rw [h2, upd_same, upd_same]
        · rw [upd_ne h2, upd_ne h1, upd_ne h2, upd_ne h1]
    rw [e]
    exact q dx hd hda
  · cases ck
end DL
namespace DL
open PySem PySem.Spec PyProof.Rows L2
/-- the first def of a class's body -/
def clsFn (s : Stmt) : Stmt := match s with
  | .ClassDef _ _ _ body _ _ _ _ _ _ _ => (body.find? fun t => match t with | .FunctionDef _ _ _ _ _ _ _ _ _ _ => true | _ => false).getD s
  | _ => s
theorem ini_mk {K : PySem.W.Frag} {mg : Str → Option Value} {P0 C fI : Addr} {qual : Str} {st : Stmt} {oc : Value} {od an : Option Addr} {osl : Array (Option Value)} {kV doc pm cdv ct : Value} {N fs : List Str}
    {nm q : Str} {M : Addr} {bs bm : List Value} {sn : List Str} {sub : List Value} {ab : Bool} {col : Option Bool} {dd : Option Addr} {m0 m1 m2 m3 m5 : Option Value}
    (l : K.lookup fI = some ⟨oc, od, .func (PySem.W.fnOf "__init__" qual (defArgs st) (defBody st) (defScope st) .none kV doc pm an cdv ct), osl⟩) (cd : PySem.W.codeIn K cdv qual = true)
    (xL : K.lookup C = some (excClassObj nm q C M bs bm true sn sub ab col dd m0 m1 m2 m3 m5 "ValueError.__new__")) (hbm : PySem.HandSPX.refsVE bm = true)
    (sa : PySem.W.findIn K (.ref C) "__setattr__" = some (some (.builtin "object.__setattr__"))) (eC : PySem.W.subIn K (.ref C) (.type "BaseException") = some true) (tC : PySem.W.typeIn K (.ref C) = some (.type "type")) (kC : PySem.W.keepIn K (.ref C) = true)
    (iC : PySem.W.findIn K (.ref C) "__init__" = some (some (.ref fI))) (tI : PySem.W.typeIn K (.ref fI) = some (.type "function")) (no : ∀ f ∈ fs, PySem.W.findIn K (.ref C) f = some none) (L : PlI K mg P0)
    (S : FnScope N N (defScope st)) (hN : N.length = fs.length + 1) (ck : iniB N (defScope st) fs (defBody st) = true)
    (bnd : ∀ us : List Value, us.length = N.length → bindArgs (PySem.W.fnOf "__init__" qual (defArgs st) (defBody st) (defScope st) .none kV doc pm an cdv ct) ⟨us, []⟩ = pure (N.zip us)) : InitOk K mg C fs :=
  init_ok l cd S hN ck L ⟨⟨nm, q, M, bs, bm, sn, sub, ab, col, dd, m0, m1, m2, m3, m5, xL, hbm⟩, sa, eC, tC, kC⟩ no iC tI bnd
end DL

set_option linter.all false
set_option maxRecDepth 100000
set_option maxHeartbeats 4000000
namespace DL
open PySem PySem.Spec L2
variable {G : Nat → DSp} {de : DEnv} {T : DH} {Q : DQ} {E : EQ}
/-! ### the readings, constructor by constructor -/
theorem zA0 {f k : Nat} {vs : List Nat} : evE G (.lamc f k vs) de T Q E = evV vs de fun ds => ∀ p, T p = none → G f [.ref p] (updD T p (.clo k ds)) Q E := id rfl
theorem zA1 {q : List D → Prop} : evV [] de q = q [] := id rfl
theorem zA2 {i : Nat} {r : List Nat} {q : List D → Prop} : evV (i :: r) de q = ∃ d, de[i]? = some (some d) ∧ evV r de fun ds => q (d :: ds) := id rfl
theorem zA3 {i j : Nat} {Dd : DEnds} : evS G (.setAct i j) Dd de T = ∃ d, de[j]? = some (some d) ∧ G actIx [d] T (fun v T1 => Dd.nx (de.set i (some v)) T1) (fun x T1 => Dd.ex x de T1) := id rfl
theorem zA4 {p : Addr} {ds : List D} : withAct G p actIx ds T Q E = (ds = [.ref p] ∧ ∃ k es, T p = some (.clo k es) ∧ G (lamIx k) es T Q E) := by unfold withAct; rw [if_pos rfl]
theorem zA5 {p : Addr} {f : Nat} (h : f < 1000) : withAct G p f = G f := by unfold withAct actIx; rw [if_neg (by omega)]
theorem zA6 : evE G .kN de T Q E = Q .non T := id rfl
theorem zA7 {b : Bool} : evE G (.kB b) de T Q E = Q (.bl b) T := id rfl
theorem zA8 {i : Int} : evE G (.kI i) de T Q E = Q (.int i) T := id rfl
theorem zA9 {s : Str} : evE G (.kS s) de T Q E = Q (.str s) T := id rfl
theorem zAA {i : Nat} : evE G (.var i) de T Q E = ∃ d, de[i]? = some (some d) ∧ Q d T := id rfl
theorem zAB {x : Str} {n : Int} : evE G (.gli x n) de T Q E = Q (.int n) T := id rfl
theorem zAC {x s : Str} : evE G (.gls x s) de T Q E = Q (.str s) T := id rfl
theorem zAD {es : List IE} : evE G (.tup es) de T Q E = evEs G es de T (fun ds T1 => Q (.tup ds) T1) E := id rfl
theorem zAE {m : Bool} {es : List IE} : evE G (.lst m es) de T Q E = evEs G es de T (fun ds T1 => newL m ds T1 Q) E := id rfl
theorem zAF : evE G .dem de T Q E = Q .emp T := id rfl
theorem zAG {t : Nat} : evE G (.dnew t) de T Q E = ∀ p, T p = none → Q (.ref p) (updD T p (newDict t)) := id rfl
theorem zAH {ks : List Key} {vs : List IE} : evE G (.dsp ks vs) de T Q E = evEs G vs de T (fun ds T1 => ∀ p, T1 p = none → Q (.ref p) (updD T1 p (.dK (dspD ks ds)))) E := id rfl
theorem zAI {x a b : IE} : evE G (.inr x a b) de T Q E = evE G x de T (fun x T1 => evE G a de T1 (fun y T2 => evE G b de T2 (fun z T3 => dInr x y z fun k => Q (.bl k) T3) E) E) E := id rfl
theorem zAJ {k v : IE} : evE G (.dic k v) de T Q E = evE G k de T (fun x T1 => evE G v de T1 (fun y T2 => ∃ j, keyD x = some j ∧ ∀ p, T2 p = none → Q (.ref p) (updD T2 p (.dK [(j, y)]))) E) E := id rfl
theorem zAK {o : Bop} {m : Bool} {a b : IE} : evE G (.bin o m a b) de T Q E = evE G a de T (fun x T1 => evE G b de T1 (fun y T2 => dBin o m x y T2 Q) E) E := id rfl
theorem zAL {a : IE} : evE G (.neg a) de T Q E = evE G a de T (fun x T1 => dNeg x T1 Q) E := id rfl
theorem zAM {a : IE} : evE G (.not a) de T Q E = evE G a de T (fun x T1 => ∃ b, truD T1 x = some b ∧ Q (.bl (!b)) T1) E := id rfl
theorem zAN {a b : IE} : evE G (.and a b) de T Q E = evE G a de T (fun x T1 => ∃ k, truD T1 x = some k ∧ if k = true then evE G b de T1 Q E else Q x T1) E := id rfl
theorem zAO {a b : IE} : evE G (.or a b) de T Q E = evE G a de T (fun x T1 => ∃ k, truD T1 x = some k ∧ if k = true then Q x T1 else evE G b de T1 Q E) E := id rfl
theorem zAP {o : Cop} {a b : IE} : evE G (.cmp o a b) de T Q E = evE G a de T (fun x T1 => evE G b de T1 (fun y T2 => dCmp o x y T2 Q) E) E := id rfl
theorem zAQ {o p : Cop} {a b c : IE} : evE G (.chn o p a b c) de T Q E = evE G a de T (fun x T1 => evE G b de T1 (fun y T2 => dCmp o x y T2 fun r T3 => ∃ k, r = .bl k ∧ if k = true then evE G c de T3 (fun z T4 => dCmp p y z T4 Q) E else Q (.bl false) T3) E) E := id rfl
theorem zAR {c : IT} {a b : IE} : evE G (.ife c a b) de T Q E = evT G c de T (fun k T1 => if k = true then evE G a de T1 Q E else evE G b de T1 Q E) E := id rfl
theorem zAS {a i : IE} : evE G (.ix a i) de T Q E = evE G a de T (fun x T1 => evE G i de T1 (fun y T2 => dIx x y T2 Q) E) E := id rfl
theorem zAT {m : Bool} {a : IE} {lo hi : Option IE} : evE G (.sl m a lo hi) de T Q E = evE G a de T (fun x T1 => evO G lo de T1 (fun l T2 => evO G hi de T2 (fun h T3 => dSl m x l h T3 Q) E) E) E := id rfl
theorem zAU {l m : Bool} {a : IE} : evE G (.sset l m a) de T Q E = evE G a de T (fun x T1 => dSset l m x T1 Q) E := id rfl
theorem zAV {m : Bool} {a : IE} : evE G (.rev m a) de T Q E = evE G a de T (fun x T1 => dRev m x T1 Q) E := id rfl
theorem zAW {f : Bfn} {m : Bool} {es : List IE} : evE G (.fn f m es) de T Q E = evEs G es de T (fun xs T1 => dFn f m xs T1 Q) E := id rfl
theorem zAX {a : IE} {t : Ty} : evE G (.isi a t) de T Q E = evE G a de T (fun x T1 => dIsi T1 x t Q) E := id rfl
theorem zAY {a : IE} {ks cs : List Str} : evE G (.isx a ks cs) de T Q E = evE G a de T (fun x T1 => dIsx x ks cs T1 Q) E := id rfl
theorem zAZ {a : IE} {c f : Str} : evE G (.fld a c f) de T Q E = evE G a de T (fun x T1 => dFld x c f T1 Q) E := id rfl
theorem zB0 {a b : IE} : evE G (.rlen a b) de T Q E = evE G a de T (fun x T1 => evE G b de T1 (fun y T2 => ∃ i j, x = .int i ∧ y = .int j ∧ j - i < 2 ^ 62 ∧ Q (.int (j - i).toNat) T2) E) E := id rfl
theorem zB1 {t m : Bool} {a : Option IE} {b : IE} : evE G (.rgl t m a b) de T Q E = evO G a de T (fun lo T1 => evE G b de T1 (fun y T2 => ∃ j, y = .int j ∧ RgOk (lo.getD 0) j ∧ rgD t m (lo.getD 0) j T2 Q) E) E := id rfl
theorem zB2 {f : Nat} {es : List IE} : evE G (.call f es) de T Q E = evEs G es de T (fun xs T1 => G f xs T1 Q E) E := id rfl
theorem zB3 {f n : Nat} {ks : List Str} {arr : List (Nat ⊕ Int)} {es zs : List IE} : evE G (.callF f n ks arr es zs) de T Q E = evEs G es de T (fun xs T1 => evEs G zs de T1 (fun ws T2 => G f (arrD arr (xs ++ ws)) T2 Q E) E) E := id rfl
theorem zB4 {k : Mth} {m : Bool} {o : IE} {es : List IE} : evE G (.mth k m o es) de T Q E = evE G o de T (fun x T1 => mthOk k T1 x ∧ evEs G es de T1 (fun xs T2 => dMth k m x xs T2 Q) E) E := id rfl
theorem zB5 {m : Bool} {g : Tgt} {own : List (Str × Nat)} {it : II} {cs : Option IT} {e : IE} : evE G (.lc m g own it cs e) de T Q E = evI G it de T (fun src T1 => lcL g src (evC G cs) (evE G e) (wipeD de (own.map (·.2))) src.xs [] T1 (fun ds T2 => newL m ds T2 Q)) E := id rfl
variable {QT : Bool → DH → Prop}
theorem zB6 {a : IT} : evT G (.tnot a) de T QT E = evT G a de T (fun b T1 => QT (!b) T1) E := id rfl
theorem zB7 {a b : IT} : evT G (.tand a b) de T QT E = evT G a de T (fun k T1 => if k = true then evT G b de T1 QT E else QT false T1) E := id rfl
theorem zB8 {a b : IT} : evT G (.tor a b) de T QT E = evT G a de T (fun k T1 => if k = true then QT true T1 else evT G b de T1 QT E) E := id rfl
theorem zB9 {a : IE} : evT G (.tv a) de T QT E = evE G a de T (fun x T1 => ∃ b, truD T1 x = some b ∧ QT b T1) E := id rfl
theorem zBA {x a b : IE} : evT G (.tinr x a b) de T QT E = evE G x de T (fun x T1 => evE G a de T1 (fun y T2 => evE G b de T2 (fun z T3 => dInr x y z fun k => QT k T3) E) E) E := id rfl
theorem zBB {o : Cop} {a b : IE} : evT G (.tcmp o a b) de T QT E = evE G a de T (fun x T1 => evE G b de T1 (fun y T2 => dCmp o x y T2 fun r T3 => ∃ k, r = .bl k ∧ QT k T3) E) E := id rfl
theorem zBC {o p q : Cop} {a b c d : IE} : evT G (.tchn3 o p q a b c d) de T QT E = evE G a de T (fun x T1 => evE G b de T1 (fun y T2 => dCmp o x y T2 fun r T3 => ∃ k, r = .bl k ∧ if k = true then evE G c de T3 (fun z T4 => dCmp p y z T4 fun r2 T5 => ∃ k2, r2 = .bl k2 ∧ if k2 = true then evE G d de T5 (fun w T6 => dCmp q z w T6 fun r3 T7 => ∃ k3, r3 = .bl k3 ∧ QT k3 T7) E else QT false T5) E else QT false T3) E) E := id rfl
theorem zBD {o p : Cop} {a b c : IE} : evT G (.tchn o p a b c) de T QT E = evE G a de T (fun x T1 => evE G b de T1 (fun y T2 => dCmp o x y T2 fun r T3 => ∃ k, r = .bl k ∧ if k = true then evE G c de T3 (fun z T4 => dCmp p y z T4 fun r2 T5 => ∃ k2, r2 = .bl k2 ∧ QT k2 T5) E else QT false T3) E) E := id rfl
variable {QL : List D → DH → Prop} {QO : Option Int → DH → Prop} {QS : Src → DH → Prop}
theorem zBE : evEs G [] de T QL E = QL [] T := id rfl
theorem zBF {e : IE} {es : List IE} : evEs G (e :: es) de T QL E = evE G e de T (fun x T1 => evEs G es de T1 (fun xs T2 => QL (x :: xs) T2) E) E := id rfl
theorem zBG : evO G none de T QO E = QO none T := id rfl
theorem zBH {e : IE} : evO G (some e) de T QO E = evE G e de T (fun x T1 => ∃ i, x = .int i ∧ QO (some i) T1) E := id rfl
theorem zBI : evC G none de T QT E = QT true T := id rfl
theorem zBJ {c : IT} : evC G (some c) de T QT E = evT G c de T QT E := id rfl
theorem zBK {e : IE} : evI G (.seq e) de T QS E = evE G e de T (fun x T1 => match x with
      | .tup ds => QS ⟨ds, none⟩ T1
      | .lst ds => QS ⟨ds, none⟩ T1
      | .scr ns => QS ⟨ns.map D.int, none⟩ T1
      | .str s => QS ⟨s.cps.toList.map fun c => D.str ⟨#[c]⟩, none⟩ T1
      | .ref a => ∃ ds, T1 a = some (.lst ds) ∧ QS ⟨ds, some (a, .lst ds)⟩ T1
      | _ => False) E := id rfl
theorem zBL {a : IE} : evI G (.rng1 a) de T QS E = evE G a de T (fun x T1 => ∃ n, x = .int n ∧ -(2 ^ 62) ≤ n ∧ n < 2 ^ 62 ∧ QS ⟨(List.range n.toNat).map fun (i : Nat) => D.int i, none⟩ T1) E := id rfl
theorem zBM {a b : IE} : evI G (.rng2 a b) de T QS E = evE G a de T (fun x T1 => evE G b de T1 (fun y T2 => ∃ i j, x = .int i ∧ y = .int j ∧ (-(2 ^ 62) ≤ i ∧ i < 2 ^ 62 ∧ -(2 ^ 62) ≤ j ∧ j < 2 ^ 62) ∧ QS ⟨(List.range (j - i).toNat).map fun (k : Nat) => D.int (i + k), none⟩ T2) E) E := id rfl
theorem zBN {a b : IE} : evI G (.rngW a b) de T QS E = evE G a de T (fun x T1 => evE G b de T1 (fun y T2 => ∃ i j, x = .int i ∧ y = .int j ∧ QS ⟨(List.range (j - i).toNat).map fun (k : Nat) => D.int (i + k), none⟩ T2) E) E := id rfl
theorem zBO {a b c : IE} : evI G (.rng3 a b c) de T QS E = evE G a de T (fun x T1 => evE G b de T1 (fun y T2 => evE G c de T2 (fun z T3 => ∃ i j, x = .int i ∧ y = .int j ∧ z = .int (-1) ∧ (-(2 ^ 62) ≤ i ∧ i < 2 ^ 62 ∧ -(2 ^ 62) ≤ j ∧ j < 2 ^ 62) ∧ QS ⟨(List.range (i - j).toNat).map fun (k : Nat) => D.int (i - k), none⟩ T3) E) E) E := id rfl
theorem zBP {e : IE} : evI G (.enum e) de T QS E = evE G e de T (fun x T1 => enumD x T1 QS) E := id rfl
theorem zBQ {ds : List D} : enumD (.lst ds) T QS = QS ⟨numbered ds, none⟩ T := by unfold enumD; simp [frzSeq]
theorem zBR {ds : List D} : enumD (.tup ds) T QS = QS ⟨numbered ds, none⟩ T := by unfold enumD; simp [frzSeq]
theorem zBS {p : Addr} {ds : List D} (h : T p = some (.lst ds)) : enumD (.ref p) T QS = QS ⟨numbered ds, some (p, .lst ds)⟩ T := by unfold enumD; simp [h]
theorem zBT {a b : IE} : evI G (.zip a b) de T QS E = evE G a de T (fun x T1 => evE G b de T1 (fun y T2 => ∃ ds es, frzSeq x = some ds ∧ frzSeq y = some es ∧ QS ⟨ds.zipWith (fun d e => D.tup [d, e]) es, none⟩ T2) E) E := id rfl
variable {Dd : DEnds}
theorem zBU : evS G .pass Dd de T = Dd.nx de T := id rfl
theorem zBV {e : IE} : evS G (.expr e) Dd de T = evE G e de T (fun _ T1 => Dd.nx de T1) (fun x T1 => Dd.ex x de T1) := id rfl
theorem zBW {e : IE} : evS G (.ret e) Dd de T = evE G e de T Dd.rt (fun x T1 => Dd.ex x de T1) := id rfl
theorem zBX : evS G .retN Dd de T = Dd.rt .non T := id rfl
theorem zBY {i : Nat} {e : IE} : evS G (.set i e) Dd de T = evE G e de T (fun d T1 => Dd.nx (de.set i (some d)) T1) (fun x T1 => Dd.ex x de T1) := id rfl
theorem zBZ {i j : Nat} {a b : IE} : evS G (.par i j a b) Dd de T = evE G a de T (fun x T1 => evE G b de T1 (fun y T2 => Dd.nx ((de.set i (some x)).set j (some y)) T2) (fun x T1 => Dd.ex x de T1)) (fun x T1 => Dd.ex x de T1) := id rfl
theorem zC0 {t : Tgt} {e : IE} : evS G (.unp t e) Dd de T = evE G e de T (fun d T1 => ∃ de1, bindT t d de = some de1 ∧ Dd.nx de1 T1) (fun x T1 => Dd.ex x de T1) := id rfl
theorem zC1 {o i e : IE} : evS G (.put o i e) Dd de T = evE G e de T (fun v T1 => evE G o de T1 (fun x T2 => evE G i de T2 (fun y T3 => dPut x y v T3 fun T4 => Dd.nx de T4) (fun x T1 => Dd.ex x de T1)) (fun x T1 => Dd.ex x de T1)) (fun x T1 => Dd.ex x de T1) := id rfl
theorem zC2 {o i e : IE} : evS G (.aug o i e) Dd de T = evE G o de T (fun x T1 => evE G i de T1 (fun y T2 => dGetI x y T2 fun z T3 => evE G e de T3 (fun v T4 => ∃ j k, z = .int j ∧ v = .int k ∧ dPut x y (.int (j + k)) T4 fun T5 => Dd.nx de T5) (fun x T1 => Dd.ex x de T1)) (fun x T1 => Dd.ex x de T1)) (fun x T1 => Dd.ex x de T1) := id rfl
theorem zC3 {c : IT} {a b : List IS} : evS G (.ite c a b) Dd de T = evT G c de T (fun k T1 => if k = true then evSs G a Dd de T1 else evSs G b Dd de T1) (fun x T1 => Dd.ex x de T1) := id rfl
theorem zC4 {g : Tgt} {it : II} {body : List IS} : evS G (.for_ g it body) Dd de T = evI G it de T (fun src T1 => forL g src (evSs G body) Dd src.xs de T1) (fun x T1 => Dd.ex x de T1) := id rfl
theorem zC5 {c : IT} {body : List IS} : evS G (.while_ c body) Dd de T = ∃ W : Nat → DEnv → DH → Prop, (∃ m, W m de T) ∧ ∀ m de T, W m de T →
      evT G c de T (fun k T1 => if k = true then evSs G body { Dd with nx := fun de2 T2 => ∃ m', m' < m ∧ W m' de2 T2 } de T1 else Dd.nx de T1) (fun x T1 => Dd.ex x de T1) := id rfl
theorem zC6 {c : Str} : evS G (.raise c) Dd de T = Dd.ex ⟨c, []⟩ de T := id rfl
theorem zC7 {c : Str} {fs : List Str} {es : List IE} : evS G (.raiseA c fs es) Dd de T = evEs G es de T (fun ds T1 => Dd.ex ⟨c, (fs.zip ds).reverse⟩ de T1) (fun x T1 => Dd.ex x de T1) := id rfl
theorem zC8 {ks cs : List Str} {body : List IS} {h : HK} : evS G (.try_ ks cs body h) Dd de T = evSs G body { Dd with ex := fun x de1 T1 => x.c ∈ ks ∧ if (cs.any fun d => isEx d x.c) = true then hkD h x Dd de1 T1 else thru x.c ∧ Dd.ex x de1 T1 } de T := id rfl
theorem zC9 : evSs G [] Dd de T = Dd.nx de T := id rfl
theorem zCA {s : IS} {r : List IS} : evSs G (s :: r) Dd de T = evS G s { Dd with nx := fun de1 T1 => evSs G r Dd de1 T1 } de T := id rfl
theorem zCB : (endsD Q E).nx de T = RetD Q .non T := id rfl
theorem zCC : (endsD Q E).rt = RetD Q := id rfl
theorem zCD {x : Exn} : (endsD Q E).ex x de T = E x T := id rfl
theorem zCE {i : Nat} {d : D} : bindT (.nm i) d de = some (de.set i (some d)) := by unfold bindT; rfl
theorem zCF {ts : List Tgt} {ds : List D} : bindT (.tp ts) (.tup ds) de = bindTs ts ds de := by rw [bindT]
theorem zCG : bindTs [] [] de = some de := by rw [bindTs]
theorem zCH {i : Nat} {ts : List Tgt} {d : D} {ds : List D} : bindTs (.nm i :: ts) (d :: ds) de = bindTs ts ds (de.set i (some d)) := by rw [bindTs, zCE]
/-! ### operations on known values -/
section
variable {m : Bool} {i j : Int} {s t : Str} {ds es : List D} {p : Addr} {k : Bool → Prop}
theorem zCI : newL true ds T Q = ∀ p, T p = none → Q (.ref p) (updD T p (.lst ds)) := id rfl
theorem zCJ : newL false ds T Q = Q (.lst ds) T := id rfl
theorem zCK {x y : D} : dBin .add m x y T Q = dAdd m x y T Q := id rfl
theorem zCL : dBin .sub m (.int i) (.int j) T Q = Q (.int (i - j)) T := id rfl
theorem zCM {x y : D} : dBin .mul m x y T Q = dMul m x y T Q := id rfl
theorem zCN : dBin .fdiv m (.int i) (.int j) T Q = ((0 < j ∧ j.natAbs.log2 < 9000) ∧ Q (.int (i / j)) T) := id rfl
theorem zCO : dBin .mod m (.int i) (.int j) T Q = (0 < j ∧ Q (.int (i % j)) T) := id rfl
theorem zCP : dBin .pow m (.int i) (.int j) T Q = ((0 ≤ j ∧ j ≤ 1000000 ∧ i.natAbs < 2 ^ 64) ∧ Q (.int (i ^ j.toNat)) T) := id rfl
theorem zCQ : dAdd m (.int i) (.int j) T Q = Q (.int (i + j)) T := id rfl
theorem zCR : dAdd m (.str s) (.str t) T Q = (s.length + t.length ≤ sizeLine ∧ Q (.str (s ++ t)) T) := id rfl
theorem zCS : dAdd m (.tup ds) (.tup es) T Q = (ds.length + es.length ≤ sizeLine ∧ Q (.tup (ds ++ es)) T) := id rfl
theorem zCT : dAdd m (.lst ds) (.lst es) T Q = (ds.length + es.length ≤ sizeLine ∧ newL m (ds ++ es) T Q) := by
  unfold dAdd; dsimp only; simp [lstD]
theorem zCU : dMul m (.int i) (.int j) T Q = (i.natAbs.log2 + j.natAbs.log2 < 1000000 ∧ Q (.int (i * j)) T) := id rfl
theorem zCV : dMul m (.tup ds) (.int 1) T Q = Q (.tup ds) T := by unfold dMul; simp
theorem zCW {d : D} : dMul m (.tup (d :: ds)) (.int 0) T Q = Q (.tup []) T := by unfold dMul; simp
theorem zCX : dMul m (.str s) (.int j) T Q = (0 ≤ j ∧ j ≤ 1000 ∧ s.length ≤ 1000 ∧ Q (.str (repS s j.toNat)) T) := id rfl
theorem zCY : dMul m (.lst ds) (.int j) T Q = (-(2 ^ 63) ≤ j ∧ j < 2 ^ 63 ∧ ds.length * j.toNat ≤ sizeLine ∧ newL m (List.replicate j.toNat ds).flatten T Q) := by
  unfold dMul; dsimp only; simp [lstD]
theorem zCZ {a b : Int} : rgD true m a b T Q = Q (.tup ((intsFrom a b).map .int)) T := id rfl
theorem zD0 {a b : Int} : rgD false m a b T Q = newL m ((intsFrom a b).map .int) T Q := id rfl
theorem zD1 {i : Int} : (some i).getD 0 = i := id rfl
theorem zD2 : (none : Option Int).getD 0 = 0 := id rfl
theorem zD3 : dNeg (.int i) T Q = Q (.int (-i)) T := id rfl
theorem zD4 {us ts : List Tgt} {d : List D} {ds : List D} : bindTs (.tp us :: ts) (.tup d :: ds) de = (bindTs us d de).bind (bindTs ts ds) := by rw [bindTs, zCF]; cases bindTs us d de <;> rfl
theorem zD5 {o : DEnv} {f : DEnv → Option DEnv} : (some o : Option DEnv).bind f = f o := id rfl
theorem zD6 : newDict 0 = .dK [] := id rfl
theorem zD7 : newDict 1 = .dT [] := id rfl
theorem zD8 : newDict 2 = .dN [] := id rfl
theorem zD9 {x : Int} : dInr (.int x) (.int i) (.int j) k = k (decide (i ≤ x ∧ x < j)) := id rfl
theorem zDA : dCmp .lt (.int i) (.int j) T Q = Q (.bl (decide (i < j))) T := id rfl
theorem zDB : dCmp .le (.int i) (.int j) T Q = Q (.bl (decide (i ≤ j))) T := id rfl
theorem zDC : dCmp .gt (.int i) (.int j) T Q = Q (.bl (decide (j < i))) T := id rfl
theorem zDD : dCmp .ge (.int i) (.int j) T Q = Q (.bl (decide (j ≤ i))) T := id rfl
theorem zDE {x y : D} : dCmp .eq x y T Q = dEq T x y fun b => Q (.bl b) T := id rfl
theorem zDF {x y : D} : dCmp .ne x y T Q = dEq T x y fun b => Q (.bl (!b)) T := id rfl
theorem zDG {x : D} : dCmp .isN x .non T Q = Q (.bl (isNonD x)) T := id rfl
theorem zDH {b c : Bool} : dCmp .isN (.bl c) (.bl b) T Q = Q (.bl (decide (c = b))) T := by
  unfold dCmp dIsN; simp
theorem zDI {b c : Bool} : dCmp .notN (.bl c) (.bl b) T Q = Q (.bl (!decide (c = b))) T := by
  unfold dCmp dIsN; simp
theorem zDJ {x : D} : dCmp .notN x .non T Q = Q (.bl (!isNonD x)) T := id rfl
theorem zDK {x y : D} : dCmp .isin x y T Q = dIn T x y fun b => Q (.bl b) T := id rfl
theorem zDL {x y : D} : dCmp .notin x y T Q = dIn T x y fun b => Q (.bl (!b)) T := id rfl
theorem zDM : dEq T (.int i) (.int j) k = k (decide (i = j)) := id rfl
theorem zDN : dEq T (.str s) (.str t) k = k (decide (s = t)) := id rfl
theorem zDO {b c : Bool} : dEq T (.bl b) (.bl c) k = k (decide (b = c)) := id rfl
theorem zDP : isDic T (.lst ds) = false := id rfl
theorem zDQ : isDic T (.tup ds) = false := id rfl
theorem zDR {ns : List Int} : isDic T (.scr ns) = false := id rfl
theorem zDS : dIx (.tup ds) (.int i) T Q = ∃ d, atI ds i = some d ∧ Q d T := by
  unfold dIx; dsimp only; simp only [zDQ, Bool.false_eq_true, false_and, false_or]
  exact propext ⟨fun ⟨ds', n, d, e, h, h2, h3⟩ => by cases e; cases h; exact ⟨d, h2, h3⟩, fun ⟨d, h2, h3⟩ => ⟨ds, i, d, rfl, rfl, h2, h3⟩⟩
theorem zDT : dIx (.lst ds) (.int i) T Q = ∃ d, atI ds i = some d ∧ Q d T := by
  unfold dIx; dsimp only; simp only [zDP, Bool.false_eq_true, false_and, false_or]
  exact propext ⟨fun ⟨ds', n, d, e, h, h2, h3⟩ => by cases e; cases h; exact ⟨d, h2, h3⟩, fun ⟨d, h2, h3⟩ => ⟨ds, i, d, rfl, rfl, h2, h3⟩⟩
theorem zDU {ns : List Int} : dIx (.scr ns) (.int i) T Q = ∃ d, atI (ns.map D.int) i = some d ∧ Q d T := by
  unfold dIx; dsimp only; simp only [zDR, Bool.false_eq_true, false_and, false_or]
  exact propext ⟨fun ⟨ds', n, d, e, h, h2, h3⟩ => by cases e; cases h; exact ⟨d, h2, h3⟩, fun ⟨d, h2, h3⟩ => ⟨_, i, d, rfl, rfl, h2, h3⟩⟩
theorem zDV (h : T p = some (.lst ds)) : dIx (.ref p) (.int i) T Q = ∃ d, atI ds i = some d ∧ Q d T := by
  have e : isDic T (.ref p) = false := by unfold isDic; simp [h]
  have e2 : seqD T (.ref p) = some ds := by unfold seqD; simp [h]
  unfold dIx; dsimp only; simp only [e, e2, Bool.false_eq_true, false_and, false_or]
  exact propext ⟨fun ⟨ds', n, d, e, h, h2, h3⟩ => by cases e; cases h; exact ⟨d, h2, h3⟩, fun ⟨d, h2, h3⟩ => ⟨ds, i, d, rfl, rfl, h2, h3⟩⟩
theorem zDW {kvs : List (Key × D)} (h : T p = some (.dK kvs)) : dIx (.ref p) (.str s) T Q = ∃ d, getK kvs (.inr s) = some d ∧ Q d T := by
  have e : isDic T (.ref p) = true := by unfold isDic; simp [h]
  have e2 : dget T (.ref p) (.str s) = some (getK kvs (.inr s)) := by unfold dget; simp [h, keyD]
  unfold dIx; dsimp only; simp only [e, e2, true_and]
  refine propext ⟨fun z => ?_, fun ⟨d, h2, h3⟩ => .inl ⟨d, by rw [h2], h3⟩⟩
  rcases z with ⟨d, h2, h3⟩ | ⟨ds, n, d, z, _⟩
  · exact ⟨d, Option.some.inj h2, h3⟩
  · cases z
theorem zDX {kvs : List (Key × D)} (h : T p = some (.dK kvs)) : dIx (.ref p) (.int i) T Q = ∃ d, getK kvs (.inl i) = some d ∧ Q d T := by
  have e : isDic T (.ref p) = true := by unfold isDic; simp [h]
  have e2 : dget T (.ref p) (.int i) = some (getK kvs (.inl i)) := by unfold dget; simp [h, keyD]
  have e3 : seqD T (.ref p) = none := by unfold seqD; simp [h]
  unfold dIx; dsimp only; simp only [e, e2, e3, true_and]
  refine propext ⟨fun z => ?_, fun ⟨d, h2, h3⟩ => .inl ⟨d, by rw [h2], h3⟩⟩
  rcases z with ⟨d, h2, h3⟩ | ⟨ds, n, d, _, z, _⟩
  · exact ⟨d, Option.some.inj h2, h3⟩
  · cases z
theorem zDY {v : D} {K : DH → Prop} {kvs : List (Key × D)} (h : T p = some (.dK kvs)) : dPut (.ref p) (.str s) v T K = (kvs.length < sizeLine ∧ K (updD T p (.dK (putKD kvs (.inr s) v)))) := by
  unfold dPut; simp [h, keyD]
theorem zDZ {v : D} {K : DH → Prop} {kvs : List (Key × D)} (h : T p = some (.dK kvs)) : dPut (.ref p) (.int i) v T K = (kvs.length < sizeLine ∧ K (updD T p (.dK (putKD kvs (.inl i) v)))) := by
  unfold dPut; simp [h, keyD]
theorem zE0 : dIx (.str s) (.int i) T Q = (s.length ≤ sizeLine ∧ ∃ c, atI s.cps.toList i = some c ∧ Q (.str ⟨#[c]⟩) T) := id rfl
theorem zE1 {v : D} {K : DH → Prop} (h : T p = some (.lst ds)) : dPut (.ref p) (.int i) v T K = ∃ j, ixN ds.length i = some j ∧ K (updD T p (.lst (ds.set j v))) := by
  unfold dPut; simp [h]
theorem zE2 {d : D} {n : Int} (h : T p = some (.lst ds)) (h0 : 0 ≤ n) (h1 : n < 2 ^ 63) (hd : ds[n.toNat]? = some d) (q : Q d T) : dGetI (.ref p) (.int n) T Q := ⟨ds, n, d, h, rfl, h0, h1, hd, q⟩
theorem zE3 {xs : List D} : dFn .len m xs T Q = dLen xs T Q := id rfl
theorem zE4 : dLen [.tup ds] T Q = Q (.int ds.length) T := by unfold dLen; simp [szOk, lenD, seqD]
theorem zE5 : dLen [.lst ds] T Q = Q (.int ds.length) T := by unfold dLen; simp [szOk, lenD, seqD]
theorem zE6 {ns : List Int} : dLen [.scr ns] T Q = Q (.int ns.length) T := by unfold dLen; simp [szOk, lenD, seqD]
theorem zE7 : dLen [.str s] T Q = (s.length ≤ sizeLine ∧ Q (.int s.length) T) := by unfold dLen; simp [szOk, lenD, seqD]
theorem zE8 (h : T p = some (.lst ds)) : dLen [.ref p] T Q = Q (.int ds.length) T := by unfold dLen; simp [szOk, lenD, seqD, h]
theorem zE9 {xs : List D} : dFn .repr m xs T Q = dRepr xs T Q := id rfl
theorem zEA : dFn .abs m [.int i] T Q = Q (.int (if i < 0 then -i else i)) T := id rfl
theorem zEB : dFn .min m [.int i, .int j] T Q = Q (.int (if j < i then j else i)) T := id rfl
theorem zEC : dFn .max m [.int i, .int j] T Q = Q (.int (if j > i then j else i)) T := id rfl
theorem zED : dFn .int m [.int i] T Q = Q (.int i) T := id rfl
theorem zEE {b : Bool} : dFn .int m [.bl b] T Q = Q (.int (if b then 1 else 0)) T := id rfl
theorem zEF : dFn .str m [.int i] T Q = (i.natAbs.log2 < 1920 ∧ Q (.str (toString i)) T) := id rfl
theorem zEG : dFn .sum m [.lst ds] T Q = ∃ ns, intsD ds = some ns ∧ Q (.int ns.sum) T := by unfold dFn; dsimp only; unfold dSum; simp [lstD]
theorem zEH {xs : List D} : dFn .sorted m xs T Q = dSorted m xs T Q := id rfl
theorem zEI {xs : List D} : dFn .all m xs T Q = dAll xs T Q := id rfl
theorem zEJ {bs : List Bool} : dAll [.lst (bs.map .bl)] T Q = Q (.bl (bs.all id)) T := by
  unfold dAll; dsimp only; simp only [lstD]
  refine propext ⟨fun ⟨ds, bs', e, e2, h⟩ => ?_, fun h => ⟨_, bs, rfl, rfl, h⟩⟩
  cases e
  have : bs' = bs := by
    have inj : ∀ (a b : List Bool), a.map D.bl = b.map D.bl → b = a := by
      intro a
      induction a with
      | nil => intro b h; cases b with | nil => rfl | cons _ _ => cases h
      | cons x xs ih =>
        intro b h
        cases b with
        | nil => cases h
        | cons y ys =>
          rw [List.map_cons, List.map_cons, List.cons.injEq] at h
          rw [ih ys h.2, D.bl.inj h.1]
    exact inj _ _ e2
  rw [← this]; exact h
theorem zEK : dFn .list m [.tup ds] T Q = newL m ds T Q := by unfold dFn; dsimp only; unfold dList; simp [seqD]
theorem zEL : dFn .list m [.lst ds] T Q = newL m ds T Q := by unfold dFn; dsimp only; unfold dList; simp [seqD]
theorem zEM {ns : List Int} : dFn .list m [.scr ns] T Q = newL m (ns.map D.int) T Q := by unfold dFn; dsimp only; unfold dList; simp [seqD]
theorem zEN (h : T p = some (.lst ds)) : dFn .list m [.ref p] T Q = newL m ds T Q := by unfold dFn; dsimp only; unfold dList; simp [seqD, h]
theorem zEO : dFn .tuple m [.lst ds] T Q = Q (.tup ds) T := by unfold dFn; dsimp only; unfold dTuple; simp [seqD]
theorem zEP : dFn .tuple m [.tup ds] T Q = Q (.tup ds) T := by unfold dFn; dsimp only; unfold dTuple; simp [seqD]
theorem zEQ (h : T p = some (.lst ds)) : dFn .tuple m [.ref p] T Q = Q (.tup ds) T := by unfold dFn; dsimp only; unfold dTuple; simp [seqD, h]
variable {lo hi : Option Int}
theorem zER : dSl m (.tup ds) lo hi T Q = Q (.tup (cutD ds lo hi)) T := id rfl
theorem zES : dSl m (.lst ds) lo hi T Q = newL m (cutD ds lo hi) T Q := by unfold dSl; simp [lstD]
theorem zET {ns : List Int} : dSl m (.scr ns) lo hi T Q = newL m (cutD (ns.map D.int) lo hi) T Q := id rfl
theorem zEU : dSl m (.str s) lo hi T Q = (s.length ≤ sizeLine ∧ Q (.str ⟨(cutD s.cps.toList lo hi).toArray⟩) T) := id rfl
theorem zEV (h : T p = some (.lst ds)) : dSl m (.ref p) lo hi T Q = newL m (cutD ds lo hi) T Q := by unfold dSl; simp [lstD, h]
theorem zEW : dRev m (.tup ds) T Q = Q (.tup ds.reverse) T := id rfl
theorem zEX : dRev m (.lst ds) T Q = newL m ds.reverse T Q := by unfold dRev; simp [lstD]
theorem zEY {o x : D} : dMth .append m o [x] T Q = dAppend o [x] T Q := id rfl
theorem zEZ {x : D} (h : T p = some (.lst ds)) : dAppend (.ref p) [x] T Q = (ds.length < sizeLine ∧ Q .non (updD T p (.lst (ds ++ [x])))) := by unfold dAppend; simp [h]
theorem zF0 {o x : D} : dMth .extend m o [x] T Q = dExtend o [x] T Q := id rfl
theorem zF1 (h : T p = some (.lst ds)) : dExtend (.ref p) [.lst es] T Q = (ds.length + es.length ≤ sizeLine ∧ Q .non (updD T p (.lst (ds ++ es)))) := by unfold dExtend; simp [h, extD, lstD]
theorem zF2 (h : T p = some (.lst ds)) : dExtend (.ref p) [.tup es] T Q = (ds.length + es.length ≤ sizeLine ∧ Q .non (updD T p (.lst (ds ++ es)))) := by unfold dExtend; simp [h, extD]
theorem zF3 {xs : List D} : dMth .join m (.str s) xs T Q = dJoin (.str s) xs T Q := id rfl
theorem zF4 : dJoin (.str s) [.lst ds] T Q = ∃ zs, strsD ds = some zs ∧ (zs.map (·.length)).sum + zs.length * s.length ≤ 16777216 ∧ Q (.str (Str.join s zs)) T := by unfold dJoin; simp [seqD]
theorem zF5 {o : D} {xs : List D} : dMth .get m o xs T Q = dGetM o xs T Q := id rfl
theorem zF6 {xs : List D} : dMth .upper m (.str s) xs T Q = dUpper (.str s) xs T Q := id rfl
theorem zF7 : dUpper (.str s) [] T Q = ((∀ c ∈ s.cps.toList, c < 128) ∧ s.length ≤ 1000000 ∧ Q (.str ⟨s.cps.map up1⟩) T) := id rfl
theorem zF8 : mthOk .upper T (.str s) = True := by simp [mthOk, isStrD]
theorem zF9 : mthOk .join T (.str s) = True := by simp [mthOk, isStrD]
theorem zFA (h : T p = some (.lst ds)) : mthOk .append T (.ref p) = True := by simp [mthOk, lstD, h]
theorem zFB (h : T p = some (.lst ds)) : mthOk .extend T (.ref p) = True := by simp [mthOk, lstD, h]
theorem zFC : truD T .non = some false := id rfl
theorem zFD {b : Bool} : truD T (.bl b) = some b := id rfl
theorem zFE : truD T (.int i) = some (i != 0) := id rfl
theorem zFF : truD T (.tup ds) = some (!ds.isEmpty) := id rfl
theorem zFG : truD T (.lst ds) = some (!ds.isEmpty) := id rfl
theorem zFH {u : Ty} : dIsi T .non u Q = Q (.bl false) T := id rfl
theorem zFI {x : D} {u v : Ty} (hn : x ≠ .non) (h : tyD T x = some v) (q : Q (.bl (decide (v = u) || (decide (v = .bool) && decide (u = .int)))) T) : dIsi T x u Q := by
  unfold dIsi; split
  · exact absurd rfl hn
  · exact ⟨v, h, q⟩
theorem zFJ {u : Ty} : dIsi T (.int i) u Q = Q (.bl (decide (Ty.int = u))) T := by unfold dIsi; simp [tyD]
theorem zFK {b : Bool} {u : Ty} : dIsi T (.bl b) u Q = Q (.bl (decide (Ty.bool = u) || decide (u = .int))) T := by unfold dIsi; simp [tyD]
theorem zFL {u : Ty} : dIsi T (.str s) u Q = Q (.bl (decide (Ty.str = u))) T := by unfold dIsi; simp [tyD]
theorem zFM {u : Ty} : dIsi T (.tup ds) u Q = Q (.bl (decide (Ty.tuple = u))) T := by unfold dIsi; simp [tyD]
theorem zFN {u : Ty} : dIsi T (.lst ds) u Q = Q (.bl (decide (Ty.list = u))) T := by unfold dIsi; simp [tyD]
theorem zFO {u : Ty} : dIsi T .emp u Q = Q (.bl (decide (Ty.dict = u))) T := by unfold dIsi; simp [tyD]
theorem zFP {u : Ty} (h : T p = some (.lst ds)) : dIsi T (.ref p) u Q = Q (.bl (decide (Ty.list = u))) T := by unfold dIsi; simp [tyD, h]
end
theorem zFQ {α : Type} {xs : List α} {n : Nat} : atI xs (n : Int) = xs[n]? := by
  unfold atI ixN
  rw [if_pos (Int.natCast_nonneg n)]
  by_cases h : n < xs.length
  · rw [if_pos (by omega)]; simp
  · rw [if_neg (by omega), List.getElem?_eq_none (by omega)]; rfl
theorem zFR {α : Type} {xs : List α} : atI xs 0 = xs[0]? := zFQ (n := 0)
theorem zFS {α : Type} {xs : List α} : atI xs 1 = xs[1]? := zFQ (n := 1)
theorem zFT {α : Type} {xs : List α} : atI xs 2 = xs[2]? := zFQ (n := 2)
theorem zFU {α : Type} {xs : List α} : atI xs 3 = xs[3]? := zFQ (n := 3)
theorem zFV {α : Type} {xs : List α} : atI xs 4 = xs[4]? := zFQ (n := 4)
theorem zFW {α : Type} {xs : List α} : atI xs 5 = xs[5]? := zFQ (n := 5)
theorem zFX {α : Type} {xs : List α} {i : Int} (h0 : 0 ≤ i) (h : i < xs.length) : ∃ (hi : i.toNat < xs.length), atI xs i = some xs[i.toNat] := by
  have e : i = ((i.toNat : Nat) : Int) := by omega
  have hi : i.toNat < xs.length := by omega
  refine ⟨hi, ?_⟩
  have q : atI xs ((i.toNat : Nat) : Int) = some xs[i.toNat] := by rw [zFQ, List.getElem?_eq_getElem hi]
  rw [← e] at q
  exact q
theorem zFY {α : Type} {xs : List α} {i : Int} (h0 : 0 ≤ i) (h : i < xs.length) : ∃ d, d ∈ xs ∧ atI xs i = some d := by
  obtain ⟨hi, e⟩ := zFX h0 h
  exact ⟨_, List.getElem_mem hi, e⟩
/-! ### loops -/
/-- with an invariant by the turn -/
theorem zFZ {g : Tgt} {src : Src} {body : TDS} {D : DEnds} (P : Nat → DEnv → DH → Prop) {xs : List DL.D} {de : DEnv} {T : DH} (h0 : P 0 de T) (hs : ∀ i de T, P i de T → i ≤ xs.length → src.ok T)
    (step : ∀ i x de T (K : DEnv → DH → Prop), xs[i]? = some x → P i de T → (∀ de' T', P (i + 1) de' T' → K de' T') → ∃ de1, bindT g x de = some de1 ∧ body { D with nx := K } de1 T)
    (fin : ∀ de T, P xs.length de T → D.nx de T) : forL g src body D xs de T := by
  have key : ∀ (n : Nat) (i : Nat) (de : DEnv) (T : DH), xs.length - i = n → i ≤ xs.length → P i de T → forL g src body D (xs.drop i) de T := by
    intro n
    induction n with
    | zero =>
      intro i de T hn hi p
      have e : i = xs.length := by omega
      subst e
      rw [List.drop_length]
      unfold forL
      exact ⟨hs _ _ _ p hi, fin _ _ p⟩
    | succ n ih =>
      intro i de T hn hi p
      have hlt : i < xs.length := by omega
      rw [List.drop_eq_getElem_cons hlt]
      unfold forL
      obtain ⟨de1, h1, h2⟩ := step i xs[i] de T (fun de2 T2 => forL g src body D (xs.drop (i + 1)) de2 T2) (List.getElem?_eq_getElem hlt) p fun de' T' p' => ih (i + 1) de' T' (by omega) (by omega) p'
      exact ⟨hs _ _ _ p hi, de1, h1, h2⟩
  have q := key xs.length 0 de T (by omega) (Nat.zero_le _) h0
  simpa using q
theorem zG0 {g : Tgt} {src : Src} {ct : TDT} {ce : TDE} {de : DEnv} {Q : List D → DH → Prop} (P : Nat → List D → DH → Prop) {xs : List D} {T : DH} (h0 : P 0 [] T) (hs : ∀ i acc T, P i acc T → i ≤ xs.length → src.ok T)
    (step : ∀ i x acc T (K : List D → DH → Prop), xs[i]? = some x → P i acc T → (∀ acc' T', P (i + 1) acc' T' → K acc' T') → ∃ de1, bindT g x de = some de1 ∧
      ct de1 T (fun b T1 => if b = true then ce de1 T1 (fun y T2 => acc.length < sizeLine ∧ K (acc ++ [y]) T2) (fun _ _ => False) else K acc T1) (fun _ _ => False))
    (fin : ∀ acc T, P xs.length acc T → Q acc T) : lcL g src ct ce de xs [] T Q := by
  have key : ∀ (n : Nat) (i : Nat) (acc : List D) (T : DH), xs.length - i = n → i ≤ xs.length → P i acc T → lcL g src ct ce de (xs.drop i) acc T Q := by
    intro n
    induction n with
    | zero =>
      intro i acc T hn hi p
      have e : i = xs.length := by omega
      subst e
      rw [List.drop_length]
      unfold lcL
      exact ⟨hs _ _ _ p hi, fin _ _ p⟩
    | succ n ih =>
      intro i acc T hn hi p
      have hlt : i < xs.length := by omega
      rw [List.drop_eq_getElem_cons hlt]
      unfold lcL
      obtain ⟨de1, h1, h2⟩ := step i xs[i] acc T (fun acc2 T2 => lcL g src ct ce de (xs.drop (i + 1)) acc2 T2 Q) (List.getElem?_eq_getElem hlt) p fun de' T' p' => ih (i + 1) de' T' (by omega) (by omega) p'
      exact ⟨hs _ _ _ p hi, de1, h1, h2⟩
  have q := key xs.length 0 [] T (by omega) (Nat.zero_le _) h0
  simpa using q
/-- a comprehension that only reads -/
theorem zG1 {g : Tgt} {src : Src} {ct : TDT} {ce : TDE} {de : DEnv} {Q : List D → DH → Prop} (p : D → Bool) (f : D → D) {xs : List D} {T : DH} (so : src.ok T) (hl : xs.length ≤ sizeLine)
    (step : ∀ x ∈ xs, ∃ de1, bindT g x de = some de1 ∧ ∀ K : Bool → DH → Prop, K (p x) T → ct de1 T K (fun _ _ => False))
    (elt : ∀ x ∈ xs, p x = true → ∀ de1, bindT g x de = some de1 → ∀ K : DQ, K (f x) T → ce de1 T K (fun _ _ => False))
    (fin : Q ((xs.filter p).map f) T) : lcL g src ct ce de xs [] T Q := by
  refine zG0 (fun i acc T' => T' = T ∧ acc = ((xs.take i).filter p).map f) ⟨rfl, by simp⟩ (fun i acc T' ⟨e, _⟩ _ => by rw [e]; exact so) (fun i x acc T' K hx ⟨e, ea⟩ hK => ?_) fun acc T' ⟨e, ea⟩ => by rw [e, ea, List.take_length]; exact fin
  subst e
  have hm : x ∈ xs := List.mem_of_getElem? hx
  obtain ⟨de1, h1, h2⟩ := step x hm
  have ht : xs.take (i + 1) = xs.take i ++ [x] := by rw [List.take_add_one, hx]; rfl
  refine ⟨de1, h1, h2 _ ?_⟩
  cases hp : p x with
  | false =>
    simp only [Bool.false_eq_true, if_false]
    refine hK _ _ ⟨rfl, ?_⟩
    rw [ht, List.filter_append, ea]
    simp [hp]
  | true =>
    simp only [if_true]
    refine elt x hm hp de1 h1 _ ⟨?_, hK _ _ ⟨rfl, ?_⟩⟩
    · rw [ea, List.length_map]
      have q1 := List.length_filter_le p (xs.take i)
      have q2 : (xs.take i).length ≤ i := by rw [List.length_take]; omega
      have q3 : i < xs.length := (List.getElem?_eq_some_iff.mp hx).1
      omega
    · rw [ht, List.filter_append, ea]
      simp [hp]
/-! ### equality of data -/
mutual
def toPy : D → PyData
  | .non => .none
  | .bl b => .bool b
  | .int i => .int i
  | .str x => .str x
  | .tup ds => .tuple (toPys ds)
  | .lst ds => .list (toPys ds)
  | .emp => .dict []
  | .scr ns => .list (ns.map .int)
  | .ref _ => .none
def toPys : List D → List PyData
  | [] => []
  | d :: ds => toPy d :: toPys ds
end
mutual
/-- no addresses, texts that can be laid -/
def plD : D → Bool
  | .non => true
  | .bl _ => true
  | .int _ => true
  | .str x => PyData.strOk x
  | .tup ds => plDs ds
  | .lst ds => plDs ds
  | .emp => false
  | .scr _ => false
  | .ref _ => false
def plDs : List D → Bool
  | [] => true
  | d :: ds => plD d && plDs ds
end
mutual
def dpD : D → Nat
  | .tup ds => dpDs ds + 1
  | .lst ds => dpDs ds + 1
  | .emp => 1
  | _ => 0
def dpDs : List D → Nat
  | [] => 0
  | d :: ds => max (dpD d) (dpDs ds)
end
mutual
theorem zG2 {T : DH} : ∀ (d : D), plD d = true → pyD T d = some (toPy d) ∧ (toPy d).canLay0 = true ∧ (toPy d).depth = dpD d
  | .non, _ => by simp [pyD, toPy, PyData.canLay0, PyData.depth, dpD]
  | .bl _, _ => by simp [pyD, toPy, PyData.canLay0, PyData.depth, dpD]
  | .int _, _ => by simp [pyD, toPy, PyData.canLay0, PyData.depth, dpD]
  | .str x, h => by
    unfold plD at h
    simp [pyD, toPy, PyData.canLay0, PyData.depth, dpD, h]
  | .tup ds, h => by
    unfold plD at h
    obtain ⟨h1, h2, h3⟩ := zG3 (T := T) ds h
    simp [pyD, toPy, PyData.canLay0, PyData.depth, dpD, h1, h2, h3]
  | .lst ds, h => by
    unfold plD at h
    obtain ⟨h1, h2, h3⟩ := zG3 (T := T) ds h
    simp [pyD, toPy, PyData.canLay0, PyData.depth, dpD, h1, h2, h3]
  | .emp, h => by unfold plD at h; cases h
  | .scr _, h => by unfold plD at h; cases h
  | .ref _, h => by unfold plD at h; cases h
theorem zG3 {T : DH} : ∀ (ds : List D), plDs ds = true → pyDs T ds = some (toPys ds) ∧ PyData.canLayAll0 (toPys ds) = true ∧ PyData.depthAll (toPys ds) = dpDs ds
  | [], _ => by simp [pyDs, toPys, PyData.canLayAll0, PyData.depthAll, dpDs]
  | d :: ds, h => by
    unfold plDs at h
    rw [Bool.and_eq_true] at h
    obtain ⟨h1, h2, h3⟩ := zG2 (T := T) d h.1
    obtain ⟨h4, h5, h6⟩ := zG3 (T := T) ds h.2
    simp [pyDs, toPys, PyData.canLayAll0, PyData.depthAll, dpDs, h1, h2, h3, h4, h5, h6]
end
mutual
theorem zG4 {rf : Addr → Option PyData} : ∀ (d : D), plD d = true → pyW rf d = some (toPy d)
  | .non, _ => rfl
  | .bl _, _ => rfl
  | .int _, _ => rfl
  | .str x, h => rfl
  | .tup ds, h => by unfold plD at h; simp [pyW, toPy, zG5 ds h]
  | .lst ds, h => by unfold plD at h; simp [pyW, toPy, zG5 ds h]
  | .emp, h => by unfold plD at h; cases h
  | .scr _, h => by unfold plD at h; cases h
  | .ref _, h => by unfold plD at h; cases h
theorem zG5 {rf : Addr → Option PyData} : ∀ (ds : List D), plDs ds = true → pyWs rf ds = some (toPys ds)
  | [], _ => rfl
  | d :: ds, h => by
    unfold plDs at h
    rw [Bool.and_eq_true] at h
    simp [pyWs, toPys, zG4 d h.1, zG5 ds h.2]
end
theorem zG6 {T : DH} {d : D} (h : plD d = true) : pyT T d = some (toPy d) := zG4 d h
/-! what stands at addresses put in its place -/
mutual
inductive Rsd (T : DH) : Nat → D → D → Prop where
  | same {n : Nat} (d : D) : Rsd T n d d
  | ref {n : Nat} {a : Addr} {ds es : List D} : T a = some (.lst ds) → Rsds T n ds es → Rsd T (n + 1) (.ref a) (.lst es)
  | tup {n : Nat} {ds es : List D} : Rsds T n ds es → Rsd T n (.tup ds) (.tup es)
  | lst {n : Nat} {ds es : List D} : Rsds T n ds es → Rsd T n (.lst ds) (.lst es)
inductive Rsds (T : DH) : Nat → List D → List D → Prop where
  | same {n : Nat} (ds : List D) : Rsds T n ds ds
  | cons {n : Nat} {d e : D} {ds es : List D} : Rsd T n d e → Rsds T n ds es → Rsds T n (d :: ds) (e :: es)
end
mutual
theorem Rsd.py {T : DH} : ∀ {n : Nat} {d e : D}, Rsd T n d e → plD e = true → pyW (rfN T n) d = some (toPy e)
  | _, _, _, .same d, h => zG4 d h
  | _, _, _, .ref h1 h2, h => by
    unfold plD at h
    simp [pyW, rfN, h1, toPy, Rsds.py h2 h]
  | _, _, _, .tup h2, h => by unfold plD at h; simp [pyW, toPy, Rsds.py h2 h]
  | _, _, _, .lst h2, h => by unfold plD at h; simp [pyW, toPy, Rsds.py h2 h]
theorem Rsds.py {T : DH} : ∀ {n : Nat} {ds es : List D}, Rsds T n ds es → plDs es = true → pyWs (rfN T n) ds = some (toPys es)
  | _, _, _, .same ds, h => zG5 ds h
  | _, _, _, .cons h1 h2, h => by
    unfold plDs at h
    rw [Bool.and_eq_true] at h
    simp [pyWs, toPys, Rsd.py h1 h.1, Rsds.py h2 h.2]
end
theorem zG7 {d : D} (h : plD d = true) (hd : dpD d ≤ 64) : SeqAt.shaped (toPy d) = true := by
  obtain ⟨_, h2, h3⟩ := zG2 (T := fun _ => none) d h
  unfold SeqAt.shaped
  rw [h2, h3, Bool.true_and]
  exact decide_eq_true hd
theorem zG8 {T : DH} {x y : D} {k : Bool → Prop} (hx : plD x = true) (hy : plD y = true) (dx : dpD x ≤ 64) (dy : dpD y ≤ 64) (h : k (PyData.eqv (toPy x) (toPy y))) : dEq T x y k := by
  unfold dEq
  split
  · unfold toPy PyData.eqv at h; rename_i i j; rw [show decide (i = j) = (i == j) from rfl]; exact h
  · unfold toPy PyData.eqv at h; rename_i i j; rw [show decide (i = j) = (i == j) from rfl]; exact h
  · unfold toPy PyData.eqv at h; rename_i i j; rw [show decide (i = j) = (i == j) from rfl]; exact h
  · exact .inl ⟨_, _, zG6 hx, zG6 hy, zG7 hx dx, zG7 hy dy, h⟩
theorem zG9 {T : DH} {x : D} {k : Bool → Prop} (hx : plD x = true) (dx : dpD x ≤ 64) (h : k true) : dEq T x x k :=
  zG8 hx hx dx dx (by rw [SeqAt.eqv_refl _ (zG2 (T := fun _ => none) x hx).2.1]; exact h)
/-- equality, lists at addresses too -/
theorem zGA {T : DH} {x y x' y' : D} {k : Bool → Prop} (rx : Rsd T 4 x x') (ry : Rsd T 4 y y') (hx : plD x' = true) (hy : plD y' = true) (dx : dpD x' ≤ 64) (dy : dpD y' ≤ 64) (h : k (PyData.eqv (toPy x') (toPy y'))) : dEq T x y k := by
  have ex := rx.py hx
  have ey := ry.py hy
  unfold dEq
  split
  · cases rx; cases ry; unfold toPy PyData.eqv at h; rename_i i j; rw [show decide (i = j) = (i == j) from rfl]; exact h
  · cases rx; cases ry; unfold toPy PyData.eqv at h; rename_i i j; rw [show decide (i = j) = (i == j) from rfl]; exact h
  · cases rx; cases ry; unfold toPy PyData.eqv at h; rename_i i j; rw [show decide (i = j) = (i == j) from rfl]; exact h
  · exact .inl ⟨_, _, ex, ey, zG7 hx dx, zG7 hy dy, h⟩
end DL

set_option linter.all false
set_option maxRecDepth 100000
set_option maxHeartbeats 4000000
namespace DL
open PySem PySem.Spec L2
theorem zGB {de : DEnv} : wipeD de [] = de := id rfl
theorem zGC {de : DEnv} {v : Nat} {vs : List Nat} : wipeD de (v :: vs) = (wipeD de vs).set v none := id rfl
def need (k : Nat) (s : DSp) (n : Nat) : DSp := fun ds T Q E => k ≤ n ∧ s ds T Q E
theorem zGD {k : Nat} {s : DSp} {ds : List D} {T : DH} {Q : DQ} {E : EQ} (hk : 0 < k) : ¬ need k s 0 ds T Q E := fun h => by have := h.1; omega
theorem zGE {α : Type} {xs : List α} {lo hi : Option Int} : (cutD xs lo hi).length ≤ xs.length := by
  unfold cutD
  rw [List.length_take, List.length_drop]; omega
theorem zGF {α : Type} {xs : List α} {lo hi : Option Int} {x : α} (h : x ∈ cutD xs lo hi) : x ∈ xs := List.mem_of_mem_drop (List.mem_of_mem_take h)
theorem zGG {α : Type} {xs : List α} {n : Int} (h : (xs.length : Int) ≤ n) : cutD xs none (some n) = xs := by
  unfold cutD
  have e1 : HT.sIx xs.length 0 none = 0 := rfl
  have e2 : HT.sIx xs.length xs.length (some n) = xs.length := by
    show (if n < 0 then (n + (xs.length : Int)).toNat else min n.toNat xs.length) = xs.length
    rw [if_neg (by omega)]; omega
  rw [e1, e2]; simp
theorem zGH {α : Type} {xs : List α} {n : Int} (h : 0 ≤ n) : cutD xs none (some n) = xs.take n.toNat := by
  unfold cutD
  have e1 : HT.sIx xs.length 0 none = 0 := rfl
  have e2 : HT.sIx xs.length xs.length (some n) = min n.toNat xs.length := by
    show (if n < 0 then (n + (xs.length : Int)).toNat else min n.toNat xs.length) = _
    rw [if_neg (by omega)]
  rw [e1, e2, List.drop_zero, Nat.sub_zero, List.take_eq_take_iff]; omega
theorem zGI {α : Type} {xs : List α} {n : Int} (h : 0 ≤ n) : cutD xs (some n) none = xs.drop n.toNat := by
  unfold cutD
  have e1 : HT.sIx xs.length 0 (some n) = min n.toNat xs.length := by
    show (if n < 0 then (n + (xs.length : Int)).toNat else min n.toNat xs.length) = _
    rw [if_neg (by omega)]
  have e2 : HT.sIx xs.length xs.length none = xs.length := rfl
  rw [e1, e2]
  by_cases hl : n.toNat ≤ xs.length
  · rw [Nat.min_eq_left hl, List.take_of_length_le (by rw [List.length_drop]; omega)]
  · rw [List.drop_eq_nil_of_le (by omega : xs.length ≤ n.toNat), Nat.min_eq_right (by omega), List.drop_length, List.take_nil]
theorem zGJ {n : Int} {k : Nat} (hk : 0 < k) (h : n.natAbs < 2 ^ k) : n.natAbs.log2 < k := by
  by_cases h0 : n.natAbs = 0
  · rw [h0]; simpa using hk
  · exact (Nat.log2_lt h0).mpr h
/-! ### texts -/
theorem zGK {n : Nat} (h : n ≤ 16777216) : n ≤ sizeLine := by rw [sizeLine_eq]; exact h
theorem zGL (s : Str) : s.length = s.cps.toList.length := by simp [Str.length]
theorem zGM (s t : Str) : (s ++ t).cps = s.cps ++ t.cps := rfl
theorem zGN (s t : Str) : (s ++ t).length = s.length + t.length := by simp [Str.length, zGM]
/-- the signs of a text keep to p -/
def sAll (p : Nat → Prop) (s : Str) : Prop := ∀ c ∈ s.cps.toList, p c
theorem zGO {p : Nat → Prop} {s t : Str} (h : sAll p s) (g : sAll p t) : sAll p (s ++ t) := fun c hc => by
  rw [zGM, Array.toList_append, List.mem_append] at hc
  exact hc.elim (h c) (g c)
theorem zGP {p : Nat → Prop} {s : Str} {c : Nat} (h : sAll p s) (hc : c ∈ s.cps.toList) : sAll p ⟨#[c]⟩ := fun d hd => by
  have e : d = c := by simpa using hd
  rw [e]; exact h c hc
theorem zGQ {p : Nat → Prop} {s : Str} {lo hi : Option Int} (h : sAll p s) : sAll p ⟨(cutD s.cps.toList lo hi).toArray⟩ := fun d hd => h d (zGF (by simpa using hd))
theorem zGR {s : Str} {lo hi : Option Int} : (⟨(cutD s.cps.toList lo hi).toArray⟩ : Str).length ≤ s.length := by
  rw [zGL, zGL]
  simpa using zGE (xs := s.cps.toList) (lo := lo) (hi := hi)
theorem zGS {s : Str} (h : sAll (· < 0x110000) s) : PyData.strOk s = true := by
  unfold PyData.strOk
  rw [Array.all_eq_true']
  intro c hc
  exact decide_eq_true (h c (by simpa using hc))
theorem zGT {c : Nat} : (⟨#[c]⟩ : Str).length = 1 := rfl
theorem zGU {s : Str} {i : Int} (h0 : 0 ≤ i) (h : i < s.length) : ∃ c, c ∈ s.cps.toList ∧ atI s.cps.toList i = some c := zFY h0 (by rw [zGL] at h; exact h)
theorem zGV {p : Nat → Prop} [DecidablePred p] {s : Str} (h : (s.cps.toList.all fun c => decide (p c)) = true) : sAll p s := fun c hc => of_decide_eq_true (List.all_eq_true.mp h c hc)
theorem zGW : ∀ (zs : List Str), strsD (zs.map D.str) = some zs
  | [] => rfl
  | z :: zs => by simp [strsD, zGW zs]
theorem zGX : ∀ (zs : List Int), intsD (zs.map D.int) = some zs
  | [] => rfl
  | z :: zs => by simp [intsD, zGX zs]
theorem zGY {zs : List Str} (h : ∀ z ∈ zs, PyData.strOk z = true) : plDs (zs.map D.str) = true := by
  induction zs with
  | nil => rfl
  | cons z zs ih =>
    rw [List.map_cons]; unfold plDs plD
    rw [h z List.mem_cons_self, ih fun y hy => h y (List.mem_cons_of_mem _ hy)]; rfl
theorem zGZ {zs : List Str} : dpDs (zs.map D.str) = 0 := by
  induction zs with
  | nil => rfl
  | cons z zs ih => rw [List.map_cons]; unfold dpDs dpD; rw [ih]; rfl
theorem zH0 {xs : List PyData} : PyData.eqvAll xs [] = xs.isEmpty := by cases xs <;> (unfold PyData.eqvAll; rfl)
theorem zH1 {T : DH} {a b : Addr} {x y : DO} (h : a ≠ b) : updD (updD T a x) b y = updD (updD T b y) a x := by
  funext c; unfold updD
  by_cases h1 : c = a
  · by_cases h2 : c = b
    · exact absurd (h1.symm.trans h2) h
    · simp [h1, h2, h]
  · by_cases h2 : c = b
    · simp [h1, h2]; exact fun e => absurd e.symm h
    · simp [h1, h2]
theorem Sub.drop {T : DH} {q : Addr} {o : DO} (h : T q = none) : Sub T (updD T q o) := Sub.refl.upd h
theorem zH2 {zs : List Int} : plDs (zs.map D.int) = true := by
  induction zs with
  | nil => rfl
  | cons z zs ih => rw [List.map_cons]; unfold plDs plD; rw [ih]; rfl
theorem zH3 {zs : List Int} : dpDs (zs.map D.int) = 0 := by
  induction zs with
  | nil => rfl
  | cons z zs ih => rw [List.map_cons]; unfold dpDs dpD; rw [ih]; rfl
/-- a frozen list against [] -/
theorem zH4 {T : DH} {ds : List D} {k : Bool → Prop} (h : plDs ds = true) (hd : dpDs ds ≤ 60) (q : k ds.isEmpty) : dEq T (.lst ds) (.lst []) k := by
  refine zG8 (by unfold plD; exact h) (by unfold plD plDs; rfl) (by unfold dpD; omega) (by unfold dpD dpDs; omega) ?_
  simp only [toPy, toPys]
  unfold PyData.eqv
  rw [zH0]
  cases ds <;> exact q
theorem zH5 {T : DH} {ds : List D} {k : Bool → Prop} (h : plDs ds = true) (hd : dpDs ds ≤ 60) (q : k ds.isEmpty) : dEq T (.tup ds) (.tup []) k := by
  refine zG8 (by unfold plD; exact h) (by unfold plD plDs; rfl) (by unfold dpD; omega) (by unfold dpD dpDs; omega) ?_
  simp only [toPy, toPys]
  unfold PyData.eqv
  rw [zH0]
  cases ds <;> exact q
theorem zH6 {s : Str} : ∀ {zs : List Str}, (Str.join s zs).length ≤ (zs.map (·.length)).sum + zs.length * s.length
  | [] => by show (0 : Nat) ≤ _; omega
  | [x] => by show x.length ≤ _; simp
  | x :: y :: r => by
    have q := zH6 (s := s) (zs := y :: r)
    show (x ++ s ++ Str.join s (y :: r)).length ≤ _
    rw [zGN, zGN]
    rw [List.map_cons, List.sum_cons, List.length_cons, Nat.add_mul]
    omega
theorem zH7 {p : Nat → Prop} {s : Str} (h : sAll p s) : ∀ {zs : List Str}, (∀ z ∈ zs, sAll p z) → sAll p (Str.join s zs)
  | [], _ => fun c hc => by
    have hc : c ∈ (Str.empty).cps.toList := hc
    simp [Str.empty] at hc
  | [x], g => g x List.mem_cons_self
  | x :: y :: r, g => zGO (zGO (g x List.mem_cons_self) h) (zH7 h fun z hz => g z (List.mem_cons_of_mem _ hz))
theorem zH8 : ∀ {zs : List Str}, (∀ z ∈ zs, z.length = 1) → (zs.map (·.length)).sum = zs.length
  | [], _ => rfl
  | z :: zs, h => by rw [List.map_cons, List.sum_cons, h z List.mem_cons_self, zH8 fun y hy => h y (List.mem_cons_of_mem _ hy), List.length_cons]; omega
theorem zH9 {α β : Type} {f : α → β} {xs : List α} {i : Int} : atI (xs.map f) i = (atI xs i).map f := by
  unfold atI
  rw [List.length_map]
  cases ixN xs.length i with
  | none => rfl
  | some j => simp
/-- one of the texts -/
theorem zHA {zs : List Str} {i : Int} (h0 : 0 ≤ i) (h : i < zs.length) : ∃ z, z ∈ zs ∧ atI (zs.map D.str) i = some (.str z) := by
  obtain ⟨z, h1, h2⟩ := zFY h0 h
  exact ⟨z, h1, by rw [zH9, h2]; rfl⟩
theorem zHB {zs : List Int} {i : Int} (h0 : 0 ≤ i) (h : i < zs.length) : ∃ z, z ∈ zs ∧ atI (zs.map D.int) i = some (.int z) := by
  obtain ⟨z, h1, h2⟩ := zFY h0 h
  exact ⟨z, h1, by rw [zH9, h2]; rfl⟩
theorem zHC {T T0 : DH} : ∀ (ds : List D), Fzs T T0 ds ds
  | [] => .nil
  | d :: ds => .cons (.same d) (zHC ds)
/-- a local list is handed back, frozen -/
theorem RetD.frz {Q : DQ} {q : Addr} {ds : List D} {T : DH} (h : T q = none) (hq : Q (.lst ds) T) : RetD Q (.ref q) (updD T q (.lst ds)) := ⟨.lst ds, T, .drop h, .ref updD_same h (zHC ds), hq⟩
theorem zHD {α β : Type} {as : List α} {f : α → β} {i : Nat} {a : α} (h : as[i]? = some a) : (as.take (i + 1)).map f = (as.take i).map f ++ [f a] := by
  rw [List.take_add_one, h, List.map_append]; rfl
/-- a comprehension that only reads, over known items -/
theorem zHE {α : Type} {as : List α} {tg : Tgt} {src : Src} {ct : TDT} {ce : TDE} {de : DEnv} {Q : List D → DH → Prop} {T : DH} (F : α → D) (p : α → Bool) (g : α → D) (so : src.ok T) (hl : as.length ≤ 16000000)
    (step : ∀ a ∈ as, ∃ de1, bindT tg (F a) de = some de1 ∧ ∀ K : Bool → DH → Prop, K (p a) T → (p a = true → ∀ K' : DQ, K' (g a) T → ce de1 T K' (fun _ _ => False)) → ct de1 T K (fun _ _ => False))
    (elt : ∀ a ∈ as, p a = true → ∀ de1, bindT tg (F a) de = some de1 → ∀ K : DQ, K (g a) T → ce de1 T K (fun _ _ => False))
    (fin : Q ((as.filter p).map g) T) : lcL tg src ct ce de (as.map F) [] T Q := by
  refine zG0 (fun i acc T' => T' = T ∧ acc = ((as.take i).filter p).map g) ⟨rfl, by simp⟩ (fun i acc T' ⟨e, _⟩ _ => by rw [e]; exact so) (fun i x acc T' K hx ⟨e, ea⟩ hK => ?_) fun acc T' ⟨e, ea⟩ => by rw [e, ea, List.length_map, List.take_length]; exact fin
  subst e
  rw [List.getElem?_map, Option.map_eq_some_iff] at hx
  obtain ⟨a, ha, rfl⟩ := hx
  have hm : a ∈ as := List.mem_of_getElem? ha
  obtain ⟨de1, h1, h2⟩ := step a hm
  have ht : as.take (i + 1) = as.take i ++ [a] := by rw [List.take_add_one, ha]; rfl
  refine ⟨de1, h1, h2 _ ?_ fun hp K' hK' => elt a hm hp de1 h1 K' hK'⟩
  cases hp : p a with
  | false =>
    simp only [Bool.false_eq_true, if_false]
    refine hK _ _ ⟨rfl, ?_⟩
    rw [ht, List.filter_append, ea]
    simp [hp]
  | true =>
    simp only [if_true]
    refine elt a hm hp de1 h1 _ ⟨?_, hK _ _ ⟨rfl, ?_⟩⟩
    · rw [ea, List.length_map]
      have q1 := List.length_filter_le p (as.take i)
      have q2 : (as.take i).length ≤ i := by rw [List.length_take]; omega
      have q3 : i < as.length := (List.getElem?_eq_some_iff.mp ha).1
      rw [sizeLine_eq]; omega
    · rw [ht, List.filter_append, ea]
      simp [hp]
theorem zHF {α : Type} {as : List α} {tg : Tgt} {src : Src} {G : Nat → DSp} {ce : TDE} {de : DEnv} {Q : List D → DH → Prop} {T : DH} (F g : α → D) (so : src.ok T) (hl : as.length ≤ 16000000)
    (step : ∀ a ∈ as, ∃ de1, bindT tg (F a) de = some de1 ∧ ∀ K : DQ, K (g a) T → ce de1 T K (fun _ _ => False))
    (fin : Q (as.map g) T) : lcL tg src (evC G none) ce de (as.map F) [] T Q := by
  refine zHE F (fun _ => true) g so hl (fun a ha => ?_) (fun a ha _ de1 e K hK => ?_) ?_
  · obtain ⟨de1, h1, h2⟩ := step a ha
    exact ⟨de1, h1, fun K hK _ => by rw [zBI]; exact hK⟩
  · obtain ⟨de2, h1, h2⟩ := step a ha
    rw [e] at h1; cases h1
    exact h2 K hK
  · rw [List.filter_eq_self.mpr (fun _ _ => rfl)]; exact fin
/-! ### shown -/
mutual
def shD : D → Prop
  | .non => True
  | .bl _ => True
  | .int i => i.natAbs < 10 ^ 18
  | .str x => sAll (· < 0x110000) x
  | .tup ds => shDs ds
  | .lst ds => shDs ds
  | .emp => False
  | .scr _ => False
  | .ref _ => False
def shDs : List D → Prop
  | [] => True
  | d :: ds => shD d ∧ shDs ds
end
mutual
/-- how long its repr is, at most -/
def shB : D → Nat
  | .non => 5
  | .bl _ => 5
  | .int _ => 20
  | .str x => 10 * x.length + 2
  | .tup ds => shBs ds + 5
  | .lst ds => shBs ds + 5
  | .emp => 5
  | .scr _ => 0
  | .ref _ => 0
def shBs : List D → Nat
  | [] => 0
  | d :: ds => shB d + 2 + shBs ds
end
theorem zHG : ∀ (ts : List Str) (k : Nat) (acc : Str), (textFrom k acc ts).length ≤ acc.length + (ts.map fun t => t.length + 2).sum
  | [], k, acc => by simp [textFrom]
  | t :: r, k, acc => by
    have q := zHG r (k + 1) (acc ++ (if k > 0 then ", " else "" : String) ++ t)
    have e : (((if k > 0 then ", " else "" : String) : Str)).length ≤ 2 := by
      by_cases hk : k > 0
      · rw [if_pos hk]; decide +kernel
      · rw [if_neg hk]; decide +kernel
    rw [zGN, zGN] at q
    unfold textFrom
    rw [List.map_cons, List.sum_cons]
    omega
theorem zHH (ts : List Str) : (listText ts).length ≤ (ts.map fun t => t.length + 2).sum + 5 := by
  unfold listText
  rw [zGN]
  have q := zHG ts 0 "["
  have e1 : (("[" : String) : Str).length = 1 := by decide +kernel
  have e2 : (("]" : String) : Str).length = 1 := by decide +kernel
  rw [e1] at q
  rw [e2]
  omega
theorem zHI : ∀ ts : List Str, (ts.map fun t => t.length + 2).sum = (ts.map (·.length)).sum + ts.length * 2
  | [] => rfl
  | t :: r => by rw [List.map_cons, List.sum_cons, List.map_cons, List.sum_cons, zHI r, List.length_cons]; omega
theorem zHJ (ts : List Str) : (tupleText ts).length ≤ (ts.map fun t => t.length + 2).sum + 5 := by
  unfold tupleText
  rw [zGN, zGN]
  have q := zH6 (s := ", ") (zs := ts)
  have e0 : ((", " : String) : Str).length = 2 := by decide +kernel
  have e1 : (("(" : String) : Str).length = 1 := by decide +kernel
  have e2 : (((if ts.length == 1 then ",)" else ")" : String) : Str)).length ≤ 2 := by
    cases (ts.length == 1) <;> decide +kernel
  rw [e0] at q
  rw [e1, zHI]
  omega
mutual
theorem zHK : ∀ (d : D), shD d → plD d = true ∧ (toPy d).showable = true ∧ (toPy d).shown.length ≤ shB d
  | .non, _ => by
    refine ⟨rfl, by simp [toPy, PyData.showable], ?_⟩
    simp only [toPy, PyData.shown, shB]; decide +kernel
  | .bl b, _ => by
    refine ⟨rfl, by simp [toPy, PyData.showable], ?_⟩
    simp only [toPy, PyData.shown, shB]; cases b <;> decide +kernel
  | .int i, h => by
    unfold shD at h
    refine ⟨rfl, ?_, ?_⟩
    · simp only [toPy, PyData.showable]
      exact decide_eq_true (zGJ (by decide) (Nat.lt_of_lt_of_le h (show 10 ^ 18 ≤ 2 ^ 1920 from Nat.le_trans (show 10 ^ 18 ≤ 2 ^ 60 by decide) (Nat.pow_le_pow_right (by decide) (by decide)))))
    · simp only [toPy, PyData.shown, shB]
      show (Str.ofString (toString i)).length ≤ 20
      rw [ofString_length]
      exact Nat.le_trans (int_text_length_le10 (k := 18) (by decide) h) (by decide)
  | .str x, h => by
    unfold shD at h
    refine ⟨by unfold plD; exact zGS h, by simp [toPy, PyData.showable], ?_⟩
    simp only [toPy, PyData.shown, shB]
    exact StrLaws.reprText_len x fun c hc => Nat.lt_of_lt_of_le (h c hc) (by decide)
  | .tup ds, h => by
    unfold shD at h
    obtain ⟨h1, h2, h3⟩ := zHL ds h
    refine ⟨by unfold plD; exact h1, by simp only [toPy, PyData.showable]; exact h2, ?_⟩
    simp only [toPy, PyData.shown, shB]
    exact Nat.le_trans (zHJ _) (by omega)
  | .lst ds, h => by
    unfold shD at h
    obtain ⟨h1, h2, h3⟩ := zHL ds h
    refine ⟨by unfold plD; exact h1, by simp only [toPy, PyData.showable]; exact h2, ?_⟩
    simp only [toPy, PyData.shown, shB]
    exact Nat.le_trans (zHH _) (by omega)
  | .emp, h => by unfold shD at h; exact h.elim
  | .scr _, h => by unfold shD at h; exact h.elim
  | .ref _, h => by unfold shD at h; exact h.elim
theorem zHL : ∀ (ds : List D), shDs ds → plDs ds = true ∧ PyData.showableAll (toPys ds) = true ∧ ((PyData.shownAll (toPys ds)).map fun t => t.length + 2).sum ≤ shBs ds
  | [], _ => ⟨rfl, by simp [toPys, PyData.showableAll], by simp [toPys, PyData.shownAll, shBs]⟩
  | d :: ds, h => by
    unfold shDs at h
    obtain ⟨h1, h2, h3⟩ := zHK d h.1
    obtain ⟨h4, h5, h6⟩ := zHL ds h.2
    refine ⟨by unfold plDs; rw [h1, h4]; rfl, by simp only [toPys, PyData.showableAll, h2, h5]; rfl, ?_⟩
    simp only [toPys, PyData.shownAll, shBs, List.map_cons, List.sum_cons]
    omega
end
/-- repr of known data -/
theorem zHM {T : DH} {x : D} {Q : DQ} (h : shD x) (hd : dpD x ≤ 64) (hb : shB x ≤ 16777216) (q : Q (.str (toPy x).shown) T) : dRepr [x] T Q := by
  obtain ⟨h1, h2, h3⟩ := zHK x h
  exact .inl ⟨toPy x, zG6 h1, zG7 h1 hd, h2, zGK (Nat.le_trans h3 hb), q⟩
theorem zHN {T : DH} {x : D} {Q : DQ} (h : shD x) (h0 : isObD x = true) (hd : dpD x ≤ 64) (hb : shB x ≤ 16777216) (q : Q (.str (toPy x).shown) T) : dRepr [x] T Q := zHM h hd hb q
/-! ### repr of data with empty dicts in it -/
mutual
def sxD : D → Prop
  | .non => True
  | .bl _ => True
  | .int i => i.natAbs < 10 ^ 70
  | .str x => sAll (· < 0x110000) x
  | .tup ds => sxDs ds
  | .lst ds => sxDs ds
  | .emp => True
  | .scr _ => False
  | .ref _ => False
def sxDs : List D → Prop
  | [] => True
  | d :: ds => sxD d ∧ sxDs ds
end
mutual
def sxB : D → Nat
  | .non => 5
  | .bl _ => 5
  | .int _ => 80
  | .str x => 10 * x.length + 2
  | .tup ds => sxBs ds + 5
  | .lst ds => sxBs ds + 5
  | .emp => 5
  | .scr _ => 0
  | .ref _ => 0
def sxBs : List D → Nat
  | [] => 0
  | d :: ds => sxB d + 2 + sxBs ds
end
mutual
theorem zHO {rf : Addr → Option PyData} : ∀ (d : D), sxD d → pyV rf d = some (toPy d) ∧ (toPy d).showable = true ∧ (toPy d).shown.length ≤ sxB d ∧ (toPy d).depth = dpD d
  | .non, _ => by
    refine ⟨rfl, by simp [toPy, PyData.showable], ?_, by simp [toPy, PyData.depth, dpD]⟩
    simp only [toPy, PyData.shown, sxB]; decide +kernel
  | .bl b, _ => by
    refine ⟨rfl, by simp [toPy, PyData.showable], ?_, by simp [toPy, PyData.depth, dpD]⟩
    simp only [toPy, PyData.shown, sxB]; cases b <;> decide +kernel
  | .int i, h => by
    unfold sxD at h
    refine ⟨rfl, ?_, ?_, by simp [toPy, PyData.depth, dpD]⟩
    · simp only [toPy, PyData.showable]
      exact decide_eq_true (zGJ (by decide) (Nat.lt_of_lt_of_le h (show 10 ^ 70 ≤ 2 ^ 1920 from Nat.le_trans (show 10 ^ 70 ≤ 2 ^ 240 by decide) (Nat.pow_le_pow_right (by decide) (by decide)))))
    · simp only [toPy, PyData.shown, sxB]
      show (Str.ofString (toString i)).length ≤ 80
      rw [ofString_length]
      exact Nat.le_trans (int_text_length_le10 (k := 70) (by decide) h) (by decide)
  | .str x, h => by
    unfold sxD at h
    refine ⟨rfl, by simp [toPy, PyData.showable], ?_, by simp [toPy, PyData.depth, dpD]⟩
    simp only [toPy, PyData.shown, sxB]
    exact StrLaws.reprText_len x fun c hc => Nat.lt_of_lt_of_le (h c hc) (by decide)
  | .tup ds, h => by
    unfold sxD at h
    obtain ⟨h1, h2, h3, h4⟩ := zHP (rf := rf) ds h
    refine ⟨by simp [pyV, toPy, h1], by simp only [toPy, PyData.showable]; exact h2, ?_, by simp [toPy, PyData.depth, dpD, h4]⟩
    simp only [toPy, PyData.shown, sxB]
    exact Nat.le_trans (zHJ _) (by omega)
  | .lst ds, h => by
    unfold sxD at h
    obtain ⟨h1, h2, h3, h4⟩ := zHP (rf := rf) ds h
    refine ⟨by simp [pyV, toPy, h1], by simp only [toPy, PyData.showable]; exact h2, ?_, by simp [toPy, PyData.depth, dpD, h4]⟩
    simp only [toPy, PyData.shown, sxB]
    exact Nat.le_trans (zHH _) (by omega)
  | .emp, _ => by
    refine ⟨rfl, by simp [toPy, PyData.showable, PyData.showableKv], ?_, by simp [toPy, PyData.depth, PyData.depthKv, dpD]⟩
    simp only [toPy, PyData.shown, PyData.shownKv, sxB]; decide +kernel
  | .scr _, h => by unfold sxD at h; exact h.elim
  | .ref _, h => by unfold sxD at h; exact h.elim
theorem zHP {rf : Addr → Option PyData} : ∀ (ds : List D), sxDs ds → pyVs rf ds = some (toPys ds) ∧ PyData.showableAll (toPys ds) = true ∧ ((PyData.shownAll (toPys ds)).map fun t => t.length + 2).sum ≤ sxBs ds ∧ PyData.depthAll (toPys ds) = dpDs ds
  | [], _ => ⟨rfl, by simp [toPys, PyData.showableAll], by simp [toPys, PyData.shownAll, sxBs], by simp [toPys, PyData.depthAll, dpDs]⟩
  | d :: ds, h => by
    unfold sxDs at h
    obtain ⟨h1, h2, h3, h7⟩ := zHO (rf := rf) d h.1
    obtain ⟨h4, h5, h6, h8⟩ := zHP (rf := rf) ds h.2
    refine ⟨by simp [pyVs, toPys, h1, h4], by simp only [toPys, PyData.showableAll, h2, h5]; rfl, ?_, by simp [toPys, PyData.depthAll, dpDs, h7, h8]⟩
    simp only [toPys, PyData.shownAll, sxBs, List.map_cons, List.sum_cons]
    omega
end
theorem zHQ {T : DH} {x : D} {Q : DQ} (h : sxD x) (h0 : isObD x = true) (hd : dpD x ≤ 64) (hb : sxB x ≤ 16777216) (q : Q (.str (toPy x).shown) T) : dRepr [x] T Q := by
  obtain ⟨h1, h2, h3, h4⟩ := zHO (rf := rfV T 4) x h
  exact .inr ⟨h0, toPy x, h1, by omega, h2, zGK (Nat.le_trans h3 hb), q⟩
/-- .. of a thing of any kind -/
theorem zHR {T : DH} {x : D} {Q : DQ} (h : sxD x) (hd : dpD x ≤ 64) (hb : sxB x ≤ 16777216) (q : Q (.str (toPy x).shown) T) : dRepr [x] T Q := by
  obtain ⟨h1, h2, h3, h4⟩ := zHO (rf := rfV T 4) x h
  have sc : ∀ p, pyT T x = some p → SeqAt.shaped p = true → p = toPy x → dRepr [x] T Q := fun p e s ep => .inl ⟨p, e, s, by rw [ep]; exact h2, by rw [ep]; exact zGK (Nat.le_trans h3 hb), by rw [ep]; exact q⟩
  cases x with
  | non => exact sc _ rfl (by decide +kernel) rfl
  | bl b => exact sc _ rfl (by cases b <;> decide +kernel) rfl
  | int i => exact sc _ rfl (zG7 (d := .int i) rfl (by simp [dpD])) rfl
  | str s => exact sc _ rfl (zG7 (d := .str s) (by unfold sxD at h; exact zGS h) (by simp [dpD])) rfl
  | _ => exact zHQ h rfl hd hb q
theorem zHS {ds : List D} {j : Nat} {x : D} (h : (numbered ds)[j]? = some x) : ∃ d, ds[j]? = some d ∧ x = .tup [.int j, d] := by
  unfold numbered at h
  rw [List.getElem?_zipWith] at h
  cases e1 : (List.range ds.length)[j]? with
  | none => rw [e1] at h; cases h
  | some k =>
    cases e2 : ds[j]? with
    | none => rw [e1, e2] at h; cases h
    | some d =>
      rw [e1, e2] at h
      obtain ⟨h1, h2⟩ := List.getElem?_eq_some_iff.mp e1
      rw [List.getElem_range] at h2
      cases h
      exact ⟨d, rfl, by rw [h2]⟩
theorem zHT {ds : List D} : (numbered ds).length = ds.length := by simp [numbered]
theorem zHU {T : DH} {p : Addr} {ds : List D} {i : Int} {m : Bool} {Q : DQ} {d : D} (h : T p = some (.lst ds)) (h0 : 0 ≤ i) (h1 : i < ds.length) (h2 : ds.length ≤ 1000000) (hd : ds[i.toNat]? = some d) (q : Q d (updD T p (.lst (ds.eraseIdx i.toNat)))) : dMth .pop m (.ref p) [.int i] T Q := by
  show dPop (.ref p) [.int i] T Q
  unfold dPop
  refine ⟨ds, i.toNat, d, h, by omega, by omega, ?_, hd, q⟩
  unfold seqIndex?
  simp only
  have e : ¬ i < 0 := by omega
  simp [e, h0, h1]
theorem zHV {α : Type} (x v : α) (r : List α) : ∀ (l : List α) (n : Nat), n = l.length → (l ++ x :: r).set n v = l ++ v :: r
  | [], n, h => by simp at h; subst h; rfl
  | y :: l, n, h => by
    simp at h; subst h
    simp [zHV x v r l l.length rfl]
theorem zHW {n : Nat} {i : Int} {j : Nat} (h : i = j) (hj : j < n) : ixN n i = some j := by
  unfold ixN
  subst h
  rw [if_pos (Int.natCast_nonneg j), if_pos (by omega)]; simp
theorem zHX {T : DH} {i : Int} : encD T (.int i) = .int i := rfl
theorem zHY (ns : List Int) (T : DH) : sortD T (ns.map .int) = (ns.mergeSort (fun i j => decide (i ≤ j))).map .int := by
  unfold sortD
  rw [← List.map_mergeSort]
  intro a _ b _
  rw [PySem.W.dataLe_eq]
  simp only [zHX, cond_false]
  rw [PySem.W.dataLt_int]
  exact (PySem.W.not_lt_int a b).symm
theorem zHZ (T : DH) : ∀ ns : List Int, pyDs T (ns.map .int) = some (ns.map .int)
  | [] => rfl
  | n :: ns => by rw [List.map_cons]; unfold pyDs pyD; rw [zHZ T ns]; rfl
theorem zI0 {ns : List Int} {T : DH} {m : Bool} {Q : DQ} (q : newL m ((ns.mergeSort (fun i j => decide (i ≤ j))).map .int) T Q) : dSorted m [.lst (ns.map .int)] T Q := by
  refine .inl ⟨ns.map .int, ns.map .int, rfl, zHZ T ns, ⟨fun p hp q hq => ?_, fun p hp => ?_, ?_⟩, .inr fun p hp r => ?_, by rw [zHY]; exact q⟩
  · obtain ⟨i, _, rfl⟩ := List.mem_map.mp hp
    obtain ⟨j, _, rfl⟩ := List.mem_map.mp hq
    rfl
  · obtain ⟨i, _, rfl⟩ := List.mem_map.mp hp
    exact nofun
  · rw [PySem.W.depth_ints]; omega
  · obtain ⟨i, _, rfl⟩ := List.mem_map.mp hp
    exact nofun
theorem zI1 (ns : List Int) : (ns.mergeSort (fun i j => decide (i ≤ j))).Perm ns := List.mergeSort_perm ns _
theorem zI2 (ns : List Int) : (ns.mergeSort (fun i j => decide (i ≤ j))).Pairwise (· ≤ ·) :=
  (List.pairwise_mergeSort (le := fun i j : Int => decide (i ≤ j)) (fun a b c h1 h2 => by simp only [decide_eq_true_eq] at *; omega) (fun a b => by simp only [Bool.or_eq_true, decide_eq_true_eq]; omega) ns).imp fun h => by simpa using h
theorem zI3 {ns : List Int} (h : ns.Nodup) : (ns.mergeSort (fun i j => decide (i ≤ j))).Pairwise (· < ·) := by
  have h1 := zI2 ns
  have h2 : (ns.mergeSort (fun i j => decide (i ≤ j))).Nodup := (zI1 ns).nodup_iff.mpr h
  exact (h1.and h2).imp fun ⟨a, b⟩ => by omega
theorem zI4 {T : DH} {p : Addr} {ds : List D} {m : Bool} {Q : DQ} (h : T p = some (.lst ds)) : dRev m (.ref p) T Q = newL m ds.reverse T Q := by unfold dRev; simp [lstD, h]
theorem zI5 {T : DH} {p : Addr} {ds es : List D} {m : Bool} {Q : DQ} (h : T p = some (.lst ds)) : dAdd m (.ref p) (.lst es) T Q = (ds.length + es.length ≤ sizeLine ∧ newL m (ds ++ es) T Q) := by unfold dAdd; simp [lstD, h]
theorem dMth_append' {T : DH} {m : Bool} {o x : D} {Q : DQ} : dMth .append m o [x] T Q = dAppend o [x] T Q := id rfl
theorem zI6 {T : DH} {p : Addr} {ds : List D} (h : T p = some (.lst ds)) : mthOk .pop T (.ref p) = True := by simp [mthOk, lstD, h]
/-- a list at an address, compared -/
theorem zI7 {T : DH} {a : Addr} {ds : List D} {y : D} {k : Bool → Prop} (h : T a = some (.lst ds)) (hp : plDs ds = true) (hd : dpDs ds ≤ 60) (hy : plD y = true) (dy : dpD y ≤ 64) (q : k (PyData.eqv (.list (toPys ds)) (toPy y))) : dEq T (.ref a) y k := by
  have e : pyT T (.ref a) = some (.list (toPys ds)) := (Rsd.ref h (.same ds)).py (e := .lst ds) (by unfold plD; exact hp)
  have hs : SeqAt.shaped (.list (toPys ds)) = true := zG7 (d := .lst ds) (by unfold plD; exact hp) (by unfold dpD; omega)
  unfold dEq
  exact .inl ⟨_, _, e, zG6 hy, hs, zG7 hy dy, q⟩
/-- any list against the empty one -/
theorem zI8 {T : DH} {ds : List D} {k : Bool → Prop} (q : k ds.isEmpty) : dEq T (.lst ds) (.lst []) k := by
  cases ds with
  | nil => exact zG9 (x := .lst []) rfl (by decide) q
  | cons d ds =>
    unfold dEq
    exact .inr (.inl ⟨d :: ds, [], rfl, rfl, by simp, q⟩)
theorem zI9 {T : DH} {ds : List D} {k : Bool → Prop} (q : k ds.isEmpty) : dEq T (.tup ds) (.tup []) k := by
  unfold dEq
  exact .inr (.inr ⟨ds, rfl, rfl, q⟩)
theorem zIA {T : DH} {a : Addr} {ns : List Int} {k : Bool → Prop} (h : T a = some (.lst (ns.map .int))) (q : k ns.isEmpty) : dEq T (.ref a) (.lst []) k := by
  refine zI7 h zH2 (by rw [zH3]; decide) (by unfold plD plDs; rfl) (by unfold dpD dpDs; omega) ?_
  simp only [toPy, toPys]
  unfold PyData.eqv
  rw [zH0]
  cases ns <;> exact q
theorem zIB {T : DH} {a : Addr} {kvs : List (Key × D)} {ks : List Int} {m : Bool} {Q : DQ} (h : T a = some (.dK kvs)) (hk : kvs.map (·.1) = ks.map Sum.inl) (hl : ks.length < 64) (q : newL m ((ks.mergeSort (fun i j => decide (i ≤ j))).map .int) T Q) : dSorted m [.ref a] T Q :=
  .inr ⟨a, kvs, ks, rfl, h, hk, hl, q⟩
theorem zIC {κ α : Type} [DecidableEq κ] (kvs : List (κ × α)) (k : κ) (v : α) : (putKD kvs k v).length ≤ kvs.length + 1 := by
  unfold putKD
  split
  · rw [List.length_map]; omega
  · rw [List.length_append]; simp
theorem zID (ks : List Key) (ds : List D) : (dspD ks ds).length ≤ ks.length := by
  have key : ∀ (xs : List (Key × D)) (acc : List (Key × D)), (xs.foldl (fun acc kv => putKD acc kv.1 kv.2) acc).length ≤ acc.length + xs.length := by
    intro xs
    induction xs with
    | nil => intro acc; exact Nat.le_refl _
    | cons x r ih =>
      intro acc
      have h1 := ih (putKD acc x.1 x.2)
      have h2 := zIC acc x.1 x.2
      rw [List.foldl_cons, List.length_cons]; omega
  have h := key (ks.zip ds) []
  have h2 : (ks.zip ds).length ≤ ks.length := by rw [List.length_zip]; omega
  unfold dspD
  simp only [List.length_nil] at h
  omega
/-- repr of a list at an address -/
theorem zIE {T : DH} {a : Addr} {ds : List D} {Q : DQ} (h : T a = some (.lst ds)) (hs : shD (.lst ds)) (hd : dpD (.lst ds) ≤ 64) (hb : shB (.lst ds) ≤ 16777216) (q : Q (.str (toPy (.lst ds)).shown) T) : dRepr [.ref a] T Q := by
  obtain ⟨h1, h2, h3⟩ := zHK _ hs
  have h1' : plDs ds = true := by unfold plD at h1; exact h1
  have e : pyT T (.ref a) = some (toPy (.lst ds)) := (Rsd.ref h (.same ds)).py h1
  exact .inl ⟨_, e, zG7 h1 hd, h2, zGK (Nat.le_trans h3 hb), q⟩
theorem zIF : ∀ {ns : List Int}, (∀ x ∈ ns, x.natAbs < 10 ^ 18) → shDs (ns.map .int)
  | [], _ => by unfold List.map shDs; trivial
  | n :: ns, h => by
    rw [List.map_cons]; unfold shDs shD
    exact ⟨h n List.mem_cons_self, zIF fun x hx => h x (List.mem_cons_of_mem _ hx)⟩
theorem zIG : ∀ {ns : List Int}, shBs (ns.map .int) = 22 * ns.length
  | [] => rfl
  | n :: ns => by rw [List.map_cons]; unfold shBs shB; rw [zIG, List.length_cons]; omega
/-- repr, lists at addresses too -/
theorem zIH {T : DH} {x e : D} {Q : DQ} (r : Rsd T 4 x e) (h : shD e) (hd : dpD e ≤ 64) (hb : shB e ≤ 16777216) (q : Q (.str (toPy e).shown) T) : dRepr [x] T Q := by
  obtain ⟨h1, h2, h3⟩ := zHK e h
  exact .inl ⟨toPy e, r.py h1, zG7 h1 hd, h2, zGK (Nat.le_trans h3 hb), q⟩
theorem Rsds.one {T : DH} {n : Nat} {d e : D} (h : Rsd T n d e) : Rsds T n [d] [e] := .cons h (.same [])
theorem zII {T : DH} {p : Addr} {ds : List D} {m : Bool} {Q : DQ} (h : T p = some (.lst ds)) (q : Q .non (updD T p (.lst []))) : dMth .clear m (.ref p) [] T Q := ⟨ds, h, q⟩
theorem zIJ {T : DH} {p : Addr} {ds : List D} (h : T p = some (.lst ds)) : mthOk .clear T (.ref p) = True := by simp [mthOk, lstD, h]
theorem zIK {α : Type} {l : List α} {f : α → D} {i : Nat} {x : α} (h : l[i]? = some x) : atI (l.map f) (i : Int) = some (f x) := by rw [zFQ, List.getElem?_map, h]; rfl
theorem zIL {α : Type} {a b : α} : atI [a, b] (-1) = some b := id rfl
theorem zIM {α : Type} {a b c : α} : atI [a, b, c] (-1) = some c := id rfl
theorem zIN {g : Tgt} {src : Src} {body : TDS} {D : DEnds} {x : DL.D} {xs : List DL.D} {de : DEnv} {T : DH} : forL g src body D (x :: xs) de T = (src.ok T ∧ ∃ de1, bindT g x de = some de1 ∧ body { D with nx := fun de2 T2 => forL g src body D xs de2 T2 } de1 T) := by rw [forL]
theorem zIO {g : Tgt} {src : Src} {body : TDS} {D : DEnds} {de : DEnv} {T : DH} : forL g src body D [] de T = (src.ok T ∧ D.nx de T) := by rw [forL]
theorem zIP {xs : List D} {n : Nat} {i : Int} {P : D → Prop} (h0 : 0 ≤ i) (h1 : i < n) (hl : xs.length = n) (h : ∀ d ∈ xs, P d) : ∃ d, atI xs i = some d ∧ P d := by
  obtain ⟨d, hd, e⟩ := zFY (xs := xs) h0 (by omega)
  exact ⟨d, e, h d hd⟩
/-! ### caught errors -/
theorem zIQ {T : DH} {a : Addr} {c : Str} {fs : List (Str × D)} {ks cs : List Str} {Q : DQ} (h : T a = some (.exn c fs)) : dIsx (.ref a) ks cs T Q = (c ∈ ks ∧ Q (.bl (cs.any fun d => isEx d c)) T) := by unfold dIsx; simp [h]
theorem zIR {T : DH} {a : Addr} {c f : Str} {fs : List (Str × D)} {d : D} {Q : DQ} (h : T a = some (.exn c fs)) (hd : fs.lookup f = some d) : dFld (.ref a) c f T Q = Q d T := by unfold dFld; simp [h, hd]
theorem zIS {i j : Nat} {x : Exn} {Dd : DEnds} {de : DEnv} {T : DH} : hkD (.keep i j) x Dd de T = ∀ a, T a = none → Dd.nx ((de.set i (some (.ref a))).set j none) (updD T a (.exn x.c x.fs)) := id rfl
theorem zIT {i j : Nat} {c f : Str} {x : Exn} {Dd : DEnds} {de : DEnv} {T : DH} : hkD (.fld i j c f) x Dd de T = (x.c = c ∧ ∃ d, x.fs.lookup f = some d ∧ Dd.nx ((de.set i (some d)).set j none) T) := id rfl
theorem zIU {c : Str} {x : Exn} {Dd : DEnds} {de : DEnv} {T : DH} : hkD (.rz c) x Dd de T = Dd.ex ⟨c, []⟩ de T := id rfl
theorem zIV {e : IE} {x : Exn} {Dd : DEnds} {de : DEnv} {T : DH} : hkD (.ret e) x Dd de T = Dd.rt (cD e) T := id rfl
theorem zIW {i : Nat} {e : IE} {x : Exn} {Dd : DEnds} {de : DEnv} {T : DH} : hkD (.set i e) x Dd de T = Dd.nx (de.set i (some (cD e))) T := id rfl
theorem zIX {m : Bool} {xs : List D} {T : DH} {Q : DQ} : dFn .dict m xs T Q = dDict xs T Q := id rfl
theorem zIY {kvs : List (Key × D)} {T : DH} {Q : DQ} (q : ∀ p, T p = none → Q (.ref p) (updD T p (.dK (dicD kvs)))) : dDict [.lst (kvs.map fun kv => D.tup [dK kv.1, kv.2])] T Q := ⟨kvs, rfl, q⟩
end DL

set_option linter.all false
set_option maxRecDepth 100000
set_option maxHeartbeats 4000000
namespace DL
open PySem PySem.Spec L2
/-! ### data that are equal just when they are the same: no truths in them -/
mutual
def sqD : D → Prop
  | .non => True
  | .int _ => True
  | .str x => sAll (· < 0x110000) x
  | .tup ds => sqDs ds
  | .lst ds => sqDs ds
  | _ => False
def sqDs : List D → Prop
  | [] => True
  | d :: ds => sqD d ∧ sqDs ds
end
mutual
theorem sq_pl : ∀ (d : D), sqD d → plD d = true
  | .non, _ => rfl
  | .int _, _ => rfl
  | .str x, h => by unfold sqD at h; unfold plD; exact zGS h
  | .tup ds, h => by unfold sqD at h; unfold plD; exact sq_pls ds h
  | .lst ds, h => by unfold sqD at h; unfold plD; exact sq_pls ds h
  | .bl _, h => by unfold sqD at h; exact h.elim
  | .emp, h => by unfold sqD at h; exact h.elim
  | .scr _, h => by unfold sqD at h; exact h.elim
  | .ref _, h => by unfold sqD at h; exact h.elim
theorem sq_pls : ∀ (ds : List D), sqDs ds → plDs ds = true
  | [], _ => rfl
  | d :: ds, h => by unfold sqDs at h; unfold plDs; rw [sq_pl d h.1, sq_pls ds h.2]; rfl
end
theorem sq_all : ∀ {ds : List D}, sqDs ds ↔ ∀ d ∈ ds, sqD d
  | [] => ⟨fun _ d h => (nomatch h), fun _ => trivial⟩
  | d :: ds => by
    unfold sqDs
    rw [sq_all (ds := ds)]
    exact ⟨fun h x hx => (List.mem_cons.mp hx).elim (fun e => e ▸ h.1) (h.2 x), fun h => ⟨h d List.mem_cons_self, fun x hx => h x (List.mem_cons_of_mem _ hx)⟩⟩
mutual
theorem eqv_sq : ∀ (x y : D), sqD x → sqD y → PyData.eqv (toPy x) (toPy y) = true → x = y
  | .non, y, _, hy, h => by
    cases y <;> first | rfl | (unfold sqD at hy; exact hy.elim) | (unfold toPy PyData.eqv at h; cases h)
  | .int i, y, _, hy, h => by
    cases y <;> first | (unfold sqD at hy; exact hy.elim) | (unfold toPy PyData.eqv at h; first | (cases h; done) | (rw [eq_of_beq h]))
  | .str i, y, _, hy, h => by
    cases y <;> first | (unfold sqD at hy; exact hy.elim; done) | (unfold toPy PyData.eqv at h; first | (cases h; done) | (simpa using h))
  | .tup ds, y, hx, hy, h => by
    unfold sqD at hx
    cases y with
    | tup es => unfold sqD at hy; unfold toPy PyData.eqv at h; rw [eqv_sqs ds es hx hy h]
    | bl _ => unfold sqD at hy; exact hy.elim
    | emp => unfold sqD at hy; exact hy.elim
    | scr _ => unfold sqD at hy; exact hy.elim
    | ref _ => unfold sqD at hy; exact hy.elim
    | _ => unfold toPy PyData.eqv at h; cases h
  | .lst ds, y, hx, hy, h => by
    unfold sqD at hx
    cases y with
    | lst es => unfold sqD at hy; unfold toPy PyData.eqv at h; rw [eqv_sqs ds es hx hy h]
    | bl _ => unfold sqD at hy; exact hy.elim
    | emp => unfold sqD at hy; exact hy.elim
    | scr _ => unfold sqD at hy; exact hy.elim
    | ref _ => unfold sqD at hy; exact hy.elim
    | _ => unfold toPy PyData.eqv at h; cases h
  | .bl _, _, hx, _, _ => by unfold sqD at hx; exact hx.elim
  | .emp, _, hx, _, _ => by unfold sqD at hx; exact hx.elim
  | .scr _, _, hx, _, _ => by unfold sqD at hx; exact hx.elim
  | .ref _, _, hx, _, _ => by unfold sqD at hx; exact hx.elim
theorem eqv_sqs : ∀ (xs ys : List D), sqDs xs → sqDs ys → PyData.eqvAll (toPys xs) (toPys ys) = true → xs = ys
  | [], [], _, _, _ => rfl
  | [], _ :: _, _, _, h => by unfold toPys PyData.eqvAll at h; cases h
  | _ :: _, [], _, _, h => by unfold toPys PyData.eqvAll at h; cases h
  | x :: xs, y :: ys, hx, hy, h => by
    unfold sqDs at hx hy
    unfold toPys PyData.eqvAll at h
    rw [Bool.and_eq_true] at h
    rw [eqv_sq x y hx.1 hy.1 h.1, eqv_sqs xs ys hx.2 hy.2 h.2]
end
theorem eqv_sqB {x y : D} (hx : sqD x) (hy : sqD y) : (x = y ∧ PyData.eqv (toPy x) (toPy y) = true) ∨ (x ≠ y ∧ PyData.eqv (toPy x) (toPy y) = false) := by
  cases h : PyData.eqv (toPy x) (toPy y) with
  | true => exact .inl ⟨eqv_sq x y hx hy h, rfl⟩
  | false =>
    refine .inr ⟨fun e => ?_, rfl⟩
    subst e
    rw [SeqAt.eqv_refl _ (zG2 (T := fun _ => none) x (sq_pl x hx)).2.1] at h
    cases h
/-- equality of such data, whatever stands at addresses -/
theorem dEq_sqR {T : DH} {x y x' y' : D} {k : Bool → Prop} (rx : Rsd T 4 x x') (ry : Rsd T 4 y y') (hx : sqD x') (hy : sqD y') (dx : dpD x' ≤ 64) (dy : dpD y' ≤ 64) (h1 : x' = y' → k true) (h0 : x' ≠ y' → k false) : dEq T x y k := by
  refine zGA rx ry (sq_pl _ hx) (sq_pl _ hy) dx dy ?_
  rcases eqv_sqB hx hy with ⟨e, h⟩ | ⟨e, h⟩
  · rw [h]; exact h1 e
  · rw [h]; exact h0 e
theorem dEq_sq {T : DH} {x y : D} {k : Bool → Prop} (hx : sqD x) (hy : sqD y) (dx : dpD x ≤ 64) (dy : dpD y ≤ 64) (h1 : x = y → k true) (h0 : x ≠ y → k false) : dEq T x y k :=
  dEq_sqR (.same x) (.same y) hx hy dx dy h1 h0
theorem dEq_same {T : DH} {x : D} {k : Bool → Prop} (hx : sqD x) (dx : dpD x ≤ 64) (h1 : k true) : dEq T x x k := zG9 (sq_pl x hx) dx h1
theorem any_sq {x : D} (hx : sqD x) : ∀ {ds : List D}, sqDs ds → ((x ∈ ds ∧ ((toPys ds).any fun z => PyData.eqv z (toPy x)) = true) ∨ (x ∉ ds ∧ ((toPys ds).any fun z => PyData.eqv z (toPy x)) = false))
  | [], _ => .inr ⟨List.not_mem_nil, rfl⟩
  | d :: ds, h => by
    unfold sqDs at h
    unfold toPys
    rw [List.any_cons]
    rcases eqv_sqB h.1 hx with ⟨e, q⟩ | ⟨e, q⟩
    · exact .inl ⟨by rw [e]; exact List.mem_cons_self, by rw [q]; rfl⟩
    · rw [q, Bool.false_or]
      rcases any_sq hx h.2 with ⟨a, b⟩ | ⟨a, b⟩
      · exact .inl ⟨List.mem_cons_of_mem _ a, b⟩
      · exact .inr ⟨fun z => (List.mem_cons.mp z).elim (fun z => e z.symm) a, b⟩
/-- x in a row of such data -/
theorem dIn_sq {T : DH} {x : D} {ds : List D} {k : Bool → Prop} (hx : sqD x) (hs : sqDs ds) (dx : dpD x ≤ 64) (dy : dpDs ds ≤ 60) (h1 : x ∈ ds → k true) (h0 : x ∉ ds → k false) : dIn T x (.lst ds) k ∧ dIn T x (.tup ds) k := by
  have pl := sq_pls ds hs
  have p1 := (zG3 (T := T) ds pl).1
  have s0 := zG7 (sq_pl x hx) dx
  have s1 : SeqAt.shaped (.list (toPys ds)) = true := zG7 (d := .lst ds) (by unfold plD; exact pl) (by unfold dpD; omega)
  have q : k ((toPys ds).any fun z => PyData.eqv z (toPy x)) := by
    rcases any_sq hx hs with ⟨a, b⟩ | ⟨a, b⟩
    · rw [b]; exact h1 a
    · rw [b]; exact h0 a
  constructor
  · unfold dIn
    exact .inr ⟨_, _, _, zG6 (sq_pl x hx), rfl, p1, s0, s1, q⟩
  · unfold dIn
    exact .inr ⟨_, _, _, zG6 (sq_pl x hx), rfl, p1, s0, s1, q⟩
theorem toPys_get : ∀ {ds : List D} {i : Nat}, (toPys ds)[i]? = (ds[i]?).map toPy
  | [], i => by simp [toPys]
  | d :: ds, 0 => by simp [toPys]
  | d :: ds, i + 1 => by simp [toPys, toPys_get (ds := ds) (i := i)]
theorem dIndex_sq {T : DH} {x : D} {ds : List D} {j : Nat} {m : Bool} {Q : DQ} (hs : sqDs ds) (dx : dpD x ≤ 64) (dy : dpDs ds ≤ 60) (hj : ds[j]? = some x) (hm : ∀ m, m < j → ds[m]? ≠ some x) (q : Q (.int (j : Nat)) T) : dMth .index m (.lst ds) [x] T Q := by
  have pl := sq_pls ds hs
  have hx := sq_all.mp hs x (List.mem_of_getElem? hj)
  refine ⟨ds, _, _, j, toPy x, rfl, (zG3 (T := T) ds pl).1, zG6 (sq_pl x hx), zG7 (d := .lst ds) (by unfold plD; exact pl) (by unfold dpD; omega), zG7 (sq_pl x hx) dx, by rw [toPys_get, hj]; rfl, ?_, fun m z hmj hz => ?_, q⟩
  · exact SeqAt.eqv_refl _ (zG2 (T := fun _ => none) x (sq_pl x hx)).2.1
  · rw [toPys_get, Option.map_eq_some_iff] at hz
    obtain ⟨d, hd, rfl⟩ := hz
    rcases eqv_sqB (sq_all.mp hs d (List.mem_of_getElem? hd)) hx with ⟨e, _⟩ | ⟨_, h⟩
    · exact absurd (by rw [hd, e]) (hm m hmj)
    · exact h
theorem mthOk_indexL {T : DH} {ds : List D} : mthOk .index T (.lst ds) = True := by simp [mthOk, lstD]
theorem sqDs_strs {zs : List Str} (h : ∀ z ∈ zs, sAll (· < 0x110000) z) : sqDs (zs.map .str) := sq_all.mpr fun d hd => by
  obtain ⟨z, hz, rfl⟩ := List.mem_map.mp hd
  unfold sqD; exact h z hz
theorem sqDs_ints {zs : List Int} : sqDs (zs.map .int) := sq_all.mpr fun d hd => by
  obtain ⟨z, hz, rfl⟩ := List.mem_map.mp hd
  unfold sqD; trivial
/-! ### truths in a row -/
theorem plDs_bls : ∀ {bs : List Bool}, plDs (bs.map D.bl) = true ∧ dpDs (bs.map D.bl) = 0 ∧ toPys (bs.map D.bl) = bs.map PyData.bool
  | [] => ⟨rfl, by simp [dpDs], rfl⟩
  | b :: bs => by
    obtain ⟨h1, h2, h3⟩ := plDs_bls (bs := bs)
    rw [List.map_cons, List.map_cons]
    unfold plDs dpDs toPys
    exact ⟨by rw [h1]; rfl, by rw [h2]; simp [dpD], by rw [h3]; rfl⟩
theorem py_bls {T : DH} {bs : List Bool} : pyDs T (bs.map .bl) = some (bs.map .bool) := by
  obtain ⟨h1, _, h3⟩ := plDs_bls (bs := bs)
  rw [(zG3 (T := T) _ h1).1, h3]
theorem bls_shaped {bs : List Bool} : SeqAt.shaped (.list (bs.map PyData.bool)) = true := by
  obtain ⟨h1, h2, h3⟩ := plDs_bls (bs := bs)
  have := zG7 (d := .lst (bs.map D.bl)) (by unfold plD; exact h1) (by unfold dpD; omega)
  rw [← h3]; exact this
theorem mthOk_countL {T : DH} {ds : List D} : mthOk .count T (.lst ds) = True := by simp [mthOk, lstD]
theorem dCount_bls {T : DH} {m : Bool} {Q : DQ} {bs : List Bool} (q : Q (.int ((bs.map PyData.bool).countP fun z => PyData.eqv z (.bool true) : Nat)) T) : dMth .count m (.lst (bs.map .bl)) [.bl true] T Q :=
  ⟨_, _, .bool true, rfl, py_bls, rfl, bls_shaped, by decide, q⟩
theorem dIn_bls {T : DH} {bs : List Bool} {k : Bool → Prop} (q : k ((bs.map PyData.bool).any fun z => PyData.eqv z (.bool true))) : dIn T (.bl true) (.lst (bs.map .bl)) k :=
  .inr ⟨_, _, _, rfl, rfl, py_bls, by decide, bls_shaped, q⟩
theorem tab_in {K : PySem.W.Frag} {x : Str} {f c P : Addr} {o1 o3 : Value} {o2 o4 : Option Addr} {fd : FuncData} {s1 s2 : Array (Option Value)} {vs : Array Value} (a : PySem.W.nsIn K mainGlobals x = some (some (.ref f))) (l : K.lookup f = some ⟨o1, o2, .func fd, s1⟩)
    (hc : fd.code = .ref c) (t : K.lookup c = some ⟨o3, o4, .fields vs, s2⟩) (v : (vs[11]? : Option Value) = some (.ref P)) : PySem.W.tabIn K x = some (c, P) := by
  unfold PySem.W.tabIn
  rw [a]; dsimp only; rw [l]; dsimp only; rw [hc]; dsimp only; rw [t]; dsimp only; rw [v]
end DL

namespace LK
open PySem PySem.Spec L2 DL
def ns_is_whole : List Str := ["thing"]
def ir_is_whole : List IS := [.ret (.and (.isi (.var 0) .int) (.not (.isi (.var 0) .bool)))]
theorem st_is_whole (d0 : D) : startD ns_is_whole [d0] = [some d0] := rfl
def ns_is_from : List Str := ["thing", "least", "most"]
def ir_is_from : List IS := [.ret (.and (.call 0 [(.var 0)]) (.chn .le .le (.var 1) (.var 0) (.var 2)))]
theorem st_is_from (d0 d1 d2 : D) : startD ns_is_from [d0, d1, d2] = [some d0, some d1, some d2] := rfl
def ns_is_name : List Str := ["thing", "sign"]
def ir_is_name : List IS := [.ite (.tor (.tnot (.tv (.isi (.var 0) .str))) (.tnot (.tchn .le .le (.kI 1) (.fn .len false [(.var 0)]) (.kI 8)))) [.ret (.kB false)] [],
    .ret (.cmp .eq (.lc false (.nm 1) [("sign", 1)] (.seq (.var 0)) (some (.tcmp .notin (.var 1) (.gls "LETTERS" "abcdefghijklmnopqrstuvwxyz"))) (.var 1)) (.lst false []))]
theorem st_is_name (d0 : D) : startD ns_is_name [d0] = [some d0, none] := rfl
def ns_numbered : List Str := ["edition", "label", "found", "at"]
def ir_numbered : List IS := [.set 2 (.lc false (.nm 3) [("at", 3)] (.rng1 (.fn .len false [(.var 0)])) (some (.tand (.tv (.call 2 [(.var 1)])) (.tcmp .eq (.ix (.ix (.var 0) (.var 3)) (.kI 0)) (.var 1)))) (.var 3)),
    .ite (.tcmp .eq (.var 2) (.lst false [])) [.raise "NoBar"] [],
    .ret (.ix (.var 2) (.kI 0))]
theorem st_numbered (d0 d1 : D) : startD ns_numbered [d0, d1] = [some d0, some d1, none, none] := rfl
def ns_bar_with : List Str := ["edition", "piece", "bar"]
def ir_bar_with : List IS := [.for_ (.nm 2) (.seq (.var 0)) [.ite (.tchn .le .le (.ix (.var 2) (.kI 1)) (.var 1) (.ix (.var 2) (.kI 2))) [.ret (.var 2)] []],
    .ret .kN]
theorem st_bar_with (d0 d1 : D) : startD ns_bar_with [d0, d1] = [some d0, some d1, none] := rfl
def ns_piece_of : List Str := ["edition", "place", "bar"]
def ir_piece_of : List IS := [.ite (.tor (.tnot (.tv (.isi (.var 1) .tuple))) (.tcmp .ne (.fn .len false [(.var 1)]) (.kI 2))) [.raise "NoPlace"] [],
    .try_ excN ["NoBar"] [.set 2 (.ix (.var 0) (.call 3 [(.var 0), (.ix (.var 1) (.kI 0))]))] (.rz "NoPlace"),
    .ite (.tnot (.tv (.call 1 [(.ix (.var 1) (.kI 1)), (.kI 0), (.bin .sub false (.ix (.var 2) (.kI 2)) (.ix (.var 2) (.kI 1)))]))) [.raise "NoPlace"] [],
    .ret (.bin .add false (.ix (.var 2) (.kI 1)) (.ix (.var 1) (.kI 1)))]
theorem st_piece_of (d0 d1 : D) : startD ns_piece_of [d0, d1] = [some d0, some d1, none] := rfl
def ns_place_in : List Str := ["one", "other", "place", "piece", "bar"]
def ir_place_in : List IS := [.set 3 (.call 5 [(.var 0), (.var 2)]),
    .set 4 (.call 4 [(.var 1), (.var 3)]),
    .ite (.tcmp .isN (.var 4) .kN) [.ret .kN] [],
    .ret (.tup [(.ix (.var 4) (.kI 0)), (.bin .sub false (.var 3) (.ix (.var 4) (.kI 1)))])]
theorem st_place_in (d0 d1 d2 : D) : startD ns_place_in [d0, d1, d2] = [some d0, some d1, some d2, none, none] := rfl
def ns__law_pen : List Str := ["_law_script", "_law_k", "_law_cell", "_law_seed", "_law_one"]
def ir__law_pen : List IS := [.set 2 (.bin .add false (.bin .mul false (.kI 31) (.var 1)) (.kI 7)),
    .ite (.tcmp .lt (.var 1) (.fn .len false [(.var 0)])) [.set 2 (.ix (.var 0) (.var 1))] [],
    .ite (.tcmp .ge (.fn .abs false [(.var 2)]) (.bin .pow false (.kI 10) (.kI 18))) [.ret (.lst true [(.bin .sub false (.fn .abs false [(.var 2)]) (.bin .pow false (.kI 10) (.kI 18))), (.kI 0), (.var 1)])] [],
    .set 3 (.kI 11),
    .for_ (.nm 4) (.seq (.sl false (.var 0) none (some (.kI 63)))) [.set 3 (.bin .mod false (.bin .add false (.bin .add false (.bin .mul false (.var 3) (.kI 48271)) (.bin .mod false (.var 4) (.kI 2147483629))) (.kI 5)) (.kI 2147483647))],
    .ret (.lst true [(.kI 0), (.bin .mod false (.var 2) (.kI 2147483629)), (.bin .add false (.bin .mod false (.var 3) (.kI 2147483587)) (.bin .mul false (.kI 7919) (.var 1)))])]
theorem st__law_pen (d0 d1 : D) : startD ns__law_pen [d0, d1] = [some d0, some d1, none, none, none] := rfl
def ns__law_take : List Str := ["_law_pen_here", "_law_many_here", "_law_digit", "_law_number"]
def ir__law_take : List IS := [.ite (.tcmp .gt (.ix (.var 0) (.kI 0)) (.kI 0)) [.set 2 (.bin .mod false (.ix (.var 0) (.kI 0)) (.var 1)),
    .put (.var 0) (.kI 0) (.bin .fdiv false (.ix (.var 0) (.kI 0)) (.var 1)),
    .ret (.var 2)] [],
    .put (.var 0) (.kI 2) (.bin .add false (.ix (.var 0) (.kI 2)) (.kI 65537)),
    .set 3 (.bin .add false (.bin .mod false (.bin .mul false (.bin .add false (.ix (.var 0) (.kI 1)) (.kI 1)) (.kI 69621)) (.kI 2147483647)) (.bin .mul false (.ix (.var 0) (.kI 2)) (.kI 40503))),
    .set 3 (.bin .mod false (.bin .add false (.bin .mul false (.var 3) (.var 3)) (.bin .mul false (.kI 104729) (.ix (.var 0) (.kI 2)))) (.kI 2305843009213693951)),
    .ret (.bin .mod false (.bin .fdiv false (.var 3) (.kI 4096)) (.var 1))]
theorem st__law_take (d0 d1 : D) : startD ns__law_take [d0, d1] = [some d0, some d1, none, none] := rfl
def ns__law_labels : List Str := ["_law_pen_here", "_law_many_here", "_law_letters", "_law_own", "_law_way", "_law_turn", "_law_base", "_law_k", "_law_found", "_law_pair"]
def ir__law_labels : List IS := [.set 2 (.kS "abcdefghijklmnopqrstuvwxyz"),
    .set 3 (.lst false [(.kS "none"), (.kS "falls"), (.kS "parts"), (.kS "row"), (.kS "round"), (.kS "ok"), (.kS "bar"), (.kS "cut")]),
    .set 4 (.call 8 [(.var 0), (.kI 4)]),
    .set 5 (.call 8 [(.var 0), (.kI 26)]),
    .set 6 (.mth .join false (.kS "") [(.lc false (.nm 7) [("_law_k", 7)] (.rng1 (.call 8 [(.var 0), (.kI 7)])) none (.ix (.var 2) (.call 8 [(.var 0), (.kI 26)])))]),
    .set 8 (.lst true []),
    .for_ (.nm 7) (.rng1 (.var 1)) [.set 9 (.bin .add false (.ix (.var 2) (.bin .mod false (.bin .add false (.var 5) (.bin .mul false (.kI 7) (.var 7))) (.kI 26))) (.ix (.var 2) (.bin .mod false (.bin .add false (.var 5) (.bin .fdiv false (.var 7) (.kI 26))) (.kI 26)))),
    .ite (.tand (.tcmp .eq (.var 4) (.kI 0)) (.tcmp .lt (.var 7) (.kI 8))) [.expr (.mth .append false (.var 8) [(.ix (.var 3) (.bin .mod false (.bin .add false (.var 5) (.var 7)) (.kI 8)))])] [.ite (.tcmp .eq (.var 4) (.kI 0)) [.expr (.mth .append false (.var 8) [(.bin .add false (.kS "qqqq") (.var 9))])] [.ite (.tcmp .eq (.var 4) (.kI 1)) [.expr (.mth .append false (.var 8) [(.bin .add false (.var 9) (.bin .mul false (.kS "z") (.bin .mod false (.var 7) (.kI 6))))])] [.expr (.mth .append false (.var 8) [(.bin .add false (.var 6) (.var 9))])]]]],
    .ret (.var 8)]
theorem st__law_labels (d0 d1 : D) : startD ns__law_labels [d0, d1] = [some d0, some d1, none, none, none, none, none, none, none, none] := rfl
def ns__law_edition : List Str := ["_law_pen_here", "_law_many_here", "_law_labels_here", "_law_long", "_law_gap", "_law_found", "_law_at", "_law_last"]
def ir__law_edition : List IS := [.set 3 (.ix (.lst false [(.kI 1), (.kI 2), (.kI 4), (.kI 12)]) (.call 8 [(.var 0), (.kI 4)])),
    .set 4 (.ix (.lst false [(.kI 1), (.kI 1), (.kI 2), (.kI 5)]) (.call 8 [(.var 0), (.kI 4)])),
    .set 5 (.lst true []),
    .set 6 (.bin .add false (.call 8 [(.var 0), (.var 4)]) (.bin .mul false (.var 1) (.fn .int false [(.cmp .eq (.call 8 [(.var 0), (.kI 12)]) (.kI 0))]))),
    .while_ (.tand (.tcmp .lt (.var 6) (.var 1)) (.tcmp .lt (.fn .len false [(.var 5)]) (.fn .len false [(.var 2)]))) [.set 7 (.fn .min false [(.bin .sub false (.var 1) (.kI 1)), (.bin .add false (.var 6) (.call 8 [(.var 0), (.var 3)]))]),
    .expr (.mth .append false (.var 5) [(.tup [(.ix (.var 2) (.fn .len false [(.var 5)])), (.var 6), (.var 7)])]),
    .set 6 (.bin .add false (.bin .add false (.var 7) (.kI 1)) (.bin .mul false (.call 8 [(.var 0), (.var 4)]) (.fn .int false [(.cmp .eq (.call 8 [(.var 0), (.kI 3)]) (.kI 0))])))],
    .ret (.fn .tuple false [(.var 5)])]
theorem st__law_edition (d0 d1 d2 : D) : startD ns__law_edition [d0, d1, d2] = [some d0, some d1, some d2, none, none, none, none, none] := rfl
def ns__law_many : List Str := ["_law_pen_here"]
def ir__law_many : List IS := [.ret (.ix (.lst false [(.bin .add false (.kI 1) (.call 8 [(.var 0), (.kI 12)])), (.bin .add false (.kI 1) (.call 8 [(.var 0), (.kI 60)])), (.kI 60), (.kI 1)]) (.bin .fdiv false (.call 8 [(.var 0), (.kI 13)]) (.kI 4)))]
theorem st__law_many (d0 : D) : startD ns__law_many [d0] = [some d0] := rfl
def ns__law_two : List Str := ["_law_pen_here", "_law_many_here", "_law_labels_here", "_law_more", "_law_few"]
def ir__law_two : List IS := [.set 2 (.call 9 [(.var 0), (.kI 40)]),
    .set 3 (.ix (.lst false [(.var 2), (.rev false (.var 2)), (.call 9 [(.var 0), (.kI 40)])]) (.call 8 [(.var 0), (.kI 3)])),
    .set 4 (.ix (.lst false [(.kI 40), (.kI 40), (.bin .add false (.kI 1) (.call 8 [(.var 0), (.kI 40)]))]) (.call 8 [(.var 0), (.kI 3)])),
    .ret (.tup [(.call 10 [(.var 0), (.var 1), (.sl false (.var 2) none (some (.var 4)))]), (.call 10 [(.var 0), (.var 1), (.var 3)])])]
theorem st__law_two (d0 d1 : D) : startD ns__law_two [d0, d1] = [some d0, some d1, none, none, none] := rfl
def ns__law_bar : List Str := ["_law_edition_here", "_law_piece", "_law_found", "_law_bar_here"]
def ir__law_bar : List IS := [.set 2 (.lc false (.nm 3) [("_law_bar_here", 3)] (.seq (.var 0)) (some (.tinr (.var 1) (.ix (.var 3) (.kI 1)) (.bin .add false (.ix (.var 3) (.kI 2)) (.kI 1)))) (.var 3)),
    .ret (.ix (.bin .add false (.var 2) (.lst false [.kN])) (.kI 0))]
theorem st__law_bar (d0 d1 : D) : startD ns__law_bar [d0, d1] = [some d0, some d1, none, none] := rfl
def ns__law_same : List Str := ["_law_found", "_law_due"]
def ir__law_same : List IS := [.ret (.cmp .eq (.fn .repr false [(.var 0)]) (.fn .repr false [(.var 1)]))]
theorem st__law_same (d0 d1 : D) : startD ns__law_same [d0, d1] = [some d0, some d1] := rfl
def ns__law_heard : List Str := ["_law_ask", "_law_found", "_law_caught", "error", "_law_some", "_law_others"]
def ir__law_heard : List IS := [.set 1 .kN,
    .set 2 .kN,
    .try_ excN ["PlayError"] [.setAct 1 0] (.keep 2 3),
    .ite (.tcmp .isN (.var 2) .kN) [.ret (.tup [(.kS "told"), (.var 1)])] [],
    .set 4 (.lst false [(.isx (.var 2) excN ["NoPlace"])]),
    .set 5 (.lst false [(.isx (.var 2) excN ["Crossed"]), (.isx (.var 2) excN ["Full"]), (.isx (.var 2) excN ["Held"])]),
    .set 5 (.bin .add false (.var 5) (.lst false [(.isx (.var 2) excN ["NoBar"]), (.isx (.var 2) excN ["NoCut"]), (.isx (.var 2) excN ["NoDeed"])])),
    .set 5 (.bin .add false (.var 5) (.lst false [(.isx (.var 2) excN ["NoEdition", "NoPin", "NoRow", "NoSound", "NoText", "NoWriting", "Parted"])])),
    .ite (.tor (.tcmp .ne (.mth .count false (.var 4) [(.kB true)]) (.kI 1)) (.tor (.tcmp .isin (.kB true) (.var 5)) (.tnot (.tv (.isx (.var 2) excN ["ValueError"]))))) [.ret (.tup [(.kS "odd"), .kN])] [],
    .ret (.tup [(.ix (.lst false [(.kS "NoPlace")]) (.mth .index false (.var 4) [(.kB true)])), .kN])]
theorem st__law_heard (d0 : D) : startD ns__law_heard [d0] = [some d0, none, none, none, none, none] := rfl
def ns__law_none : List Str := ["_law_pen_here", "_law_one", "_law_other", "_law_known", "_law_bar_here", "_law_odd", "_law_label", "_law_first", "_law_last", "_law_some", "_law_near"]
def ir__law_none : List IS := [.set 3 (.lc false (.nm 4) [("_law_bar_here", 4)] (.seq (.var 1)) none (.ix (.var 4) (.kI 0))),
    .set 5 (.bin .add false (.lc false (.nm 4) [("_law_bar_here", 4)] (.seq (.var 2)) (some (.tcmp .notin (.ix (.var 4) (.kI 0)) (.var 3))) (.tup [(.ix (.var 4) (.kI 0)), (.kI 0)])) (.lst false [(.tup [(.kS "A"), (.kI 0)]), (.tup [(.kS ""), (.kI 0)]), (.tup [.kN, (.kI 0)]), (.tup [(.lst false [(.kS "a")]), (.kI 0)]), (.tup [.dem, (.kI 0)])])),
    .set 5 (.bin .add false (.var 5) (.lst false [.kN, (.kI 7), (.kB true), (.kS "a"), (.tup []), (.lst false []), .dem, (.tup [(.kS "abcdefghi"), (.kI 0)])])),
    .ite (.tcmp .eq (.var 1) (.tup [])) [.ret (.ix (.var 5) (.call 8 [(.var 0), (.fn .len false [(.var 5)])]))] [],
    .unp (.tp [(.nm 6), (.nm 7), (.nm 8)]) (.ix (.var 1) (.call 8 [(.var 0), (.fn .len false [(.var 1)])])),
    .set 9 (.lst false [(.bin .add false (.bin .sub false (.var 8) (.var 7)) (.kI 1)), (.neg (.kI 1)), (.kB true), (.kB false), .kN, (.kS "0"), (.tup [(.kI 0)]), (.lst false [(.kI 0)]), .dem, (.bin .pow false (.kI 10) (.kI 59)), (.bin .add false (.var 8) (.kI 60))]),
    .set 10 (.lst false [(.tup [(.var 6), (.ix (.var 9) (.call 8 [(.var 0), (.kI 11)]))]), (.lst false [(.var 6), (.kI 0)]), (.tup [(.var 6)]), (.tup [(.var 6), (.kI 0), (.kI 0)]), (.tup [(.kI 0), (.var 6)]), (.var 6), (.tup [(.tup [(.var 6), (.kI 0)])])]),
    .ret (.ix (.bin .add false (.bin .add false (.var 5) (.var 10)) (.bin .mul false (.sl false (.var 10) none (some (.kI 1))) (.kI 9))) (.call 8 [(.var 0), (.bin .add false (.fn .len false [(.var 5)]) (.kI 16))]))]
theorem st__law_none (d0 d1 d2 : D) : startD ns__law_none [d0, d1, d2] = [some d0, some d1, some d2, none, none, none, none, none, none, none, none] := rfl
def ns__law_right : List Str := ["_law_one", "_law_other", "_law_label", "_law_first", "_law_last", "_law_piece", "_law_bar_here", "_law_due"]
def ir__law_right : List IS := [.for_ (.tp [(.nm 2), (.nm 3), (.nm 4)]) (.seq (.var 0)) [.for_ (.nm 5) (.rng2 (.var 3) (.bin .add false (.var 4) (.kI 1))) [.set 6 (.call 13 [(.var 1), (.var 5)]),
    .set 7 .kN,
    .ite (.tcmp .notN (.var 6) .kN) [.set 7 (.tup [(.ix (.var 6) (.kI 0)), (.rlen (.ix (.var 6) (.kI 1)) (.var 5))])] [],
    .ite (.tnot (.tv (.call 14 [(.call 6 [(.var 0), (.var 1), (.tup [(.var 2), (.bin .sub false (.var 5) (.var 3))])]), (.var 7)]))) [.ret (.kB false)] [],
    .ite (.tnot (.tv (.call 14 [(.call 6 [(.var 0), (.var 0), (.tup [(.var 2), (.bin .sub false (.var 5) (.var 3))])]), (.tup [(.var 2), (.bin .sub false (.var 5) (.var 3))])]))) [.ret (.kB false)] []]],
    .ret (.kB true)]
theorem st__law_right (d0 d1 : D) : startD ns__law_right [d0, d1] = [some d0, some d1, none, none, none, none, none, none] := rfl
def ns_law : List Str := ["_law_script", "_law_turn", "_law_pen_here", "_law_many_here", "_law_one", "_law_other", "_law_kept", "_law_k", "_law_thing"]
def ir_law : List IS := [.for_ (.nm 1) (.rng1 (.kI 4)) [.set 2 (.call 7 [(.var 0), (.var 1)]),
    .set 3 (.call 11 [(.var 2)]),
    .unp (.tp [(.nm 4), (.nm 5)]) (.call 12 [(.var 2), (.var 3)]),
    .set 6 (.fn .repr false [(.tup [(.var 4), (.var 5)])]),
    .ite (.tor (.tnot (.tv (.call 17 [(.var 4), (.var 5)]))) (.tnot (.tv (.call 17 [(.var 5), (.var 4)])))) [.ret (.kB false)] [],
    .for_ (.nm 7) (.rng1 (.kI 6)) [.set 8 (.call 16 [(.var 2), (.var 4), (.var 5)]),
    .ite (.tcmp .ne (.lamc 15 0 [4, 5, 8]) (.tup [(.kS "NoPlace"), .kN])) [.ret (.kB false)] []],
    .ite (.tor (.tnot (.tv (.call 17 [(.var 4), (.var 5)]))) (.tcmp .ne (.fn .repr false [(.tup [(.var 4), (.var 5)])]) (.var 6))) [.ret (.kB false)] []],
    .ret (.kB true)]
theorem st_law (d0 : D) : startD ns_law [d0] = [some d0, none, none, none, none, none, none, none, none] := rfl
def irlam_0 : IE := (.call 6 [(.var 4), (.var 5), (.var 8)])
theorem cap_0 (d0 d1 d2 : D) : capEnv ns_law.length [4, 5, 8] [d0, d1, d2] = [none, none, none, none, some d0, some d1, none, none, some d2] := rfl
def tb0 : Tab := { ft := [("is_whole", ["thing"]), ("is_from", ["thing", "least", "most"]), ("is_name", ["thing"]), ("numbered", ["edition", "label"]), ("bar_with", ["edition", "piece"]), ("piece_of", ["edition", "place"]), ("place_in", ["one", "other", "place"]), ("_law_pen", ["_law_script", "_law_k"]), ("_law_take", ["_law_pen_here", "_law_many_here"]), ("_law_labels", ["_law_pen_here", "_law_many_here"]), ("_law_edition", ["_law_pen_here", "_law_many_here", "_law_labels_here"]), ("_law_many", ["_law_pen_here"]), ("_law_two", ["_law_pen_here", "_law_many_here"]), ("_law_bar", ["_law_edition_here", "_law_piece"]), ("_law_same", ["_law_found", "_law_due"]), ("_law_heard", ["_law_ask"]), ("_law_none", ["_law_pen_here", "_law_one", "_law_other"]), ("_law_right", ["_law_one", "_law_other"]), ("law", ["_law_script"])], gi := [], gs := [("LETTERS", "abcdefghijklmnopqrstuvwxyz")], bl := ["ValueError", "abs", "bool", "int", "isinstance", "len", "min", "range", "repr", "str", "tuple"], ex := ["PlayError", "NoWriting", "Crossed", "NoPlace", "NoEdition", "NoBar", "NoCut", "Parted", "NoSound", "Full", "Held", "NoPin", "NoDeed", "NoText", "NoRow"], cf := [], clo := [15], lam := [], mkr := false, act := false }
def tb : Tab := { tb0 with lam := [(ns_law, [4, 5, 8], fun sc e => chkE (tbV tb0 false false) irlam_0 ns_law sc e)] }


def mutLacks : Bool := true
/-! ### names -/
def nmOk (s : Str) : Prop := sAll (· < 0x110000) s ∧ s.length ≤ 8 ∧ 1 ≤ s.length ∧ sAll (fun c => 97 ≤ c ∧ c ≤ 122) s
/-! ### the pen: three numbers -/
def pe3 (a b c : Int) : DO := .lst [.int a, .int b, .int c]
def cTop : Int := 1000000000000000000000
structure Ep (a b c : Int) : Prop where
  a0 : 0 ≤ a
  b0 : 0 ≤ b
  b1 : b < 2147483648
  c0 : 0 ≤ c
def spl_pen : DSp := fun ds T Q _ => ∃ xs k, ds = [.scr xs, .int k] ∧ xs.length ≤ 63 ∧ 0 ≤ k ∧ k ≤ 1000 ∧ ∀ p a b c, Ep a b c → c ≤ 10000000000 → T p = none → Q (.ref p) (updD T p (pe3 a b c))
def spl_take : DSp := fun ds T Q _ => ∃ T0 p a b c m, ds = [.ref p, .int m] ∧ T = updD T0 p (pe3 a b c) ∧ Ep a b c ∧ c < cTop ∧ 0 < m ∧ m ≤ 1000000000000 ∧
  ∀ r a' c', 0 ≤ r → r < m → Ep a' b c' → c ≤ c' → c' ≤ c + 65537 → Q (.int r) (updD T0 p (pe3 a' b c'))

def spl_labels : DSp := fun ds T Q _ => ∃ T0 p a b c m, ds = [.ref p, .int m] ∧ T = updD T0 p (pe3 a b c) ∧ Ep a b c ∧ c + 1000000 < cTop ∧ 0 ≤ m ∧ m ≤ 41 ∧
  ∀ (zs : List Str) a' c', (zs.length : Int) = m → (∀ z ∈ zs, nmOk z) → zs.Nodup → Ep a' b c' → c ≤ c' → c' ≤ c + 1000000 → Q (.lst (zs.map .str)) (updD T0 p (pe3 a' b c'))
/-! ### editions -/
abbrev Bar := Str × Int × Int
def bD (x : Bar) : D := .tup [.str x.1, .int x.2.1, .int x.2.2]
def eD (e : List Bar) : D := .tup (e.map bD)
structure Eok (many : Int) (e : List Bar) : Prop where
  len : e.length ≤ 40
  rg : ∀ x ∈ e, 0 ≤ x.2.1 ∧ x.2.1 ≤ x.2.2 ∧ x.2.2 < many
  ord : e.Pairwise fun x y => x.2.2 < y.2.1
  nm : ∀ x ∈ e, nmOk x.1
  nd : (e.map (·.1)).Nodup
def spl_edition : DSp := fun ds T Q _ => ∃ T0 p a b c many, ∃ (zs : List Str), ds = [.ref p, .int many, .lst (zs.map .str)] ∧ T = updD T0 p (pe3 a b c) ∧ Ep a b c ∧ c + 20000000 < cTop ∧ 1 ≤ many ∧ many ≤ 60 ∧ zs.length ≤ 40 ∧ (∀ z ∈ zs, nmOk z) ∧ zs.Nodup ∧
  ∀ e a' c', Eok many e → Ep a' b c' → c ≤ c' → c' ≤ c + 20000000 → Q (eD e) (updD T0 p (pe3 a' b c'))
def spl_many : DSp := fun ds T Q _ => ∃ T0 p a b c, ds = [.ref p] ∧ T = updD T0 p (pe3 a b c) ∧ Ep a b c ∧ c + 1000000 < cTop ∧
  ∀ m a' c', 1 ≤ m → m ≤ 60 → Ep a' b c' → c ≤ c' → c' ≤ c + 1000000 → Q (.int m) (updD T0 p (pe3 a' b c'))
def spl_two : DSp := fun ds T Q _ => ∃ T0 p a b c many, ds = [.ref p, .int many] ∧ T = updD T0 p (pe3 a b c) ∧ Ep a b c ∧ c + 100000000 < cTop ∧ 1 ≤ many ∧ many ≤ 60 ∧
  ∀ e f a' c', Eok many e → Eok many f → Ep a' b c' → c ≤ c' → c' ≤ c + 100000000 → Q (.tup [eD e, eD f]) (updD T0 p (pe3 a' b c'))
/-- the bar that has a piece -/
def hasB (x : Int) (b : Bar) : Bool := decide (b.2.1 ≤ x ∧ x ≤ b.2.2)
def optB : Option Bar → D
  | none => .non
  | some b => bD b
def spl_bar : DSp := fun ds T Q _ => ∃ e x, ds = [eD e, .int x] ∧ e.length ≤ 40 ∧ Q (optB (e.find? (hasB x))) T

/-! ### pieces and stretches -/
def pcs (e : List Bar) : List Int := e.flatMap fun x => DL.intsFrom x.2.1 (x.2.2 + 1)
def pairD (x : Int × Int) : D := .tup [.int x.1, .int x.2]
def strF (acc : List (Int × Int)) (x : Int) : List (Int × Int) := match acc.getLast? with
  | some l => if l.2 = x - 1 then acc.dropLast ++ [(l.1, x)] else acc ++ [(x, x)]
  | none => [(x, x)]
def strM (xs : List Int) : List (Int × Int) := xs.foldl strF []
def lacksM (e f : List Bar) : List (Int × Int) := strM ((pcs e).filter fun x => decide (x ∉ pcs f))
def sp_pieces_of : DSp := fun ds T Q _ => ∃ e many, ds = [eD e] ∧ Eok many e ∧ many ≤ 60 ∧ Q (.lst ((pcs e).map .int)) T
def sp_stretched : DSp := fun ds T Q _ => ∃ (xs : List Int), ds = [.lst (xs.map .int)] ∧ xs.length ≤ 10000 ∧ newL mutLacks ((strM xs).map pairD) T Q
def sp_lacks : DSp := fun ds T Q _ => ∃ e f many, ds = [eD e, eD f] ∧ Eok many e ∧ Eok many f ∧ many ≤ 60 ∧ newL mutLacks ((lacksM e f).map pairD) T Q

/-! ### names, of things of any kind (lines of fgA) -/
mutual
def tmD : D → Prop
  | .str x => sAll (· < 0x110000) x ∧ x.length ≤ 1000
  | .tup ds => tmDs ds ∧ ds.length ≤ 1000
  | .lst ds => tmDs ds ∧ ds.length ≤ 1000
  | .scr _ => False
  | .ref _ => False
  | _ => True
def tmDs : List D → Prop
  | [] => True
  | d :: ds => tmD d ∧ tmDs ds
end
def odd1 (c : Nat) : Bool := (Builtin.Str.occurrences ("abcdefghijklmnopqrstuvwxyz" : Str) ⟨#[c]⟩ 0 ("abcdefghijklmnopqrstuvwxyz" : Str).length 1).isEmpty
def isNm (s : Str) : Bool := if 1 ≤ (s.length : Int) ∧ (s.length : Int) ≤ 8 then (s.cps.toList.filter odd1).isEmpty else false
def nmB : D → Bool
  | .str s => isNm s
  | _ => false
def sp_is_name : DSp := fun ds T Q _ => ∃ x, ds = [x] ∧ tmD x ∧ Q (.bl (nmB x)) T

/-! ### whole numbers, of anything -/
/-- of a kind that is known -/
def knT (T : DH) (d : D) : Prop := d = .non ∨ ∃ u, tyD T d = some u
def wholeB : D → Bool
  | .int _ => true
  | _ => false
def fromB (lo hi : Int) : D → Bool
  | .int i => decide (lo ≤ i ∧ i ≤ hi)
  | _ => false
def sp_is_whole : DSp := fun ds T Q _ => ∃ x, ds = [x] ∧ knT T x ∧ Q (.bl (wholeB x)) T
def sp_is_from : DSp := fun ds T Q _ => ∃ x lo hi, ds = [x, .int lo, .int hi] ∧ knT T x ∧ Q (.bl (fromB lo hi x)) T

def cutT (a b : Bar) : D := .tup [.str a.1, .str b.1]
/-! ### bars of another edition that lead -/
/-- the number of a bar by its label, of anything -/
def sp_numbered : DSp := fun ds T Q E => ∃ e many x, ds = [eD e, x] ∧ Eok many e ∧ tmD x ∧ ((∃ (k : Nat) (b : Bar), e[k]? = some b ∧ x = .str b.1 ∧ Q (.int (k : Nat)) T) ∨ ((∀ b ∈ e, x ≠ .str b.1) ∧ E ⟨"NoBar", []⟩ T))
def cutB (b x : Bar) : Bar := (x.1, if x.2.1 > b.2.1 then x.2.1 else b.2.1, if x.2.2 < b.2.2 then x.2.2 else b.2.2)
def shM (b : Bar) (f : List Bar) : List Bar := (f.map (cutB b)).filter fun x => decide (x.2.1 ≤ x.2.2)
def labB : D → Bar → Bool
  | .str s, a => decide (a.1 = s)
  | _, _ => false
def sp_shared : DSp := fun ds T Q _ => ∃ b f, ds = [bD b, eD f] ∧ f.length ≤ 40 ∧ newL true ((shM b f).map bD) T Q
def sp_leads : DSp := fun ds T Q E => ∃ e f many x, ds = [eD e, eD f, x] ∧ Eok many e ∧ Eok many f ∧ tmD x ∧
  ((∃ (k : Nat) (b : Bar), e[k]? = some b ∧ x = .str b.1 ∧ newL true ((shM b f).map bD) T Q) ∨ ((∀ b ∈ e, x ≠ .str b.1) ∧ E ⟨"NoBar", []⟩ T))

def sp_bar_with : DSp := fun ds T Q _ => ∃ e x, ds = [eD e, .int x] ∧ e.length ≤ 40 ∧ Q (optB (e.find? (hasB x))) T

/-! ### places of editions that lead -/
/-- what is a place of e, at the piece p -/
def PlP (e : List Bar) (x : D) (p : Int) : Prop := ∃ b ∈ e, ∃ j : Int, x = .tup [.str b.1, .int j] ∧ 0 ≤ j ∧ j ≤ b.2.2 - b.2.1 ∧ p = b.2.1 + j
def placeD (f : List Bar) (p : Int) : D := match f.find? (hasB p) with
  | none => .non
  | some b => .tup [.str b.1, .int (p - b.2.1)]
def sp_piece_of : DSp := fun ds T Q E => ∃ e many x, ds = [eD e, x] ∧ Eok many e ∧ tmD x ∧ ((∃ p, PlP e x p ∧ Q (.int p) T) ∨ ((∀ p, ¬ PlP e x p) ∧ E ⟨"NoPlace", []⟩ T))
def sp_place_in : DSp := fun ds T Q E => ∃ e f many x, ds = [eD e, eD f, x] ∧ Eok many e ∧ f.length ≤ 40 ∧ tmD x ∧ ((∃ p, PlP e x p ∧ Q (placeD f p) T) ∨ ((∀ p, ¬ PlP e x p) ∧ E ⟨"NoPlace", []⟩ T))





def sp_lam0 : DSp := fun ds T Q E => ∃ e f many x, ds = [eD e, eD f, x] ∧ Eok many e ∧ f.length ≤ 40 ∧ tmD x ∧ (∀ p, ¬ PlP e x p) ∧ E ⟨"NoPlace", []⟩ T
def spl_same : DSp := fun ds T Q _ => ∃ x, ds = [x, x] ∧ sxD x ∧ dpD x ≤ 64 ∧ sxB x ≤ 16777216 ∧ Q (.bl true) T
def spl_heard : DSp := fun ds T Q E => ∃ p e f many x, ds = [.ref p] ∧ T p = some (.clo 0 [eD e, eD f, x]) ∧ Eok many e ∧ f.length ≤ 40 ∧ tmD x ∧ (∀ p, ¬ PlP e x p) ∧ Q (.tup [.str "NoPlace", .non]) T
def spl_none : DSp := fun ds T Q _ => ∃ T0 p a b c many e f, ds = [.ref p, eD e, eD f] ∧ T = updD T0 p (pe3 a b c) ∧ Ep a b c ∧ c + 1000000 < cTop ∧ many ≤ 60 ∧ Eok many e ∧ Eok many f ∧
  ∀ x a' c', tmD x → (∀ p, ¬ PlP e x p) → Ep a' b c' → c ≤ c' → c' ≤ c + 1000000 → Q x (updD T0 p (pe3 a' b c'))
def spl_right : DSp := fun ds T Q _ => ∃ e f many, ds = [eD e, eD f] ∧ Eok many e ∧ Eok many f ∧ many ≤ 60 ∧ Q (.bl true) T








def sp_law : DSp := fun ds T Q _ => ∃ ns, ds = [.scr ns] ∧ ns.length ≤ 63 ∧ ∀ T, Q (.bl true) T
def G (n : Nat) : Nat → DSp
  | 0 => need 1 sp_is_whole n
  | 1 => need 2 sp_is_from n
  | 2 => need 1 sp_is_name n
  | 3 => need 2 sp_numbered n
  | 4 => need 1 sp_bar_with n
  | 5 => need 3 sp_piece_of n
  | 6 => need 4 sp_place_in n
  | 7 => need 1 spl_pen n
  | 8 => need 1 spl_take n
  | 9 => need 2 spl_labels n
  | 10 => need 2 spl_edition n
  | 11 => need 2 spl_many n
  | 12 => need 3 spl_two n
  | 13 => need 1 spl_bar n
  | 14 => need 1 spl_same n
  | 15 => need 6 spl_heard n
  | 16 => need 2 spl_none n
  | 17 => need 6 spl_right n
  | 18 => need 20 sp_law n
  | 1000 => need 5 (sp_lam0) n
  | _ => fun _ _ _ _ => False
theorem G0 : ∀ f ds T Q E, ¬ G 0 f ds T Q E := by
  intro f ds T Q E
  unfold G
  split <;> first | exact zGD (by decide) | exact fun h => h
theorem law_start : ∀ (ns : List Int) (Q : DQ) (E : EQ), ns.length ≤ 63 → (∀ T, Q (.bl true) T) → G 60 18 [.scr ns] (fun _ => none) Q E := fun ns Q E h q => ⟨by decide, ns, rfl, h, q⟩
theorem log2_mul {i j : Int} (hi : i.natAbs < 2 ^ 1000) (hj : j.natAbs < 2 ^ 1000) : i.natAbs.log2 + j.natAbs.log2 < 1000000 := by
  have h1 := zGJ (k := 1000) (by decide) hi
  have h2 := zGJ (k := 1000) (by decide) hj
  omega
theorem nat_le {n k : Nat} (h : n < 2 ^ 200) (hk : 200 ≤ k) : n < 2 ^ k := Nat.lt_of_lt_of_le h (Nat.pow_le_pow_right (by decide) hk)
theorem sz_lt {n : Nat} (h : n < 16777216) : n < sizeLine := by rw [sizeLine_eq]; exact h
theorem takes {α : Type} {l : List α} {i : Nat} {x : α} (h : l[i]? = some x) : l.take (i + 1) = l.take i ++ [x] := by rw [List.take_add_one, h]; rfl
theorem zIK {α : Type} {l : List α} {f : α → D} {i : Nat} {x : α} (h : l[i]? = some x) : atI (l.map f) (i : Int) = some (f x) := by rw [zFQ, List.getElem?_map, h]; rfl
theorem range_at {m : Int} {x : D} {j : Nat} (h : ((List.range m.toNat).map fun (i : Nat) => D.int i)[j]? = some x) : x = .int j ∧ (j : Int) < m := by
  rw [List.getElem?_map, Option.map_eq_some_iff] at h
  obtain ⟨i, h1, h2⟩ := h
  have h3 := List.getElem?_eq_some_iff.mp h1
  obtain ⟨h4, h5⟩ := h3
  rw [List.length_range] at h4
  rw [List.getElem_range] at h5
  exact ⟨by rw [← h2, ← h5], by omega⟩
theorem ob__law_pen : ∀ n ds T Q E, ds.length = 2 → G (n + 1) 7 ds T Q E → evSs (G n) ir__law_pen (endsD Q E) (startD ns__law_pen ds) T := by
  rintro n ds T Q E - ⟨-, xs, k, rfl, h63, k0, k1, q⟩
  rw [st__law_pen]
  have key : ∀ cell : Int, evSs (G n) (ir__law_pen.drop 2) (endsD Q E) [some (.scr xs), some (.int k), some (.int cell), none, none] T := by
    intro cell
    have hz : 0 ≤ (if cell < 0 then -cell else cell) := by split <;> omega
    unfold ir__law_pen
    simp only [List.drop_succ_cons, List.drop_zero]
    (try dsimp only); rw [zCA]; simp only [zCC, zC3, zC9, zCD, zBB, zAK, zA8, zCP, zAW, zBF, zBE, zAA, List.getElem?_cons_succ, List.getElem?_cons_zero, Option.some.injEq, exists_eq_left', zEA, zDD, D.bl.injEq, decide_eq_true_eq]
    generalize hzz : (if cell < 0 then -cell else cell) = z at hz
    have e18 : (10 : Int) ^ Int.toNat 18 = 1000000000000000000 := by decide
    rw [e18]
    refine ⟨⟨by decide, by decide, by decide⟩, ?_⟩
    split
    · rename_i h
      (try dsimp only); rw [zCA]; simp only [zC9, zBW, zCD, zAE, zCI, zBF, zBE, zAA, List.getElem?_cons_succ, List.getElem?_cons_zero, Option.some.injEq, exists_eq_left', zA8, zAK, zCP, e18, zAW, zEA, hzz, zCL]
      refine ⟨⟨by decide, by decide, by decide⟩, fun p hp => .now (q p _ _ _ ⟨by omega, by decide, by decide, k0⟩ (by omega) hp)⟩
    · (try dsimp only); rw [zCA]; simp only [zCC, zBY, List.set_cons_succ, List.set_cons_zero, zCD, zA8]
      (try dsimp only); rw [zCA]; simp only [zCC, zC4, zCD, zBK, zAT, zBH, zA8, D.int.injEq, exists_eq_left', zBG, zAA, List.getElem?_cons_zero, Option.some.injEq, zET, zCJ]
      rw [zGG (by rw [List.length_map]; omega)]
      refine zFZ (fun i de T' => T' = T ∧ ∃ s w4, 0 ≤ s ∧ s < 2147483647 ∧ de = [some (.scr xs), some (.int k), some (.int cell), some (.int s), w4]) ⟨rfl, 11, _, by decide, by decide, rfl⟩ (fun _ _ _ _ _ => trivial) ?_ ?_
      · rintro i x de T' K hx ⟨rfl, s, w4, s0, s1, rfl⟩ hK
        rw [List.getElem?_map, Option.map_eq_some_iff] at hx
        obtain ⟨x, hx, rfl⟩ := hx
        refine ⟨_, zCE, ?_⟩
        (try dsimp only); rw [zCA]; simp only [zC9, List.set_cons_succ, List.set_cons_zero, zBY, zCD, zAK, zA8, zCK, zAA, List.getElem?_cons_succ, List.getElem?_cons_zero, Option.some.injEq, exists_eq_left', zCO, zCM, zCU, zCQ]
        refine ⟨log2_mul (nat_le (by omega) (by decide)) (by decide), by decide, by decide, hK _ _ ⟨rfl, _, _, Int.emod_nonneg _ (by decide), Int.emod_lt_of_pos _ (by decide), rfl⟩⟩
      · rintro de T' ⟨rfl, s, w4, s0, s1, rfl⟩
        (try dsimp only); rw [zCA]; simp only [zC9, zCB, zCC, zBW, zCD, zAE, zCI, zBF, zBE, zAK, zCK, zCM, zAA, List.getElem?_cons_succ, List.getElem?_cons_zero, Option.some.injEq, exists_eq_left', zA8, zCU, zCO, zCQ]
        have m0 := Int.emod_nonneg s (b := 2147483587) (by decide)
        have m1 := Int.emod_lt_of_pos s (b := 2147483587) (by decide)
        refine ⟨by decide, by decide, log2_mul (by decide) (nat_le (by omega) (by decide)), fun p hp => .now (q p _ _ _ ⟨by omega, Int.emod_nonneg _ (by decide), by have := Int.emod_lt_of_pos cell (b := 2147483629) (by decide); omega, by omega⟩ (by omega) hp)⟩
  unfold ir__law_pen at key ⊢
  simp only [List.drop_succ_cons, List.drop_zero] at key
  (try dsimp only); rw [zCA]; simp only [zCC, zBY, List.set_cons_succ, List.set_cons_zero, zCD, zAK, zCK, zA8, zCM, zAA, List.getElem?_cons_succ, List.getElem?_cons_zero, Option.some.injEq, exists_eq_left', zCU, zCQ]
  refine ⟨log2_mul (by decide) (nat_le (by omega) (by decide)), ?_⟩
  (try dsimp only); rw [zCA]; simp only [zCC, zC3, zC9, zCD, zBB, zAW, zE3, zBF, zBE, zAA, List.getElem?_cons_zero, Option.some.injEq, exists_eq_left', zE6, List.getElem?_cons_succ, zDA, D.bl.injEq, decide_eq_true_eq]
  split
  · rename_i h
    obtain ⟨z, h1, h2⟩ := zHB (zs := xs) k0 h
    (try dsimp only); rw [zCA]; simp only [zC9, zBY, List.set_cons_succ, List.set_cons_zero, zCD, zAS, zAA, List.getElem?_cons_succ, List.getElem?_cons_zero, Option.some.injEq, exists_eq_left', zDU, h2]
    exact key z
  · exact key _
theorem ob__law_take : ∀ n ds T Q E, ds.length = 2 → G (n + 1) 8 ds T Q E → evSs (G n) ir__law_take (endsD Q E) (startD ns__law_take ds) T := by
  rintro n ds T Q E - ⟨-, T0, p, a, b, c, m, rfl, rfl, ⟨a0, b0, b1, c0⟩, hc, hm, hm2, q⟩
  unfold cTop at hc
  rw [st__law_take]; unfold ir__law_take
  have lm : m.natAbs.log2 < 9000 := Nat.lt_of_lt_of_le (zGJ (k := 60) (by decide) (by omega)) (by decide)
  have ty : ∀ a b c : Int, updD T0 p (pe3 a b c) p = some (.lst [.int a, .int b, .int c]) := fun _ _ _ => updD_same
  (try dsimp only); rw [zCA]; simp only [zCC, zC3, zC9, zCD, zBB, zA8, zAS, zAA, List.getElem?_cons_zero, Option.some.injEq, exists_eq_left', zDV (ty _ _ _), zFR, zDC, D.bl.injEq, decide_eq_true_eq]
  split
  · rename_i h
    (try dsimp only); rw [zCA]; simp only [zBY, List.set_cons_succ, List.set_cons_zero, zCD, zAK, zAA, List.getElem?_cons_succ, List.getElem?_cons_zero, Option.some.injEq, exists_eq_left', zAS, zA8, zDV (ty _ _ _), zFR, zCO]
    refine ⟨by omega, ?_⟩
    (try dsimp only); rw [zCA]; simp only [zC1, zCD, zA8, zAA, List.getElem?_cons_zero, Option.some.injEq, exists_eq_left', zAK, List.getElem?_cons_succ, zAS, zDV (ty _ _ _), zFR, zCN, zE1 (ty _ _ _)]
    refine ⟨⟨by omega, lm⟩, 0, rfl, ?_⟩
    rw [updD_updD]
    (try dsimp only); rw [zCA]; simp only [zC9, List.set_cons_zero, zBW, zCD, zAA, List.getElem?_cons_succ, List.getElem?_cons_zero, Option.some.injEq, exists_eq_left']
    exact .now (q _ (a / m) c (Int.emod_nonneg _ (by omega)) (Int.emod_lt_of_pos _ hm) ⟨Int.ediv_nonneg a0 (by omega), b0, b1, c0⟩ (by omega) (by omega))
  · rename_i h
    (try dsimp only); rw [zCA]; simp only [zCC, zC1, zCD, zA8, zAA, List.getElem?_cons_zero, Option.some.injEq, exists_eq_left', zAK, zCK, zAS, zDV (ty _ _ _), zFT, List.getElem?_cons_succ, zCQ, zE1 (ty _ _ _)]
    refine ⟨2, rfl, ?_⟩
    rw [updD_updD]
    show evSs _ _ _ _ (updD T0 p (pe3 a b (c + 65537)))
    (try dsimp only); rw [zCA]; simp only [zCC, zBY, List.set_cons_succ, List.set_cons_zero, zCD, zAK, zCK, zCM, zA8, zAS, zAA, List.getElem?_cons_zero, Option.some.injEq, exists_eq_left', zDV (ty _ _ _), zFS, List.getElem?_cons_succ, zCQ, zCU, zCO, zFT]
    have m0 := Int.emod_nonneg ((b + 1) * 69621) (b := 2147483647) (by decide)
    have m1 := Int.emod_lt_of_pos ((b + 1) * 69621) (b := 2147483647) (by decide)
    refine ⟨log2_mul (nat_le (by omega) (by decide)) (by decide), by decide, log2_mul (nat_le (by omega) (by decide)) (by decide), ?_⟩
    generalize hx : (b + 1) * 69621 % 2147483647 + (c + 65537) * 40503 = x
    have x0 : 0 ≤ x ∧ x < 100000000000000000000000000000 := by omega
    (try dsimp only); rw [zCA]; simp only [zCC, zBY, List.set_cons_succ, List.set_cons_zero, zCD, zAK, zA8, zCK, zCM, zAS, zAA, List.getElem?_cons_zero, Option.some.injEq, exists_eq_left', List.getElem?_cons_succ, zCU, zDV (ty _ _ _), zFT, zCQ, zCO]
    refine ⟨log2_mul (nat_le (by omega) (by decide)) (nat_le (by omega) (by decide)), log2_mul (by decide) (nat_le (by omega) (by decide)), by decide, ?_⟩
    generalize (x * x + 104729 * (c + 65537)) % 2305843009213693951 = y
    (try dsimp only); rw [zCA]; simp only [zC9, zCB, zCC, zBW, zCD, zAK, zAA, List.getElem?_cons_succ, List.getElem?_cons_zero, Option.some.injEq, exists_eq_left', zA8, zCN, zCO]
    exact ⟨⟨by decide, by decide⟩, hm, .now (q _ a (c + 65537) (Int.emod_nonneg _ (by omega)) (Int.emod_lt_of_pos _ hm) ⟨a0, b0, b1, by omega⟩ (by omega) (by omega))⟩
theorem ctake {n : Nat} {T0 : DH} {p : Addr} {a b c m : Int} {Q : DQ} {E : EQ} (hn : 1 ≤ n) (hp : Ep a b c) (hb : c < 1000000000000000000000) (hm : 0 < m) (hm2 : m ≤ 1000000000000)
    (q : ∀ r a' c', 0 ≤ r → r < m → Ep a' b c' → c ≤ c' → c' ≤ c + 65537 → Q (.int r) (updD T0 p (pe3 a' b c'))) : G n 8 [.ref p, .int m] (updD T0 p (pe3 a b c)) Q E :=
  ⟨hn, T0, p, a, b, c, m, rfl, rfl, hp, hb, hm, hm2, q⟩

theorem ob__law_many : ∀ n ds T Q E, ds.length = 1 → G (n + 1) 11 ds T Q E → evSs (G n) ir__law_many (endsD Q E) (startD ns__law_many ds) T := by
  rintro n ds T Q E - ⟨hn, T0, p, a, b, c, rfl, rfl, ep, hc, q⟩
  rw [st__law_many]; unfold ir__law_many
  unfold cTop at hc
  (try dsimp only); rw [zCA]; simp only [zC9, zCB, zCC, zBW, zCD, zAS, zAK, zA8, zB2, zBF, zBE, zAA, List.getElem?_cons_zero, Option.some.injEq, exists_eq_left', zAE, zCJ, zCK]
  refine ctake (by omega) ep (by omega) (by decide) (by decide) fun x1 a1 c1 h1 h2 ep h3 h4 => ?_
  (try simp only [zCQ])
  refine ctake (by omega) ep (by omega) (by decide) (by decide) fun x2 a2 c2 h5 h6 ep h7 h8 => ?_
  (try simp only [zCQ])
  refine ctake (by omega) ep (by omega) (by decide) (by decide) fun x3 a3 c3 h9 h10 ep h11 h12 => ?_
  (try simp only [zCN, zDT])
  obtain ⟨j, l1, l2⟩ := zHB (zs := [1 + x1, 1 + x2, 60, 1]) (i := x3 / 4) (by omega) (by simp; omega)
  have hj : 1 ≤ j ∧ j ≤ 60 := by simp only [List.mem_cons, List.not_mem_nil, or_false] at l1; omega
  exact ⟨by decide, _, l2, .now (q j a3 c3 hj.1 hj.2 ep (by omega) (by omega))⟩
/-! ### labels -/
def strL (l : List Nat) : Str := ⟨l.toArray⟩
theorem strL_add (a b : List Nat) : strL a ++ strL b = strL (a ++ b) := by
  show (⟨a.toArray ++ b.toArray⟩ : Str) = ⟨(a ++ b).toArray⟩
  simp
theorem strL_of (s : Str) : s = strL s.cps.toList := rfl
theorem strL_ok {l : List Nat} (h : ∀ c ∈ l, 97 ≤ c ∧ c ≤ 122) (h1 : 1 ≤ l.length) (h8 : l.length ≤ 8) : nmOk (strL l) := by
  have e : (strL l).cps.toList = l := by simp [strL]
  refine ⟨fun c hc => ?_, by rw [zGL, e]; exact h8, by rw [zGL, e]; exact h1, fun c hc => ?_⟩
  · rw [e] at hc; have := h c hc; omega
  · rw [e] at hc; exact h c hc
theorem letter_at : ∀ i, i < 26 → ("abcdefghijklmnopqrstuvwxyz" : Str).cps.toList[i]? = some (97 + i) := by decide +kernel
theorem letters_len : ("abcdefghijklmnopqrstuvwxyz" : Str).length = 26 := by decide +kernel
theorem at_letter {i : Int} (h0 : 0 ≤ i) (h1 : i < 26) : atI ("abcdefghijklmnopqrstuvwxyz" : Str).cps.toList i = some (97 + i.toNat) := by
  have e : ((i.toNat : Nat) : Int) = i := by omega
  rw [← e, zFQ, letter_at _ (by omega), e]
theorem join_ones : ∀ bs : List Nat, Str.join "" (bs.map fun x => strL [x]) = strL bs
  | [] => rfl
  | [x] => rfl
  | x :: y :: r => by
    have q := join_ones (y :: r)
    show strL [x] ++ "" ++ Str.join "" ((y :: r).map fun x => strL [x]) = _
    rw [q]
    have e : strL [x] ++ ("" : Str) = strL [x] := by
      show (⟨#[x] ++ ("" : Str).cps⟩ : Str) = ⟨#[x]⟩
      have : ("" : Str).cps = #[] := rfl
      rw [this]; simp
    rw [e, strL_add]; rfl

def pairL (t k : Nat) : List Nat := [97 + (t + 7 * k) % 26, 97 + (t + k / 26) % 26]
def ownW : List Str := ["none", "falls", "parts", "row", "round", "ok", "bar", "cut"]
def labC (way : Int) (t : Nat) (base : List Nat) (k : Nat) : List Nat :=
  if way = 0 then (if k < 8 then (ownW.getD ((t + k) % 8) "").cps.toList else [113, 113, 113, 113] ++ pairL t k)
  else if way = 1 then pairL t k ++ List.replicate (k % 6) 122 else base ++ pairL t k
theorem pair_ne : ∀ t, t < 26 → ∀ k, k < 41 → ∀ j, j < k → pairL t j ≠ pairL t k := by decide +kernel
theorem own_ne : ∀ t, t < 26 → ∀ k, k < 8 → ∀ j, j < k → (ownW.getD ((t + j) % 8) "").cps.toList ≠ (ownW.getD ((t + k) % 8) "").cps.toList := by decide +kernel
theorem own_ok : ∀ i, i < 8 → ((ownW.getD i "").cps.toList.all fun c => decide (97 ≤ c ∧ c ≤ 122)) = true ∧ (ownW.getD i "").cps.toList.length ≤ 5 ∧ 1 ≤ (ownW.getD i "").cps.toList.length := by decide +kernel
theorem pair_len {t k : Nat} : (pairL t k).length = 2 := rfl
theorem labC_ne {way : Int} {t : Nat} {base : List Nat} (ht : t < 26) {j k : Nat} (hk : k < 41) (hj : j < k) : labC way t base j ≠ labC way t base k := by
  unfold labC
  by_cases h0 : way = 0
  · rw [if_pos h0, if_pos h0]
    by_cases k8 : k < 8
    · rw [if_pos k8, if_pos (by omega)]
      exact own_ne t ht k k8 j hj
    · rw [if_neg k8]
      by_cases j8 : j < 8
      · rw [if_pos j8]
        intro e
        have h1 := (own_ok ((t + j) % 8) (Nat.mod_lt _ (by decide))).2.1
        rw [e, List.length_append, pair_len] at h1
        simp at h1
      · rw [if_neg j8]
        exact fun e => pair_ne t ht k hk j hj (List.append_cancel_left e)
  · rw [if_neg h0, if_neg h0]
    by_cases h1 : way = 1
    · rw [if_pos h1, if_pos h1]
      intro e
      exact pair_ne t ht k hk j hj (List.append_inj e rfl).1
    · rw [if_neg h1, if_neg h1]
      exact fun e => pair_ne t ht k hk j hj (List.append_cancel_left e)
theorem labs_nodup {way : Int} {t : Nat} {base : List Nat} (ht : t < 26) {m : Nat} (hm : m ≤ 41) : ((List.range m).map fun k => strL (labC way t base k)).Nodup := by
  rw [List.Nodup, List.pairwise_map]
  refine List.Pairwise.imp_of_mem (R := (· < ·)) (fun {a b} ha hb hlt e => ?_) List.pairwise_lt_range
  have e2 : labC way t base a = labC way t base b := by
    have := congrArg (fun s : Str => s.cps.toList) e
    simpa [strL] using this
  exact labC_ne ht (by have := List.mem_range.mp hb; omega) hlt e2
theorem pair_rg {t k c : Nat} (h : c ∈ pairL t k) : 97 ≤ c ∧ c ≤ 122 := by
  unfold pairL at h
  simp only [List.mem_cons, List.not_mem_nil, or_false] at h
  omega
theorem labC_ok {way : Int} {t : Nat} {base : List Nat} {k : Nat} (hb : ∀ c ∈ base, 97 ≤ c ∧ c ≤ 122) (hl : base.length ≤ 6) : nmOk (strL (labC way t base k)) := by
  unfold labC
  split
  · split
    · have h := own_ok ((t + k) % 8) (Nat.mod_lt _ (by decide))
      exact strL_ok (fun c hc => by simpa using List.all_eq_true.mp h.1 c hc) h.2.2 (by omega)
    · refine strL_ok (fun c hc => ?_) (by simp [pair_len]) (by simp [pair_len])
      rcases List.mem_append.mp hc with h | h
      · simp only [List.mem_cons, List.not_mem_nil, or_false] at h; omega
      · exact pair_rg h
  · split
    · refine strL_ok (fun c hc => ?_) (by simp [pair_len]; omega) (by simp [pair_len]; omega)
      rcases List.mem_append.mp hc with h | h
      · exact pair_rg h
      · have := List.eq_of_mem_replicate h; omega
    · refine strL_ok (fun c hc => ?_) (by simp [pair_len]) (by simp [pair_len]; omega)
      rcases List.mem_append.mp hc with h | h
      · exact hb c h
      · exact pair_rg h
theorem zzz : ∀ k, k < 6 → repS ("z" : Str) k = strL (List.replicate k 122) := by decide +kernel
theorem ob__law_labels : ∀ n ds T Q E, ds.length = 2 → G (n + 1) 9 ds T Q E → evSs (G n) ir__law_labels (endsD Q E) (startD ns__law_labels ds) T := by
  rintro n ds T Q E - ⟨hn, T0, p, a, b, c, m, rfl, rfl, ep, hc, m0, m1, q⟩
  rw [st__law_labels]; unfold ir__law_labels
  unfold cTop at hc
  (try dsimp only); rw [zCA]; simp only [zCC, zBY, List.set_cons_succ, List.set_cons_zero, zCD, zA9]
  (try dsimp only); rw [zCA]; simp only [zCC, zBY, List.set_cons_succ, List.set_cons_zero, zCD, zAE, zCJ, zBF, zBE, zA9]
  (try dsimp only); rw [zCA]; simp only [zCC, zBY, List.set_cons_succ, List.set_cons_zero, zCD, zB2, zBF, zBE, zA8, zAA, List.getElem?_cons_zero, Option.some.injEq, exists_eq_left']
  refine ctake (by omega) ep (by omega) (by decide) (by decide) fun way a1 c1 w0 w1 ep h3 h4 => ?_
  (try simp only [zA0, zA1, zA2, zA3, zA4, zA5, zA6, zA7, zA8, zA9, zAA, zAB, zAC, zAD, zAE, zAF, zAG, zAH, zAI, zAJ, zAK, zAL, zAM, zAN, zAO, zAP, zAQ, zAR, zAS, zAT, zAU, zAV, zAW, zAX, zAY, zAZ, zB0, zB1, zB2, zB3, zB4, zB5, zB6, zB7, zB8, zB9, zBA, zBB, zBC, zBD, zBE, zBF, zBG, zBH, zBI, zBJ, zBK, zBL, zBM, zBN, zBO, zBP, zBQ, zBR, zBS, zBT, zBU, zBV, zBW, zBX, zBY, zBZ, zC0, zC1, zC2, zC3, zC4, zC5, zC6, zC7, zC8, zC9, zCB, zCC, zCD, zCE, zCF, zCG, zCH, zCI, zCJ, zCK, zCL, zCM, zCN, zCO, zCP, zCQ, zCR, zCS, zCT, zCU, zCV, zCW, zCX, zCY, zCZ, zD0, zD1, zD2, zD3, zD4, zD5, zD6, zD7, zD8, zD9, zDA, zDB, zDC, zDD, zDE, zDF, zDG, zDH, zDI, zDJ, zDK, zDL, zDM, zDN, zDO, zDS, zDT, zDU, zDV, zDW, zDX, zDY, zDZ, zE0, zE1, zE3, zE4, zE5, zE6, zE7, zE8, zE9, zEA, zEB, zEC, zED, zEE, zEF, zEG, zEH, zEI, zEK, zEL, zEM, zEN, zEO, zEP, zEQ, zER, zES, zET, zEU, zEV, zEW, zEX, zEY, zEZ, zF0, zF1, zF2, zF3, zF4, zF5, zF6, zF8, zF9, zFA, zFB, zFC, zFD, zFE, zFF, zFG, zFH, zFJ, zFK, zFL, zFM, zFN, zFO, zFP, zFR, zFS, zFT, zFU, zFV, zFW, zGA, zGB, zGC, zH4, zH5, zEY, zI6, zI7, zI8, zI9, zIA, zIJ, zIL, zIM, zIP, zIX, zIY, eq_self, List.map_cons, List.map_nil, List.set_cons_zero, List.set_cons_succ, List.getElem?_cons_zero, List.getElem?_cons_succ, Option.some.injEq, exists_eq_left', exists_eq_left, exists_eq, true_and, and_true, decide_eq_true_eq, Bool.not_eq_true, Bool.false_eq_true, if_true, if_false, ite_true, ite_false, D.int.injEq, D.str.injEq, D.bl.injEq, D.ref.injEq, exists_and_left, bne_iff_ne, ne_eq, Bool.not_true, Bool.not_false, decide_true, decide_false, Bool.and_true, Bool.and_false, Bool.or_false, Bool.or_true, reduceCtorEq])
  (try dsimp only); rw [zCA]; simp only [zCC, zBY, List.set_cons_succ, List.set_cons_zero, zCD, zB2, zBF, zBE, zA8, zAA, List.getElem?_cons_zero, Option.some.injEq, exists_eq_left']
  refine ctake (by omega) ep (by omega) (by decide) (by decide) fun t a2 c2 t0 t1 ep h5 h6 => ?_
  (try simp only [zA0, zA1, zA2, zA3, zA4, zA5, zA6, zA7, zA8, zA9, zAA, zAB, zAC, zAD, zAE, zAF, zAG, zAH, zAI, zAJ, zAK, zAL, zAM, zAN, zAO, zAP, zAQ, zAR, zAS, zAT, zAU, zAV, zAW, zAX, zAY, zAZ, zB0, zB1, zB2, zB3, zB4, zB5, zB6, zB7, zB8, zB9, zBA, zBB, zBC, zBD, zBE, zBF, zBG, zBH, zBI, zBJ, zBK, zBL, zBM, zBN, zBO, zBP, zBQ, zBR, zBS, zBT, zBU, zBV, zBW, zBX, zBY, zBZ, zC0, zC1, zC2, zC3, zC4, zC5, zC6, zC7, zC8, zC9, zCB, zCC, zCD, zCE, zCF, zCG, zCH, zCI, zCJ, zCK, zCL, zCM, zCN, zCO, zCP, zCQ, zCR, zCS, zCT, zCU, zCV, zCW, zCX, zCY, zCZ, zD0, zD1, zD2, zD3, zD4, zD5, zD6, zD7, zD8, zD9, zDA, zDB, zDC, zDD, zDE, zDF, zDG, zDH, zDI, zDJ, zDK, zDL, zDM, zDN, zDO, zDS, zDT, zDU, zDV, zDW, zDX, zDY, zDZ, zE0, zE1, zE3, zE4, zE5, zE6, zE7, zE8, zE9, zEA, zEB, zEC, zED, zEE, zEF, zEG, zEH, zEI, zEK, zEL, zEM, zEN, zEO, zEP, zEQ, zER, zES, zET, zEU, zEV, zEW, zEX, zEY, zEZ, zF0, zF1, zF2, zF3, zF4, zF5, zF6, zF8, zF9, zFA, zFB, zFC, zFD, zFE, zFF, zFG, zFH, zFJ, zFK, zFL, zFM, zFN, zFO, zFP, zFR, zFS, zFT, zFU, zFV, zFW, zGA, zGB, zGC, zH4, zH5, zEY, zI6, zI7, zI8, zI9, zIA, zIJ, zIL, zIM, zIP, zIX, zIY, eq_self, List.map_cons, List.map_nil, List.set_cons_zero, List.set_cons_succ, List.getElem?_cons_zero, List.getElem?_cons_succ, Option.some.injEq, exists_eq_left', exists_eq_left, exists_eq, true_and, and_true, decide_eq_true_eq, Bool.not_eq_true, Bool.false_eq_true, if_true, if_false, ite_true, ite_false, D.int.injEq, D.str.injEq, D.bl.injEq, D.ref.injEq, exists_and_left, bne_iff_ne, ne_eq, Bool.not_true, Bool.not_false, decide_true, decide_false, Bool.and_true, Bool.and_false, Bool.or_false, Bool.or_true, reduceCtorEq])
  (try dsimp only); rw [zCA]; simp only [zCC, zBY, List.set_cons_succ, List.set_cons_zero, zCD, zB4, zBF, zBE, zB5, List.map_cons, List.map_nil, zGC, zGB, zCJ, zBL, zB2, zA8, zAA, List.getElem?_cons_zero, Option.some.injEq, exists_eq_left', zA9, zF9, zF3, zF4, true_and]
  refine ctake (by omega) ep (by omega) (by decide) (by decide) fun bl a3 c3 b0 b1 ep h7 h8 => ?_
  (try simp only [D.int.injEq, exists_eq_left'])
  refine ⟨by omega, by omega, ?_⟩
  refine zG0 (fun i acc T' => ∃ (bs : List Nat) (a' c' : Int), acc = (bs.map fun x => strL [x]).map .str ∧ bs.length = i ∧ (∀ x ∈ bs, 97 ≤ x ∧ x ≤ 122) ∧ Ep a' b c' ∧ c3 ≤ c' ∧ c' ≤ c3 + 65537 * i ∧ T' = updD T0 p (pe3 a' b c')) ⟨[], a3, c3, rfl, rfl, by simp, ep, by omega, by omega, rfl⟩ (fun _ _ _ _ _ => trivial) ?_ ?_
  · rintro i x acc T' K hx ⟨bs, a', c', rfl, hl, hb, ep, h9, h10, rfl⟩ hK
    obtain ⟨rfl, hi⟩ := range_at hx
    refine ⟨_, zCE, ?_⟩
    (try simp only [List.set_cons_succ, List.set_cons_zero, zAS, zB2, zBF, zBE, zA8, zAA, List.getElem?_cons_zero, Option.some.injEq, exists_eq_left', List.getElem?_cons_succ, zBI, if_true])
    refine ctake (by omega) ep (by omega) (by decide) (by decide) fun r a4 c4 r0 r1 ep h11 h12 => ?_
    (try simp only [zE0, letters_len, at_letter r0 r1, Option.some.injEq, exists_eq_left'])
    refine ⟨zGK (by decide), zGK (by rw [List.length_map, List.length_map]; omega), hK _ _ ⟨bs ++ [97 + r.toNat], a4, c4, by rw [List.map_append, List.map_append]; rfl, by simp [hl], fun x hx => ?_, ep, by omega, by omega, rfl⟩⟩
    rcases List.mem_append.mp hx with h | h
    · exact hb x h
    · rw [List.mem_singleton.mp h]; omega
  rintro acc T' ⟨bs, a', c', rfl, hl, hb, ep, h9, h10, rfl⟩
  have hl6 : bs.length ≤ 6 := by
    rw [List.length_map, List.length_range] at hl; omega
  have h10 : c' ≤ c3 + 65537 * 6 := by
    rw [List.length_map, List.length_range] at h10; omega
  obtain ⟨t, rfl⟩ : ∃ k : Nat, t = k := ⟨t.toNat, by omega⟩
  have t1 : t < 26 := by omega
  (try simp only [zA0, zA1, zA2, zA3, zA4, zA5, zA6, zA7, zA8, zA9, zAA, zAB, zAC, zAD, zAE, zAF, zAG, zAH, zAI, zAJ, zAK, zAL, zAM, zAN, zAO, zAP, zAQ, zAR, zAS, zAT, zAU, zAV, zAW, zAX, zAY, zAZ, zB0, zB1, zB2, zB3, zB4, zB5, zB6, zB7, zB8, zB9, zBA, zBB, zBC, zBD, zBE, zBF, zBG, zBH, zBI, zBJ, zBK, zBL, zBM, zBN, zBO, zBP, zBQ, zBR, zBS, zBT, zBU, zBV, zBW, zBX, zBY, zBZ, zC0, zC1, zC2, zC3, zC4, zC5, zC6, zC7, zC8, zC9, zCB, zCC, zCD, zCE, zCF, zCG, zCH, zCI, zCJ, zCK, zCL, zCM, zCN, zCO, zCP, zCQ, zCR, zCS, zCT, zCU, zCV, zCW, zCX, zCY, zCZ, zD0, zD1, zD2, zD3, zD4, zD5, zD6, zD7, zD8, zD9, zDA, zDB, zDC, zDD, zDE, zDF, zDG, zDH, zDI, zDJ, zDK, zDL, zDM, zDN, zDO, zDS, zDT, zDU, zDV, zDW, zDX, zDY, zDZ, zE0, zE1, zE3, zE4, zE5, zE6, zE7, zE8, zE9, zEA, zEB, zEC, zED, zEE, zEF, zEG, zEH, zEI, zEK, zEL, zEM, zEN, zEO, zEP, zEQ, zER, zES, zET, zEU, zEV, zEW, zEX, zEY, zEZ, zF0, zF1, zF2, zF3, zF4, zF5, zF6, zF8, zF9, zFA, zFB, zFC, zFD, zFE, zFF, zFG, zFH, zFJ, zFK, zFL, zFM, zFN, zFO, zFP, zFR, zFS, zFT, zFU, zFV, zFW, zGA, zGB, zGC, zH4, zH5, zEY, zI6, zI7, zI8, zI9, zIA, zIJ, zIL, zIM, zIP, zIX, zIY, eq_self, List.map_cons, List.map_nil, List.set_cons_zero, List.set_cons_succ, List.getElem?_cons_zero, List.getElem?_cons_succ, Option.some.injEq, exists_eq_left', exists_eq_left, exists_eq, true_and, and_true, decide_eq_true_eq, Bool.not_eq_true, Bool.false_eq_true, if_true, if_false, ite_true, ite_false, D.int.injEq, D.str.injEq, D.bl.injEq, D.ref.injEq, exists_and_left, bne_iff_ne, ne_eq, Bool.not_true, Bool.not_false, decide_true, decide_false, Bool.and_true, Bool.and_false, Bool.or_false, Bool.or_true, reduceCtorEq])
  have so : ((bs.map fun x => strL [x]).map (·.length)).sum = bs.length := by rw [zH8 (fun z hz => by obtain ⟨x, _, rfl⟩ := List.mem_map.mp hz; rfl), List.length_map]
  refine ⟨_, zGW _, by rw [so, show ("" : Str).length = 0 from rfl, Nat.mul_zero]; omega, ?_⟩
  rw [join_ones]
  (try dsimp only); rw [zCA]; simp only [zCC, zBY, List.set_cons_succ, List.set_cons_zero, zCD, zAE, zCI, zBE]
  intro y hy
  obtain ⟨hyp, hyT⟩ := updD_none hy
  rw [zH1 (Ne.symm hyp)]
  (try dsimp only); rw [zCA]; simp only [zCC, zC4, zCD, zBL, zAA, List.getElem?_cons_succ, List.getElem?_cons_zero, Option.some.injEq, exists_eq_left', D.int.injEq]
  refine ⟨by omega, by omega, ?_⟩
  refine zFZ (fun i de T' => T' = updD (updD T0 y (.lst (((List.range i).map fun k => strL (labC way t bs k)).map .str))) p (pe3 a' b c') ∧ ∃ w7 w9, de = [some (.ref p), some (.int m), some (.str "abcdefghijklmnopqrstuvwxyz"), some (.lst (ownW.map .str)), some (.int way), some (.int t), some (.str (strL bs)), w7, some (.ref y), w9]) ⟨rfl, _, _, rfl⟩ (fun _ _ _ _ _ => trivial) ?_ ?_
  · rintro i x de T' K hx ⟨rfl, w7, w9, rfl⟩ hK
    obtain ⟨rfl, hi⟩ := range_at hx
    have i40 : i < 41 := by omega
    have e1 : ((t : Int) + 7 * (i : Int)) % 26 = (((t + 7 * i) % 26 : Nat) : Int) := by omega
    have e2 : ((t : Int) + (i : Int) / 26) % 26 = (((t + i / 26) % 26 : Nat) : Int) := by omega
    have a1 := letter_at ((t + 7 * i) % 26) (Nat.mod_lt _ (by decide))
    have a2 := letter_at ((t + i / 26) % 26) (Nat.mod_lt _ (by decide))
    have hyy : ∀ o, (updD (updD T0 y (.lst (((List.range i).map fun k => strL (labC way t bs k)).map .str))) p o) y = some (.lst (((List.range i).map fun k => strL (labC way t bs k)).map .str)) := fun o => by rw [updD_ne hyp, updD_same]
    have pw : (⟨#[97 + (t + 7 * i) % 26]⟩ : Str) ++ ⟨#[97 + (t + i / 26) % 26]⟩ = strL (pairL t i) := rfl
    have step : ∀ z : Str, z = strL (labC way t bs i) → ∀ w9, K [some (.ref p), some (.int m), some (.str "abcdefghijklmnopqrstuvwxyz"), some (.lst (ownW.map .str)), some (.int way), some (.int t), some (.str (strL bs)), some (.int i), some (.ref y), w9] (updD (updD (updD T0 y (.lst (((List.range i).map fun k => strL (labC way t bs k)).map .str))) p (pe3 a' b c')) y (.lst ((((List.range i).map fun k => strL (labC way t bs k)).map .str) ++ [.str z]))) := by
      rintro z rfl w9
      rw [zH1 (Ne.symm hyp), updD_updD]
      refine hK _ _ ⟨?_, _, _, rfl⟩
      rw [List.range_succ, List.map_append, List.map_append]; rfl
    have sz : (((List.range i).map fun k => strL (labC way t bs k)).map D.str).length < sizeLine := sz_lt (by rw [List.length_map, List.length_map, List.length_range]; omega)
    refine ⟨_, zCE, ?_⟩
    (try dsimp only); rw [zCA]; simp only [List.set_cons_succ, List.set_cons_zero, zBY, zCD, zAK, zCK, zAS, zA8, zAA, List.getElem?_cons_succ, List.getElem?_cons_zero, Option.some.injEq, exists_eq_left', zCN, zCQ, zCO, e2, zE0, letters_len, zFQ, a2, zCM, zCU, e1, a1, zCR, zGT, pw]
    refine ⟨log2_mul (by decide) (nat_le (by omega) (by decide)), by decide, zGK (by decide), ⟨by decide, by decide⟩, by decide, zGK (by decide), zGK (by decide), ?_⟩
    unfold labC at step
    by_cases w0' : way = 0
    · subst w0'
      simp only [if_true] at step
      by_cases i8 : i < 8
      · have i8' : (i : Int) < 8 := by omega
        have e3 : ((t : Int) + (i : Int)) % 8 = (((t + i) % 8 : Nat) : Int) := by omega
        have a3 : (ownW.map D.str)[(t + i) % 8]? = some (.str (ownW.getD ((t + i) % 8) "")) := by
          have h8 : (t + i) % 8 < ownW.length := Nat.mod_lt _ (by decide)
          rw [List.getElem?_map, List.getElem?_eq_getElem h8, List.getD_eq_getElem?_getD, List.getElem?_eq_getElem h8]; rfl
        rw [if_pos i8] at step
        (try dsimp only); rw [zCA]; simp only [zC9, zC3, zCD, zB7, zBB, zA8, zAA, List.getElem?_cons_succ, List.getElem?_cons_zero, Option.some.injEq, exists_eq_left', zDA, i8', decide_true, D.bl.injEq, if_true, Bool.false_eq_true, if_false, zDE, zDM]
        (try dsimp only); rw [zCA]; simp only [zC9, zBV, zCD, zB4, zBF, zBE, zEY, zAS, zAK, zA8, zCK, zAA, List.getElem?_cons_succ, List.getElem?_cons_zero, Option.some.injEq, exists_eq_left', zCQ, zCO, e3, zDT, zFQ, a3, zFA (hyy _), zEZ (hyy _), true_and]
        exact ⟨by decide, sz, step _ (strL_of _) _⟩
      · have i8' : ¬ (i : Int) < 8 := by omega
        rw [if_neg i8] at step
        (try dsimp only); rw [zCA]; simp only [zC9, zC3, zCD, zB7, zBB, zA8, zAA, List.getElem?_cons_succ, List.getElem?_cons_zero, Option.some.injEq, exists_eq_left', zDA, i8', decide_false, D.bl.injEq, Bool.false_eq_true, if_false, zDE, zDM, decide_true, if_true]
        (try dsimp only); rw [zCA]; simp only [zC9, zC3, zCD, zBB, zDE, D.bl.injEq, exists_eq_left', zA8, zAA, List.getElem?_cons_succ, List.getElem?_cons_zero, Option.some.injEq, zDM, decide_true, if_true]
        (try dsimp only); rw [zCA]; simp only [zC9, zBV, zCD, zB4, zBF, zBE, zEY, zAK, zCK, zAA, List.getElem?_cons_succ, List.getElem?_cons_zero, Option.some.injEq, exists_eq_left', zA9, zCR, zFA (hyy _), zEZ (hyy _), true_and]
        refine ⟨zGK (show 4 + 2 ≤ _ by decide), sz, step _ ?_ _⟩
        rw [← strL_add]; rfl
    · rw [if_neg w0'] at step
      (try dsimp only); rw [zCA]; simp only [zC9, zC3, zCD, zB7, zBB, zA8, zAA, List.getElem?_cons_succ, List.getElem?_cons_zero, Option.some.injEq, exists_eq_left', zDA, D.bl.injEq, decide_eq_true_eq, Bool.false_eq_true, if_false, zDE, zDM, w0', decide_false]
      (try dsimp only); rw [zCA]; simp only [zC9, zC3, zCD, zBB, zDE, D.bl.injEq, exists_eq_left', zA8, zAA, List.getElem?_cons_succ, List.getElem?_cons_zero, Option.some.injEq, zDM, w0', decide_false, Bool.false_eq_true, if_false]
      by_cases w1' : way = 1
      · subst w1'
        simp only [if_true] at step
        have e3 : (i : Int) % 6 = ((i % 6 : Nat) : Int) := by omega
        (try dsimp only); rw [zCA]; simp only [zC9, zC3, zCD, zBB, zDE, D.bl.injEq, exists_eq_left', zA8, zAA, List.getElem?_cons_succ, List.getElem?_cons_zero, Option.some.injEq, zDM, decide_true, if_true]
        (try dsimp only); rw [zCA]; simp only [zC9, zBV, zCD, zB4, zBF, zBE, zEY, zAK, zCK, zCM, zA8, zAA, List.getElem?_cons_succ, List.getElem?_cons_zero, Option.some.injEq, exists_eq_left', zCO, e3, zA9, zCX, zCR, zFA (hyy _), zEZ (hyy _), true_and]
        refine ⟨by decide, by omega, by omega, by decide, ?_⟩
        rw [Int.toNat_natCast, zzz _ (Nat.mod_lt _ (by decide)), strL_add]
        refine ⟨zGK ?_, sz, step _ rfl _⟩
        show (pairL t i).toArray.size + (List.replicate (i % 6) 122).toArray.size ≤ _
        simp [pair_len]; omega
      · rw [if_neg w1'] at step
        (try dsimp only); rw [zCA]; simp only [zC9, zC3, zCD, zBB, zDE, D.bl.injEq, exists_eq_left', zA8, zAA, List.getElem?_cons_succ, List.getElem?_cons_zero, Option.some.injEq, zDM, w1', decide_false, Bool.false_eq_true, if_false]
        (try dsimp only); rw [zCA]; simp only [zC9, zBV, zCD, zB4, zBF, zBE, zEY, zAK, zCK, zAA, List.getElem?_cons_succ, List.getElem?_cons_zero, Option.some.injEq, exists_eq_left', zCR, zFA (hyy _), zEZ (hyy _), true_and]
        rw [strL_add]
        refine ⟨zGK ?_, sz, step _ rfl _⟩
        show bs.toArray.size + (pairL t i).toArray.size ≤ _
        simp [pair_len]; omega
  · rintro de T' ⟨rfl, w7, w9, rfl⟩
    have e : ((List.range m.toNat).map fun (i : Nat) => D.int i).length = m.toNat := by simp
    rw [e, zH1 hyp]
    (try dsimp only); rw [zCA]; simp only [zC9, zCB, zCC, zBW, zCD, zAA, List.getElem?_cons_succ, List.getElem?_cons_zero, Option.some.injEq, exists_eq_left']
    refine .frz (by rw [updD_ne hyp]; exact hyT) (q _ a' c' (by simp; omega) (fun z hz => ?_) (labs_nodup t1 (by omega)) ep (by omega) (by omega))
    obtain ⟨k, _, rfl⟩ := List.mem_map.mp hz
    exact labC_ok hb hl6
/-! ### editions -/
theorem Eok.snoc {many : Int} {e : List Bar} {z : Str} {at_ last : Int} (h : Eok many e) (hl : e.length < 40) (h0 : 0 ≤ at_) (h1 : at_ ≤ last) (h2 : last < many) (ho : ∀ x ∈ e, x.2.2 < at_) (hz : nmOk z) (hn : z ∉ e.map (·.1)) : Eok many (e ++ [(z, at_, last)]) := by
  refine ⟨by simp; omega, fun x hx => ?_, ?_, fun x hx => ?_, ?_⟩
  · rcases List.mem_append.mp hx with h' | h'
    · exact h.rg x h'
    · rw [List.mem_singleton.mp h']; exact ⟨h0, h1, h2⟩
  · refine List.pairwise_append.mpr ⟨h.ord, List.pairwise_singleton _ _, fun x hx y hy => ?_⟩
    rw [List.mem_singleton.mp hy]; exact ho x hx
  · rcases List.mem_append.mp hx with h' | h'
    · exact h.nm x h'
    · rw [List.mem_singleton.mp h']; exact hz
  · rw [List.map_append]
    refine List.nodup_append.mpr ⟨h.nd, (List.nodup_cons.mpr ⟨List.not_mem_nil, List.nodup_nil⟩), fun a ha b hb => ?_⟩
    rw [List.mem_singleton.mp hb]
    exact fun (ee : a = z) => hn (by rw [← ee]; exact ha)
theorem ob__law_edition : ∀ n ds T Q E, ds.length = 3 → G (n + 1) 10 ds T Q E → evSs (G n) ir__law_edition (endsD Q E) (startD ns__law_edition ds) T := by
  rintro n ds T Q E - ⟨hn, T0, p, a, b, c, many, zs, rfl, rfl, ep, hc, m0, m1, hz, zok, znd, q⟩
  rw [st__law_edition]; unfold ir__law_edition
  unfold cTop at hc
  (try dsimp only); rw [zCA]; simp only [zCC, zBY, List.set_cons_succ, List.set_cons_zero, zCD, zAS, zB2, zBF, zBE, zA8, zAA, List.getElem?_cons_zero, Option.some.injEq, exists_eq_left', zAE, zCJ]
  refine ctake (by omega) ep (by omega) (by decide) (by decide) fun x1 a1 c1 h1 h2 ep h3 h4 => ?_
  (try simp only [zDT])
  obtain ⟨lg, l1, l2⟩ := zHB (zs := [1, 2, 4, 12]) (i := x1) (by omega) (by simp; omega)
  have hlg : 1 ≤ lg ∧ lg ≤ 12 := by simp only [List.mem_cons, List.not_mem_nil, or_false] at l1; omega
  refine ⟨_, l2, ?_⟩
  (try dsimp only); rw [zCA]; simp only [zCC, zBY, List.set_cons_succ, List.set_cons_zero, zCD, zAS, zB2, zBF, zBE, zA8, zAA, List.getElem?_cons_zero, Option.some.injEq, exists_eq_left', zAE, zCJ]
  refine ctake (by omega) ep (by omega) (by decide) (by decide) fun x2 a2 c2 h5 h6 ep h7 h8 => ?_
  (try simp only [zDT])
  obtain ⟨gp, l1, l2⟩ := zHB (zs := [1, 1, 2, 5]) (i := x2) (by omega) (by simp; omega)
  have hgp : 1 ≤ gp ∧ gp ≤ 5 := by simp only [List.mem_cons, List.not_mem_nil, or_false] at l1; omega
  refine ⟨_, l2, ?_⟩
  (try dsimp only); rw [zCA]; simp only [zCC, zBY, List.set_cons_succ, List.set_cons_zero, zCD, zAE, zCI, zBE]
  intro y hy
  obtain ⟨hyp, hyT⟩ := updD_none hy
  rw [zH1 (Ne.symm hyp)]
  (try dsimp only); rw [zCA]; simp only [zCC, zBY, List.set_cons_succ, List.set_cons_zero, zCD, zAK, zCK, zCM, zAW, zBF, zBE, zAP, zDE, zEE, zA8, zB2, zAA, List.getElem?_cons_zero, Option.some.injEq, exists_eq_left', List.getElem?_cons_succ, zCU]
  refine ctake (by omega) ep (by omega) (by omega) (by omega) fun x3 a3 c3 h9 h10 ep h11 h12 => ?_
  (try simp only [zCQ])
  refine ctake (by omega) ep (by omega) (by decide) (by decide) fun x4 a4 c4 h13 h14 ep h15 h16 => ?_
  (try simp only [zDM, decide_eq_true_eq])
  have hin : 0 ≤ (if x4 = 0 then (1 : Int) else 0) ∧ (if x4 = 0 then (1 : Int) else 0) ≤ 1 := by split <;> omega
  generalize (if x4 = 0 then (1 : Int) else 0) = fl at hin
  refine ⟨log2_mul (nat_le (by omega) (by decide)) (nat_le (by omega) (by decide)), ?_⟩
  have hmf : 0 ≤ many * fl := Int.mul_nonneg (by omega) hin.1
  generalize many * fl = mf at hmf
  (try dsimp only); rw [zCA]; simp only [zCC, zC5, zCD, zB7, zBB, zAW, zE3, zBF, zBE, zAA, Bool.false_eq_true, if_false]
  refine ⟨fun m de T' => ∃ (e : List Bar), e.length + m = zs.length ∧ Eok many e ∧ e.map (·.1) = zs.take e.length ∧ ∃ (a' c' : Int), Ep a' b c' ∧ c4 ≤ c' ∧ c' ≤ c4 + 200000 * e.length ∧ ∃ (at_ : Int), 0 ≤ at_ ∧ (∀ x ∈ e, x.2.2 < at_) ∧ T' = updD (updD T0 y (.lst (e.map bD))) p (pe3 a' b c') ∧ ∃ w7,
    de = [some (.ref p), some (.int many), some (.lst (zs.map .str)), some (.int lg), some (.int gp), some (.ref y), some (.int at_), w7],
    ⟨zs.length, [], by simp, ⟨by simp, by simp, List.Pairwise.nil, by simp, List.nodup_nil⟩, rfl, a4, c4, ep, by omega, by simp, x3 + mf, by omega, by simp, rfl, none, rfl⟩, ?_⟩
  rintro m de T' ⟨e, hm, ok, hme, a', c', ep, k1, k2, at_, t0, hat, rfl, w7, rfl⟩
  have hyy : ∀ o, (updD (updD T0 y (.lst (e.map bD))) p o) y = some (.lst (e.map bD)) := fun o => by rw [updD_ne hyp, updD_same]
  have fin : RetD Q (.tup (e.map bD)) (updD (updD T0 y (.lst (e.map bD))) p (pe3 a' b c')) := by
    rw [zH1 hyp]
    exact .of (.drop (by rw [updD_ne hyp]; exact hyT)) (q e a' c' ok ep (by omega) (by have := ok.len; omega))
  (try simp only [List.getElem?_cons_succ, List.getElem?_cons_zero, Option.some.injEq, exists_eq_left', zE5, zDA, D.bl.injEq, decide_eq_true_eq])
  by_cases hc1 : at_ < many
  · (try simp only [hc1, List.length_map, zE8 (hyy _), zDA, D.bl.injEq, exists_eq_left', decide_eq_true_eq, if_true])
    by_cases hc2 : (e.length : Int) < zs.length
    · (try simp only [hc2, if_true])
      (try dsimp only); rw [zCA]; simp only [zBY, List.set_cons_succ, List.set_cons_zero, zCD, zAW, zBF, zBE, zAK, zCK, zB2, zAA, List.getElem?_cons_succ, List.getElem?_cons_zero, Option.some.injEq, exists_eq_left', zA8, zCL]
      refine ctake (by omega) ep (by omega) (by omega) (by omega) fun x5 a5 c5 h17 h18 ep h19 h20 => ?_
      (try simp only [zCQ, zEB])
      have hlast : ∃ last : Int, (if at_ + x5 < many - 1 then at_ + x5 else many - 1) = last ∧ at_ ≤ last ∧ last < many := ⟨_, rfl, by split <;> omega, by split <;> omega⟩
      obtain ⟨last, el, la, lb⟩ := hlast
      rw [el]
      have hl : e.length < zs.length := by omega
      have az : atI (zs.map D.str) (e.length : Int) = some (.str zs[e.length]) := zIK (List.getElem?_eq_getElem hl)
      (try dsimp only); rw [zCA]; simp only [zBV, zCD, zB4, zBF, zBE, zEY, zAD, zAA, List.getElem?_cons_succ, List.getElem?_cons_zero, Option.some.injEq, exists_eq_left', zAS, zAW, zE3, zE8 (hyy _), List.length_map, zDT, az, zFA (hyy _), zEZ (hyy _), true_and]
      refine ⟨sz_lt (by have := ok.len; omega), ?_⟩
      rw [zH1 (Ne.symm hyp), updD_updD]
      have hnew : zs[e.length] ∉ e.map (·.1) := by
        rw [hme]
        intro hmem
        obtain ⟨j, hj, ej⟩ := List.mem_iff_getElem.mp hmem
        rw [List.length_take] at hj
        rw [List.getElem_take] at ej
        have := (List.getElem_inj znd).mp ej
        omega
      have ok2 := ok.snoc (z := zs[e.length]) (at_ := at_) (last := last) (by omega) t0 la lb hat (zok _ (List.getElem_mem hl)) hnew
      (try dsimp only); rw [zCA]; simp only [zC9, zBY, List.set_cons_succ, List.set_cons_zero, zCD, zAK, zCK, zCM, zAW, zBF, zBE, zAP, zDE, zEE, zA8, zB2, zAA, List.getElem?_cons_zero, Option.some.injEq, exists_eq_left', List.getElem?_cons_succ, zCQ]
      refine ctake (by omega) ep (by omega) (by omega) (by omega) fun x6 a6 c6 h21 h22 ep h23 h24 => ?_
      (try simp only [zCU, zCQ])
      refine ctake (by omega) ep (by omega) (by decide) (by decide) fun x7 a7 c7 h25 h26 ep h27 h28 => ?_
      (try simp only [zDM, decide_eq_true_eq])
      have hin : 0 ≤ (if x7 = 0 then (1 : Int) else 0) ∧ (if x7 = 0 then (1 : Int) else 0) ≤ 1 := by split <;> omega
      generalize (if x7 = 0 then (1 : Int) else 0) = fl at hin
      refine ⟨log2_mul (nat_le (by omega) (by decide)) (nat_le (by omega) (by decide)), ?_⟩
      have hmf : 0 ≤ x6 * fl := Int.mul_nonneg (by omega) hin.1
      generalize x6 * fl = mf at hmf
      refine ⟨m - 1, by omega, e ++ [(zs[e.length], at_, last)], by simp; omega, ok2, ?_, a7, c7, ep, by omega, by simp; omega, last + 1 + mf, by omega, fun x hx => ?_, by rw [List.map_append]; rfl, _, rfl⟩
      · rw [List.map_append, hme, List.length_append, List.length_singleton, List.take_add_one, List.getElem?_eq_getElem hl]; rfl
      · rcases List.mem_append.mp hx with h | h
        · have := hat x h; omega
        · rw [List.mem_singleton.mp h]; simp only; omega
    · (try simp only [hc2, if_false])
      (try dsimp only); rw [zCA]; simp only [zC9, zCB, zCC, zBW, zCD, zAW, zBF, zBE, zAA, List.getElem?_cons_succ, List.getElem?_cons_zero, Option.some.injEq, exists_eq_left', zEQ (hyy _)]
      exact fin
  · (try simp only [hc1, if_false])
    (try dsimp only); rw [zCA]; simp only [zC9, zCB, zCC, zBW, zCD, zAW, zBF, zBE, zAA, List.getElem?_cons_succ, List.getElem?_cons_zero, Option.some.injEq, exists_eq_left', zEQ (hyy _)]
    exact fin
theorem Eok.nil {many : Int} : Eok many [] := ⟨by simp, by simp, List.Pairwise.nil, by simp, List.nodup_nil⟩
theorem ob__law_two : ∀ n ds T Q E, ds.length = 2 → G (n + 1) 12 ds T Q E → evSs (G n) ir__law_two (endsD Q E) (startD ns__law_two ds) T := by
  rintro n ds T Q E - ⟨hn, T0, p, a, b, c, many, rfl, rfl, ep, hc, m0, m1, q⟩
  rw [st__law_two]; unfold ir__law_two
  unfold cTop at hc
  (try dsimp only); rw [zCA]; simp only [zCC, zBY, List.set_cons_succ, List.set_cons_zero, zCD, zB2, zBF, zBE, zA8, zAA, List.getElem?_cons_zero, Option.some.injEq, exists_eq_left']
  refine ⟨by omega, T0, p, a, b, c, 40, rfl, rfl, ep, by unfold cTop; omega, by decide, by decide, fun zs a1 c1 l1 z1 n1 ep h3 h4 => ?_⟩
  have l1 : zs.length = 40 := by omega
  (try simp only [])
  (try dsimp only); rw [zCA]; simp only [zCC, zBY, List.set_cons_succ, List.set_cons_zero, zCD, zAS, zB2, zBF, zBE, zA8, zAA, List.getElem?_cons_zero, Option.some.injEq, exists_eq_left', zAE, zCJ, zAV, List.getElem?_cons_succ, zEX]
  refine ⟨by omega, T0, p, a1, b, c1, 40, rfl, rfl, ep, by unfold cTop; omega, by decide, by decide, fun ys a2 c2 l2 z2 n2 ep h5 h6 => ?_⟩
  have l2 : ys.length = 40 := by omega
  (try simp only [])
  refine ctake (by omega) ep (by omega) (by decide) (by decide) fun x1 a3 c3 h7 h8 ep h9 h10 => ?_
  (try simp only [zDT])
  obtain ⟨ms, hms, ml, mz, mn⟩ : ∃ ms : List Str, atI [D.lst (zs.map .str), D.lst (zs.map D.str).reverse, D.lst (ys.map .str)] x1 = some (.lst (ms.map .str)) ∧ ms.length = 40 ∧ (∀ z ∈ ms, nmOk z) ∧ ms.Nodup := by
    have : x1 = 0 ∨ x1 = 1 ∨ x1 = 2 := by omega
    rcases this with rfl | rfl | rfl
    · exact ⟨zs, rfl, l1, z1, n1⟩
    · exact ⟨zs.reverse, by rw [List.map_reverse]; rfl, by rw [List.length_reverse]; exact l1, fun z hz => z1 z (List.mem_reverse.mp hz), List.pairwise_reverse.mpr (List.Pairwise.imp Ne.symm n1)⟩
    · exact ⟨ys, rfl, l2, z2, n2⟩
  refine ⟨_, hms, ?_⟩
  (try dsimp only); rw [zCA]; simp only [zCC, zBY, List.set_cons_succ, List.set_cons_zero, zCD, zAS, zB2, zBF, zBE, zA8, zAA, List.getElem?_cons_zero, Option.some.injEq, exists_eq_left', zAE, zCJ, zAK, zCK]
  refine ctake (by omega) ep (by omega) (by decide) (by decide) fun x2 a4 c4 h11 h12 ep h13 h14 => ?_
  (try simp only [zCQ])
  refine ctake (by omega) ep (by omega) (by decide) (by decide) fun x3 a5 c5 h15 h16 ep h17 h18 => ?_
  (try simp only [zDT])
  obtain ⟨few, l3, l4⟩ := zHB (zs := [40, 40, 1 + x2]) (i := x3) (by omega) (by simp; omega)
  have hfew : 1 ≤ few ∧ few ≤ 40 := by simp only [List.mem_cons, List.not_mem_nil, or_false] at l3; omega
  refine ⟨_, l4, ?_⟩
  (try dsimp only); rw [zCA]; simp only [zC9, zCB, zCC, zBW, zCD, zAD, zBF, zBE, zB2, zAA, List.getElem?_cons_succ, List.getElem?_cons_zero, Option.some.injEq, exists_eq_left', zAT, zBH, D.int.injEq, zBG, zES, zCJ]
  rw [zGH (by omega), ← List.map_take]
  refine ⟨by omega, T0, p, a5, b, c5, many, zs.take few.toNat, rfl, rfl, ep, by unfold cTop; omega, m0, m1, by rw [List.length_take]; omega, fun z hz => z1 z (List.mem_of_mem_take hz), List.Nodup.sublist (List.take_sublist _ _) n1, fun e a6 c6 eo ep h19 h20 => ?_⟩
  (try simp only [])
  refine ⟨by omega, T0, p, a6, b, c6, many, ms, rfl, rfl, ep, by unfold cTop; omega, m0, m1, by omega, mz, mn, fun f a7 c7 fo ep h21 h22 => ?_⟩
  (try simp only [])
  exact .now (q e f a7 c7 eo fo ep (by omega) (by omega))
theorem filter_head {α : Type} {p : α → Bool} : ∀ (l : List α), (l.filter p).head? = l.find? p
  | [] => rfl
  | x :: l => by
    rw [List.filter_cons, List.find?_cons]
    cases h : p x with
    | true => simp
    | false => simpa using filter_head l
theorem ob__law_bar : ∀ n ds T Q E, ds.length = 2 → G (n + 1) 13 ds T Q E → evSs (G n) ir__law_bar (endsD Q E) (startD ns__law_bar ds) T := by
  rintro n ds T Q E - ⟨hn, e, x, rfl, he, q⟩
  rw [st__law_bar]; unfold ir__law_bar
  (try dsimp only); rw [zCA]; simp only [zCC, eD, zBY, List.set_cons_succ, List.set_cons_zero, zCD, zB5, List.map_cons, List.map_nil, zGC, zGB, zCJ, zBK, zAA, List.getElem?_cons_zero, Option.some.injEq, exists_eq_left']
  refine zHE (as := e) bD (hasB x) bD trivial (by omega) (fun y hy => ⟨_, zCE, fun K hK _ => ?_⟩) (fun y hy hp de1 hd K hK => ?_) ?_
  · (try simp only [bD, List.set_cons_succ, List.set_cons_zero, zBJ, zBA, zAK, zCK, zA8, zAS, zAA, List.getElem?_cons_succ, List.getElem?_cons_zero, Option.some.injEq, exists_eq_left', zDS, zFT, zCQ, zFS, zD9])
    have : decide (y.2.1 ≤ x ∧ x < y.2.2 + 1) = hasB x y := by unfold hasB; congr 1; exact propext ⟨fun h => ⟨h.1, by omega⟩, fun h => ⟨h.1, by omega⟩⟩
    rw [this]; exact hK
  · rw [zCE] at hd; cases hd
    (try simp only [List.set_cons_succ, List.set_cons_zero, zAA, List.getElem?_cons_succ, List.getElem?_cons_zero, Option.some.injEq, exists_eq_left'])
    exact hK
  (try simp only [zA0, zA1, zA2, zA3, zA4, zA5, zA6, zA7, zA8, zA9, zAA, zAB, zAC, zAD, zAE, zAF, zAG, zAH, zAI, zAJ, zAK, zAL, zAM, zAN, zAO, zAP, zAQ, zAR, zAS, zAT, zAU, zAV, zAW, zAX, zAY, zAZ, zB0, zB1, zB2, zB3, zB4, zB5, zB6, zB7, zB8, zB9, zBA, zBB, zBC, zBD, zBE, zBF, zBG, zBH, zBI, zBJ, zBK, zBL, zBM, zBN, zBO, zBP, zBQ, zBR, zBS, zBT, zBU, zBV, zBW, zBX, zBY, zBZ, zC0, zC1, zC2, zC3, zC4, zC5, zC6, zC7, zC8, zC9, zCB, zCC, zCD, zCE, zCF, zCG, zCH, zCI, zCJ, zCK, zCL, zCM, zCN, zCO, zCP, zCQ, zCR, zCS, zCT, zCU, zCV, zCW, zCX, zCY, zCZ, zD0, zD1, zD2, zD3, zD4, zD5, zD6, zD7, zD8, zD9, zDA, zDB, zDC, zDD, zDE, zDF, zDG, zDH, zDI, zDJ, zDK, zDL, zDM, zDN, zDO, zDS, zDT, zDU, zDV, zDW, zDX, zDY, zDZ, zE0, zE1, zE3, zE4, zE5, zE6, zE7, zE8, zE9, zEA, zEB, zEC, zED, zEE, zEF, zEG, zEH, zEI, zEK, zEL, zEM, zEN, zEO, zEP, zEQ, zER, zES, zET, zEU, zEV, zEW, zEX, zEY, zEZ, zF0, zF1, zF2, zF3, zF4, zF5, zF6, zF8, zF9, zFA, zFB, zFC, zFD, zFE, zFF, zFG, zFH, zFJ, zFK, zFL, zFM, zFN, zFO, zFP, zFR, zFS, zFT, zFU, zFV, zFW, zGA, zGB, zGC, zH4, zH5, zEY, zI6, zI7, zI8, zI9, zIA, zIJ, zIL, zIM, zIP, zIX, zIY, eq_self, List.map_cons, List.map_nil, List.set_cons_zero, List.set_cons_succ, List.getElem?_cons_zero, List.getElem?_cons_succ, Option.some.injEq, exists_eq_left', exists_eq_left, exists_eq, true_and, and_true, decide_eq_true_eq, Bool.not_eq_true, Bool.false_eq_true, if_true, if_false, ite_true, ite_false, D.int.injEq, D.str.injEq, D.bl.injEq, D.ref.injEq, exists_and_left, bne_iff_ne, ne_eq, Bool.not_true, Bool.not_false, decide_true, decide_false, Bool.and_true, Bool.and_false, Bool.or_false, Bool.or_true, reduceCtorEq])
  have hl := List.length_filter_le (hasB x) e
  have hh := filter_head (p := hasB x) e
  generalize e.filter (hasB x) = fs at hl hh
  rw [← hh] at q
  (try dsimp only); rw [zCA]; simp only [zC9, zCB, zCC, zBW, zCD, zAS, zA8, zAK, zCK, zAE, zCJ, zBF, zBE, zA6, zAA, List.getElem?_cons_succ, List.getElem?_cons_zero, Option.some.injEq, exists_eq_left', zCT, zDT, zFR]
  refine ⟨zGK (by rw [List.length_map]; simp; omega), ?_⟩
  cases fs with
  | nil => exact ⟨.non, rfl, .now q⟩
  | cons y r => exact ⟨bD y, rfl, .now q⟩

theorem mem_from {a b x : Int} : x ∈ DL.intsFrom a b ↔ a ≤ x ∧ x < b := by
  unfold DL.intsFrom
  rw [List.mem_map]
  refine ⟨?_, fun h => ⟨(x - a).toNat, List.mem_range.mpr (by omega), by omega⟩⟩
  rintro ⟨i, h, rfl⟩
  have := List.mem_range.mp h
  omega
theorem len_from {a b : Int} : (DL.intsFrom a b).length = (b - a).toNat := by unfold DL.intsFrom; simp
theorem lt_from {a b : Int} : (DL.intsFrom a b).Pairwise (· < ·) := by
  unfold DL.intsFrom
  rw [List.pairwise_map]
  exact List.Pairwise.imp (fun h => by omega) List.pairwise_lt_range
theorem pcs_mem {e : List Bar} {x : Int} : x ∈ pcs e ↔ ∃ b ∈ e, hasB x b = true := by
  unfold pcs
  rw [List.mem_flatMap]
  refine exists_congr fun b => and_congr_right fun _ => ?_
  rw [mem_from]
  unfold hasB
  rw [decide_eq_true_eq]
  omega
theorem pcs_lt {many : Int} {e : List Bar} (h : Eok many e) : (pcs e).Pairwise (· < ·) := by
  have hr := h.rg
  have ho := h.ord
  clear h
  induction e with
  | nil => exact List.Pairwise.nil
  | cons b e ih =>
    have h1 := List.pairwise_cons.mp ho
    unfold pcs
    rw [List.flatMap_cons]
    refine List.pairwise_append.mpr ⟨lt_from, ih (fun x hx => hr x (List.mem_cons_of_mem _ hx)) h1.2, fun x hx y hy => ?_⟩
    have hx := mem_from.mp hx
    obtain ⟨b2, hb, hy⟩ := pcs_mem.mp hy
    unfold hasB at hy
    rw [decide_eq_true_eq] at hy
    have := h1.1 b2 hb
    omega
theorem sorted_eq : ∀ {l m : List Int}, l.Pairwise (· < ·) → m.Pairwise (· < ·) → (∀ x, x ∈ l ↔ x ∈ m) → l = m
  | [], [], _, _, _ => rfl
  | [], y :: m, _, _, h => absurd ((h y).mpr List.mem_cons_self) List.not_mem_nil
  | x :: l, [], _, _, h => absurd ((h x).mp List.mem_cons_self) List.not_mem_nil
  | x :: l, y :: m, h1, h2, h => by
    have a := List.pairwise_cons.mp h1
    have b := List.pairwise_cons.mp h2
    have e : x = y := by
      rcases List.mem_cons.mp ((h x).mp List.mem_cons_self) with z | z
      · exact z
      · rcases List.mem_cons.mp ((h y).mpr List.mem_cons_self) with w | w
        · exact w.symm
        · have := b.1 x z; have := a.1 y w; omega
    subst e
    congr 1
    refine sorted_eq a.2 b.2 fun z => ⟨fun hz => ?_, fun hz => ?_⟩
    · rcases List.mem_cons.mp ((h z).mp (List.mem_cons_of_mem _ hz)) with w | w
      · have := a.1 z hz; omega
      · exact w
    · rcases List.mem_cons.mp ((h z).mpr (List.mem_cons_of_mem _ hz)) with w | w
      · have := b.1 z hz; omega
      · exact w
theorem lt_len {l : List Int} {lo hi : Int} (h : l.Pairwise (· < ·)) (hr : ∀ x ∈ l, lo ≤ x ∧ x < hi) : l.length ≤ (hi - lo).toNat := by
  have key : ∀ (l : List Int) (lo : Int), l.Pairwise (· < ·) → (∀ x ∈ l, lo ≤ x ∧ x < hi) → l.length ≤ (hi - lo).toNat := by
    intro l
    induction l with
    | nil => intro lo _ _; exact Nat.zero_le _
    | cons x r ih =>
      intro lo h1 h2
      have a := List.pairwise_cons.mp h1
      have := ih (x + 1) a.2 fun y hy => ⟨by have := a.1 y hy; omega, (h2 y (List.mem_cons_of_mem _ hy)).2⟩
      have := h2 x List.mem_cons_self
      rw [List.length_cons]; omega
  exact key l lo h hr
theorem pcs_rg {many : Int} {e : List Bar} (h : Eok many e) {x : Int} (hx : x ∈ pcs e) : 0 ≤ x ∧ x < many := by
  obtain ⟨b, hb, hx⟩ := pcs_mem.mp hx
  unfold hasB at hx
  rw [decide_eq_true_eq] at hx
  have := h.rg b hb
  omega
theorem pcs_len {many : Int} {e : List Bar} (h : Eok many e) : (pcs e).length ≤ many.toNat := by
  have := lt_len (pcs_lt h) fun x hx => pcs_rg h hx
  simpa using this
theorem pcs_take {e : List Bar} {i : Nat} {b : Bar} (h : e[i]? = some b) : pcs (e.take (i + 1)) = pcs (e.take i) ++ DL.intsFrom b.2.1 (b.2.2 + 1) := by
  unfold pcs; rw [takes h, List.flatMap_append]; simp
theorem Eok.take {many : Int} {e : List Bar} (h : Eok many e) (i : Nat) : Eok many (e.take i) :=
  ⟨by rw [List.length_take]; have := h.len; omega, fun x hx => h.rg x (List.mem_of_mem_take hx), List.Pairwise.sublist (List.take_sublist _ _) h.ord, fun x hx => h.nm x (List.mem_of_mem_take hx), List.Nodup.sublist ((List.take_sublist _ _).map _) h.nd⟩
theorem strM_snoc {xs : List Int} {x : Int} : strM (xs ++ [x]) = strF (strM xs) x := by unfold strM; rw [List.foldl_append]; rfl
theorem strM_len {xs : List Int} : (strM xs).length ≤ xs.length := by
  have key : ∀ (xs : List Int) (acc : List (Int × Int)), (xs.foldl strF acc).length ≤ acc.length + xs.length := by
    intro xs
    induction xs with
    | nil => intro acc; exact Nat.le_refl _
    | cons x xs ih =>
      intro acc
      rw [List.foldl_cons, List.length_cons]
      have h1 := ih (strF acc x)
      have h2 : (strF acc x).length ≤ acc.length + 1 := by
        unfold strF
        split
        · rename_i l hl
          have : 0 < acc.length := by
            cases acc with
            | nil => cases hl
            | cons _ _ => simp
          split <;> simp only [List.length_append, List.length_dropLast, List.length_singleton] <;> omega
        · simp
      omega
  have := key xs []
  simpa [strM] using this
theorem strF_nil {x : Int} : strF [] x = [(x, x)] := rfl
theorem strF_snoc {acc : List (Int × Int)} {l : Int × Int} {x : Int} : strF (acc ++ [l]) x = if l.2 = x - 1 then acc ++ [(l.1, x)] else acc ++ [l] ++ [(x, x)] := by
  unfold strF
  rw [List.getLast?_concat]
  simp only [List.dropLast_concat]
theorem plDs_pairs : ∀ l : List (Int × Int), plDs (l.map pairD) = true ∧ dpDs (l.map pairD) ≤ 1
  | [] => ⟨rfl, by simp [dpDs]⟩
  | x :: l => by
    obtain ⟨h1, h2⟩ := plDs_pairs l
    have e1 : plD (pairD x) = true := rfl
    have e2 : dpD (pairD x) = 1 := rfl
    rw [List.map_cons]
    unfold plDs dpDs
    rw [e1, e2, h1]
    exact ⟨rfl, by omega⟩
theorem ixN_m1 {n : Nat} : ixN (n + 1) (-1) = some n := by
  unfold ixN
  rw [if_neg (by decide), if_pos (by omega)]
  congr 1
  omega
theorem dIn_intsL {T : DH} {x : Int} {ns : List Int} {k : Bool → Prop} (h : k (decide (x ∈ ns))) : dIn T (.int x) (.lst (ns.map .int)) k := by
  have e : (ns.map PyData.int).any (fun z => PyData.eqv z (.int x)) = decide (x ∈ ns) := by
    clear h
    induction ns with
    | nil => rfl
    | cons y ys ih =>
      rw [List.map_cons, List.any_cons, ih]
      have : PyData.eqv (.int y) (.int x) = decide (y = x) := by unfold PyData.eqv; rfl
      rw [this]
      by_cases hy : y = x
      · simp [hy]
      · simp [hy, Ne.symm hy, fun z => hy (Eq.symm z)]
  have toI : ∀ ns : List Int, toPys (ns.map .int) = ns.map .int := fun ns => by
    induction ns with
    | nil => rfl
    | cons y ys ih => rw [List.map_cons]; unfold toPys toPy; rw [ih]; rfl
  have s1 : SeqAt.shaped (.list (ns.map .int)) = true := by
    have := zG7 (d := .lst (ns.map .int)) (by unfold plD; exact zH2) (by unfold dpD; rw [zH3]; decide)
    simpa [toPy, toI] using this
  have s0 : SeqAt.shaped (.int x) = true := zG7 (d := .int x) rfl (by simp [dpD])
  unfold dIn
  exact .inr ⟨.int x, _, _, rfl, rfl, zHZ T ns, s0, s1, by rw [e]; exact h⟩
/-! ### editions shown -/
theorem bars_sh : ∀ {e : List Bar}, (∀ x ∈ e, nmOk x.1 ∧ x.2.1.natAbs < 1000 ∧ x.2.2.natAbs < 1000) → shDs (e.map bD) ∧ shBs (e.map bD) ≤ 135 * e.length ∧ plDs (e.map bD) = true ∧ dpDs (e.map bD) ≤ 1
  | [], _ => ⟨trivial, by simp [shBs], rfl, by simp [dpDs]⟩
  | x :: e, h => by
    obtain ⟨h1, h2, h3, h4⟩ := bars_sh fun y hy => h y (List.mem_cons_of_mem _ hy)
    obtain ⟨k1, k2, k3⟩ := h x List.mem_cons_self
    have e1 : shD (bD x) := by
      simp only [bD, shD, shDs]
      exact ⟨k1.1, by omega, by omega, trivial⟩
    have e2 : shB (bD x) ≤ 133 := by
      have := k1.2.1
      simp only [bD, shB, shBs]; omega
    have e3 : plD (bD x) = true := by
      unfold bD
      simp only [plD, plDs, zGS k1.1, Bool.and_self]
    have e4 : dpD (bD x) = 1 := by simp [bD, dpD, dpDs]
    rw [List.map_cons]
    unfold shDs shBs plDs dpDs
    rw [List.length_cons, e3, e4, h3]
    exact ⟨⟨e1, h1⟩, by omega, rfl, by omega⟩
theorem eD_sh {e : List Bar} {many : Int} (ok : Eok many e) (hm : many ≤ 60) : shD (eD e) ∧ dpD (eD e) ≤ 2 ∧ shB (eD e) ≤ 6000 ∧ plDs (e.map bD) = true ∧ dpDs (e.map bD) ≤ 1 := by
  obtain ⟨h1, h2, h3, h4⟩ := bars_sh (e := e) fun x hx => ⟨ok.nm x hx, by have := ok.rg x hx; omega, by have := ok.rg x hx; omega⟩
  have := ok.len
  simp only [eD, shD, dpD, shB]
  exact ⟨h1, by omega, by omega, h3, h4⟩
theorem cut_sh {a b : Bar} (ha : nmOk a.1) (hb : nmOk b.1) : shD (cutT a b) ∧ dpD (cutT a b) ≤ 2 ∧ shB (cutT a b) ≤ 200 := by
  have := ha.2.1
  have := hb.2.1
  simp only [cutT, shD, shDs, dpD, dpDs, shB, shBs]
  exact ⟨⟨ha.1, hb.1, trivial⟩, by omega, by omega⟩

/-! ### .. shown (lines of fgB) -/
theorem odd_small : ∀ c, c < 123 → 97 ≤ c → odd1 c = false := by decide +kernel
theorem in_abc {T : DH} {c : Nat} {k : Bool → Prop} (h : k (!odd1 c)) : dIn T (.str ⟨#[c]⟩) (.str "abcdefghijklmnopqrstuvwxyz") k := h
def isB (u : Ty) : D → Bool
  | .bl _ => decide (Ty.bool = u) || decide (u = .int)
  | .int _ => decide (Ty.int = u)
  | .str _ => decide (Ty.str = u)
  | .tup _ => decide (Ty.tuple = u)
  | .lst _ => decide (Ty.list = u)
  | .emp => decide (Ty.dict = u)
  | _ => false
theorem isi_tm {T : DH} {x : D} {u : Ty} {Q : DQ} (h : tmD x) (q : Q (.bl (isB u x)) T) : dIsi T x u Q := by
  cases x with
  | non => rw [zFH]; exact q
  | bl b => rw [zFK]; exact q
  | int i => rw [zFJ]; exact q
  | str s => rw [zFL]; exact q
  | tup ds => rw [zFM]; exact q
  | lst ds => rw [zFN]; exact q
  | emp => rw [zFO]; exact q
  | scr ns => unfold tmD at h; exact h.elim
  | ref a => unfold tmD at h; exact h.elim
theorem odds {s : Str} (h : sAll (· < 0x110000) s) : ∀ {l : List Nat}, (∀ c ∈ l, c ∈ s.cps.toList) → plDs (l.map fun c => D.str ⟨#[c]⟩) = true ∧ dpDs (l.map fun c => D.str ⟨#[c]⟩) = 0
  | [], _ => ⟨rfl, rfl⟩
  | c :: l, hl => by
    obtain ⟨h1, h2⟩ := odds h (l := l) fun d hd => hl d (List.mem_cons_of_mem _ hd)
    have h3 := zGS (zGP h (hl c List.mem_cons_self))
    refine ⟨?_, ?_⟩
    · rw [List.map_cons]; unfold plDs plD; rw [h1, h3]; rfl
    · rw [List.map_cons]; unfold dpDs dpD; rw [h2]; rfl
theorem ob_is_name : ∀ n ds T Q E, ds.length = 1 → G (n + 1) 2 ds T Q E → evSs (G n) ir_is_name (endsD Q E) (startD ns_is_name ds) T := by
  rintro n ds T Q E - ⟨-, x, rfl, tm, q⟩
  rw [st_is_name]; unfold ir_is_name
  (try dsimp only); rw [zCA]; simp only [zCC, zC3, zC9, zCD, zB8, if_true, zB6, zBD, zA8, Bool.not_false, zAW, zE3, zBF, zBE, zAA, List.getElem?_cons_zero, Option.some.injEq, exists_eq_left', zB9, zAX]
  refine isi_tm tm ?_
  cases x with
  | str s =>
    simp only [isB, nmB] at q ⊢
    have tm2 : sAll (· < 0x110000) s ∧ s.length ≤ 1000 := by unfold tmD at tm; exact tm
    (try simp only [decide_true, zFD, Option.some.injEq, zE7, zDB, D.bl.injEq, exists_eq_left', decide_eq_true_eq, Bool.not_true, Bool.false_eq_true, if_false])
    refine ⟨zGK (by omega), ?_⟩
    unfold isNm at q
    have keyA : ∀ Dd : DEnds, Dd.rt = RetD Q → Q (.bl (s.cps.toList.filter odd1).isEmpty) T →
        evSs (G n) [.ret (.cmp .eq (.lc false (.nm 1) [("sign", 1)] (.seq (.var 0)) (some (.tcmp .notin (.var 1) (.gls "LETTERS" "abcdefghijklmnopqrstuvwxyz"))) (.var 1)) (.lst false []))] Dd [some (.str s), none] T := by
      intro Dd hD q
      (try dsimp only); rw [zCA]; simp only [zC9, zBW, zAP, zDE, zAE, zCJ, zBE, zB5, List.map_cons, List.map_nil, zGC, zGB, List.set_cons_succ, List.set_cons_zero, zBK, zAA, List.getElem?_cons_zero, Option.some.injEq, exists_eq_left']
      refine zHE (fun c => .str ⟨#[c]⟩) odd1 (fun c => .str ⟨#[c]⟩) trivial (by rw [← zGL]; omega) (fun c hc => ⟨_, zCE, fun K k1 _ => ?_⟩) (fun c hc ho de1 e K hK => ?_) ?_
      · (try simp only [List.set_cons_succ, List.set_cons_zero, zBJ, zBB, zDL, D.bl.injEq, exists_eq_left', zAC, zAA, List.getElem?_cons_succ, List.getElem?_cons_zero, Option.some.injEq])
        refine in_abc ?_
        rw [Bool.not_not]; exact k1
      · rw [zCE] at e; cases e
        (try simp only [List.set_cons_succ, List.set_cons_zero, zAA, List.getElem?_cons_succ, List.getElem?_cons_zero, Option.some.injEq, exists_eq_left'])
        exact hK
      · (try simp only [zA0, zA1, zA2, zA3, zA4, zA5, zA6, zA7, zA8, zA9, zAA, zAB, zAC, zAD, zAE, zAF, zAG, zAH, zAI, zAJ, zAK, zAL, zAM, zAN, zAO, zAP, zAQ, zAR, zAS, zAT, zAU, zAV, zAW, zAX, zAY, zAZ, zB0, zB1, zB2, zB3, zB4, zB5, zB6, zB7, zB8, zB9, zBA, zBB, zBC, zBD, zBE, zBF, zBG, zBH, zBI, zBJ, zBK, zBL, zBM, zBN, zBO, zBP, zBQ, zBR, zBS, zBT, zBU, zBV, zBW, zBX, zBY, zBZ, zC0, zC1, zC2, zC3, zC4, zC5, zC6, zC7, zC8, zC9, zCB, zCC, zCD, zCE, zCF, zCG, zCH, zCI, zCJ, zCK, zCL, zCM, zCN, zCO, zCP, zCQ, zCR, zCS, zCT, zCU, zCV, zCW, zCX, zCY, zCZ, zD0, zD1, zD2, zD3, zD4, zD5, zD6, zD7, zD8, zD9, zDA, zDB, zDC, zDD, zDE, zDF, zDG, zDH, zDI, zDJ, zDK, zDL, zDM, zDN, zDO, zDS, zDT, zDU, zDV, zDW, zDX, zDY, zDZ, zE0, zE1, zE3, zE4, zE5, zE6, zE7, zE8, zE9, zEA, zEB, zEC, zED, zEE, zEF, zEG, zEH, zEI, zEK, zEL, zEM, zEN, zEO, zEP, zEQ, zER, zES, zET, zEU, zEV, zEW, zEX, zEY, zEZ, zF0, zF1, zF2, zF3, zF4, zF5, zF6, zF8, zF9, zFA, zFB, zFC, zFD, zFE, zFF, zFG, zFH, zFJ, zFK, zFL, zFM, zFN, zFO, zFP, zFR, zFS, zFT, zFU, zFV, zFW, zGA, zGB, zGC, zH4, zH5, zEY, zI6, zI7, zI8, zI9, zIA, zIJ, zIL, zIM, zIP, zIX, zIY, eq_self, List.map_cons, List.map_nil, List.set_cons_zero, List.set_cons_succ, List.getElem?_cons_zero, List.getElem?_cons_succ, Option.some.injEq, exists_eq_left', exists_eq_left, exists_eq, true_and, and_true, decide_eq_true_eq, Bool.not_eq_true, Bool.false_eq_true, if_true, if_false, ite_true, ite_false, D.int.injEq, D.str.injEq, D.bl.injEq, D.ref.injEq, exists_and_left, bne_iff_ne, ne_eq, Bool.not_true, Bool.not_false, decide_true, decide_false, Bool.and_true, Bool.and_false, Bool.or_false, Bool.or_true, reduceCtorEq])
        obtain ⟨p1, p2⟩ := odds tm2.1 (l := s.cps.toList.filter odd1) fun c hc => (List.mem_filter.mp hc).1
        refine zH4 p1 (by rw [p2]; decide) ?_
        rw [hD]
        refine .now ?_
        rw [List.isEmpty_map]
        exact q
    by_cases c1 : 1 ≤ (s.length : Int)
    · by_cases c2 : (s.length : Int) ≤ 8
      · rw [if_pos ⟨c1, c2⟩] at q
        (try simp only [c1, c2, decide_true, Bool.not_true, Bool.false_eq_true, if_false, if_true])
        exact keyA _ rfl q
      · rw [if_neg (fun z => c2 z.2)] at q
        (try simp only [c1, c2, decide_false, Bool.not_false, if_true])
        (try dsimp only); rw [zCA]; simp only [zC9, zBW, zCD, zA7]
        exact .now q
    · rw [if_neg (fun z => c1 z.1)] at q
      (try simp only [c1, if_false])
      (try dsimp only); rw [zCA]; simp only [zC9, zBW, zCD, zA7]
      exact .now q
  | _ =>
    simp only [isB, nmB] at q ⊢
    (try simp only [zFD, Option.some.injEq, exists_eq_left', Bool.not_false, if_true, reduceCtorEq, decide_false, Bool.or_false, zE4, zDB, D.bl.injEq, decide_eq_true_eq, zE5, zE6])
    (try dsimp only); rw [zCA]; simp only [zC9, zBW, zCD, zA7]
    exact .now q
theorem nm_is {s : Str} (h : nmOk s) : isNm s = true := by
  obtain ⟨h1, h8, h2, h3⟩ := h
  unfold isNm
  rw [if_pos ⟨by omega, by omega⟩]
  have : s.cps.toList.filter odd1 = [] := by
    rw [List.filter_eq_nil_iff]
    intro c hc
    have := h3 c hc
    rw [odd_small c (by omega) this.1]
    decide
  rw [this]; rfl
theorem nm_tm {s : Str} (h : nmOk s) : tmD (.str s) := by unfold tmD; exact ⟨h.1, by have := h.2.1; omega⟩

theorem filter_one {k : Nat} {p : Nat → Bool} : ∀ {n : Nat}, k < n → (∀ i, i < n → p i = decide (i = k)) → (List.range n).filter p = [k]
  | 0, h, _ => by omega
  | n + 1, h, hp => by
    rw [List.range_succ, List.filter_append]
    by_cases e : k = n
    · have h0 : (List.range n).filter p = [] := by
        rw [List.filter_eq_nil_iff]
        intro i hi
        have := List.mem_range.mp hi
        rw [hp i (by omega)]; simp; omega
      rw [h0, List.filter_cons, hp n (by omega), decide_eq_true e.symm, e]; rfl
    · rw [filter_one (by omega) fun i hi => hp i (by omega), List.filter_cons, hp n (by omega), decide_eq_false (by omega)]; rfl
theorem lab_inj {many : Int} {e : List Bar} (h : Eok many e) {i k : Nat} {a b : Bar} (ha : e[i]? = some a) (hb : e[k]? = some b) (hl : a.1 = b.1) : i = k := by
  obtain ⟨h1, e1⟩ := List.getElem?_eq_some_iff.mp ha
  obtain ⟨h2, e2⟩ := List.getElem?_eq_some_iff.mp hb
  have l1 : i < (e.map (·.1)).length := by rw [List.length_map]; exact h1
  have l2 : k < (e.map (·.1)).length := by rw [List.length_map]; exact h2
  have e3 : (e.map (·.1))[i] = (e.map (·.1))[k] := by rw [List.getElem_map, List.getElem_map, e1, e2]; exact hl
  exact (List.getElem_inj h.nd).mp e3

theorem lcL_keep {ds : List D} {tg : Tgt} {src : Src} {ct : TDT} {ce : TDE} {de : DEnv} {Q : List D → DH → Prop} {T : DH} (p : D → Bool) (so : src.ok T) (hl : ds.length ≤ 16000000)
    (step : ∀ a ∈ ds, ∃ de1, bindT tg a de = some de1 ∧ ∀ K : Bool → DH → Prop, K (p a) T → ct de1 T K (fun _ _ => False))
    (val : ∀ a ∈ ds, p a = true → ∀ de1, bindT tg a de = some de1 → ∀ K : DQ, K a T → ce de1 T K (fun _ _ => False))
    (fin : Q (ds.filter p) T) : lcL tg src ct ce de ds [] T Q := by
  have h := zHE (as := ds) (tg := tg) (src := src) (ct := ct) (ce := ce) (de := de) (Q := Q) (T := T) (fun d => d) p (fun d => d) so hl (fun a ha => by
    obtain ⟨de1, h1, h2⟩ := step a ha
    exact ⟨de1, h1, fun K k1 _ => h2 K k1⟩) val (by rw [List.map_id']; exact fin)
  rwa [List.map_id'] at h
theorem tmDs_mem : ∀ {ds : List D}, tmDs ds → ∀ d ∈ ds, tmD d
  | d :: ds, h, x, hx => by
    unfold tmDs at h
    rcases List.mem_cons.mp hx with e | hx
    · rw [e]; exact h.1
    · exact tmDs_mem h.2 x hx
theorem odd_in {c : Nat} (h : odd1 c = false) : 97 ≤ c ∧ c ≤ 122 := by
  have f := StrLaws.found_one ("abcdefghijklmnopqrstuvwxyz" : Str) c
  have e : (!(Builtin.Str.occurrences ("abcdefghijklmnopqrstuvwxyz" : Str) ⟨#[c]⟩ 0 ("abcdefghijklmnopqrstuvwxyz" : Str).length 1).isEmpty) = true := by
    unfold odd1 at h
    rw [h]; rfl
  rw [e] at f
  have m : c ∈ ("abcdefghijklmnopqrstuvwxyz" : Str).cps.toList := of_decide_eq_true f.symm
  have all : ∀ c ∈ ("abcdefghijklmnopqrstuvwxyz" : Str).cps.toList, 97 ≤ c ∧ c ≤ 122 := by decide +kernel
  exact all c m
theorem isNm_ok {s : Str} (h : sAll (· < 0x110000) s) : isNm s = true ↔ nmOk s := by
  unfold isNm nmOk
  constructor
  · intro e
    split at e
    · rename_i hl
      rw [List.isEmpty_iff, List.filter_eq_nil_iff] at e
      exact ⟨h, by omega, by omega, fun c hc => odd_in (by simpa using e c hc)⟩
    · cases e
  · rintro ⟨-, h1, h2, h3⟩
    rw [if_pos ⟨by omega, by omega⟩, List.isEmpty_iff, List.filter_eq_nil_iff]
    intro c hc
    have := h3 c hc
    rw [odd_small c (by omega) this.1]
    exact Bool.false_ne_true
theorem nmB_ok {d : D} (tm : tmD d) : nmB d = true ↔ ∃ s, d = .str s ∧ nmOk s := by
  cases d with
  | str s =>
    have tm2 : sAll (· < 0x110000) s ∧ s.length ≤ 1000 := by unfold tmD at tm; exact tm
    simp only [nmB]
    rw [isNm_ok tm2.1]
    exact ⟨fun h => ⟨s, rfl, h⟩, fun ⟨t, e, h⟩ => by cases e; exact h⟩
  | _ => simp [nmB]
theorem names_of : ∀ {ds : List D}, tmDs ds → ds.all nmB = true → ∃ a : List Str, ds = a.map .str ∧ ∀ s ∈ a, nmOk s
  | [], _, _ => ⟨[], rfl, fun _ h => nomatch h⟩
  | d :: ds, tm, h => by
    unfold tmDs at tm
    rw [List.all_cons, Bool.and_eq_true] at h
    obtain ⟨s, e, hs⟩ := (nmB_ok tm.1).mp h.1
    obtain ⟨a, ea, ha⟩ := names_of tm.2 h.2
    refine ⟨s :: a, by rw [e, ea]; rfl, fun x hx => ?_⟩
    rcases List.mem_cons.mp hx with e | hx
    · rw [e]; exact hs
    · exact ha x hx

theorem ref_ty {T : DH} {a : Addr} {u : Ty} (h : tyD T (.ref a) = some u) : u = .list ∨ u = .dict := by
  unfold tyD at h
  simp only at h
  split at h
  · cases h; exact .inl rfl
  · cases h; exact .inr rfl
  · cases h; exact .inr rfl
  · cases h
theorem ob_is_whole : ∀ n ds T Q E, ds.length = 1 → G (n + 1) 0 ds T Q E → evSs (G n) ir_is_whole (endsD Q E) (startD ns_is_whole ds) T := by
  rintro n ds T Q E - ⟨hn, x, rfl, kn, q⟩
  rw [st_is_whole]; unfold ir_is_whole
  cases x with
  | scr ns => rcases kn with kn | ⟨u, kn⟩ <;> cases kn
  | ref a =>
    rcases kn with kn | ⟨u, kn⟩
    · cases kn
    · (try dsimp only); rw [zCA]; simp only [zC9, zCB, zCC, zBW, zCD, zAN, zAM, zAX, zAA, List.getElem?_cons_zero, Option.some.injEq, exists_eq_left']
      refine zFI nofun kn ?_
      rcases ref_ty kn with rfl | rfl
      · (try simp only [reduceCtorEq, decide_false, decide_true, Bool.and_true, Bool.or_false, zFD, Option.some.injEq, exists_eq_left', Bool.false_eq_true, if_false])
        exact .now q
      · (try simp only [reduceCtorEq, decide_false, decide_true, Bool.and_true, Bool.or_false, zFD, Option.some.injEq, exists_eq_left', Bool.false_eq_true, if_false])
        exact .now q
  | bl b =>
    (try dsimp only); rw [zCA]; simp only [zC9, zCB, zCC, zBW, zCD, zAN, zAM, zAX, zAA, List.getElem?_cons_zero, Option.some.injEq, exists_eq_left', zFK, decide_true, reduceCtorEq, decide_false, Bool.or_false, zFD, Bool.not_true, Bool.or_true, if_true]
    exact .now q
  | int i =>
    (try dsimp only); rw [zCA]; simp only [zC9, zCB, zCC, zBW, zCD, zAN, zAM, zAX, zAA, List.getElem?_cons_zero, Option.some.injEq, exists_eq_left', zFJ, reduceCtorEq, decide_false, zFD, Bool.not_false, decide_true, if_true]
    exact .now q
  | non =>
    (try dsimp only); rw [zCA]; simp only [zC9, zCB, zCC, zBW, zCD, zAN, zAM, zAX, zAA, List.getElem?_cons_zero, Option.some.injEq, exists_eq_left', zFH, zFD, Bool.not_false, Bool.false_eq_true, if_false]
    exact .now q
  | str s =>
    (try dsimp only); rw [zCA]; simp only [zC9, zCB, zCC, zBW, zCD, zAN, zAM, zAX, zAA, List.getElem?_cons_zero, Option.some.injEq, exists_eq_left', zFL, reduceCtorEq, decide_false, zFD, Bool.not_false, Bool.false_eq_true, if_false]
    exact .now q
  | tup s =>
    (try dsimp only); rw [zCA]; simp only [zC9, zCB, zCC, zBW, zCD, zAN, zAM, zAX, zAA, List.getElem?_cons_zero, Option.some.injEq, exists_eq_left', zFM, reduceCtorEq, decide_false, zFD, Bool.not_false, Bool.false_eq_true, if_false]
    exact .now q
  | lst s =>
    (try dsimp only); rw [zCA]; simp only [zC9, zCB, zCC, zBW, zCD, zAN, zAM, zAX, zAA, List.getElem?_cons_zero, Option.some.injEq, exists_eq_left', zFN, reduceCtorEq, decide_false, zFD, Bool.not_false, Bool.false_eq_true, if_false]
    exact .now q
  | emp =>
    (try dsimp only); rw [zCA]; simp only [zC9, zCB, zCC, zBW, zCD, zAN, zAM, zAX, zAA, List.getElem?_cons_zero, Option.some.injEq, exists_eq_left', zFO, reduceCtorEq, decide_false, zFD, Bool.not_false, Bool.false_eq_true, if_false]
    exact .now q
theorem ob_is_from : ∀ n ds T Q E, ds.length = 3 → G (n + 1) 1 ds T Q E → evSs (G n) ir_is_from (endsD Q E) (startD ns_is_from ds) T := by
  rintro n ds T Q E - ⟨hn, x, lo, hi, rfl, kn, q⟩
  rw [st_is_from]; unfold ir_is_from
  (try dsimp only); rw [zCA]; simp only [zC9, zCB, zCC, zBW, zCD, zAN, zAQ, zAA, List.getElem?_cons_succ, List.getElem?_cons_zero, Option.some.injEq, exists_eq_left', zB2, zBF, zBE]
  refine ⟨by omega, x, rfl, kn, ?_⟩
  cases x with
  | int i =>
    unfold fromB at q
    simp only at q
    (try simp only [wholeB, zFD, Option.some.injEq, zDB, D.bl.injEq, exists_eq_left', decide_eq_true_eq, if_true])
    split
    · rename_i h
      by_cases h2 : i ≤ hi
      · rw [decide_eq_true ⟨h, h2⟩] at q
        (try simp only [h2, decide_true])
        exact .now q
      · rw [decide_eq_false (fun z => h2 z.2)] at q
        (try simp only [h2, decide_false])
        exact .now q
    · rename_i h
      rw [decide_eq_false (fun z => h z.1)] at q
      exact .now q
  | scr ns => rcases kn with kn | ⟨u, kn⟩ <;> cases kn
  | bl b =>
    (try simp only [wholeB, zFD, Option.some.injEq, exists_eq_left', Bool.false_eq_true, if_false])
    exact .now q
  | non =>
    (try simp only [wholeB, zFD, Option.some.injEq, exists_eq_left', Bool.false_eq_true, if_false])
    exact .now q
  | str s =>
    (try simp only [wholeB, zFD, Option.some.injEq, exists_eq_left', Bool.false_eq_true, if_false])
    exact .now q
  | tup s =>
    (try simp only [wholeB, zFD, Option.some.injEq, exists_eq_left', Bool.false_eq_true, if_false])
    exact .now q
  | lst s =>
    (try simp only [wholeB, zFD, Option.some.injEq, exists_eq_left', Bool.false_eq_true, if_false])
    exact .now q
  | emp =>
    (try simp only [wholeB, zFD, Option.some.injEq, exists_eq_left', Bool.false_eq_true, if_false])
    exact .now q
  | ref a =>
    (try simp only [wholeB, zFD, Option.some.injEq, exists_eq_left', Bool.false_eq_true, if_false])
    exact .now q

theorem from_ne {a b : Int} (h : a < b) : DL.intsFrom a b ≠ [] := fun e => by
  have := len_from (a := a) (b := b)
  rw [e] at this
  simp at this
  omega
theorem from_at {a b : Int} (h : a < b) : atI ((DL.intsFrom a b).map D.int) 0 = some (.int a) ∧ atI ((DL.intsFrom a b).map D.int) (-1) = some (.int (b - 1)) := by
  obtain ⟨n, hn⟩ : ∃ n : Nat, (b - a).toNat = n + 1 := ⟨(b - a).toNat - 1, by omega⟩
  unfold DL.intsFrom
  rw [hn]
  constructor
  · rw [zFR, List.map_map, List.getElem?_map, List.getElem?_range (by omega)]; simp
  · rw [List.range_succ, List.map_append, List.map_append]
    have : b - 1 = a + (n : Int) := by omega
    rw [this]
    exact L2.atI_last _ _
theorem lab_at {e : List Bar} {x : D} (h : ∀ b ∈ e, x ≠ .str b.1) {i : Nat} {a : Bar} (ha : e[i]? = some a) : labB x a = false := by
  cases x with
  | str s =>
    unfold labB
    exact decide_eq_false fun z => h a (List.mem_of_getElem? ha) (by rw [z])
  | _ => rfl
theorem ob_numbered : ∀ n ds T Q E, ds.length = 2 → G (n + 1) 3 ds T Q E → evSs (G n) ir_numbered (endsD Q E) (startD ns_numbered ds) T := by
  rintro n ds T Q E - ⟨hn, e, many, x, rfl, ok, tm, q⟩
  rw [st_numbered]; unfold ir_numbered
  have hl := ok.len
  (try dsimp only); rw [zCA]; simp only [zCC, eD, zBY, List.set_cons_succ, List.set_cons_zero, zCD, zB5, List.map_cons, List.map_nil, zGC, zGB, zCJ, zBL, zAW, zE3, zBF, zBE, zAA, List.getElem?_cons_zero, Option.some.injEq, exists_eq_left', zE4, D.int.injEq]
  rw [List.length_map]
  refine ⟨by omega, by omega, ?_⟩
  rw [Int.toNat_natCast]
  have step : ∀ (p : Nat → Bool) (R : List D → DH → Prop), (∀ i a, e[i]? = some a → p i = (nmB x && labB x a)) → R (((List.range e.length).filter p).map fun (i : Nat) => D.int i) T →
      lcL (.nm 3) ⟨(List.range e.length).map fun (i : Nat) => D.int i, none⟩ (evC (G n) (some (.tand (.tv (.call 2 [.var 1])) (.tcmp .eq (.ix (.ix (.var 0) (.var 3)) (.kI 0)) (.var 1))))) (evE (G n) (.var 3)) [some (.tup (e.map bD)), some x, none, none] ((List.range e.length).map fun (i : Nat) => D.int i) [] T R := by
    intro p R hp hR
    refine zHE (as := List.range e.length) (fun (i : Nat) => D.int i) p (fun (i : Nat) => D.int i) trivial (by rw [List.length_range]; omega) (fun i hi => ⟨_, zCE, fun K hK _ => ?_⟩) (fun i hi h1 de1 hd K hK => ?_) hR
    · have hi := List.mem_range.mp hi
      have ha : e[i]? = some e[i] := List.getElem?_eq_getElem hi
      generalize e[i] = a at ha
      rw [hp i a ha] at hK
      (try simp only [List.set_cons_succ, List.set_cons_zero, zBJ, zB7, zBB, zDE, D.bl.injEq, exists_eq_left', zAA, List.getElem?_cons_succ, List.getElem?_cons_zero, Option.some.injEq, zAS, zA8, zDS, zB9, zB2, zBF, zBE])
      refine ⟨by omega, x, rfl, tm, ?_⟩
      cases hx : nmB x with
      | false =>
        rw [hx] at hK
        (try simp only [zFD, Option.some.injEq, exists_eq_left', Bool.false_eq_true, if_false])
        exact hK
      | true =>
        cases x with
        | str s =>
          rw [hx] at hK
          (try simp only [zFD, Option.some.injEq, zIK ha, bD, exists_eq_left', zDS, zFR, List.getElem?_cons_zero, zDN, if_true])
          exact hK
        | _ => cases hx
    · rw [zCE] at hd; cases hd
      (try simp only [List.set_cons_succ, List.set_cons_zero, zAA, List.getElem?_cons_succ, List.getElem?_cons_zero, Option.some.injEq, exists_eq_left'])
      exact hK
  rcases q with ⟨k, b, hk, rfl, q⟩ | ⟨no, q⟩
  · have kl := (List.getElem?_eq_some_iff.mp hk).1
    refine step (fun i => decide (i = k)) _ (fun i a ha => ?_) ?_
    · have h1 : nmB (.str b.1) = true := nm_is (ok.nm b (List.mem_of_getElem? hk))
      rw [h1, Bool.true_and]
      unfold labB
      congr 1
      refine propext ⟨fun h => ?_, fun h => lab_inj ok ha hk h⟩
      subst h; rw [ha] at hk; cases hk; rfl
    rw [filter_one kl fun i _ => rfl]
    (try simp only [List.map_cons, List.map_nil])
    (try dsimp only); rw [zCA]; simp only [zCC, zC3, zC9, zCD, zBB, zDE, D.bl.injEq, exists_eq_left', zAE, zCJ, zBE, zAA, List.getElem?_cons_succ, List.getElem?_cons_zero, Option.some.injEq]
    refine zG8 (x := .lst [.int k]) (y := .lst []) rfl rfl (by simp [dpD, dpDs]) (by decide) ?_
    have e0 : PyData.eqv (toPy (.lst [.int k])) (toPy (.lst [])) = false := by
      simp only [toPy, toPys]; unfold PyData.eqv; rw [zH0]; rfl
    rw [e0]
    (try simp only [Bool.false_eq_true, if_false])
    (try dsimp only); rw [zCA]; simp only [zC9, zCB, zCC, zBW, zCD, zAS, zA8, zAA, List.getElem?_cons_succ, List.getElem?_cons_zero, Option.some.injEq, exists_eq_left', zDT, zFR]
    exact .now q
  · refine step (fun _ => false) _ (fun i a ha => by rw [lab_at no ha, Bool.and_false]) ?_
    have e0 : (List.range e.length).filter (fun _ => false) = [] := by simp
    rw [e0]
    (try simp only [List.map_nil])
    (try dsimp only); rw [zCA]; simp only [zCC, zC3, zC9, zCD, zBB, zDE, D.bl.injEq, exists_eq_left', zAE, zCJ, zBE, zAA, List.getElem?_cons_succ, List.getElem?_cons_zero, Option.some.injEq]
    refine zG9 (x := .lst []) rfl (by decide) ?_
    (try simp only [if_true])
    (try dsimp only); rw [zCA]; simp only [zC9, zC6, zCD]
    exact q
theorem nonB (b : Option Bar) : isNonD (optB b) = b.isNone := by cases b <;> rfl
theorem ob_bar_with : ∀ n ds T Q E, ds.length = 2 → G (n + 1) 4 ds T Q E → evSs (G n) ir_bar_with (endsD Q E) (startD ns_bar_with ds) T := by
  rintro n ds T Q E - ⟨-, e, x, rfl, hl, q⟩
  rw [st_bar_with]; unfold ir_bar_with
  (try dsimp only); rw [zCA]; simp only [zCC, eD, zC4, zCD, zBK, zAA, List.getElem?_cons_zero, Option.some.injEq, exists_eq_left']
  refine zFZ (fun i de T' => ∃ w2 : Option D, T' = T ∧ (∀ b ∈ e.take i, hasB x b = false) ∧ de = [some (eD e), some (.int x), w2]) ⟨none, rfl, by simp, rfl⟩ (fun _ _ _ _ _ => trivial) ?_ ?_
  · rintro i y de T' K hx ⟨w2, rfl, hb, rfl⟩ hK
    rw [List.getElem?_map, Option.map_eq_some_iff] at hx
    obtain ⟨b, hbi, rfl⟩ := hx
    refine ⟨_, zCE, ?_⟩
    have miss : hasB x b = false → ∀ c ∈ e.take (i + 1), hasB x c = false := fun h c hc => by
      rw [takes hbi] at hc
      rcases List.mem_append.mp hc with hc | hc
      · exact hb c hc
      · rw [List.mem_singleton.mp hc]; exact h
    by_cases h1 : b.2.1 ≤ x
    · by_cases h2 : x ≤ b.2.2
      · (try dsimp only); rw [zCA]; simp only [zC9, bD, List.set_cons_succ, List.set_cons_zero, zC3, zCD, zBD, zAS, zA8, zAA, List.getElem?_cons_succ, List.getElem?_cons_zero, Option.some.injEq, exists_eq_left', zDS, zFT, Bool.false_eq_true, if_false, zDB, h2, decide_true, D.bl.injEq, if_true, zFS, h1]
        (try dsimp only); rw [zCA]; simp only [zC9, zBW, zCD, zAA, List.getElem?_cons_succ, List.getElem?_cons_zero, Option.some.injEq, exists_eq_left']
        have hf : e.find? (hasB x) = some b := by
          rw [List.find?_eq_some_iff_getElem]
          refine ⟨by unfold hasB; rw [decide_eq_true_eq]; exact ⟨h1, h2⟩, i, (List.getElem?_eq_some_iff.mp hbi).1, (List.getElem?_eq_some_iff.mp hbi).2, fun j hj => ?_⟩
          have hl : j < e.length := Nat.lt_trans hj (List.getElem?_eq_some_iff.mp hbi).1
          have := hb e[j] (List.mem_take_iff_getElem.mpr ⟨j, by omega, rfl⟩)
          rw [this]; rfl
        rw [hf] at q
        exact .now q
      · (try dsimp only); rw [zCA]; simp only [zC9, bD, List.set_cons_succ, List.set_cons_zero, zC3, zCD, zBD, zAS, zA8, zAA, List.getElem?_cons_succ, List.getElem?_cons_zero, Option.some.injEq, exists_eq_left', zDS, zFT, Bool.false_eq_true, if_false, zDB, h2, decide_false, D.bl.injEq, zFS, h1, decide_true, if_true]
        exact hK _ _ ⟨_, rfl, miss (by unfold hasB; rw [decide_eq_false]; omega), rfl⟩
    · (try dsimp only); rw [zCA]; simp only [zC9, bD, List.set_cons_succ, List.set_cons_zero, zC3, zCD, zBD, zAS, zA8, zAA, List.getElem?_cons_succ, List.getElem?_cons_zero, Option.some.injEq, exists_eq_left', zDS, zFT, Bool.false_eq_true, if_false, zDB, D.bl.injEq, decide_eq_true_eq, zFS, h1, decide_false]
      exact hK _ _ ⟨_, rfl, miss (by unfold hasB; rw [decide_eq_false]; omega), rfl⟩
  · rintro de T' ⟨w2, rfl, hb, rfl⟩
    rw [List.length_map, List.take_length] at hb
    have hf : e.find? (hasB x) = none := by
      rw [List.find?_eq_none]
      exact fun b h => by rw [hb b h]; exact Bool.false_ne_true
    rw [hf] at q
    (try dsimp only); rw [zCA]; simp only [zC9, zCB, zCC, zBW, zCD, zA6]
    exact .now q

theorem tm_kn {T : DH} {x : D} (h : tmD x) : knT T x := by
  cases x with
  | non => exact .inl rfl
  | scr ns => unfold tmD at h; exact h.elim
  | ref a => unfold tmD at h; exact h.elim
  | _ => exact .inr ⟨_, rfl⟩
theorem isB_tup {x : D} (h : isB .tuple x = true) : ∃ ds, x = .tup ds := by
  cases x with
  | tup ds => exact ⟨ds, rfl⟩
  | bl b => cases b <;> cases h
  | _ => cases h
theorem ob_piece_of : ∀ n ds T Q E, ds.length = 2 → G (n + 1) 5 ds T Q E → evSs (G n) ir_piece_of (endsD Q E) (startD ns_piece_of ds) T := by
  rintro n ds T Q E - ⟨hn, e, many, x, rfl, eo, tm, q⟩
  rw [st_piece_of]; unfold ir_piece_of
  have bad : (∀ p, ¬ PlP e x p) → E ⟨"NoPlace", []⟩ T := fun h => by
    rcases q with ⟨p, h1, _⟩ | ⟨_, q⟩
    · exact absurd h1 (h p)
    · exact q
  have good : ∀ p, PlP e x p → Q (.int p) T := fun p h => by
    rcases q with ⟨p', ⟨b, hb, j, e1, j0, j1, rfl⟩, q⟩ | ⟨h1, _⟩
    · obtain ⟨b', hb', j', e2, j2, j3, rfl⟩ := h
      rw [e1] at e2
      simp only [D.tup.injEq, List.cons.injEq, D.str.injEq, D.int.injEq, and_true] at e2
      obtain ⟨e2, rfl⟩ := e2
      obtain ⟨i, hi⟩ := List.getElem?_of_mem hb
      obtain ⟨k, hk⟩ := List.getElem?_of_mem hb'
      have := lab_inj eo hi hk e2
      subst this
      rw [hi] at hk; cases hk
      exact q
    · exact absurd h (h1 p)
  clear q
  (try dsimp only); rw [zCA]; simp only [zCC, zC3, zC9, zCD, zB8, if_true, zBB, zDF, D.bl.injEq, exists_eq_left', zA8, zAW, zE3, zBF, zBE, zAA, List.getElem?_cons_succ, List.getElem?_cons_zero, Option.some.injEq, zB6, zB9, zAX]
  refine isi_tm tm ?_
  cases hx : isB .tuple x with
  | false =>
    (try simp only [zFD, Option.some.injEq, exists_eq_left', Bool.not_false, if_true])
    (try dsimp only); rw [zCA]; simp only [zC9, zC6, zCD]
    exact bad fun p ⟨b, _, j, e1, _⟩ => by rw [e1] at hx; cases hx
  | true =>
    obtain ⟨ds, rfl⟩ := isB_tup hx
    clear hx
    unfold tmD at tm
    obtain ⟨tm, hl⟩ := tm
    by_cases h2 : ds.length = 2
    · match ds, h2 with
      | [x0, x1], _ =>
        unfold tmDs tmDs at tm
        obtain ⟨t0, t1, -⟩ := tm
        (try simp only [zFD, Option.some.injEq, zE4, zDM, exists_eq_left', Bool.not_true, Bool.false_eq_true, if_false])
        try rw [if_neg (show ¬ ((!decide ((([x0, x1] : List D).length : Int) = 2)) = true) from by simp)]
        (try dsimp only); rw [zCA]; simp only [zCC, zC8, zCD]
        (try dsimp only); rw [zCA]; simp only [zC9, zBY, List.set_cons_succ, List.set_cons_zero, zAS, zB2, zBF, zBE, zA8, zAA, List.getElem?_cons_succ, List.getElem?_cons_zero, Option.some.injEq, exists_eq_left', zDS, zFR]
        by_cases hk : ∃ (k : Nat) (b : Bar), e[k]? = some b ∧ x0 = .str b.1
        · obtain ⟨k, b, hk, rfl⟩ := hk
          refine ⟨by omega, e, many, _, rfl, eo, t0, .inl ⟨k, b, hk, rfl, ?_⟩⟩
          (try simp only [eD, zDS, zIK hk, Option.some.injEq, exists_eq_left'])
          (try dsimp only); rw [zCA]; simp only [zCC, bD, zC3, zC9, zCD, zB6, zB9, zB2, zBF, zBE, zAK, zAS, zA8, zAA, List.getElem?_cons_succ, List.getElem?_cons_zero, Option.some.injEq, exists_eq_left', zDS, zFS, zFT, zCL]
          refine ⟨by omega, x1, 0, b.2.2 - b.2.1, rfl, tm_kn t1, ?_⟩
          cases h1 : fromB 0 (b.2.2 - b.2.1) x1 with
          | false =>
            (try simp only [zFD, Option.some.injEq, exists_eq_left', Bool.not_false, if_true])
            (try dsimp only); rw [zCA]; simp only [zC9, zC6, zCD]
            refine bad fun p ⟨b', hb', j, e1, j0, j1, _⟩ => ?_
            simp only [D.tup.injEq, List.cons.injEq, D.str.injEq, and_true] at e1
            obtain ⟨e1, rfl⟩ := e1
            obtain ⟨i, hi⟩ := List.getElem?_of_mem hb'
            have := lab_inj eo hk hi e1
            subst this
            rw [hi] at hk; cases hk
            unfold fromB at h1
            rw [decide_eq_false_iff_not] at h1
            exact h1 ⟨j0, j1⟩
          | true =>
            cases x1 with
            | int j =>
              unfold fromB at h1
              rw [decide_eq_true_eq] at h1
              (try simp only [zFD, Option.some.injEq, exists_eq_left', Bool.not_true, Bool.false_eq_true, if_false])
              (try dsimp only); rw [zCA]; simp only [zC9, zCB, zCC, zBW, zCD, zAK, zCK, zAS, zA8, zAA, List.getElem?_cons_succ, List.getElem?_cons_zero, Option.some.injEq, exists_eq_left', zDS, zFS, zCQ]
              exact .now (good _ ⟨b, List.mem_of_getElem? hk, j, rfl, h1.1, h1.2, rfl⟩)
            | _ => cases h1
        · have no : ∀ b ∈ e, x0 ≠ .str b.1 := fun b hb z => by
            obtain ⟨i, hi⟩ := List.getElem?_of_mem hb
            exact hk ⟨i, b, hi, z⟩
          refine ⟨by omega, e, many, _, rfl, eo, t0, .inr ⟨no, ?_⟩⟩
          refine ⟨by decide +kernel, ?_⟩
          rw [if_pos (show ((["NoBar"] : List Str).any fun d => isEx d (⟨"NoBar", []⟩ : Exn).c) = true by decide +kernel), zIU]
          refine bad fun p ⟨b, hb, j, e1, _⟩ => no b hb ?_
          simp only [D.tup.injEq, List.cons.injEq] at e1
          exact e1.1
    · have h3 : ¬ (ds.length : Int) = 2 := by omega
      (try simp only [zFD, Option.some.injEq, zE4, zDM, h3, decide_false, Bool.not_false, if_true, exists_eq_left', Bool.not_true, Bool.false_eq_true, if_false])
      (try dsimp only); rw [zCA]; simp only [zC9, zC6, zCD]
      exact bad fun p ⟨b, _, j, e1, _⟩ => h2 (by simp only [D.tup.injEq] at e1; rw [e1]; rfl)
theorem ob_place_in : ∀ n ds T Q E, ds.length = 3 → G (n + 1) 6 ds T Q E → evSs (G n) ir_place_in (endsD Q E) (startD ns_place_in ds) T := by
  rintro n ds T Q E - ⟨hn, e, f, many, x, rfl, eo, fl, tm, q⟩
  rw [st_place_in]; unfold ir_place_in
  (try dsimp only); rw [zCA]; simp only [zCC, zBY, List.set_cons_succ, List.set_cons_zero, zCD, zB2, zBF, zBE, zAA, List.getElem?_cons_succ, List.getElem?_cons_zero, Option.some.injEq, exists_eq_left']
  rcases q with ⟨p, hp, q⟩ | ⟨no, q⟩
  · refine ⟨by omega, e, many, x, rfl, eo, tm, .inl ⟨p, hp, ?_⟩⟩
    (try simp only [])
    (try dsimp only); rw [zCA]; simp only [zCC, zBY, List.set_cons_succ, List.set_cons_zero, zCD, zB2, zBF, zBE, zAA, List.getElem?_cons_succ, List.getElem?_cons_zero, Option.some.injEq, exists_eq_left']
    refine ⟨by omega, f, p, rfl, fl, ?_⟩
    (try simp only [])
    unfold placeD at q
    cases hf : f.find? (hasB p) with
    | none =>
      rw [hf] at q
      (try dsimp only); rw [zCA]; simp only [zCC, zC3, zC9, zCD, zBB, zA6, zDG, D.bl.injEq, exists_eq_left', zAA, List.getElem?_cons_succ, List.getElem?_cons_zero, Option.some.injEq, nonB, Option.isNone_none, if_true]
      (try dsimp only); rw [zCA]; simp only [zC9, zBW, zCD, zA6]
      exact .now q
    | some b =>
      rw [hf] at q
      (try dsimp only); rw [zCA]; simp only [zCC, zC3, zC9, zCD, zBB, zA6, zDG, D.bl.injEq, exists_eq_left', zAA, List.getElem?_cons_succ, List.getElem?_cons_zero, Option.some.injEq, nonB, Option.isNone_some, Bool.false_eq_true, if_false]
      (try dsimp only); rw [zCA]; simp only [zC9, zCB, zCC, optB, bD, zBW, zCD, zAD, zBF, zBE, zAK, zAS, zA8, zAA, List.getElem?_cons_succ, List.getElem?_cons_zero, Option.some.injEq, exists_eq_left', zDS, zFS, zCL, zFR]
      exact .now q
  · exact ⟨by omega, e, many, x, rfl, eo, tm, .inr ⟨no, q⟩⟩

theorem ob_lam0 : ∀ n ds T Q E, G (n + 1) (lamIx 0) ds T Q E → evE (G n) irlam_0 (capEnv ns_law.length [4, 5, 8] ds) T Q E := by
  rintro n ds T Q E ⟨hn, e, f, many, x, rfl, eo, fl, tm, no, q⟩
  rw [cap_0]; unfold irlam_0
  (try simp only [zB2, zBF, zBE, zAA, List.getElem?_cons_succ, List.getElem?_cons_zero, Option.some.injEq, exists_eq_left'])
  exact ⟨by omega, e, f, many, x, rfl, eo, fl, tm, .inr ⟨no, q⟩⟩
theorem ob__law_same : ∀ n ds T Q E, ds.length = 2 → G (n + 1) 14 ds T Q E → evSs (G n) ir__law_same (endsD Q E) (startD ns__law_same ds) T := by
  rintro n ds T Q E - ⟨hn, x, rfl, sx, dp, sb, q⟩
  rw [st__law_same]; unfold ir__law_same
  (try dsimp only); rw [zCA]; simp only [zC9, zCB, zCC, zBW, zCD, zAP, zDE, zAW, zE9, zBF, zBE, zAA, List.getElem?_cons_succ, List.getElem?_cons_zero, Option.some.injEq, exists_eq_left']
  refine zHR sx dp sb ?_
  (try simp only [zA0, zA1, zA2, zA3, zA4, zA5, zA6, zA7, zA8, zA9, zAA, zAB, zAC, zAD, zAE, zAF, zAG, zAH, zAI, zAJ, zAK, zAL, zAM, zAN, zAO, zAP, zAQ, zAR, zAS, zAT, zAU, zAV, zAW, zAX, zAY, zAZ, zB0, zB1, zB2, zB3, zB4, zB5, zB6, zB7, zB8, zB9, zBA, zBB, zBC, zBD, zBE, zBF, zBG, zBH, zBI, zBJ, zBK, zBL, zBM, zBN, zBO, zBP, zBQ, zBR, zBS, zBT, zBU, zBV, zBW, zBX, zBY, zBZ, zC0, zC1, zC2, zC3, zC4, zC5, zC6, zC7, zC8, zC9, zCB, zCC, zCD, zCE, zCF, zCG, zCH, zCI, zCJ, zCK, zCL, zCM, zCN, zCO, zCP, zCQ, zCR, zCS, zCT, zCU, zCV, zCW, zCX, zCY, zCZ, zD0, zD1, zD2, zD3, zD4, zD5, zD6, zD7, zD8, zD9, zDA, zDB, zDC, zDD, zDE, zDF, zDG, zDH, zDI, zDJ, zDK, zDL, zDM, zDN, zDO, zDS, zDT, zDU, zDV, zDW, zDX, zDY, zDZ, zE0, zE1, zE3, zE4, zE5, zE6, zE7, zE8, zE9, zEA, zEB, zEC, zED, zEE, zEF, zEG, zEH, zEI, zEK, zEL, zEM, zEN, zEO, zEP, zEQ, zER, zES, zET, zEU, zEV, zEW, zEX, zEY, zEZ, zF0, zF1, zF2, zF3, zF4, zF5, zF6, zF8, zF9, zFA, zFB, zFC, zFD, zFE, zFF, zFG, zFH, zFJ, zFK, zFL, zFM, zFN, zFO, zFP, zFR, zFS, zFT, zFU, zFV, zFW, zGA, zGB, zGC, zH4, zH5, zEY, zI6, zI7, zI8, zI9, zIA, zIJ, zIL, zIM, zIP, zIX, zIY, eq_self, List.map_cons, List.map_nil, List.set_cons_zero, List.set_cons_succ, List.getElem?_cons_zero, List.getElem?_cons_succ, Option.some.injEq, exists_eq_left', exists_eq_left, exists_eq, true_and, and_true, decide_eq_true_eq, Bool.not_eq_true, Bool.false_eq_true, if_true, if_false, ite_true, ite_false, D.int.injEq, D.str.injEq, D.bl.injEq, D.ref.injEq, exists_and_left, bne_iff_ne, ne_eq, Bool.not_true, Bool.not_false, decide_true, decide_false, Bool.and_true, Bool.and_false, Bool.or_false, Bool.or_true, reduceCtorEq])
  refine zHR sx dp sb ?_
  (try simp only [zDN, decide_true])
  exact .now q
theorem dIndex_bl1 {T : DH} {m : Bool} {Q : DQ} (q : Q (.int 0) T) : dMth .index m (.lst [.bl true]) [.bl true] T Q :=
  ⟨[.bl true], [.bool true], .bool true, 0, .bool true, rfl, rfl, rfl, by decide, by decide, rfl, by decide, fun m _ h => absurd h (by omega), q⟩
theorem ob__law_heard : ∀ n ds T Q E, ds.length = 1 → G (n + 1) 15 ds T Q E → ∃ p, ds = [.ref p] ∧ evSs (withAct (G n) p) ir__law_heard (endsD Q E) (startD ns__law_heard ds) T := by
  rintro n ds T Q E - ⟨hn, p, e, f, many, x, rfl, hp, eo, fl, tm, no, q⟩
  refine ⟨p, rfl, ?_⟩
  rw [st__law_heard]; unfold ir__law_heard
  (try dsimp only); rw [zCA]; simp only [zCC, zBY, List.set_cons_succ, List.set_cons_zero, zCD, zA6]
  (try dsimp only); rw [zCA]; simp only [zCC, zBY, List.set_cons_succ, List.set_cons_zero, zCD, zA6]
  (try dsimp only); rw [zCA]; simp only [zCC, zC8, zCD]
  (try dsimp only); rw [zCA]; simp only [zC9, zA3, List.getElem?_cons_zero, Option.some.injEq, List.set_cons_succ, List.set_cons_zero, zA4, exists_eq_left', true_and]
  refine ⟨_, _, hp, ?_⟩
  refine ⟨by omega, e, f, many, x, rfl, eo, fl, tm, no, ?_⟩
  have h1 : ((["PlayError"] : List Str).any fun d => isEx d "NoPlace") = true := by decide +kernel
  have h6 : ("NoPlace" : Str) ∈ excN := by decide +kernel
  refine ⟨h6, ?_⟩
  rw [if_pos (show ((["PlayError"] : List Str).any fun d => isEx d (⟨"NoPlace", []⟩ : Exn).c) = true from h1), zIS]
  intro y hy
  have hyy : updD T y (.exn "NoPlace" []) y = some (.exn "NoPlace" []) := updD_same
  have is : ∀ {cs : List Str} {k : Bool} {Q : DQ}, (cs.any fun d => isEx d "NoPlace") = k → Q (.bl k) (updD T y (.exn "NoPlace" [])) → dIsx (.ref y) excN cs (updD T y (.exn "NoPlace" [])) Q := fun h q => by
    rw [zIQ hyy, h]; exact ⟨h6, q⟩
  (try dsimp only); rw [zCA]; simp only [zCC, List.set_cons_succ, List.set_cons_zero, zC3, zC9, zCD, zBB, zA6, zDG, isNonD, D.bl.injEq, exists_eq_left', zAA, List.getElem?_cons_succ, List.getElem?_cons_zero, Option.some.injEq, Bool.false_eq_true, if_false]
  (try dsimp only); rw [zCA]; simp only [zCC, zBY, List.set_cons_succ, List.set_cons_zero, zCD, zAE, zCJ, zBF, zBE, zAY, zAA, List.getElem?_cons_succ, List.getElem?_cons_zero, Option.some.injEq, exists_eq_left']
  refine is (k := true) ?_ ?_
  · decide +kernel
  (try simp only [zA0, zA1, zA2, zA3, zA4, zA5, zA6, zA7, zA8, zA9, zAA, zAB, zAC, zAD, zAE, zAF, zAG, zAH, zAI, zAJ, zAK, zAL, zAM, zAN, zAO, zAP, zAQ, zAR, zAS, zAT, zAU, zAV, zAW, zAX, zAY, zAZ, zB0, zB1, zB2, zB3, zB4, zB5, zB6, zB7, zB8, zB9, zBA, zBB, zBC, zBD, zBE, zBF, zBG, zBH, zBI, zBJ, zBK, zBL, zBM, zBN, zBO, zBP, zBQ, zBR, zBS, zBT, zBU, zBV, zBW, zBX, zBY, zBZ, zC0, zC1, zC2, zC3, zC4, zC5, zC6, zC7, zC8, zC9, zCB, zCC, zCD, zCE, zCF, zCG, zCH, zCI, zCJ, zCK, zCL, zCM, zCN, zCO, zCP, zCQ, zCR, zCS, zCT, zCU, zCV, zCW, zCX, zCY, zCZ, zD0, zD1, zD2, zD3, zD4, zD5, zD6, zD7, zD8, zD9, zDA, zDB, zDC, zDD, zDE, zDF, zDG, zDH, zDI, zDJ, zDK, zDL, zDM, zDN, zDO, zDS, zDT, zDU, zDV, zDW, zDX, zDY, zDZ, zE0, zE1, zE3, zE4, zE5, zE6, zE7, zE8, zE9, zEA, zEB, zEC, zED, zEE, zEF, zEG, zEH, zEI, zEK, zEL, zEM, zEN, zEO, zEP, zEQ, zER, zES, zET, zEU, zEV, zEW, zEX, zEY, zEZ, zF0, zF1, zF2, zF3, zF4, zF5, zF6, zF8, zF9, zFA, zFB, zFC, zFD, zFE, zFF, zFG, zFH, zFJ, zFK, zFL, zFM, zFN, zFO, zFP, zFR, zFS, zFT, zFU, zFV, zFW, zGA, zGB, zGC, zH4, zH5, zEY, zI6, zI7, zI8, zI9, zIA, zIJ, zIL, zIM, zIP, zIX, zIY, eq_self, List.map_cons, List.map_nil, List.set_cons_zero, List.set_cons_succ, List.getElem?_cons_zero, List.getElem?_cons_succ, Option.some.injEq, exists_eq_left', exists_eq_left, exists_eq, true_and, and_true, decide_eq_true_eq, Bool.not_eq_true, Bool.false_eq_true, if_true, if_false, ite_true, ite_false, D.int.injEq, D.str.injEq, D.bl.injEq, D.ref.injEq, exists_and_left, bne_iff_ne, ne_eq, Bool.not_true, Bool.not_false, decide_true, decide_false, Bool.and_true, Bool.and_false, Bool.or_false, Bool.or_true, reduceCtorEq])
  (try dsimp only); rw [zCA]; simp only [zCC, zBY, List.set_cons_succ, List.set_cons_zero, zCD, zAE, zCJ, zBF, zBE, zAY, zAA, List.getElem?_cons_succ, List.getElem?_cons_zero, Option.some.injEq, exists_eq_left']
  refine is (k := false) ?_ ?_
  · decide +kernel
  (try simp only [zA0, zA1, zA2, zA3, zA4, zA5, zA6, zA7, zA8, zA9, zAA, zAB, zAC, zAD, zAE, zAF, zAG, zAH, zAI, zAJ, zAK, zAL, zAM, zAN, zAO, zAP, zAQ, zAR, zAS, zAT, zAU, zAV, zAW, zAX, zAY, zAZ, zB0, zB1, zB2, zB3, zB4, zB5, zB6, zB7, zB8, zB9, zBA, zBB, zBC, zBD, zBE, zBF, zBG, zBH, zBI, zBJ, zBK, zBL, zBM, zBN, zBO, zBP, zBQ, zBR, zBS, zBT, zBU, zBV, zBW, zBX, zBY, zBZ, zC0, zC1, zC2, zC3, zC4, zC5, zC6, zC7, zC8, zC9, zCB, zCC, zCD, zCE, zCF, zCG, zCH, zCI, zCJ, zCK, zCL, zCM, zCN, zCO, zCP, zCQ, zCR, zCS, zCT, zCU, zCV, zCW, zCX, zCY, zCZ, zD0, zD1, zD2, zD3, zD4, zD5, zD6, zD7, zD8, zD9, zDA, zDB, zDC, zDD, zDE, zDF, zDG, zDH, zDI, zDJ, zDK, zDL, zDM, zDN, zDO, zDS, zDT, zDU, zDV, zDW, zDX, zDY, zDZ, zE0, zE1, zE3, zE4, zE5, zE6, zE7, zE8, zE9, zEA, zEB, zEC, zED, zEE, zEF, zEG, zEH, zEI, zEK, zEL, zEM, zEN, zEO, zEP, zEQ, zER, zES, zET, zEU, zEV, zEW, zEX, zEY, zEZ, zF0, zF1, zF2, zF3, zF4, zF5, zF6, zF8, zF9, zFA, zFB, zFC, zFD, zFE, zFF, zFG, zFH, zFJ, zFK, zFL, zFM, zFN, zFO, zFP, zFR, zFS, zFT, zFU, zFV, zFW, zGA, zGB, zGC, zH4, zH5, zEY, zI6, zI7, zI8, zI9, zIA, zIJ, zIL, zIM, zIP, zIX, zIY, eq_self, List.map_cons, List.map_nil, List.set_cons_zero, List.set_cons_succ, List.getElem?_cons_zero, List.getElem?_cons_succ, Option.some.injEq, exists_eq_left', exists_eq_left, exists_eq, true_and, and_true, decide_eq_true_eq, Bool.not_eq_true, Bool.false_eq_true, if_true, if_false, ite_true, ite_false, D.int.injEq, D.str.injEq, D.bl.injEq, D.ref.injEq, exists_and_left, bne_iff_ne, ne_eq, Bool.not_true, Bool.not_false, decide_true, decide_false, Bool.and_true, Bool.and_false, Bool.or_false, Bool.or_true, reduceCtorEq])
  refine is (k := false) ?_ ?_
  · decide +kernel
  (try simp only [zA0, zA1, zA2, zA3, zA4, zA5, zA6, zA7, zA8, zA9, zAA, zAB, zAC, zAD, zAE, zAF, zAG, zAH, zAI, zAJ, zAK, zAL, zAM, zAN, zAO, zAP, zAQ, zAR, zAS, zAT, zAU, zAV, zAW, zAX, zAY, zAZ, zB0, zB1, zB2, zB3, zB4, zB5, zB6, zB7, zB8, zB9, zBA, zBB, zBC, zBD, zBE, zBF, zBG, zBH, zBI, zBJ, zBK, zBL, zBM, zBN, zBO, zBP, zBQ, zBR, zBS, zBT, zBU, zBV, zBW, zBX, zBY, zBZ, zC0, zC1, zC2, zC3, zC4, zC5, zC6, zC7, zC8, zC9, zCB, zCC, zCD, zCE, zCF, zCG, zCH, zCI, zCJ, zCK, zCL, zCM, zCN, zCO, zCP, zCQ, zCR, zCS, zCT, zCU, zCV, zCW, zCX, zCY, zCZ, zD0, zD1, zD2, zD3, zD4, zD5, zD6, zD7, zD8, zD9, zDA, zDB, zDC, zDD, zDE, zDF, zDG, zDH, zDI, zDJ, zDK, zDL, zDM, zDN, zDO, zDS, zDT, zDU, zDV, zDW, zDX, zDY, zDZ, zE0, zE1, zE3, zE4, zE5, zE6, zE7, zE8, zE9, zEA, zEB, zEC, zED, zEE, zEF, zEG, zEH, zEI, zEK, zEL, zEM, zEN, zEO, zEP, zEQ, zER, zES, zET, zEU, zEV, zEW, zEX, zEY, zEZ, zF0, zF1, zF2, zF3, zF4, zF5, zF6, zF8, zF9, zFA, zFB, zFC, zFD, zFE, zFF, zFG, zFH, zFJ, zFK, zFL, zFM, zFN, zFO, zFP, zFR, zFS, zFT, zFU, zFV, zFW, zGA, zGB, zGC, zH4, zH5, zEY, zI6, zI7, zI8, zI9, zIA, zIJ, zIL, zIM, zIP, zIX, zIY, eq_self, List.map_cons, List.map_nil, List.set_cons_zero, List.set_cons_succ, List.getElem?_cons_zero, List.getElem?_cons_succ, Option.some.injEq, exists_eq_left', exists_eq_left, exists_eq, true_and, and_true, decide_eq_true_eq, Bool.not_eq_true, Bool.false_eq_true, if_true, if_false, ite_true, ite_false, D.int.injEq, D.str.injEq, D.bl.injEq, D.ref.injEq, exists_and_left, bne_iff_ne, ne_eq, Bool.not_true, Bool.not_false, decide_true, decide_false, Bool.and_true, Bool.and_false, Bool.or_false, Bool.or_true, reduceCtorEq])
  refine is (k := false) ?_ ?_
  · decide +kernel
  (try simp only [zA0, zA1, zA2, zA3, zA4, zA5, zA6, zA7, zA8, zA9, zAA, zAB, zAC, zAD, zAE, zAF, zAG, zAH, zAI, zAJ, zAK, zAL, zAM, zAN, zAO, zAP, zAQ, zAR, zAS, zAT, zAU, zAV, zAW, zAX, zAY, zAZ, zB0, zB1, zB2, zB3, zB4, zB5, zB6, zB7, zB8, zB9, zBA, zBB, zBC, zBD, zBE, zBF, zBG, zBH, zBI, zBJ, zBK, zBL, zBM, zBN, zBO, zBP, zBQ, zBR, zBS, zBT, zBU, zBV, zBW, zBX, zBY, zBZ, zC0, zC1, zC2, zC3, zC4, zC5, zC6, zC7, zC8, zC9, zCB, zCC, zCD, zCE, zCF, zCG, zCH, zCI, zCJ, zCK, zCL, zCM, zCN, zCO, zCP, zCQ, zCR, zCS, zCT, zCU, zCV, zCW, zCX, zCY, zCZ, zD0, zD1, zD2, zD3, zD4, zD5, zD6, zD7, zD8, zD9, zDA, zDB, zDC, zDD, zDE, zDF, zDG, zDH, zDI, zDJ, zDK, zDL, zDM, zDN, zDO, zDS, zDT, zDU, zDV, zDW, zDX, zDY, zDZ, zE0, zE1, zE3, zE4, zE5, zE6, zE7, zE8, zE9, zEA, zEB, zEC, zED, zEE, zEF, zEG, zEH, zEI, zEK, zEL, zEM, zEN, zEO, zEP, zEQ, zER, zES, zET, zEU, zEV, zEW, zEX, zEY, zEZ, zF0, zF1, zF2, zF3, zF4, zF5, zF6, zF8, zF9, zFA, zFB, zFC, zFD, zFE, zFF, zFG, zFH, zFJ, zFK, zFL, zFM, zFN, zFO, zFP, zFR, zFS, zFT, zFU, zFV, zFW, zGA, zGB, zGC, zH4, zH5, zEY, zI6, zI7, zI8, zI9, zIA, zIJ, zIL, zIM, zIP, zIX, zIY, eq_self, List.map_cons, List.map_nil, List.set_cons_zero, List.set_cons_succ, List.getElem?_cons_zero, List.getElem?_cons_succ, Option.some.injEq, exists_eq_left', exists_eq_left, exists_eq, true_and, and_true, decide_eq_true_eq, Bool.not_eq_true, Bool.false_eq_true, if_true, if_false, ite_true, ite_false, D.int.injEq, D.str.injEq, D.bl.injEq, D.ref.injEq, exists_and_left, bne_iff_ne, ne_eq, Bool.not_true, Bool.not_false, decide_true, decide_false, Bool.and_true, Bool.and_false, Bool.or_false, Bool.or_true, reduceCtorEq])
  (try dsimp only); rw [zCA]; simp only [zCC, zBY, List.set_cons_succ, List.set_cons_zero, zCD, zAK, zCK, zAE, zCJ, zBF, zBE, zAY, zAA, List.getElem?_cons_succ, List.getElem?_cons_zero, Option.some.injEq, exists_eq_left', zCT]
  refine is (k := false) ?_ ?_
  · decide +kernel
  (try simp only [zA0, zA1, zA2, zA3, zA4, zA5, zA6, zA7, zA8, zA9, zAA, zAB, zAC, zAD, zAE, zAF, zAG, zAH, zAI, zAJ, zAK, zAL, zAM, zAN, zAO, zAP, zAQ, zAR, zAS, zAT, zAU, zAV, zAW, zAX, zAY, zAZ, zB0, zB1, zB2, zB3, zB4, zB5, zB6, zB7, zB8, zB9, zBA, zBB, zBC, zBD, zBE, zBF, zBG, zBH, zBI, zBJ, zBK, zBL, zBM, zBN, zBO, zBP, zBQ, zBR, zBS, zBT, zBU, zBV, zBW, zBX, zBY, zBZ, zC0, zC1, zC2, zC3, zC4, zC5, zC6, zC7, zC8, zC9, zCB, zCC, zCD, zCE, zCF, zCG, zCH, zCI, zCJ, zCK, zCL, zCM, zCN, zCO, zCP, zCQ, zCR, zCS, zCT, zCU, zCV, zCW, zCX, zCY, zCZ, zD0, zD1, zD2, zD3, zD4, zD5, zD6, zD7, zD8, zD9, zDA, zDB, zDC, zDD, zDE, zDF, zDG, zDH, zDI, zDJ, zDK, zDL, zDM, zDN, zDO, zDS, zDT, zDU, zDV, zDW, zDX, zDY, zDZ, zE0, zE1, zE3, zE4, zE5, zE6, zE7, zE8, zE9, zEA, zEB, zEC, zED, zEE, zEF, zEG, zEH, zEI, zEK, zEL, zEM, zEN, zEO, zEP, zEQ, zER, zES, zET, zEU, zEV, zEW, zEX, zEY, zEZ, zF0, zF1, zF2, zF3, zF4, zF5, zF6, zF8, zF9, zFA, zFB, zFC, zFD, zFE, zFF, zFG, zFH, zFJ, zFK, zFL, zFM, zFN, zFO, zFP, zFR, zFS, zFT, zFU, zFV, zFW, zGA, zGB, zGC, zH4, zH5, zEY, zI6, zI7, zI8, zI9, zIA, zIJ, zIL, zIM, zIP, zIX, zIY, eq_self, List.map_cons, List.map_nil, List.set_cons_zero, List.set_cons_succ, List.getElem?_cons_zero, List.getElem?_cons_succ, Option.some.injEq, exists_eq_left', exists_eq_left, exists_eq, true_and, and_true, decide_eq_true_eq, Bool.not_eq_true, Bool.false_eq_true, if_true, if_false, ite_true, ite_false, D.int.injEq, D.str.injEq, D.bl.injEq, D.ref.injEq, exists_and_left, bne_iff_ne, ne_eq, Bool.not_true, Bool.not_false, decide_true, decide_false, Bool.and_true, Bool.and_false, Bool.or_false, Bool.or_true, reduceCtorEq])
  refine is (k := false) ?_ ?_
  · decide +kernel
  (try simp only [zA0, zA1, zA2, zA3, zA4, zA5, zA6, zA7, zA8, zA9, zAA, zAB, zAC, zAD, zAE, zAF, zAG, zAH, zAI, zAJ, zAK, zAL, zAM, zAN, zAO, zAP, zAQ, zAR, zAS, zAT, zAU, zAV, zAW, zAX, zAY, zAZ, zB0, zB1, zB2, zB3, zB4, zB5, zB6, zB7, zB8, zB9, zBA, zBB, zBC, zBD, zBE, zBF, zBG, zBH, zBI, zBJ, zBK, zBL, zBM, zBN, zBO, zBP, zBQ, zBR, zBS, zBT, zBU, zBV, zBW, zBX, zBY, zBZ, zC0, zC1, zC2, zC3, zC4, zC5, zC6, zC7, zC8, zC9, zCB, zCC, zCD, zCE, zCF, zCG, zCH, zCI, zCJ, zCK, zCL, zCM, zCN, zCO, zCP, zCQ, zCR, zCS, zCT, zCU, zCV, zCW, zCX, zCY, zCZ, zD0, zD1, zD2, zD3, zD4, zD5, zD6, zD7, zD8, zD9, zDA, zDB, zDC, zDD, zDE, zDF, zDG, zDH, zDI, zDJ, zDK, zDL, zDM, zDN, zDO, zDS, zDT, zDU, zDV, zDW, zDX, zDY, zDZ, zE0, zE1, zE3, zE4, zE5, zE6, zE7, zE8, zE9, zEA, zEB, zEC, zED, zEE, zEF, zEG, zEH, zEI, zEK, zEL, zEM, zEN, zEO, zEP, zEQ, zER, zES, zET, zEU, zEV, zEW, zEX, zEY, zEZ, zF0, zF1, zF2, zF3, zF4, zF5, zF6, zF8, zF9, zFA, zFB, zFC, zFD, zFE, zFF, zFG, zFH, zFJ, zFK, zFL, zFM, zFN, zFO, zFP, zFR, zFS, zFT, zFU, zFV, zFW, zGA, zGB, zGC, zH4, zH5, zEY, zI6, zI7, zI8, zI9, zIA, zIJ, zIL, zIM, zIP, zIX, zIY, eq_self, List.map_cons, List.map_nil, List.set_cons_zero, List.set_cons_succ, List.getElem?_cons_zero, List.getElem?_cons_succ, Option.some.injEq, exists_eq_left', exists_eq_left, exists_eq, true_and, and_true, decide_eq_true_eq, Bool.not_eq_true, Bool.false_eq_true, if_true, if_false, ite_true, ite_false, D.int.injEq, D.str.injEq, D.bl.injEq, D.ref.injEq, exists_and_left, bne_iff_ne, ne_eq, Bool.not_true, Bool.not_false, decide_true, decide_false, Bool.and_true, Bool.and_false, Bool.or_false, Bool.or_true, reduceCtorEq])
  refine is (k := false) ?_ ?_
  · decide +kernel
  (try simp only [zA0, zA1, zA2, zA3, zA4, zA5, zA6, zA7, zA8, zA9, zAA, zAB, zAC, zAD, zAE, zAF, zAG, zAH, zAI, zAJ, zAK, zAL, zAM, zAN, zAO, zAP, zAQ, zAR, zAS, zAT, zAU, zAV, zAW, zAX, zAY, zAZ, zB0, zB1, zB2, zB3, zB4, zB5, zB6, zB7, zB8, zB9, zBA, zBB, zBC, zBD, zBE, zBF, zBG, zBH, zBI, zBJ, zBK, zBL, zBM, zBN, zBO, zBP, zBQ, zBR, zBS, zBT, zBU, zBV, zBW, zBX, zBY, zBZ, zC0, zC1, zC2, zC3, zC4, zC5, zC6, zC7, zC8, zC9, zCB, zCC, zCD, zCE, zCF, zCG, zCH, zCI, zCJ, zCK, zCL, zCM, zCN, zCO, zCP, zCQ, zCR, zCS, zCT, zCU, zCV, zCW, zCX, zCY, zCZ, zD0, zD1, zD2, zD3, zD4, zD5, zD6, zD7, zD8, zD9, zDA, zDB, zDC, zDD, zDE, zDF, zDG, zDH, zDI, zDJ, zDK, zDL, zDM, zDN, zDO, zDS, zDT, zDU, zDV, zDW, zDX, zDY, zDZ, zE0, zE1, zE3, zE4, zE5, zE6, zE7, zE8, zE9, zEA, zEB, zEC, zED, zEE, zEF, zEG, zEH, zEI, zEK, zEL, zEM, zEN, zEO, zEP, zEQ, zER, zES, zET, zEU, zEV, zEW, zEX, zEY, zEZ, zF0, zF1, zF2, zF3, zF4, zF5, zF6, zF8, zF9, zFA, zFB, zFC, zFD, zFE, zFF, zFG, zFH, zFJ, zFK, zFL, zFM, zFN, zFO, zFP, zFR, zFS, zFT, zFU, zFV, zFW, zGA, zGB, zGC, zH4, zH5, zEY, zI6, zI7, zI8, zI9, zIA, zIJ, zIL, zIM, zIP, zIX, zIY, eq_self, List.map_cons, List.map_nil, List.set_cons_zero, List.set_cons_succ, List.getElem?_cons_zero, List.getElem?_cons_succ, Option.some.injEq, exists_eq_left', exists_eq_left, exists_eq, true_and, and_true, decide_eq_true_eq, Bool.not_eq_true, Bool.false_eq_true, if_true, if_false, ite_true, ite_false, D.int.injEq, D.str.injEq, D.bl.injEq, D.ref.injEq, exists_and_left, bne_iff_ne, ne_eq, Bool.not_true, Bool.not_false, decide_true, decide_false, Bool.and_true, Bool.and_false, Bool.or_false, Bool.or_true, reduceCtorEq])
  (try dsimp only); rw [zCA]; simp only [zCC, zBY, List.set_cons_succ, List.set_cons_zero, zCD, zAK, zCK, zAE, zCJ, zBF, zBE, zAY, zAA, List.getElem?_cons_succ, List.getElem?_cons_zero, Option.some.injEq, exists_eq_left', zCT]
  refine ⟨zGK (by decide), ?_⟩
  refine is (k := false) ?_ ?_
  · decide +kernel
  refine ⟨zGK (by decide), ?_⟩
  (try dsimp only); rw [zCA]; simp only [zCC, zC3, zC9, zCD, zB8, if_true, zB6, zB9, zAY, zAA, List.getElem?_cons_succ, List.getElem?_cons_zero, Option.some.injEq, exists_eq_left', zBB, zDK, D.bl.injEq, zA7, zDF, zA8, zB4, zBF, zBE, mthOk_countL, true_and]
  refine dCount_bls (bs := [true]) ?_
  rw [show ((List.map PyData.bool [true]).countP fun z => PyData.eqv z (.bool true)) = 1 from by decide +kernel]
  (try simp only [zDM])
  rw [if_neg (show ¬((!decide (((1 : Nat) : Int) = 1)) = true) by decide)]
  refine dIn_bls (bs := List.replicate 7 false) ?_
  rw [show ((List.map PyData.bool (List.replicate 7 false)).any fun z => PyData.eqv z (.bool true)) = false from by decide +kernel]
  (try simp only [Bool.false_eq_true, if_false])
  refine is (k := true) ?_ ?_
  · decide +kernel
  (try simp only [zFD, Option.some.injEq, exists_eq_left', Bool.not_true, Bool.false_eq_true, if_false])
  (try dsimp only); rw [zCA]; simp only [zC9, zCB, zCC, zBW, zCD, zAD, zBF, zBE, zA6, zAS, zB4, zA7, zAA, List.getElem?_cons_succ, List.getElem?_cons_zero, Option.some.injEq, exists_eq_left', mthOk_indexL, true_and, zAE, zCJ, zA9]
  refine dIndex_bl1 ?_
  (try simp only [zDT, zFR, List.getElem?_cons_zero, Option.some.injEq, exists_eq_left'])
  exact .of (.drop hy) q
theorem find_own {many : Int} {e : List Bar} (eo : Eok many e) {b : Bar} (hb : b ∈ e) {p : Int} (h0 : b.2.1 ≤ p) (h1 : p ≤ b.2.2) : e.find? (hasB p) = some b := by
  have hp : hasB p b = true := by unfold hasB; rw [decide_eq_true_eq]; exact ⟨h0, h1⟩
  cases hf : e.find? (hasB p) with
  | none => exact absurd hp (by have := List.find?_eq_none.mp hf b hb; exact this)
  | some c =>
    have hc := List.find?_some hf
    have hm := List.mem_of_find?_eq_some hf
    obtain ⟨i, hi⟩ := List.getElem?_of_mem hb
    obtain ⟨k, hk⟩ := List.getElem?_of_mem hm
    obtain ⟨h2, h3⟩ := List.getElem?_eq_some_iff.mp hi
    obtain ⟨h4, h5⟩ := List.getElem?_eq_some_iff.mp hk
    unfold hasB at hc
    rw [decide_eq_true_eq] at hc
    rcases Nat.lt_trichotomy i k with h | h | h
    · have := List.pairwise_iff_getElem.mp eo.ord i k h2 h4 h
      rw [h3, h5] at this
      omega
    · subst h
      rw [hi] at hk; exact hk.symm
    · have := List.pairwise_iff_getElem.mp eo.ord k i h4 h2 h
      rw [h3, h5] at this
      omega
theorem ob__law_right : ∀ n ds T Q E, ds.length = 2 → G (n + 1) 17 ds T Q E → evSs (G n) ir__law_right (endsD Q E) (startD ns__law_right ds) T := by
  rintro n ds T Q E - ⟨hn, e, f, many, rfl, eo, fo, m60, q⟩
  rw [st__law_right]; unfold ir__law_right
  have le := eo.len
  have lf := fo.len
  (try dsimp only); rw [zCA]; simp only [zCC, eD, zC4, zCD, zBK, zAA, List.getElem?_cons_zero, Option.some.injEq, exists_eq_left']
  refine zFZ (fun k de T' => T' = T ∧ ∃ w2 w3 w4 w5 w6 w7, de = [some (eD e), some (eD f), w2, w3, w4, w5, w6, w7]) ⟨rfl, _, _, _, _, _, _, rfl⟩ (fun _ _ _ _ _ => trivial) ?_ ?_
  · rintro k x de T' K hx ⟨rfl, w2, w3, w4, w5, w6, w7, rfl⟩ hK
    rw [List.getElem?_map, Option.map_eq_some_iff] at hx
    obtain ⟨b, hb, rfl⟩ := hx
    have bm := List.mem_of_getElem? hb
    have rb := eo.rg b bm
    have nb := eo.nm b bm
    refine ⟨_, rfl, ?_⟩
    (try dsimp only); rw [zCA]; simp only [zC9, List.set_cons_succ, List.set_cons_zero, zC4, zCD, zBM, exists_and_left, zAK, zCK, zA8, zAA, List.getElem?_cons_succ, List.getElem?_cons_zero, Option.some.injEq, exists_eq_left', zCQ, D.int.injEq]
    refine ⟨⟨by omega, by omega, by omega, by omega⟩, ?_⟩
    refine zFZ (fun i de T2 => T2 = T' ∧ ∃ w5 w6 w7, de = [some (eD e), some (eD f), some (.str b.1), some (.int b.2.1), some (.int b.2.2), w5, w6, w7]) ⟨rfl, _, _, _, rfl⟩ (fun _ _ _ _ _ => trivial) ?_ ?_
    · rintro i x de T2 K2 hx ⟨rfl, w5, w6, w7, rfl⟩ hK2
      rw [List.getElem?_map, Option.map_eq_some_iff] at hx
      obtain ⟨i', hi, rfl⟩ := hx
      obtain ⟨h5, h6⟩ := List.getElem?_eq_some_iff.mp hi
      rw [List.length_range] at h5
      rw [List.getElem_range] at h6
      subst h6
      refine ⟨_, zCE, ?_⟩
      have j0 : b.2.1 + (i : Int) - b.2.1 = i := by omega
      have pl : PlP e (.tup [.str b.1, .int (b.2.1 + (i : Int) - b.2.1)]) (b.2.1 + i) := ⟨b, bm, _, rfl, by omega, by omega, by omega⟩
      have tm : tmD (.tup [.str b.1, .int (b.2.1 + (i : Int) - b.2.1)]) := by
        simp only [tmD, tmDs]
        exact ⟨⟨⟨nb.1, by have := nb.2.1; omega⟩, trivial, trivial⟩, by simp⟩
      have sx : ∀ {z : Str} {j : Int}, nmOk z → j.natAbs < 1000 → sxD (.tup [.str z, .int j]) ∧ dpD (.tup [.str z, .int j]) ≤ 64 ∧ sxB (.tup [.str z, .int j]) ≤ 16777216 := fun {z j} h1 h2 => by
        have := h1.2.1
        refine ⟨by simp only [sxD, sxDs]; exact ⟨h1.1, Nat.lt_of_lt_of_le h2 (by decide), trivial⟩, by simp [dpD, dpDs], by simp only [sxB, sxBs]; omega⟩
      have own : placeD e (b.2.1 + i) = .tup [.str b.1, .int (b.2.1 + (i : Int) - b.2.1)] := by
        unfold placeD
        rw [find_own eo bm (by omega) (by omega)]
      /- both ways -/
      have both : ∀ w6 d, d = placeD f (b.2.1 + i) → (sxD d ∧ dpD d ≤ 64 ∧ sxB d ≤ 16777216) → evSs (G n) [.ite (.tnot (.tv (.call 14 [(.call 6 [(.var 0), (.var 1), (.tup [(.var 2), (.bin .sub false (.var 5) (.var 3))])]), (.var 7)]))) [.ret (.kB false)] [],
          .ite (.tnot (.tv (.call 14 [(.call 6 [(.var 0), (.var 0), (.tup [(.var 2), (.bin .sub false (.var 5) (.var 3))])]), (.tup [(.var 2), (.bin .sub false (.var 5) (.var 3))])]))) [.ret (.kB false)] []]
          { nx := K2, rt := RetD Q, ex := (endsD Q E).ex } [some (eD e), some (eD f), some (.str b.1), some (.int b.2.1), some (.int b.2.2), some (.int (b.2.1 + i)), w6, some d] T2 := by
        intro w6 d hd hs
        (try dsimp only); rw [zCA]; simp only [zC3, zC9, zCD, zB6, zB9, zB2, zBF, zBE, zAA, List.getElem?_cons_succ, List.getElem?_cons_zero, Option.some.injEq, exists_eq_left', zAD, zAK, zCL]
        refine ⟨by omega, e, f, many, _, rfl, eo, lf, tm, .inl ⟨_, pl, ?_⟩⟩
        rw [← hd]
        (try simp only [])
        refine ⟨by omega, d, rfl, hs.1, hs.2.1, hs.2.2, ?_⟩
        (try simp only [zFD, Option.some.injEq, exists_eq_left', Bool.not_true, Bool.false_eq_true, if_false])
        (try dsimp only); rw [zCA]; simp only [zC9, zC3, zCD, zB6, zB9, zB2, zBF, zBE, zAD, zAK, zAA, List.getElem?_cons_succ, List.getElem?_cons_zero, Option.some.injEq, exists_eq_left', zCL]
        refine ⟨by omega, e, e, many, _, rfl, eo, le, tm, .inl ⟨_, pl, ?_⟩⟩
        rw [own]
        have ss := sx (z := b.1) (j := b.2.1 + (i : Int) - b.2.1) nb (by omega)
        (try simp only [])
        refine ⟨by omega, _, rfl, ss.1, ss.2.1, ss.2.2, ?_⟩
        (try simp only [zFD, Option.some.injEq, exists_eq_left', Bool.not_true, Bool.false_eq_true, if_false])
        exact hK2 _ _ ⟨rfl, _, _, _, rfl⟩
      (try dsimp only); rw [zCA]; simp only [List.set_cons_succ, List.set_cons_zero, zBY, zCD, zB2, zBF, zBE, zAA, List.getElem?_cons_succ, List.getElem?_cons_zero, Option.some.injEq, exists_eq_left']
      refine ⟨by omega, f, _, rfl, lf, ?_⟩
      (try simp only [])
      (try dsimp only); rw [zCA]; simp only [zBY, List.set_cons_succ, List.set_cons_zero, zCD, zA6]
      cases hf : f.find? (hasB (b.2.1 + (i : Int))) with
      | none =>
        (try dsimp only); rw [zCA]; simp only [zC3, zC9, zCD, zBB, zA6, zDJ, D.bl.injEq, exists_eq_left', zAA, List.getElem?_cons_succ, List.getElem?_cons_zero, Option.some.injEq, nonB, Option.isNone_none, Bool.not_true, Bool.false_eq_true, if_false]
        refine both _ _ (by unfold placeD; rw [hf]) ⟨trivial, by simp [dpD], by simp [sxB]⟩
      | some c =>
        have rc := fo.rg c (List.mem_of_find?_eq_some hf)
        have hc := List.find?_some hf
        unfold hasB at hc
        rw [decide_eq_true_eq] at hc
        have ec : (((b.2.1 + (i : Int) - c.2.1).toNat : Nat) : Int) = b.2.1 + i - c.2.1 := by omega
        (try dsimp only); rw [zCA]; simp only [optB, bD, zC3, zC9, zCD, zBB, zA6, zDJ, isNonD, D.bl.injEq, exists_eq_left', zAA, List.getElem?_cons_succ, List.getElem?_cons_zero, Option.some.injEq, Bool.not_false, if_true]
        (try dsimp only); rw [zCA]; simp only [zC9, zBY, List.set_cons_succ, List.set_cons_zero, zCD, zAD, zBF, zBE, zB0, exists_and_left, zAA, List.getElem?_cons_succ, List.getElem?_cons_zero, Option.some.injEq, exists_eq_left', D.int.injEq, zAS, zA8, zDS, zFS, zFR]
        refine ⟨by omega, ?_⟩
        rw [ec]
        refine both _ _ (by unfold placeD; rw [hf]) (sx (z := c.1) (j := b.2.1 + (i : Int) - c.2.1) (fo.nm c (List.mem_of_find?_eq_some hf)) (by omega))
    · rintro de T2 ⟨rfl, w5, w6, w7, rfl⟩
      exact hK _ _ ⟨rfl, _, _, _, _, _, _, rfl⟩
  · rintro de T' ⟨rfl, w2, w3, w4, w5, w6, w7, rfl⟩
    (try dsimp only); rw [zCA]; simp only [zC9, zCB, zCC, zBW, zCD, zA7]
    exact .now q
theorem ob__law_none : ∀ n ds T Q E, ds.length = 3 → G (n + 1) 16 ds T Q E → evSs (G n) ir__law_none (endsD Q E) (startD ns__law_none ds) T := by
  rintro n ds T Q E - ⟨hn, T0, p, a, b, c, many, e, f, rfl, rfl, ep, hc, m60, eo, fo, q⟩
  rw [st__law_none]; unfold ir__law_none
  unfold cTop at hc
  have le := eo.len
  have lf := fo.len
  let Ok : D → Prop := fun x => tmD x ∧ ∀ p, ¬ PlP e x p
  have shape : ∀ {x : D}, tmD x → (∀ z j, x ≠ .tup [.str z, .int j]) → Ok x := fun tm h => ⟨tm, fun p ⟨b, _, j, e1, _⟩ => h _ _ e1⟩
  have label : ∀ {z : Str} {j : D}, tmD (.str z) → tmD j → (∀ b ∈ e, b.1 ≠ z) → Ok (.tup [.str z, j]) := fun {z j} t1 t2 h => by
    refine ⟨by simp only [tmD, tmDs] at t1 ⊢; exact ⟨⟨t1, t2, trivial⟩, by simp⟩, fun p ⟨b, hb, j, e1, _⟩ => h b hb ?_⟩
    simp only [D.tup.injEq, List.cons.injEq, D.str.injEq] at e1
    exact e1.1.symm
  have nlabel : ∀ {z : Str} {j : D}, tmD (.str z) → tmD j → ¬ nmOk z → Ok (.tup [.str z, j]) := fun t1 t2 h => label t1 t2 fun b hb z => h (z ▸ eo.nm b hb)
  have ts : ∀ z : Str, (z.cps.toList.all fun c => decide (c < 0x110000)) = true → z.length ≤ 9 → tmD (.str z) := fun z h1 h2 => by unfold tmD; exact ⟨zGV h1, by omega⟩
  have i0 : tmD (.int 0) := trivial
  (try dsimp only); rw [zCA]; simp only [zCC, eD, zBY, List.set_cons_succ, List.set_cons_zero, zCD, zB5, List.map_cons, List.map_nil, zGC, zGB, zCJ, zBK, zAA, List.getElem?_cons_succ, List.getElem?_cons_zero, Option.some.injEq, exists_eq_left']
  refine zHE (as := e) bD (fun _ => true) (fun x => .str x.1) trivial (by omega) (fun x hx => ⟨_, zCE, fun K hK _ => ?_⟩) (fun x hx hp de1 hd K hK => ?_) ?_
  · (try simp only [List.set_cons_succ, List.set_cons_zero, zBI])
    exact hK
  · rw [zCE] at hd; cases hd
    (try simp only [bD, List.set_cons_succ, List.set_cons_zero, zAS, zA8, zAA, List.getElem?_cons_succ, List.getElem?_cons_zero, Option.some.injEq, exists_eq_left', zDS, zFR])
    exact hK
  have e0 : e.filter (fun _ => true) = e := by simp
  rw [e0]
  (try simp only [zA0, zA1, zA2, zA3, zA4, zA5, zA6, zA7, zA8, zA9, zAA, zAB, zAC, zAD, zAE, zAF, zAG, zAH, zAI, zAJ, zAK, zAL, zAM, zAN, zAO, zAP, zAQ, zAR, zAS, zAT, zAU, zAV, zAW, zAX, zAY, zAZ, zB0, zB1, zB2, zB3, zB4, zB5, zB6, zB7, zB8, zB9, zBA, zBB, zBC, zBD, zBE, zBF, zBG, zBH, zBI, zBJ, zBK, zBL, zBM, zBN, zBO, zBP, zBQ, zBR, zBS, zBT, zBU, zBV, zBW, zBX, zBY, zBZ, zC0, zC1, zC2, zC3, zC4, zC5, zC6, zC7, zC8, zC9, zCB, zCC, zCD, zCE, zCF, zCG, zCH, zCI, zCJ, zCK, zCL, zCM, zCN, zCO, zCP, zCQ, zCR, zCS, zCT, zCU, zCV, zCW, zCX, zCY, zCZ, zD0, zD1, zD2, zD3, zD4, zD5, zD6, zD7, zD8, zD9, zDA, zDB, zDC, zDD, zDE, zDF, zDG, zDH, zDI, zDJ, zDK, zDL, zDM, zDN, zDO, zDS, zDT, zDU, zDV, zDW, zDX, zDY, zDZ, zE0, zE1, zE3, zE4, zE5, zE6, zE7, zE8, zE9, zEA, zEB, zEC, zED, zEE, zEF, zEG, zEH, zEI, zEK, zEL, zEM, zEN, zEO, zEP, zEQ, zER, zES, zET, zEU, zEV, zEW, zEX, zEY, zEZ, zF0, zF1, zF2, zF3, zF4, zF5, zF6, zF8, zF9, zFA, zFB, zFC, zFD, zFE, zFF, zFG, zFH, zFJ, zFK, zFL, zFM, zFN, zFO, zFP, zFR, zFS, zFT, zFU, zFV, zFW, zGA, zGB, zGC, zH4, zH5, zEY, zI6, zI7, zI8, zI9, zIA, zIJ, zIL, zIM, zIP, zIX, zIY, eq_self, List.map_cons, List.map_nil, List.set_cons_zero, List.set_cons_succ, List.getElem?_cons_zero, List.getElem?_cons_succ, Option.some.injEq, exists_eq_left', exists_eq_left, exists_eq, true_and, and_true, decide_eq_true_eq, Bool.not_eq_true, Bool.false_eq_true, if_true, if_false, ite_true, ite_false, D.int.injEq, D.str.injEq, D.bl.injEq, D.ref.injEq, exists_and_left, bne_iff_ne, ne_eq, Bool.not_true, Bool.not_false, decide_true, decide_false, Bool.and_true, Bool.and_false, Bool.or_false, Bool.or_true, reduceCtorEq])
  have em : e.map (fun x => D.str x.1) = (e.map (·.1)).map .str := by rw [List.map_map]; rfl
  (try dsimp only); rw [zCA]; simp only [zCC, zBY, List.set_cons_succ, List.set_cons_zero, zCD, zAK, zCK, zAE, zCJ, zBF, zBE, zAD, zA8, zAF, zA9, zA6, zB5, List.map_cons, List.map_nil, zGC, zGB, zCT, zBK, zAA, List.getElem?_cons_succ, List.getElem?_cons_zero, Option.some.injEq, exists_eq_left']
  have sq : sqDs (e.map fun x => D.str x.1) := by
    rw [em]; exact sqDs_strs fun z hz => by
      obtain ⟨b, hb, rfl⟩ := List.mem_map.mp hz
      exact (eo.nm b hb).1
  refine zHE (as := f) bD (fun x => !decide (x.1 ∈ e.map (·.1))) (fun x => .tup [.str x.1, .int 0]) trivial (by omega) (fun x hx => ⟨_, zCE, fun K hK _ => ?_⟩) (fun x hx hp de1 hd K hK => ?_) ?_
  · (try simp only [bD, List.set_cons_succ, List.set_cons_zero, zBJ, zBB, zDL, D.bl.injEq, exists_eq_left', zAA, List.getElem?_cons_succ, List.getElem?_cons_zero, Option.some.injEq, zAS, zA8, zDS, zFR])
    refine (dIn_sq (x := .str x.1) (by unfold sqD; exact (fo.nm x hx).1) sq (by simp [dpD]) (by rw [em, zGZ]; decide) (fun hm => ?_) fun hm => ?_).1
    · have : x.1 ∈ e.map (·.1) := by obtain ⟨z, hz, g⟩ := List.mem_map.mp hm; rw [← D.str.inj g]; exact List.mem_map_of_mem hz
      rw [decide_eq_true this] at hK
      exact hK
    · have : x.1 ∉ e.map (·.1) := fun g => hm (by obtain ⟨z, hz, g⟩ := List.mem_map.mp g; rw [← g]; exact List.mem_map_of_mem hz)
      rw [decide_eq_false this] at hK
      exact hK
  · rw [zCE] at hd; cases hd
    (try simp only [bD, List.set_cons_succ, List.set_cons_zero, zAD, zBF, zBE, zA8, zAS, zAA, List.getElem?_cons_succ, List.getElem?_cons_zero, Option.some.injEq, exists_eq_left', zDS, zFR])
    exact hK
  have hg : ∀ g ∈ f.filter (fun x => !decide (x.1 ∈ e.map (·.1))), g ∈ f ∧ g.1 ∉ e.map (·.1) := fun g hg => by
    have := List.mem_filter.mp hg
    exact ⟨this.1, by simpa using this.2⟩
  have lg := List.length_filter_le (fun x : Bar => !decide (x.1 ∈ e.map (·.1))) f
  generalize f.filter (fun x => !decide (x.1 ∈ e.map (·.1))) = gs at hg lg
  (try simp only [zA0, zA1, zA2, zA3, zA4, zA5, zA6, zA7, zA8, zA9, zAA, zAB, zAC, zAD, zAE, zAF, zAG, zAH, zAI, zAJ, zAK, zAL, zAM, zAN, zAO, zAP, zAQ, zAR, zAS, zAT, zAU, zAV, zAW, zAX, zAY, zAZ, zB0, zB1, zB2, zB3, zB4, zB5, zB6, zB7, zB8, zB9, zBA, zBB, zBC, zBD, zBE, zBF, zBG, zBH, zBI, zBJ, zBK, zBL, zBM, zBN, zBO, zBP, zBQ, zBR, zBS, zBT, zBU, zBV, zBW, zBX, zBY, zBZ, zC0, zC1, zC2, zC3, zC4, zC5, zC6, zC7, zC8, zC9, zCB, zCC, zCD, zCE, zCF, zCG, zCH, zCI, zCJ, zCK, zCL, zCM, zCN, zCO, zCP, zCQ, zCR, zCS, zCT, zCU, zCV, zCW, zCX, zCY, zCZ, zD0, zD1, zD2, zD3, zD4, zD5, zD6, zD7, zD8, zD9, zDA, zDB, zDC, zDD, zDE, zDF, zDG, zDH, zDI, zDJ, zDK, zDL, zDM, zDN, zDO, zDS, zDT, zDU, zDV, zDW, zDX, zDY, zDZ, zE0, zE1, zE3, zE4, zE5, zE6, zE7, zE8, zE9, zEA, zEB, zEC, zED, zEE, zEF, zEG, zEH, zEI, zEK, zEL, zEM, zEN, zEO, zEP, zEQ, zER, zES, zET, zEU, zEV, zEW, zEX, zEY, zEZ, zF0, zF1, zF2, zF3, zF4, zF5, zF6, zF8, zF9, zFA, zFB, zFC, zFD, zFE, zFF, zFG, zFH, zFJ, zFK, zFL, zFM, zFN, zFO, zFP, zFR, zFS, zFT, zFU, zFV, zFW, zGA, zGB, zGC, zH4, zH5, zEY, zI6, zI7, zI8, zI9, zIA, zIJ, zIL, zIM, zIP, zIX, zIY, eq_self, List.map_cons, List.map_nil, List.set_cons_zero, List.set_cons_succ, List.getElem?_cons_zero, List.getElem?_cons_succ, Option.some.injEq, exists_eq_left', exists_eq_left, exists_eq, true_and, and_true, decide_eq_true_eq, Bool.not_eq_true, Bool.false_eq_true, if_true, if_false, ite_true, ite_false, D.int.injEq, D.str.injEq, D.bl.injEq, D.ref.injEq, exists_and_left, bne_iff_ne, ne_eq, Bool.not_true, Bool.not_false, decide_true, decide_false, Bool.and_true, Bool.and_false, Bool.or_false, Bool.or_true, reduceCtorEq])
  refine ⟨zGK (by simp only [List.length_map, List.length_cons, List.length_nil]; omega), ?_⟩
  (try dsimp only); rw [zCA]; simp only [zCC, zBY, List.set_cons_succ, List.set_cons_zero, zCD, zAK, zCK, zAE, zCJ, zBF, zBE, zAD, zA8, zA9, zAF, zA7, zA6, zAA, List.getElem?_cons_succ, List.getElem?_cons_zero, Option.some.injEq, exists_eq_left', zCT]
  refine ⟨zGK (by simp only [List.length_append, List.length_map, List.length_cons, List.length_nil]; omega), ?_⟩
  have xg : ∀ d ∈ (gs.map (fun x => D.tup [.str x.1, .int 0]) ++ [D.tup [.str "A", .int 0], .tup [.str "", .int 0], .tup [.non, .int 0], .tup [.lst [.str "a"], .int 0], .tup [.emp, .int 0]] ++ [D.non, .int 7, .bl true, .str "a", .tup [], .lst [], .emp, .tup [.str "abcdefghi", .int 0]]), Ok d := fun d hd => by
    have ta := ts "a" (by decide) (by decide)
    rcases List.mem_append.mp hd with hd | hd
    · rcases List.mem_append.mp hd with hd | hd
      · obtain ⟨z, hz, rfl⟩ := List.mem_map.mp hd
        obtain ⟨h1, h2⟩ := hg z hz
        exact label (nm_tm (fo.nm z h1)) i0 fun b hb e => h2 (by rw [← e]; exact List.mem_map_of_mem hb)
      · simp only [List.mem_cons, List.not_mem_nil, or_false] at hd
        rcases hd with rfl | rfl | rfl | rfl | rfl
        · exact nlabel (ts "A" (by decide) (by decide)) i0 fun h => absurd (h.2.2.2 65 (by decide)) (by decide)
        · exact nlabel (ts "" (by decide) (by decide)) i0 fun h => absurd h.2.2.1 (by decide)
        · exact shape (by simp [tmD, tmDs]) (by simp)
        · exact shape (by simp only [tmD, tmDs]; exact ⟨⟨⟨⟨ta, trivial⟩, by simp⟩, trivial, trivial⟩, by simp⟩) (by simp)
        · exact shape (by simp [tmD, tmDs]) (by simp)
    · simp only [List.mem_cons, List.not_mem_nil, or_false] at hd
      rcases hd with rfl | rfl | rfl | rfl | rfl | rfl | rfl | rfl
      · exact shape trivial nofun
      · exact shape trivial nofun
      · exact shape trivial nofun
      · exact shape ta nofun
      · exact shape (by simp [tmD, tmDs]) (by simp)
      · exact shape (by simp [tmD, tmDs]) (by simp)
      · exact shape trivial nofun
      · exact nlabel (ts "abcdefghi" (by decide) (by decide)) i0 fun h => absurd h.2.1 (by decide)
  have xl : (gs.map (fun x => D.tup [.str x.1, .int 0]) ++ [D.tup [.str "A", .int 0], .tup [.str "", .int 0], .tup [.non, .int 0], .tup [.lst [.str "a"], .int 0], .tup [.emp, .int 0]] ++ [D.non, .int 7, .bl true, .str "a", .tup [], .lst [], .emp, .tup [.str "abcdefghi", .int 0]]).length = gs.length + 13 := by simp
  generalize (gs.map (fun x => D.tup [.str x.1, .int 0]) ++ [D.tup [.str "A", .int 0], .tup [.str "", .int 0], .tup [.non, .int 0], .tup [.lst [.str "a"], .int 0], .tup [.emp, .int 0]] ++ [D.non, .int 7, .bl true, .str "a", .tup [], .lst [], .emp, .tup [.str "abcdefghi", .int 0]]) = xs at xg xl
  (try dsimp only); rw [zCA]; simp only [zCC, zC3, zC9, zCD, zBB, zDE, D.bl.injEq, exists_eq_left', zAD, zBE, zAA, List.getElem?_cons_succ, List.getElem?_cons_zero, Option.some.injEq]
  refine zI9 ?_
  rw [List.isEmpty_map]
  cases he : e.isEmpty with
  | true =>
    (try simp only [if_true])
    (try dsimp only); rw [zCA]; simp only [zC9, zBW, zCD, zAS, zB2, zBF, zBE, zAW, zE3, zAA, List.getElem?_cons_succ, List.getElem?_cons_zero, Option.some.injEq, exists_eq_left', zE5]
    refine ctake (by omega) ep (by omega) (by omega) (by omega) fun r1 a1 c1 r10 r11 ep g1 g2 => ?_
    (try simp only [zDT])
    obtain ⟨d, dm, da⟩ : ∃ d, d ∈ xs ∧ atI xs r1 = some d := zFY r10 (by omega)
    exact ⟨_, da, .now (q d a1 c1 (xg d dm).1 (xg d dm).2 ep (by omega) (by omega))⟩
  | false =>
    (try simp only [Bool.false_eq_true, if_false])
    have le1 : 1 ≤ e.length := by cases e with
      | nil => cases he
      | cons a b => simp
    (try dsimp only); rw [zCA]; simp only [zCC, zC0, zCD, zAS, zB2, zBF, zBE, zAW, zE3, zAA, List.getElem?_cons_succ, List.getElem?_cons_zero, Option.some.injEq, exists_eq_left', zE4]
    rw [List.length_map]
    refine ctake (by omega) ep (by omega) (by omega) (by omega) fun r1 a2 c2 r10 r11 ep g3 g4 => ?_
    obtain ⟨d, dm, da⟩ : ∃ d, d ∈ e.map bD ∧ atI (e.map bD) r1 = some d := zFY r10 (by rw [List.length_map]; omega)
    obtain ⟨z, hz, rfl⟩ := List.mem_map.mp dm
    have rz := eo.rg z hz
    have nz := eo.nm z hz
    have tz := nm_tm nz
    (try simp only [zDS, da, bD, Option.some.injEq, exists_eq_left', zCF, zCH, List.set_cons_succ, List.set_cons_zero, zCG])
    (try dsimp only); rw [zCA]; simp only [zCC, zBY, List.set_cons_succ, List.set_cons_zero, zCD, zAE, zCJ, zBF, zBE, zAK, zCK, zA8, zAA, List.getElem?_cons_succ, List.getElem?_cons_zero, Option.some.injEq, exists_eq_left', zCQ, zCP, zAF, zAD, zA9, zA6, zA7, zAL, zD3, zCL]
    refine ⟨⟨by decide, by decide, by decide⟩, ?_⟩
    have tz2 : tmD (.tup [.str z.1, .int 0]) := by simp only [tmD, tmDs] at tz ⊢; exact ⟨⟨tz, trivial, trivial⟩, by simp⟩
    have odd : ∀ d ∈ [D.int (z.2.2 - z.2.1 + 1), .int (-1), .bl true, .bl false, .non, .str "0", .tup [.int 0], .lst [.int 0], .emp, .int (10 ^ (59 : Int).toNat), .int (z.2.2 + 60)], Ok (.tup [.str z.1, d]) := fun d hd => by
      have num : ∀ j : Int, (j < 0 ∨ z.2.2 - z.2.1 < j) → Ok (.tup [.str z.1, .int j]) := fun j hj => by
        refine ⟨by simp only [tmD, tmDs] at tz ⊢; exact ⟨⟨tz, trivial, trivial⟩, by simp⟩, fun p ⟨b, hb, i, e1, i0, i1, _⟩ => ?_⟩
        simp only [D.tup.injEq, List.cons.injEq, D.str.injEq, D.int.injEq, and_true] at e1
        obtain ⟨e1, rfl⟩ := e1
        obtain ⟨m, hm⟩ := List.getElem?_of_mem hb
        obtain ⟨k, hk⟩ := List.getElem?_of_mem hz
        have := lab_inj eo hm hk e1.symm
        subst this
        rw [hm] at hk; cases hk
        omega
      have sh : ∀ {d : D}, tmD d → (∀ j, d ≠ .int j) → Ok (.tup [.str z.1, d]) := fun {d} td h => by
        refine shape (by simp only [tmD, tmDs] at tz ⊢; exact ⟨⟨tz, td, trivial⟩, by simp⟩) fun z' j e1 => ?_
        simp only [D.tup.injEq, List.cons.injEq, and_true] at e1
        exact h j e1.2
      simp only [List.mem_cons, List.not_mem_nil, or_false] at hd
      rcases hd with rfl | rfl | rfl | rfl | rfl | rfl | rfl | rfl | rfl | rfl | rfl
      · exact num _ (.inr (by omega))
      · exact num _ (.inl (by decide))
      · exact sh trivial nofun
      · exact sh trivial nofun
      · exact sh trivial nofun
      · exact sh (ts "0" (by decide) (by decide)) nofun
      · exact sh (by simp [tmD, tmDs]) nofun
      · exact sh (by simp [tmD, tmDs]) nofun
      · exact sh trivial nofun
      · refine num _ (.inr ?_)
        have : (1000000 : Int) < 10 ^ (59 : Int).toNat := by decide
        omega
      · exact num _ (.inr (by omega))
    generalize hod : [D.int (z.2.2 - z.2.1 + 1), .int (-1), .bl true, .bl false, .non, .str "0", .tup [.int 0], .lst [.int 0], .emp, .int (10 ^ (59 : Int).toNat), .int (z.2.2 + 60)] = od at odd
    have ol : od.length = 11 := by rw [← hod]; rfl
    (try dsimp only); rw [zCA]; simp only [zCC, zBY, List.set_cons_succ, List.set_cons_zero, zCD, zAE, zCJ, zBF, zBE, zAD, zA8, zAA, List.getElem?_cons_succ, List.getElem?_cons_zero, Option.some.injEq, exists_eq_left', zAS, zB2]
    refine ctake (by omega) ep (by omega) (by omega) (by omega) fun r2 a3 c3 r20 r21 ep g5 g6 => ?_
    obtain ⟨x, xm, xa⟩ : ∃ d, d ∈ od ∧ atI od r2 = some d := zFY r20 (by omega)
    have ox := odd x xm
    (try simp only [zDT, xa, Option.some.injEq, exists_eq_left'])
    have near : ∀ d ∈ [D.tup [.str z.1, x], .lst [.str z.1, .int 0], .tup [.str z.1], .tup [.str z.1, .int 0, .int 0], .tup [.int 0, .str z.1], .str z.1, .tup [.tup [.str z.1, .int 0]]], Ok d := fun d hd => by
      simp only [List.mem_cons, List.not_mem_nil, or_false] at hd
      have tz3 := tz
      simp only [tmD] at tz3
      rcases hd with rfl | rfl | rfl | rfl | rfl | rfl | rfl
      · exact ox
      · exact shape (by simp only [tmD, tmDs]; exact ⟨⟨tz3, trivial, trivial⟩, by simp⟩) (by simp)
      · exact shape (by simp only [tmD, tmDs]; exact ⟨⟨tz3, trivial⟩, by simp⟩) (by simp)
      · exact shape (by simp only [tmD, tmDs]; exact ⟨⟨tz3, trivial, trivial, trivial⟩, by simp⟩) (by simp)
      · exact shape (by simp only [tmD, tmDs]; exact ⟨⟨trivial, tz3, trivial⟩, by simp⟩) (by simp)
      · exact shape tz nofun
      · exact shape (by simp only [tmD, tmDs]; exact ⟨⟨⟨⟨tz3, trivial, trivial⟩, by simp⟩, trivial⟩, by simp⟩) (by simp)
    have nl : [D.tup [.str z.1, x], .lst [.str z.1, .int 0], .tup [.str z.1], .tup [.str z.1, .int 0, .int 0], .tup [.int 0, .str z.1], .str z.1, .tup [.tup [.str z.1, .int 0]]].length = 7 := rfl
    have n1 : cutD [D.tup [.str z.1, x], .lst [.str z.1, .int 0], .tup [.str z.1], .tup [.str z.1, .int 0, .int 0], .tup [.int 0, .str z.1], .str z.1, .tup [.tup [.str z.1, .int 0]]] none (some 1) = [D.tup [.str z.1, x]] := rfl
    generalize [D.tup [.str z.1, x], .lst [.str z.1, .int 0], .tup [.str z.1], .tup [.str z.1, .int 0, .int 0], .tup [.int 0, .str z.1], .str z.1, .tup [.tup [.str z.1, .int 0]]] = ys at near nl n1
    (try dsimp only); rw [zCA]; simp only [zC9, zCB, zCC, zBW, zCD, zAS, zB2, zBF, zBE, zAK, zCK, zA8, zAW, zE3, zAA, List.getElem?_cons_succ, List.getElem?_cons_zero, Option.some.injEq, exists_eq_left', zE5, zCQ, zCM, zAT, zBH, D.int.injEq, zBG, zES, zCJ, zCY, zCT]
    rw [n1]
    refine ⟨zGK (by omega), ?_⟩
    refine ⟨by decide, by decide, zGK (by simp), zGK (by simp; omega), ?_⟩
    refine ctake (by omega) ep (by omega) (by omega) (by omega) fun r3 a4 c4 r30 r31 ep g7 g8 => ?_
    have tl : (xs ++ ys ++ (List.replicate (9 : Int).toNat [D.tup [.str z.1, x]]).flatten).length = gs.length + 13 + 7 + 9 := by
      rw [List.length_append, List.length_append, xl, nl]; rfl
    have tg : ∀ d ∈ xs ++ ys ++ (List.replicate (9 : Int).toNat [D.tup [.str z.1, x]]).flatten, Ok d := fun d hd => by
      rcases List.mem_append.mp hd with hd | hd
      · rcases List.mem_append.mp hd with hd | hd
        · exact xg d hd
        · exact near d hd
      · obtain ⟨l, hl, hd⟩ := List.mem_flatten.mp hd
        rw [List.eq_of_mem_replicate hl] at hd
        simp only [List.mem_cons, List.not_mem_nil, or_false] at hd
        rw [hd]; exact ox
    generalize xs ++ ys ++ (List.replicate (9 : Int).toNat [D.tup [.str z.1, x]]).flatten = ts at tl tg
    obtain ⟨d, dm, da⟩ : ∃ d, d ∈ ts ∧ atI ts r3 = some d := zFY r30 (by omega)
    (try simp only [zDT, da, Option.some.injEq, exists_eq_left'])
    exact .now (q d a4 c4 (tg d dm).1 (tg d dm).2 ep (by omega) (by omega))
theorem ob_law : ∀ n ds T Q E, ds.length = 1 → G (n + 1) 18 ds T Q E → evSs (G n) ir_law (endsD Q E) (startD ns_law ds) T := by
  rintro n ds T Q E - ⟨hn, ns, rfl, h63, q⟩
  rw [st_law]; unfold ir_law
  (try dsimp only); rw [zCA]; simp only [zCC, zC4, zCD, zBL, zA8, D.int.injEq, exists_eq_left']
  refine ⟨by decide, by decide, ?_⟩
  refine zFZ (fun i de T' => ∃ w1 w2 w3 w4 w5 w6 w7 w8, de = [some (.scr ns), w1, w2, w3, w4, w5, w6, w7, w8]) ⟨_, _, _, _, _, _, _, _, rfl⟩ (fun _ _ _ _ _ => trivial) ?_ ?_
  · rintro i x de T' K hx ⟨w1, w2, w3, w4, w5, w6, w7, w8, rfl⟩ hK
    obtain ⟨rfl, hi⟩ := range_at hx
    refine ⟨_, zCE, ?_⟩
    (try dsimp only); rw [zCA]; simp only [List.set_cons_succ, List.set_cons_zero, zBY, zCD, zB2, zBF, zBE, zAA, List.getElem?_cons_succ, List.getElem?_cons_zero, Option.some.injEq, exists_eq_left']
    refine ⟨by omega, ns, i, rfl, h63, by omega, by omega, fun p a b c ep hc hp => ?_⟩
    (try simp only [])
    (try dsimp only); rw [zCA]; simp only [zBY, List.set_cons_succ, List.set_cons_zero, zCD, zB2, zBF, zBE, zAA, List.getElem?_cons_succ, List.getElem?_cons_zero, Option.some.injEq, exists_eq_left']
    refine ⟨by omega, T', p, a, b, c, rfl, rfl, ep, by unfold cTop; omega, fun m a1 c1 m0 m1 ep h1 h2 => ?_⟩
    (try simp only [])
    (try dsimp only); rw [zCA]; simp only [zC0, zCD, zB2, zBF, zBE, zAA, List.getElem?_cons_succ, List.getElem?_cons_zero, Option.some.injEq, exists_eq_left']
    refine ⟨by omega, T', p, a1, b, c1, m, rfl, rfl, ep, by unfold cTop; omega, m0, m1, fun e f a2 c2 eo fo ep h3 h4 => ?_⟩
    (try simp only [zCF, zCH, List.set_cons_succ, List.set_cons_zero, zCG, Option.some.injEq, exists_eq_left'])
    obtain ⟨se1, se2, se3, se4, se5⟩ := eD_sh eo m1
    obtain ⟨sf1, sf2, sf3, -, -⟩ := eD_sh fo m1
    have ks : shD (.tup [eD e, eD f]) ∧ dpD (.tup [eD e, eD f]) ≤ 64 ∧ shB (.tup [eD e, eD f]) ≤ 16777216 := by
      simp only [shD, shDs, dpD, dpDs, shB, shBs]
      exact ⟨⟨se1, sf1, trivial⟩, by omega, by omega⟩
    (try dsimp only); rw [zCA]; simp only [zBY, List.set_cons_succ, List.set_cons_zero, zCD, zAW, zE9, zBF, zBE, zAD, zAA, List.getElem?_cons_succ, List.getElem?_cons_zero, Option.some.injEq, exists_eq_left']
    refine zHN ks.1 rfl ks.2.1 ks.2.2 ?_
    generalize hkp : (toPy (.tup [eD e, eD f])).shown = kp
    (try simp only [zA0, zA1, zA2, zA3, zA4, zA5, zA6, zA7, zA8, zA9, zAA, zAB, zAC, zAD, zAE, zAF, zAG, zAH, zAI, zAJ, zAK, zAL, zAM, zAN, zAO, zAP, zAQ, zAR, zAS, zAT, zAU, zAV, zAW, zAX, zAY, zAZ, zB0, zB1, zB2, zB3, zB4, zB5, zB6, zB7, zB8, zB9, zBA, zBB, zBC, zBD, zBE, zBF, zBG, zBH, zBI, zBJ, zBK, zBL, zBM, zBN, zBO, zBP, zBQ, zBR, zBS, zBT, zBU, zBV, zBW, zBX, zBY, zBZ, zC0, zC1, zC2, zC3, zC4, zC5, zC6, zC7, zC8, zC9, zCB, zCC, zCD, zCE, zCF, zCG, zCH, zCI, zCJ, zCK, zCL, zCM, zCN, zCO, zCP, zCQ, zCR, zCS, zCT, zCU, zCV, zCW, zCX, zCY, zCZ, zD0, zD1, zD2, zD3, zD4, zD5, zD6, zD7, zD8, zD9, zDA, zDB, zDC, zDD, zDE, zDF, zDG, zDH, zDI, zDJ, zDK, zDL, zDM, zDN, zDO, zDS, zDT, zDU, zDV, zDW, zDX, zDY, zDZ, zE0, zE1, zE3, zE4, zE5, zE6, zE7, zE8, zE9, zEA, zEB, zEC, zED, zEE, zEF, zEG, zEH, zEI, zEK, zEL, zEM, zEN, zEO, zEP, zEQ, zER, zES, zET, zEU, zEV, zEW, zEX, zEY, zEZ, zF0, zF1, zF2, zF3, zF4, zF5, zF6, zF8, zF9, zFA, zFB, zFC, zFD, zFE, zFF, zFG, zFH, zFJ, zFK, zFL, zFM, zFN, zFO, zFP, zFR, zFS, zFT, zFU, zFV, zFW, zGA, zGB, zGC, zH4, zH5, zEY, zI6, zI7, zI8, zI9, zIA, zIJ, zIL, zIM, zIP, zIX, zIY, eq_self, List.map_cons, List.map_nil, List.set_cons_zero, List.set_cons_succ, List.getElem?_cons_zero, List.getElem?_cons_succ, Option.some.injEq, exists_eq_left', exists_eq_left, exists_eq, true_and, and_true, decide_eq_true_eq, Bool.not_eq_true, Bool.false_eq_true, if_true, if_false, ite_true, ite_false, D.int.injEq, D.str.injEq, D.bl.injEq, D.ref.injEq, exists_and_left, bne_iff_ne, ne_eq, Bool.not_true, Bool.not_false, decide_true, decide_false, Bool.and_true, Bool.and_false, Bool.or_false, Bool.or_true, reduceCtorEq])
    (try dsimp only); rw [zCA]; simp only [zC3, zC9, zCD, zB8, if_true, zB6, zB9, zB2, zBF, zBE, zAA, List.getElem?_cons_succ, List.getElem?_cons_zero, Option.some.injEq, exists_eq_left']
    refine ⟨by omega, e, f, m, rfl, eo, fo, m1, ?_⟩
    (try simp only [zFD, Option.some.injEq, exists_eq_left', Bool.not_true, Bool.false_eq_true, if_false])
    refine ⟨by omega, f, e, m, rfl, fo, eo, m1, ?_⟩
    (try simp only [zFD, Option.some.injEq, exists_eq_left', Bool.not_true, Bool.false_eq_true, if_false])
    (try dsimp only); rw [zCA]; simp only [zC4, zCD, zBL, zA8, D.int.injEq, exists_eq_left']
    refine ⟨by decide, by decide, ?_⟩
    refine zFZ (fun k de T2 => ∃ (T0 : DH) (a' c' : Int), T2 = updD T0 p (pe3 a' b c') ∧ Ep a' b c' ∧ c' ≤ c2 + 1000000 * k ∧ ∃ w7 w8, de = [some (.scr ns), some (.int i), some (.ref p), some (.int m), some (eD e), some (eD f), some (.str kp), w7, w8]) ⟨T', a2, c2, rfl, ep, by omega, _, _, rfl⟩ (fun _ _ _ _ _ => trivial) ?_ ?_
    · rintro k x de T2 K2 hx2 ⟨T0, a', c', rfl, ep, hc', w7, w8, rfl⟩ hK2
      obtain ⟨rfl, hk⟩ := range_at hx2
      refine ⟨_, zCE, ?_⟩
      (try dsimp only); rw [zCA]; simp only [List.set_cons_succ, List.set_cons_zero, zBY, zCD, zB2, zBF, zBE, zAA, List.getElem?_cons_succ, List.getElem?_cons_zero, Option.some.injEq, exists_eq_left']
      refine ⟨by omega, T0, p, a', b, c', m, e, f, rfl, rfl, ep, by unfold cTop; omega, m1, eo, fo, fun x a3 c3 tm no ep h5 h6 => ?_⟩
      (try simp only [])
      (try dsimp only); rw [zCA]; simp only [zC9, zC3, zCD, zBB, zDF, D.bl.injEq, exists_eq_left', zAD, zBF, zBE, zA6, zA9, zA0, zA2, List.getElem?_cons_succ, List.getElem?_cons_zero, Option.some.injEq, zA1]
      intro q hq
      refine ⟨by omega, q, e, f, m, x, rfl, updD_same, eo, fo.len, tm, no, ?_⟩
      (try simp only [])
      refine zG9 (x := .tup [.str "NoPlace", .non]) (by decide +kernel) (by decide) ?_
      (try simp only [Bool.not_true, Bool.false_eq_true, if_false])
      rw [zH1 (updD_none hq).1.symm]
      exact hK2 _ _ ⟨_, a3, c3, rfl, ep, by omega, _, _, rfl⟩
    · rintro de T2 ⟨T0, a', c', rfl, ep, hc', w7, w8, rfl⟩
      (try dsimp only); rw [zCA]; simp only [zC9, zC3, zCD, zB8, if_true, zBB, zDF, D.bl.injEq, exists_eq_left', zAA, List.getElem?_cons_succ, List.getElem?_cons_zero, Option.some.injEq, zAW, zE9, zBF, zBE, zAD, zB6, zB9, zB2]
      refine ⟨by omega, e, f, m, rfl, eo, fo, m1, ?_⟩
      (try simp only [zFD, Option.some.injEq, exists_eq_left', Bool.not_true, Bool.false_eq_true, if_false])
      refine zHN ks.1 rfl ks.2.1 ks.2.2 ?_
      rw [hkp]
      (try simp only [zDN, decide_true, Bool.not_true, Bool.false_eq_true, if_false])
      exact hK _ _ ⟨_, _, _, _, _, _, _, _, rfl⟩
  · rintro de T' ⟨w1, w2, w3, w4, w5, w6, w7, w8, rfl⟩
    (try dsimp only); rw [zCA]; simp only [zC9, zCB, zCC, zBW, zCD, zA7]
    exact .now (q _)

def top (i : Nat) : Stmt := PySem.Challenge.pw_signsback_k41_places_lead.main.body.getD i (.Pass ⟨0, 0, 0, 0⟩)
abbrev ss_is_whole : Stmt := top 2
theorem sc_is_whole : FnScope ns_is_whole ["thing"] (defScope ss_is_whole) := ⟨rfl, rfl, rfl, by decide +kernel, rfl, by decide +kernel, by decide +kernel⟩
theorem ck_is_whole : chkSs (tbV tb false false) ir_is_whole ns_is_whole (defScope ss_is_whole) (defBody ss_is_whole) = true := by decide +kernel
abbrev ss_is_from : Stmt := top 3
theorem sc_is_from : FnScope ns_is_from ["thing", "least", "most"] (defScope ss_is_from) := ⟨rfl, rfl, rfl, by decide +kernel, rfl, by decide +kernel, by decide +kernel⟩
theorem ck_is_from : chkSs (tbV tb false false) ir_is_from ns_is_from (defScope ss_is_from) (defBody ss_is_from) = true := by decide +kernel
abbrev ss_is_name : Stmt := top 4
theorem sc_is_name : FnScope ns_is_name ["thing"] (defScope ss_is_name) := ⟨rfl, rfl, rfl, by decide +kernel, rfl, by decide +kernel, by decide +kernel⟩
theorem ck_is_name : chkSs (tbV tb false false) ir_is_name ns_is_name (defScope ss_is_name) (defBody ss_is_name) = true := by decide +kernel
abbrev ss_numbered : Stmt := top 22
theorem sc_numbered : FnScope ns_numbered ["edition", "label"] (defScope ss_numbered) := ⟨rfl, rfl, rfl, by decide +kernel, rfl, by decide +kernel, by decide +kernel⟩
theorem ck_numbered : chkSs (tbV tb false false) ir_numbered ns_numbered (defScope ss_numbered) (defBody ss_numbered) = true := by decide +kernel
abbrev ss_bar_with : Stmt := top 23
theorem sc_bar_with : FnScope ns_bar_with ["edition", "piece"] (defScope ss_bar_with) := ⟨rfl, rfl, rfl, by decide +kernel, rfl, by decide +kernel, by decide +kernel⟩
theorem ck_bar_with : chkSs (tbV tb false false) ir_bar_with ns_bar_with (defScope ss_bar_with) (defBody ss_bar_with) = true := by decide +kernel
abbrev ss_piece_of : Stmt := top 25
theorem sc_piece_of : FnScope ns_piece_of ["edition", "place"] (defScope ss_piece_of) := ⟨rfl, rfl, rfl, by decide +kernel, rfl, by decide +kernel, by decide +kernel⟩
theorem ck_piece_of : chkSs (tbV tb false false) ir_piece_of ns_piece_of (defScope ss_piece_of) (defBody ss_piece_of) = true := by decide +kernel
abbrev ss_place_in : Stmt := top 26
theorem sc_place_in : FnScope ns_place_in ["one", "other", "place"] (defScope ss_place_in) := ⟨rfl, rfl, rfl, by decide +kernel, rfl, by decide +kernel, by decide +kernel⟩
theorem ck_place_in : chkSs (tbV tb false false) ir_place_in ns_place_in (defScope ss_place_in) (defBody ss_place_in) = true := by decide +kernel
abbrev ss__law_pen : Stmt := top 28
theorem sc__law_pen : FnScope ns__law_pen ["_law_script", "_law_k"] (defScope ss__law_pen) := ⟨rfl, rfl, rfl, by decide +kernel, rfl, by decide +kernel, by decide +kernel⟩
theorem ck__law_pen : chkSs (tbV tb false false) ir__law_pen ns__law_pen (defScope ss__law_pen) (defBody ss__law_pen) = true := by decide +kernel
abbrev ss__law_take : Stmt := top 29
theorem sc__law_take : FnScope ns__law_take ["_law_pen_here", "_law_many_here"] (defScope ss__law_take) := ⟨rfl, rfl, rfl, by decide +kernel, rfl, by decide +kernel, by decide +kernel⟩
theorem ck__law_take : chkSs (tbV tb false false) ir__law_take ns__law_take (defScope ss__law_take) (defBody ss__law_take) = true := by decide +kernel
abbrev ss__law_labels : Stmt := top 30
theorem sc__law_labels : FnScope ns__law_labels ["_law_pen_here", "_law_many_here"] (defScope ss__law_labels) := ⟨rfl, rfl, rfl, by decide +kernel, rfl, by decide +kernel, by decide +kernel⟩
theorem ck__law_labels : chkSs (tbV tb false false) ir__law_labels ns__law_labels (defScope ss__law_labels) (defBody ss__law_labels) = true := by decide +kernel
abbrev ss__law_edition : Stmt := top 31
theorem sc__law_edition : FnScope ns__law_edition ["_law_pen_here", "_law_many_here", "_law_labels_here"] (defScope ss__law_edition) := ⟨rfl, rfl, rfl, by decide +kernel, rfl, by decide +kernel, by decide +kernel⟩
theorem ck__law_edition : chkSs (tbV tb false false) ir__law_edition ns__law_edition (defScope ss__law_edition) (defBody ss__law_edition) = true := by decide +kernel
abbrev ss__law_many : Stmt := top 32
theorem sc__law_many : FnScope ns__law_many ["_law_pen_here"] (defScope ss__law_many) := ⟨rfl, rfl, rfl, by decide +kernel, rfl, by decide +kernel, by decide +kernel⟩
theorem ck__law_many : chkSs (tbV tb false false) ir__law_many ns__law_many (defScope ss__law_many) (defBody ss__law_many) = true := by decide +kernel
abbrev ss__law_two : Stmt := top 33
theorem sc__law_two : FnScope ns__law_two ["_law_pen_here", "_law_many_here"] (defScope ss__law_two) := ⟨rfl, rfl, rfl, by decide +kernel, rfl, by decide +kernel, by decide +kernel⟩
theorem ck__law_two : chkSs (tbV tb false false) ir__law_two ns__law_two (defScope ss__law_two) (defBody ss__law_two) = true := by decide +kernel
abbrev ss__law_bar : Stmt := top 34
theorem sc__law_bar : FnScope ns__law_bar ["_law_edition_here", "_law_piece"] (defScope ss__law_bar) := ⟨rfl, rfl, rfl, by decide +kernel, rfl, by decide +kernel, by decide +kernel⟩
theorem ck__law_bar : chkSs (tbV tb false false) ir__law_bar ns__law_bar (defScope ss__law_bar) (defBody ss__law_bar) = true := by decide +kernel
abbrev ss__law_same : Stmt := top 35
theorem sc__law_same : FnScope ns__law_same ["_law_found", "_law_due"] (defScope ss__law_same) := ⟨rfl, rfl, rfl, by decide +kernel, rfl, by decide +kernel, by decide +kernel⟩
theorem ck__law_same : chkSs (tbV tb false false) ir__law_same ns__law_same (defScope ss__law_same) (defBody ss__law_same) = true := by decide +kernel
abbrev ss__law_heard : Stmt := top 36
theorem sc__law_heard : FnScope ns__law_heard ["_law_ask"] (defScope ss__law_heard) := ⟨rfl, rfl, rfl, by decide +kernel, rfl, by decide +kernel, by decide +kernel⟩
theorem ck__law_heard : chkSs (tbV tb false true) ir__law_heard ns__law_heard (defScope ss__law_heard) (defBody ss__law_heard) = true := by decide +kernel
abbrev ss__law_none : Stmt := top 37
theorem sc__law_none : FnScope ns__law_none ["_law_pen_here", "_law_one", "_law_other"] (defScope ss__law_none) := ⟨rfl, rfl, rfl, by decide +kernel, rfl, by decide +kernel, by decide +kernel⟩
theorem ck__law_none : chkSs (tbV tb false false) ir__law_none ns__law_none (defScope ss__law_none) (defBody ss__law_none) = true := by decide +kernel
abbrev ss__law_right : Stmt := top 38
theorem sc__law_right : FnScope ns__law_right ["_law_one", "_law_other"] (defScope ss__law_right) := ⟨rfl, rfl, rfl, by decide +kernel, rfl, by decide +kernel, by decide +kernel⟩
theorem ck__law_right : chkSs (tbV tb false false) ir__law_right ns__law_right (defScope ss__law_right) (defBody ss__law_right) = true := by decide +kernel
abbrev ss_law : Stmt := top 39
theorem sc_law : FnScope ns_law ["_law_script"] (defScope ss_law) := ⟨rfl, rfl, rfl, by decide +kernel, rfl, by decide +kernel, by decide +kernel⟩
theorem ck_law : chkSs (tbV tb true false) ir_law ns_law (defScope ss_law) (defBody ss_law) = true := by decide +kernel
abbrev si_Crossed : Stmt := clsFn (top 8)
theorem sci_Crossed : FnScope ["self", "one", "other"] ["self", "one", "other"] (defScope si_Crossed) := ⟨rfl, rfl, rfl, by decide +kernel, rfl, by decide +kernel, by decide +kernel⟩
theorem cki_Crossed : iniB ["self", "one", "other"] (defScope si_Crossed) ["one", "other"] (defBody si_Crossed) = true := by decide +kernel
abbrev si_Parted : Stmt := clsFn (top 13)
theorem sci_Parted : FnScope ["self", "label"] ["self", "label"] (defScope si_Parted) := ⟨rfl, rfl, rfl, by decide +kernel, rfl, by decide +kernel, by decide +kernel⟩
theorem cki_Parted : iniB ["self", "label"] (defScope si_Parted) ["label"] (defBody si_Parted) = true := by decide +kernel
section
variable {P : Program} {w : World} {K : PySem.W.Frag} {mg : Str → Option Value} {base : Heap}
theorem all_mk {l : PySem.W.OpenLaw} {w : World} {K : PySem.W.Frag} {h : Heap} {mg : Str → Option Value} {fa f0 f1 f2 f3 f4 f5 f6 f7 f8 f9 f10 f11 f12 f13 f14 f15 f16 f17 f18 : Addr} (X : K.In h) (G1 : h.Ns mainGlobals mg) (hfa : mg "law" = some (.ref fa))
    {oc0 kV0 dc0 pm0 cd0 ct0 : Value} {od0 an0 : Option Addr} {sl0 : Array (Option Value)}
    (a0 : PySem.W.nsIn K mainGlobals "is_whole" = some (some (.ref f0))) (l0 : K.lookup f0 = some ⟨oc0, od0, .func (PySem.W.fnOf "is_whole" "is_whole" (defArgs ss_is_whole) (defBody ss_is_whole) (defScope ss_is_whole) .none kV0 dc0 pm0 an0 cd0 ct0), sl0⟩) (c0 : PySem.W.codeIn K cd0 "is_whole" = true) (k0 : PySem.W.keepIn K (.ref f0) = true)
    {oc1 kV1 dc1 pm1 cd1 ct1 : Value} {od1 an1 : Option Addr} {sl1 : Array (Option Value)}
    (a1 : PySem.W.nsIn K mainGlobals "is_from" = some (some (.ref f1))) (l1 : K.lookup f1 = some ⟨oc1, od1, .func (PySem.W.fnOf "is_from" "is_from" (defArgs ss_is_from) (defBody ss_is_from) (defScope ss_is_from) .none kV1 dc1 pm1 an1 cd1 ct1), sl1⟩) (c1 : PySem.W.codeIn K cd1 "is_from" = true) (k1 : PySem.W.keepIn K (.ref f1) = true)
    {oc2 kV2 dc2 pm2 cd2 ct2 : Value} {od2 an2 : Option Addr} {sl2 : Array (Option Value)}
    (a2 : PySem.W.nsIn K mainGlobals "is_name" = some (some (.ref f2))) (l2 : K.lookup f2 = some ⟨oc2, od2, .func (PySem.W.fnOf "is_name" "is_name" (defArgs ss_is_name) (defBody ss_is_name) (defScope ss_is_name) .none kV2 dc2 pm2 an2 cd2 ct2), sl2⟩) (c2 : PySem.W.codeIn K cd2 "is_name" = true) (k2 : PySem.W.keepIn K (.ref f2) = true)
    {oc3 kV3 dc3 pm3 cd3 ct3 : Value} {od3 an3 : Option Addr} {sl3 : Array (Option Value)}
    (a3 : PySem.W.nsIn K mainGlobals "numbered" = some (some (.ref f3))) (l3 : K.lookup f3 = some ⟨oc3, od3, .func (PySem.W.fnOf "numbered" "numbered" (defArgs ss_numbered) (defBody ss_numbered) (defScope ss_numbered) .none kV3 dc3 pm3 an3 cd3 ct3), sl3⟩) (c3 : PySem.W.codeIn K cd3 "numbered" = true) (k3 : PySem.W.keepIn K (.ref f3) = true)
    {oc4 kV4 dc4 pm4 cd4 ct4 : Value} {od4 an4 : Option Addr} {sl4 : Array (Option Value)}
    (a4 : PySem.W.nsIn K mainGlobals "bar_with" = some (some (.ref f4))) (l4 : K.lookup f4 = some ⟨oc4, od4, .func (PySem.W.fnOf "bar_with" "bar_with" (defArgs ss_bar_with) (defBody ss_bar_with) (defScope ss_bar_with) .none kV4 dc4 pm4 an4 cd4 ct4), sl4⟩) (c4 : PySem.W.codeIn K cd4 "bar_with" = true) (k4 : PySem.W.keepIn K (.ref f4) = true)
    {oc5 kV5 dc5 pm5 cd5 ct5 : Value} {od5 an5 : Option Addr} {sl5 : Array (Option Value)}
    (a5 : PySem.W.nsIn K mainGlobals "piece_of" = some (some (.ref f5))) (l5 : K.lookup f5 = some ⟨oc5, od5, .func (PySem.W.fnOf "piece_of" "piece_of" (defArgs ss_piece_of) (defBody ss_piece_of) (defScope ss_piece_of) .none kV5 dc5 pm5 an5 cd5 ct5), sl5⟩) (c5 : PySem.W.codeIn K cd5 "piece_of" = true) (k5 : PySem.W.keepIn K (.ref f5) = true)
    {oc6 kV6 dc6 pm6 cd6 ct6 : Value} {od6 an6 : Option Addr} {sl6 : Array (Option Value)}
    (a6 : PySem.W.nsIn K mainGlobals "place_in" = some (some (.ref f6))) (l6 : K.lookup f6 = some ⟨oc6, od6, .func (PySem.W.fnOf "place_in" "place_in" (defArgs ss_place_in) (defBody ss_place_in) (defScope ss_place_in) .none kV6 dc6 pm6 an6 cd6 ct6), sl6⟩) (c6 : PySem.W.codeIn K cd6 "place_in" = true) (k6 : PySem.W.keepIn K (.ref f6) = true)
    {oc7 kV7 dc7 pm7 cd7 ct7 : Value} {od7 an7 : Option Addr} {sl7 : Array (Option Value)}
    (a7 : PySem.W.nsIn K mainGlobals "_law_pen" = some (some (.ref f7))) (l7 : K.lookup f7 = some ⟨oc7, od7, .func (PySem.W.fnOf "_law_pen" "_law_pen" (defArgs ss__law_pen) (defBody ss__law_pen) (defScope ss__law_pen) .none kV7 dc7 pm7 an7 cd7 ct7), sl7⟩) (c7 : PySem.W.codeIn K cd7 "_law_pen" = true) (k7 : PySem.W.keepIn K (.ref f7) = true)
    {oc8 kV8 dc8 pm8 cd8 ct8 : Value} {od8 an8 : Option Addr} {sl8 : Array (Option Value)}
    (a8 : PySem.W.nsIn K mainGlobals "_law_take" = some (some (.ref f8))) (l8 : K.lookup f8 = some ⟨oc8, od8, .func (PySem.W.fnOf "_law_take" "_law_take" (defArgs ss__law_take) (defBody ss__law_take) (defScope ss__law_take) .none kV8 dc8 pm8 an8 cd8 ct8), sl8⟩) (c8 : PySem.W.codeIn K cd8 "_law_take" = true) (k8 : PySem.W.keepIn K (.ref f8) = true)
    {oc9 kV9 dc9 pm9 cd9 ct9 : Value} {od9 an9 : Option Addr} {sl9 : Array (Option Value)}
    (a9 : PySem.W.nsIn K mainGlobals "_law_labels" = some (some (.ref f9))) (l9 : K.lookup f9 = some ⟨oc9, od9, .func (PySem.W.fnOf "_law_labels" "_law_labels" (defArgs ss__law_labels) (defBody ss__law_labels) (defScope ss__law_labels) .none kV9 dc9 pm9 an9 cd9 ct9), sl9⟩) (c9 : PySem.W.codeIn K cd9 "_law_labels" = true) (k9 : PySem.W.keepIn K (.ref f9) = true)
    {oc10 kV10 dc10 pm10 cd10 ct10 : Value} {od10 an10 : Option Addr} {sl10 : Array (Option Value)}
    (a10 : PySem.W.nsIn K mainGlobals "_law_edition" = some (some (.ref f10))) (l10 : K.lookup f10 = some ⟨oc10, od10, .func (PySem.W.fnOf "_law_edition" "_law_edition" (defArgs ss__law_edition) (defBody ss__law_edition) (defScope ss__law_edition) .none kV10 dc10 pm10 an10 cd10 ct10), sl10⟩) (c10 : PySem.W.codeIn K cd10 "_law_edition" = true) (k10 : PySem.W.keepIn K (.ref f10) = true)
    {oc11 kV11 dc11 pm11 cd11 ct11 : Value} {od11 an11 : Option Addr} {sl11 : Array (Option Value)}
    (a11 : PySem.W.nsIn K mainGlobals "_law_many" = some (some (.ref f11))) (l11 : K.lookup f11 = some ⟨oc11, od11, .func (PySem.W.fnOf "_law_many" "_law_many" (defArgs ss__law_many) (defBody ss__law_many) (defScope ss__law_many) .none kV11 dc11 pm11 an11 cd11 ct11), sl11⟩) (c11 : PySem.W.codeIn K cd11 "_law_many" = true) (k11 : PySem.W.keepIn K (.ref f11) = true)
    {oc12 kV12 dc12 pm12 cd12 ct12 : Value} {od12 an12 : Option Addr} {sl12 : Array (Option Value)}
    (a12 : PySem.W.nsIn K mainGlobals "_law_two" = some (some (.ref f12))) (l12 : K.lookup f12 = some ⟨oc12, od12, .func (PySem.W.fnOf "_law_two" "_law_two" (defArgs ss__law_two) (defBody ss__law_two) (defScope ss__law_two) .none kV12 dc12 pm12 an12 cd12 ct12), sl12⟩) (c12 : PySem.W.codeIn K cd12 "_law_two" = true) (k12 : PySem.W.keepIn K (.ref f12) = true)
    {oc13 kV13 dc13 pm13 cd13 ct13 : Value} {od13 an13 : Option Addr} {sl13 : Array (Option Value)}
    (a13 : PySem.W.nsIn K mainGlobals "_law_bar" = some (some (.ref f13))) (l13 : K.lookup f13 = some ⟨oc13, od13, .func (PySem.W.fnOf "_law_bar" "_law_bar" (defArgs ss__law_bar) (defBody ss__law_bar) (defScope ss__law_bar) .none kV13 dc13 pm13 an13 cd13 ct13), sl13⟩) (c13 : PySem.W.codeIn K cd13 "_law_bar" = true) (k13 : PySem.W.keepIn K (.ref f13) = true)
    {oc14 kV14 dc14 pm14 cd14 ct14 : Value} {od14 an14 : Option Addr} {sl14 : Array (Option Value)}
    (a14 : PySem.W.nsIn K mainGlobals "_law_same" = some (some (.ref f14))) (l14 : K.lookup f14 = some ⟨oc14, od14, .func (PySem.W.fnOf "_law_same" "_law_same" (defArgs ss__law_same) (defBody ss__law_same) (defScope ss__law_same) .none kV14 dc14 pm14 an14 cd14 ct14), sl14⟩) (c14 : PySem.W.codeIn K cd14 "_law_same" = true) (k14 : PySem.W.keepIn K (.ref f14) = true)
    {oc15 kV15 dc15 pm15 cd15 ct15 : Value} {od15 an15 : Option Addr} {sl15 : Array (Option Value)}
    (a15 : PySem.W.nsIn K mainGlobals "_law_heard" = some (some (.ref f15))) (l15 : K.lookup f15 = some ⟨oc15, od15, .func (PySem.W.fnOf "_law_heard" "_law_heard" (defArgs ss__law_heard) (defBody ss__law_heard) (defScope ss__law_heard) .none kV15 dc15 pm15 an15 cd15 ct15), sl15⟩) (c15 : PySem.W.codeIn K cd15 "_law_heard" = true) (k15 : PySem.W.keepIn K (.ref f15) = true)
    {oc16 kV16 dc16 pm16 cd16 ct16 : Value} {od16 an16 : Option Addr} {sl16 : Array (Option Value)}
    (a16 : PySem.W.nsIn K mainGlobals "_law_none" = some (some (.ref f16))) (l16 : K.lookup f16 = some ⟨oc16, od16, .func (PySem.W.fnOf "_law_none" "_law_none" (defArgs ss__law_none) (defBody ss__law_none) (defScope ss__law_none) .none kV16 dc16 pm16 an16 cd16 ct16), sl16⟩) (c16 : PySem.W.codeIn K cd16 "_law_none" = true) (k16 : PySem.W.keepIn K (.ref f16) = true)
    {oc17 kV17 dc17 pm17 cd17 ct17 : Value} {od17 an17 : Option Addr} {sl17 : Array (Option Value)}
    (a17 : PySem.W.nsIn K mainGlobals "_law_right" = some (some (.ref f17))) (l17 : K.lookup f17 = some ⟨oc17, od17, .func (PySem.W.fnOf "_law_right" "_law_right" (defArgs ss__law_right) (defBody ss__law_right) (defScope ss__law_right) .none kV17 dc17 pm17 an17 cd17 ct17), sl17⟩) (c17 : PySem.W.codeIn K cd17 "_law_right" = true) (k17 : PySem.W.keepIn K (.ref f17) = true)
    {oc18 kV18 dc18 pm18 cd18 ct18 : Value} {od18 an18 : Option Addr} {sl18 : Array (Option Value)}
    (a18 : PySem.W.nsIn K mainGlobals "law" = some (some (.ref f18))) (l18 : K.lookup f18 = some ⟨oc18, od18, .func (PySem.W.fnOf "law" "law" (defArgs ss_law) (defBody ss_law) (defScope ss_law) .none kV18 dc18 pm18 an18 cd18 ct18), sl18⟩) (c18 : PySem.W.codeIn K cd18 "law" = true) (k18 : PySem.W.keepIn K (.ref f18) = true)
    {CC18 PP18 : Addr} {to18 : Value} {td18 : Option Addr} {tx18 : Array Value} {ty18 : Array (Option Value)} (tc18 : cd18 = .ref CC18) (tl18 : K.lookup CC18 = some ⟨to18, td18, .fields tx18, ty18⟩) (tv18 : (tx18[11]? : Option Value) = some (.ref PP18)) (tq18 : K.lookup PP18 = none)
    (z0 : PySem.W.nsIn K mainGlobals "ValueError" = some none)
    (z1 : PySem.W.nsIn K mainGlobals "abs" = some none)
    (z2 : PySem.W.nsIn K mainGlobals "bool" = some none)
    (z3 : PySem.W.nsIn K mainGlobals "int" = some none)
    (z4 : PySem.W.nsIn K mainGlobals "isinstance" = some none)
    (z5 : PySem.W.nsIn K mainGlobals "len" = some none)
    (z6 : PySem.W.nsIn K mainGlobals "min" = some none)
    (z7 : PySem.W.nsIn K mainGlobals "range" = some none)
    (z8 : PySem.W.nsIn K mainGlobals "repr" = some none)
    (z9 : PySem.W.nsIn K mainGlobals "str" = some none)
    (z10 : PySem.W.nsIn K mainGlobals "tuple" = some none)
    {tr0 : Tok} (r0 : PySem.W.nsIn K mainGlobals "LETTERS" = some (some (.str "abcdefghijklmnopqrstuvwxyz" tr0)))
    {X0 : Addr} {Y0 : ClassData}
    (xa_0 : PySem.W.nsIn K mainGlobals "PlayError" = some (some (.ref X0)))
    (xc_0 : PySem.W.clsIn K X0 = some Y0)
    (xn_0 : Y0.name = "PlayError")
    (xm_0 : Y0.mro = [.ref X0, .type "ValueError", .type "Exception", .type "BaseException", .type "object"])
    (xt_0 : PySem.W.typeIn K (.ref X0) = some (.type "type"))
    (xh_0 : PySem.W.hasDictIn K X0 = true)
    (xg_0 : PySem.W.findIn K (.ref X0) "__getattribute__" = some (some (.builtin "BaseException.__getattribute__")))
    (xe_0 : PySem.W.findIn K (.ref X0) "__getattr__" = some none)
    (xl_0 : PySem.W.findIn K (.ref X0) "__class__" = some (some (.builtin "object.__class__")))
    (xk_0 : PySem.W.keepIn K (.ref X0) = true)
    (xx_0 : PySem.W.excIn K X0 [.type "ValueError", .type "Exception", .type "BaseException", .type "object"] "ValueError.__new__" = true)
    {X1 : Addr} {Y1 : ClassData}
    (xa_1 : PySem.W.nsIn K mainGlobals "NoWriting" = some (some (.ref X1)))
    (xc_1 : PySem.W.clsIn K X1 = some Y1)
    (xn_1 : Y1.name = "NoWriting")
    (xm_1 : Y1.mro = [.ref X1, .ref X0, .type "ValueError", .type "Exception", .type "BaseException", .type "object"])
    (xt_1 : PySem.W.typeIn K (.ref X1) = some (.type "type"))
    (xh_1 : PySem.W.hasDictIn K X1 = true)
    (xg_1 : PySem.W.findIn K (.ref X1) "__getattribute__" = some (some (.builtin "BaseException.__getattribute__")))
    (xe_1 : PySem.W.findIn K (.ref X1) "__getattr__" = some none)
    (xl_1 : PySem.W.findIn K (.ref X1) "__class__" = some (some (.builtin "object.__class__")))
    (xk_1 : PySem.W.keepIn K (.ref X1) = true)
    (xx_1 : PySem.W.excIn K X1 [.type "ValueError", .type "Exception", .type "BaseException", .type "object"] "ValueError.__new__" = true)
    {X2 : Addr} {Y2 : ClassData}
    (xa_2 : PySem.W.nsIn K mainGlobals "Crossed" = some (some (.ref X2)))
    (xc_2 : PySem.W.clsIn K X2 = some Y2)
    (xn_2 : Y2.name = "Crossed")
    (xm_2 : Y2.mro = [.ref X2, .ref X0, .type "ValueError", .type "Exception", .type "BaseException", .type "object"])
    (xt_2 : PySem.W.typeIn K (.ref X2) = some (.type "type"))
    (xh_2 : PySem.W.hasDictIn K X2 = true)
    (xg_2 : PySem.W.findIn K (.ref X2) "__getattribute__" = some (some (.builtin "BaseException.__getattribute__")))
    (xe_2 : PySem.W.findIn K (.ref X2) "__getattr__" = some none)
    (xl_2 : PySem.W.findIn K (.ref X2) "__class__" = some (some (.builtin "object.__class__")))
    (xk_2 : PySem.W.keepIn K (.ref X2) = true)
    (xf0_2 : PySem.W.findIn K (.ref X2) "one" = some none)
    (xf1_2 : PySem.W.findIn K (.ref X2) "other" = some none)
    (xf2_2 : PySem.W.findIn K (.ref X2) "label" = some none)
    {X3 : Addr} {Y3 : ClassData}
    (xa_3 : PySem.W.nsIn K mainGlobals "NoPlace" = some (some (.ref X3)))
    (xc_3 : PySem.W.clsIn K X3 = some Y3)
    (xn_3 : Y3.name = "NoPlace")
    (xm_3 : Y3.mro = [.ref X3, .ref X0, .type "ValueError", .type "Exception", .type "BaseException", .type "object"])
    (xt_3 : PySem.W.typeIn K (.ref X3) = some (.type "type"))
    (xh_3 : PySem.W.hasDictIn K X3 = true)
    (xg_3 : PySem.W.findIn K (.ref X3) "__getattribute__" = some (some (.builtin "BaseException.__getattribute__")))
    (xe_3 : PySem.W.findIn K (.ref X3) "__getattr__" = some none)
    (xl_3 : PySem.W.findIn K (.ref X3) "__class__" = some (some (.builtin "object.__class__")))
    (xk_3 : PySem.W.keepIn K (.ref X3) = true)
    (xx_3 : PySem.W.excIn K X3 [.type "ValueError", .type "Exception", .type "BaseException", .type "object"] "ValueError.__new__" = true)
    {X4 : Addr} {Y4 : ClassData}
    (xa_4 : PySem.W.nsIn K mainGlobals "NoEdition" = some (some (.ref X4)))
    (xc_4 : PySem.W.clsIn K X4 = some Y4)
    (xn_4 : Y4.name = "NoEdition")
    (xm_4 : Y4.mro = [.ref X4, .ref X0, .type "ValueError", .type "Exception", .type "BaseException", .type "object"])
    (xt_4 : PySem.W.typeIn K (.ref X4) = some (.type "type"))
    (xh_4 : PySem.W.hasDictIn K X4 = true)
    (xg_4 : PySem.W.findIn K (.ref X4) "__getattribute__" = some (some (.builtin "BaseException.__getattribute__")))
    (xe_4 : PySem.W.findIn K (.ref X4) "__getattr__" = some none)
    (xl_4 : PySem.W.findIn K (.ref X4) "__class__" = some (some (.builtin "object.__class__")))
    (xk_4 : PySem.W.keepIn K (.ref X4) = true)
    (xx_4 : PySem.W.excIn K X4 [.type "ValueError", .type "Exception", .type "BaseException", .type "object"] "ValueError.__new__" = true)
    {X5 : Addr} {Y5 : ClassData}
    (xa_5 : PySem.W.nsIn K mainGlobals "NoBar" = some (some (.ref X5)))
    (xc_5 : PySem.W.clsIn K X5 = some Y5)
    (xn_5 : Y5.name = "NoBar")
    (xm_5 : Y5.mro = [.ref X5, .ref X0, .type "ValueError", .type "Exception", .type "BaseException", .type "object"])
    (xt_5 : PySem.W.typeIn K (.ref X5) = some (.type "type"))
    (xh_5 : PySem.W.hasDictIn K X5 = true)
    (xg_5 : PySem.W.findIn K (.ref X5) "__getattribute__" = some (some (.builtin "BaseException.__getattribute__")))
    (xe_5 : PySem.W.findIn K (.ref X5) "__getattr__" = some none)
    (xl_5 : PySem.W.findIn K (.ref X5) "__class__" = some (some (.builtin "object.__class__")))
    (xk_5 : PySem.W.keepIn K (.ref X5) = true)
    (xx_5 : PySem.W.excIn K X5 [.type "ValueError", .type "Exception", .type "BaseException", .type "object"] "ValueError.__new__" = true)
    {X6 : Addr} {Y6 : ClassData}
    (xa_6 : PySem.W.nsIn K mainGlobals "NoCut" = some (some (.ref X6)))
    (xc_6 : PySem.W.clsIn K X6 = some Y6)
    (xn_6 : Y6.name = "NoCut")
    (xm_6 : Y6.mro = [.ref X6, .ref X0, .type "ValueError", .type "Exception", .type "BaseException", .type "object"])
    (xt_6 : PySem.W.typeIn K (.ref X6) = some (.type "type"))
    (xh_6 : PySem.W.hasDictIn K X6 = true)
    (xg_6 : PySem.W.findIn K (.ref X6) "__getattribute__" = some (some (.builtin "BaseException.__getattribute__")))
    (xe_6 : PySem.W.findIn K (.ref X6) "__getattr__" = some none)
    (xl_6 : PySem.W.findIn K (.ref X6) "__class__" = some (some (.builtin "object.__class__")))
    (xk_6 : PySem.W.keepIn K (.ref X6) = true)
    (xx_6 : PySem.W.excIn K X6 [.type "ValueError", .type "Exception", .type "BaseException", .type "object"] "ValueError.__new__" = true)
    {X7 : Addr} {Y7 : ClassData}
    (xa_7 : PySem.W.nsIn K mainGlobals "Parted" = some (some (.ref X7)))
    (xc_7 : PySem.W.clsIn K X7 = some Y7)
    (xn_7 : Y7.name = "Parted")
    (xm_7 : Y7.mro = [.ref X7, .ref X0, .type "ValueError", .type "Exception", .type "BaseException", .type "object"])
    (xt_7 : PySem.W.typeIn K (.ref X7) = some (.type "type"))
    (xh_7 : PySem.W.hasDictIn K X7 = true)
    (xg_7 : PySem.W.findIn K (.ref X7) "__getattribute__" = some (some (.builtin "BaseException.__getattribute__")))
    (xe_7 : PySem.W.findIn K (.ref X7) "__getattr__" = some none)
    (xl_7 : PySem.W.findIn K (.ref X7) "__class__" = some (some (.builtin "object.__class__")))
    (xk_7 : PySem.W.keepIn K (.ref X7) = true)
    (xf0_7 : PySem.W.findIn K (.ref X7) "one" = some none)
    (xf1_7 : PySem.W.findIn K (.ref X7) "other" = some none)
    (xf2_7 : PySem.W.findIn K (.ref X7) "label" = some none)
    {X8 : Addr} {Y8 : ClassData}
    (xa_8 : PySem.W.nsIn K mainGlobals "NoSound" = some (some (.ref X8)))
    (xc_8 : PySem.W.clsIn K X8 = some Y8)
    (xn_8 : Y8.name = "NoSound")
    (xm_8 : Y8.mro = [.ref X8, .ref X0, .type "ValueError", .type "Exception", .type "BaseException", .type "object"])
    (xt_8 : PySem.W.typeIn K (.ref X8) = some (.type "type"))
    (xh_8 : PySem.W.hasDictIn K X8 = true)
    (xg_8 : PySem.W.findIn K (.ref X8) "__getattribute__" = some (some (.builtin "BaseException.__getattribute__")))
    (xe_8 : PySem.W.findIn K (.ref X8) "__getattr__" = some none)
    (xl_8 : PySem.W.findIn K (.ref X8) "__class__" = some (some (.builtin "object.__class__")))
    (xk_8 : PySem.W.keepIn K (.ref X8) = true)
    (xx_8 : PySem.W.excIn K X8 [.type "ValueError", .type "Exception", .type "BaseException", .type "object"] "ValueError.__new__" = true)
    {X9 : Addr} {Y9 : ClassData}
    (xa_9 : PySem.W.nsIn K mainGlobals "Full" = some (some (.ref X9)))
    (xc_9 : PySem.W.clsIn K X9 = some Y9)
    (xn_9 : Y9.name = "Full")
    (xm_9 : Y9.mro = [.ref X9, .ref X0, .type "ValueError", .type "Exception", .type "BaseException", .type "object"])
    (xt_9 : PySem.W.typeIn K (.ref X9) = some (.type "type"))
    (xh_9 : PySem.W.hasDictIn K X9 = true)
    (xg_9 : PySem.W.findIn K (.ref X9) "__getattribute__" = some (some (.builtin "BaseException.__getattribute__")))
    (xe_9 : PySem.W.findIn K (.ref X9) "__getattr__" = some none)
    (xl_9 : PySem.W.findIn K (.ref X9) "__class__" = some (some (.builtin "object.__class__")))
    (xk_9 : PySem.W.keepIn K (.ref X9) = true)
    (xx_9 : PySem.W.excIn K X9 [.type "ValueError", .type "Exception", .type "BaseException", .type "object"] "ValueError.__new__" = true)
    {X10 : Addr} {Y10 : ClassData}
    (xa_10 : PySem.W.nsIn K mainGlobals "Held" = some (some (.ref X10)))
    (xc_10 : PySem.W.clsIn K X10 = some Y10)
    (xn_10 : Y10.name = "Held")
    (xm_10 : Y10.mro = [.ref X10, .ref X0, .type "ValueError", .type "Exception", .type "BaseException", .type "object"])
    (xt_10 : PySem.W.typeIn K (.ref X10) = some (.type "type"))
    (xh_10 : PySem.W.hasDictIn K X10 = true)
    (xg_10 : PySem.W.findIn K (.ref X10) "__getattribute__" = some (some (.builtin "BaseException.__getattribute__")))
    (xe_10 : PySem.W.findIn K (.ref X10) "__getattr__" = some none)
    (xl_10 : PySem.W.findIn K (.ref X10) "__class__" = some (some (.builtin "object.__class__")))
    (xk_10 : PySem.W.keepIn K (.ref X10) = true)
    (xx_10 : PySem.W.excIn K X10 [.type "ValueError", .type "Exception", .type "BaseException", .type "object"] "ValueError.__new__" = true)
    {X11 : Addr} {Y11 : ClassData}
    (xa_11 : PySem.W.nsIn K mainGlobals "NoPin" = some (some (.ref X11)))
    (xc_11 : PySem.W.clsIn K X11 = some Y11)
    (xn_11 : Y11.name = "NoPin")
    (xm_11 : Y11.mro = [.ref X11, .ref X0, .type "ValueError", .type "Exception", .type "BaseException", .type "object"])
    (xt_11 : PySem.W.typeIn K (.ref X11) = some (.type "type"))
    (xh_11 : PySem.W.hasDictIn K X11 = true)
    (xg_11 : PySem.W.findIn K (.ref X11) "__getattribute__" = some (some (.builtin "BaseException.__getattribute__")))
    (xe_11 : PySem.W.findIn K (.ref X11) "__getattr__" = some none)
    (xl_11 : PySem.W.findIn K (.ref X11) "__class__" = some (some (.builtin "object.__class__")))
    (xk_11 : PySem.W.keepIn K (.ref X11) = true)
    (xx_11 : PySem.W.excIn K X11 [.type "ValueError", .type "Exception", .type "BaseException", .type "object"] "ValueError.__new__" = true)
    {X12 : Addr} {Y12 : ClassData}
    (xa_12 : PySem.W.nsIn K mainGlobals "NoDeed" = some (some (.ref X12)))
    (xc_12 : PySem.W.clsIn K X12 = some Y12)
    (xn_12 : Y12.name = "NoDeed")
    (xm_12 : Y12.mro = [.ref X12, .ref X0, .type "ValueError", .type "Exception", .type "BaseException", .type "object"])
    (xt_12 : PySem.W.typeIn K (.ref X12) = some (.type "type"))
    (xh_12 : PySem.W.hasDictIn K X12 = true)
    (xg_12 : PySem.W.findIn K (.ref X12) "__getattribute__" = some (some (.builtin "BaseException.__getattribute__")))
    (xe_12 : PySem.W.findIn K (.ref X12) "__getattr__" = some none)
    (xl_12 : PySem.W.findIn K (.ref X12) "__class__" = some (some (.builtin "object.__class__")))
    (xk_12 : PySem.W.keepIn K (.ref X12) = true)
    (xx_12 : PySem.W.excIn K X12 [.type "ValueError", .type "Exception", .type "BaseException", .type "object"] "ValueError.__new__" = true)
    {X13 : Addr} {Y13 : ClassData}
    (xa_13 : PySem.W.nsIn K mainGlobals "NoText" = some (some (.ref X13)))
    (xc_13 : PySem.W.clsIn K X13 = some Y13)
    (xn_13 : Y13.name = "NoText")
    (xm_13 : Y13.mro = [.ref X13, .ref X0, .type "ValueError", .type "Exception", .type "BaseException", .type "object"])
    (xt_13 : PySem.W.typeIn K (.ref X13) = some (.type "type"))
    (xh_13 : PySem.W.hasDictIn K X13 = true)
    (xg_13 : PySem.W.findIn K (.ref X13) "__getattribute__" = some (some (.builtin "BaseException.__getattribute__")))
    (xe_13 : PySem.W.findIn K (.ref X13) "__getattr__" = some none)
    (xl_13 : PySem.W.findIn K (.ref X13) "__class__" = some (some (.builtin "object.__class__")))
    (xk_13 : PySem.W.keepIn K (.ref X13) = true)
    (xx_13 : PySem.W.excIn K X13 [.type "ValueError", .type "Exception", .type "BaseException", .type "object"] "ValueError.__new__" = true)
    {X14 : Addr} {Y14 : ClassData}
    (xa_14 : PySem.W.nsIn K mainGlobals "NoRow" = some (some (.ref X14)))
    (xc_14 : PySem.W.clsIn K X14 = some Y14)
    (xn_14 : Y14.name = "NoRow")
    (xm_14 : Y14.mro = [.ref X14, .ref X0, .type "ValueError", .type "Exception", .type "BaseException", .type "object"])
    (xt_14 : PySem.W.typeIn K (.ref X14) = some (.type "type"))
    (xh_14 : PySem.W.hasDictIn K X14 = true)
    (xg_14 : PySem.W.findIn K (.ref X14) "__getattribute__" = some (some (.builtin "BaseException.__getattribute__")))
    (xe_14 : PySem.W.findIn K (.ref X14) "__getattr__" = some none)
    (xl_14 : PySem.W.findIn K (.ref X14) "__class__" = some (some (.builtin "object.__class__")))
    (xk_14 : PySem.W.keepIn K (.ref X14) = true)
    (xx_14 : PySem.W.excIn K X14 [.type "ValueError", .type "Exception", .type "BaseException", .type "object"] "ValueError.__new__" = true)
    {FI2 M2 : Addr} {nm2 qq2 : Str} {bs2 : List Value} {sn2 : List Str} {sb2 : List Value} {ab2 : Bool} {co2 : Option Bool} {dd2 : Option Addr} {ma2 mb2 mc2 md2 me2 : Option Value} {ioc2 ikV2 idc2 ipm2 icd2 ict2 : Value} {iod2 ian2 : Option Addr} {isl2 : Array (Option Value)}
    (yi_2 : PySem.W.findIn K (.ref X2) "__init__" = some (some (.ref FI2)))
    (yl_2 : K.lookup FI2 = some ⟨ioc2, iod2, .func (PySem.W.fnOf "__init__" "Crossed.__init__" (defArgs si_Crossed) (defBody si_Crossed) (defScope si_Crossed) .none ikV2 idc2 ipm2 ian2 icd2 ict2), isl2⟩)
    (yc_2 : PySem.W.codeIn K icd2 "Crossed.__init__" = true)
    (yx_2 : K.lookup X2 = some (excClassObj nm2 qq2 X2 M2 bs2 [.ref X0, .type "ValueError", .type "Exception", .type "BaseException", .type "object"] true sn2 sb2 ab2 co2 dd2 ma2 mb2 mc2 md2 me2 "ValueError.__new__"))
    (ys_2 : PySem.W.findIn K (.ref X2) "__setattr__" = some (some (.builtin "object.__setattr__")))
    (ye_2 : PySem.W.subIn K (.ref X2) (.type "BaseException") = some true)
    (yt_2 : PySem.W.typeIn K (.ref FI2) = some (.type "function"))
    {FI7 M7 : Addr} {nm7 qq7 : Str} {bs7 : List Value} {sn7 : List Str} {sb7 : List Value} {ab7 : Bool} {co7 : Option Bool} {dd7 : Option Addr} {ma7 mb7 mc7 md7 me7 : Option Value} {ioc7 ikV7 idc7 ipm7 icd7 ict7 : Value} {iod7 ian7 : Option Addr} {isl7 : Array (Option Value)}
    (yi_7 : PySem.W.findIn K (.ref X7) "__init__" = some (some (.ref FI7)))
    (yl_7 : K.lookup FI7 = some ⟨ioc7, iod7, .func (PySem.W.fnOf "__init__" "Parted.__init__" (defArgs si_Parted) (defBody si_Parted) (defScope si_Parted) .none ikV7 idc7 ipm7 ian7 icd7 ict7), isl7⟩)
    (yc_7 : PySem.W.codeIn K icd7 "Parted.__init__" = true)
    (yx_7 : K.lookup X7 = some (excClassObj nm7 qq7 X7 M7 bs7 [.ref X0, .type "ValueError", .type "Exception", .type "BaseException", .type "object"] true sn7 sb7 ab7 co7 dd7 ma7 mb7 mc7 md7 me7 "ValueError.__new__"))
    (ys_7 : PySem.W.findIn K (.ref X7) "__setattr__" = some (some (.builtin "object.__setattr__")))
    (ye_7 : PySem.W.subIn K (.ref X7) (.type "BaseException") = some true)
    (yt_7 : PySem.W.typeIn K (.ref FI7) = some (.type "function"))
    (xpg : PySem.W.specialIn K (.ref X0) "__getattribute__" = some (some (.builtin "type.__getattribute__"))) (xpr : PySem.W.readsIn K X0 (.type "type") = true) (xpf : PySem.W.findCls K (.ref X0) (.type "type") "__init__" = some (.val (.builtin "ValueError.__init__")))
    (xsp : PySem.W.specialIn K (.builtin "object.__class__") "__get__" = some (some (.builtin "getset_descriptor.__get__"))) (xtk : PySem.W.takesIn K (.builtin "object.__class__") = some true)
    : ∃ fd : FuncData, (∀ (s : Shared) (v : Value), BindsTo s fd ⟨[v], []⟩ [("_law_script", v)]) ∧ (∀ c ∈ tabs K, K.lookup c.2 = none) ∧ ∀ base : Heap, K.In base → base.Ns mainGlobals mg → TabBs K mg base → FnG l.prog w K mg base 62 fa fd ["_law_script"] (spLaw K) := by
  have F0 := funq_mk (st := ss_is_whole) l0 c0 k0
  have b0 : Binds K (PySem.W.fnOf "is_whole" "is_whole" (defArgs ss_is_whole) (defBody ss_is_whole) (defScope ss_is_whole) .none kV0 dc0 pm0 an0 cd0 ct0) ["thing"] [] := .all fun us hl => match us, hl with | [_], _ => rfl
  have q0 : ∀ nn ks arr, (0, nn, ks, arr) ∈ tb.cf → CfOk K (PySem.W.fnOf "is_whole" "is_whole" (defArgs ss_is_whole) (defBody ss_is_whole) (defScope ss_is_whole) .none kV0 dc0 pm0 an0 cd0 ct0) ["thing"] nn ks arr := cf_none (by decide)
  have F1 := funq_mk (st := ss_is_from) l1 c1 k1
  have b1 : Binds K (PySem.W.fnOf "is_from" "is_from" (defArgs ss_is_from) (defBody ss_is_from) (defScope ss_is_from) .none kV1 dc1 pm1 an1 cd1 ct1) ["thing", "least", "most"] [] := .all fun us hl => match us, hl with | [_, _, _], _ => rfl
  have q1 : ∀ nn ks arr, (1, nn, ks, arr) ∈ tb.cf → CfOk K (PySem.W.fnOf "is_from" "is_from" (defArgs ss_is_from) (defBody ss_is_from) (defScope ss_is_from) .none kV1 dc1 pm1 an1 cd1 ct1) ["thing", "least", "most"] nn ks arr := cf_none (by decide)
  have F2 := funq_mk (st := ss_is_name) l2 c2 k2
  have b2 : Binds K (PySem.W.fnOf "is_name" "is_name" (defArgs ss_is_name) (defBody ss_is_name) (defScope ss_is_name) .none kV2 dc2 pm2 an2 cd2 ct2) ["thing"] [] := .all fun us hl => match us, hl with | [_], _ => rfl
  have q2 : ∀ nn ks arr, (2, nn, ks, arr) ∈ tb.cf → CfOk K (PySem.W.fnOf "is_name" "is_name" (defArgs ss_is_name) (defBody ss_is_name) (defScope ss_is_name) .none kV2 dc2 pm2 an2 cd2 ct2) ["thing"] nn ks arr := cf_none (by decide)
  have F3 := funq_mk (st := ss_numbered) l3 c3 k3
  have b3 : Binds K (PySem.W.fnOf "numbered" "numbered" (defArgs ss_numbered) (defBody ss_numbered) (defScope ss_numbered) .none kV3 dc3 pm3 an3 cd3 ct3) ["edition", "label"] [] := .all fun us hl => match us, hl with | [_, _], _ => rfl
  have q3 : ∀ nn ks arr, (3, nn, ks, arr) ∈ tb.cf → CfOk K (PySem.W.fnOf "numbered" "numbered" (defArgs ss_numbered) (defBody ss_numbered) (defScope ss_numbered) .none kV3 dc3 pm3 an3 cd3 ct3) ["edition", "label"] nn ks arr := cf_none (by decide)
  have F4 := funq_mk (st := ss_bar_with) l4 c4 k4
  have b4 : Binds K (PySem.W.fnOf "bar_with" "bar_with" (defArgs ss_bar_with) (defBody ss_bar_with) (defScope ss_bar_with) .none kV4 dc4 pm4 an4 cd4 ct4) ["edition", "piece"] [] := .all fun us hl => match us, hl with | [_, _], _ => rfl
  have q4 : ∀ nn ks arr, (4, nn, ks, arr) ∈ tb.cf → CfOk K (PySem.W.fnOf "bar_with" "bar_with" (defArgs ss_bar_with) (defBody ss_bar_with) (defScope ss_bar_with) .none kV4 dc4 pm4 an4 cd4 ct4) ["edition", "piece"] nn ks arr := cf_none (by decide)
  have F5 := funq_mk (st := ss_piece_of) l5 c5 k5
  have b5 : Binds K (PySem.W.fnOf "piece_of" "piece_of" (defArgs ss_piece_of) (defBody ss_piece_of) (defScope ss_piece_of) .none kV5 dc5 pm5 an5 cd5 ct5) ["edition", "place"] [] := .all fun us hl => match us, hl with | [_, _], _ => rfl
  have q5 : ∀ nn ks arr, (5, nn, ks, arr) ∈ tb.cf → CfOk K (PySem.W.fnOf "piece_of" "piece_of" (defArgs ss_piece_of) (defBody ss_piece_of) (defScope ss_piece_of) .none kV5 dc5 pm5 an5 cd5 ct5) ["edition", "place"] nn ks arr := cf_none (by decide)
  have F6 := funq_mk (st := ss_place_in) l6 c6 k6
  have b6 : Binds K (PySem.W.fnOf "place_in" "place_in" (defArgs ss_place_in) (defBody ss_place_in) (defScope ss_place_in) .none kV6 dc6 pm6 an6 cd6 ct6) ["one", "other", "place"] [] := .all fun us hl => match us, hl with | [_, _, _], _ => rfl
  have q6 : ∀ nn ks arr, (6, nn, ks, arr) ∈ tb.cf → CfOk K (PySem.W.fnOf "place_in" "place_in" (defArgs ss_place_in) (defBody ss_place_in) (defScope ss_place_in) .none kV6 dc6 pm6 an6 cd6 ct6) ["one", "other", "place"] nn ks arr := cf_none (by decide)
  have F7 := funq_mk (st := ss__law_pen) l7 c7 k7
  have b7 : Binds K (PySem.W.fnOf "_law_pen" "_law_pen" (defArgs ss__law_pen) (defBody ss__law_pen) (defScope ss__law_pen) .none kV7 dc7 pm7 an7 cd7 ct7) ["_law_script", "_law_k"] [] := .all fun us hl => match us, hl with | [_, _], _ => rfl
  have q7 : ∀ nn ks arr, (7, nn, ks, arr) ∈ tb.cf → CfOk K (PySem.W.fnOf "_law_pen" "_law_pen" (defArgs ss__law_pen) (defBody ss__law_pen) (defScope ss__law_pen) .none kV7 dc7 pm7 an7 cd7 ct7) ["_law_script", "_law_k"] nn ks arr := cf_none (by decide)
  have F8 := funq_mk (st := ss__law_take) l8 c8 k8
  have b8 : Binds K (PySem.W.fnOf "_law_take" "_law_take" (defArgs ss__law_take) (defBody ss__law_take) (defScope ss__law_take) .none kV8 dc8 pm8 an8 cd8 ct8) ["_law_pen_here", "_law_many_here"] [] := .all fun us hl => match us, hl with | [_, _], _ => rfl
  have q8 : ∀ nn ks arr, (8, nn, ks, arr) ∈ tb.cf → CfOk K (PySem.W.fnOf "_law_take" "_law_take" (defArgs ss__law_take) (defBody ss__law_take) (defScope ss__law_take) .none kV8 dc8 pm8 an8 cd8 ct8) ["_law_pen_here", "_law_many_here"] nn ks arr := cf_none (by decide)
  have F9 := funq_mk (st := ss__law_labels) l9 c9 k9
  have b9 : Binds K (PySem.W.fnOf "_law_labels" "_law_labels" (defArgs ss__law_labels) (defBody ss__law_labels) (defScope ss__law_labels) .none kV9 dc9 pm9 an9 cd9 ct9) ["_law_pen_here", "_law_many_here"] [] := .all fun us hl => match us, hl with | [_, _], _ => rfl
  have q9 : ∀ nn ks arr, (9, nn, ks, arr) ∈ tb.cf → CfOk K (PySem.W.fnOf "_law_labels" "_law_labels" (defArgs ss__law_labels) (defBody ss__law_labels) (defScope ss__law_labels) .none kV9 dc9 pm9 an9 cd9 ct9) ["_law_pen_here", "_law_many_here"] nn ks arr := cf_none (by decide)
  have F10 := funq_mk (st := ss__law_edition) l10 c10 k10
  have b10 : Binds K (PySem.W.fnOf "_law_edition" "_law_edition" (defArgs ss__law_edition) (defBody ss__law_edition) (defScope ss__law_edition) .none kV10 dc10 pm10 an10 cd10 ct10) ["_law_pen_here", "_law_many_here", "_law_labels_here"] [] := .all fun us hl => match us, hl with | [_, _, _], _ => rfl
  have q10 : ∀ nn ks arr, (10, nn, ks, arr) ∈ tb.cf → CfOk K (PySem.W.fnOf "_law_edition" "_law_edition" (defArgs ss__law_edition) (defBody ss__law_edition) (defScope ss__law_edition) .none kV10 dc10 pm10 an10 cd10 ct10) ["_law_pen_here", "_law_many_here", "_law_labels_here"] nn ks arr := cf_none (by decide)
  have F11 := funq_mk (st := ss__law_many) l11 c11 k11
  have b11 : Binds K (PySem.W.fnOf "_law_many" "_law_many" (defArgs ss__law_many) (defBody ss__law_many) (defScope ss__law_many) .none kV11 dc11 pm11 an11 cd11 ct11) ["_law_pen_here"] [] := .all fun us hl => match us, hl with | [_], _ => rfl
  have q11 : ∀ nn ks arr, (11, nn, ks, arr) ∈ tb.cf → CfOk K (PySem.W.fnOf "_law_many" "_law_many" (defArgs ss__law_many) (defBody ss__law_many) (defScope ss__law_many) .none kV11 dc11 pm11 an11 cd11 ct11) ["_law_pen_here"] nn ks arr := cf_none (by decide)
  have F12 := funq_mk (st := ss__law_two) l12 c12 k12
  have b12 : Binds K (PySem.W.fnOf "_law_two" "_law_two" (defArgs ss__law_two) (defBody ss__law_two) (defScope ss__law_two) .none kV12 dc12 pm12 an12 cd12 ct12) ["_law_pen_here", "_law_many_here"] [] := .all fun us hl => match us, hl with | [_, _], _ => rfl
  have q12 : ∀ nn ks arr, (12, nn, ks, arr) ∈ tb.cf → CfOk K (PySem.W.fnOf "_law_two" "_law_two" (defArgs ss__law_two) (defBody ss__law_two) (defScope ss__law_two) .none kV12 dc12 pm12 an12 cd12 ct12) ["_law_pen_here", "_law_many_here"] nn ks arr := cf_none (by decide)
  have F13 := funq_mk (st := ss__law_bar) l13 c13 k13
  have b13 : Binds K (PySem.W.fnOf "_law_bar" "_law_bar" (defArgs ss__law_bar) (defBody ss__law_bar) (defScope ss__law_bar) .none kV13 dc13 pm13 an13 cd13 ct13) ["_law_edition_here", "_law_piece"] [] := .all fun us hl => match us, hl with | [_, _], _ => rfl
  have q13 : ∀ nn ks arr, (13, nn, ks, arr) ∈ tb.cf → CfOk K (PySem.W.fnOf "_law_bar" "_law_bar" (defArgs ss__law_bar) (defBody ss__law_bar) (defScope ss__law_bar) .none kV13 dc13 pm13 an13 cd13 ct13) ["_law_edition_here", "_law_piece"] nn ks arr := cf_none (by decide)
  have F14 := funq_mk (st := ss__law_same) l14 c14 k14
  have b14 : Binds K (PySem.W.fnOf "_law_same" "_law_same" (defArgs ss__law_same) (defBody ss__law_same) (defScope ss__law_same) .none kV14 dc14 pm14 an14 cd14 ct14) ["_law_found", "_law_due"] [] := .all fun us hl => match us, hl with | [_, _], _ => rfl
  have q14 : ∀ nn ks arr, (14, nn, ks, arr) ∈ tb.cf → CfOk K (PySem.W.fnOf "_law_same" "_law_same" (defArgs ss__law_same) (defBody ss__law_same) (defScope ss__law_same) .none kV14 dc14 pm14 an14 cd14 ct14) ["_law_found", "_law_due"] nn ks arr := cf_none (by decide)
  have F15 := funq_mk (st := ss__law_heard) l15 c15 k15
  have b15 : Binds K (PySem.W.fnOf "_law_heard" "_law_heard" (defArgs ss__law_heard) (defBody ss__law_heard) (defScope ss__law_heard) .none kV15 dc15 pm15 an15 cd15 ct15) ["_law_ask"] [] := .all fun us hl => match us, hl with | [_], _ => rfl
  have q15 : ∀ nn ks arr, (15, nn, ks, arr) ∈ tb.cf → CfOk K (PySem.W.fnOf "_law_heard" "_law_heard" (defArgs ss__law_heard) (defBody ss__law_heard) (defScope ss__law_heard) .none kV15 dc15 pm15 an15 cd15 ct15) ["_law_ask"] nn ks arr := cf_none (by decide)
  have F16 := funq_mk (st := ss__law_none) l16 c16 k16
  have b16 : Binds K (PySem.W.fnOf "_law_none" "_law_none" (defArgs ss__law_none) (defBody ss__law_none) (defScope ss__law_none) .none kV16 dc16 pm16 an16 cd16 ct16) ["_law_pen_here", "_law_one", "_law_other"] [] := .all fun us hl => match us, hl with | [_, _, _], _ => rfl
  have q16 : ∀ nn ks arr, (16, nn, ks, arr) ∈ tb.cf → CfOk K (PySem.W.fnOf "_law_none" "_law_none" (defArgs ss__law_none) (defBody ss__law_none) (defScope ss__law_none) .none kV16 dc16 pm16 an16 cd16 ct16) ["_law_pen_here", "_law_one", "_law_other"] nn ks arr := cf_none (by decide)
  have F17 := funq_mk (st := ss__law_right) l17 c17 k17
  have b17 : Binds K (PySem.W.fnOf "_law_right" "_law_right" (defArgs ss__law_right) (defBody ss__law_right) (defScope ss__law_right) .none kV17 dc17 pm17 an17 cd17 ct17) ["_law_one", "_law_other"] [] := .all fun us hl => match us, hl with | [_, _], _ => rfl
  have q17 : ∀ nn ks arr, (17, nn, ks, arr) ∈ tb.cf → CfOk K (PySem.W.fnOf "_law_right" "_law_right" (defArgs ss__law_right) (defBody ss__law_right) (defScope ss__law_right) .none kV17 dc17 pm17 an17 cd17 ct17) ["_law_one", "_law_other"] nn ks arr := cf_none (by decide)
  have F18 := funq_mk (st := ss_law) l18 c18 k18
  have b18 : Binds K (PySem.W.fnOf "law" "law" (defArgs ss_law) (defBody ss_law) (defScope ss_law) .none kV18 dc18 pm18 an18 cd18 ct18) ["_law_script"] [] := .all fun us hl => match us, hl with | [_], _ => rfl
  have q18 : ∀ nn ks arr, (18, nn, ks, arr) ∈ tb.cf → CfOk K (PySem.W.fnOf "law" "law" (defArgs ss_law) (defBody ss_law) (defScope ss_law) .none kV18 dc18 pm18 an18 cd18 ct18) ["_law_script"] nn ks arr := cf_none (by decide)
  have ta18 : PySem.W.tabIn K "law" = some (CC18, PP18) := tab_in a18 l18 tc18 tl18 tv18
  have mk18 : MkTab K "law" (PySem.W.fnOf "law" "law" (defArgs ss_law) (defBody ss_law) (defScope ss_law) .none kV18 dc18 pm18 an18 cd18 ct18) := by
    refine ⟨by decide +kernel, _, _, ta18, tc18, fun y hy c2 h => ?_⟩
    have hy : y ∈ (["law"] : List Str) := hy
    simp only [List.mem_cons, List.not_mem_nil, or_false] at hy
    subst hy
    · rfl
  have e := hfa.symm.trans (PySem.W.mg_of X G1 a18)
  cases e
  have DF : ∀ f x ps, tb.ft[f]? = some (x, ps) → DefOk tb K mg G f x ps := by
    intro f x ps h
    match f, h with
    | 0, h => have h : some (("is_whole" : Str), (["thing"] : List Str)) = some (x, ps) := h; cases h; exact ⟨_, _, ss_is_whole, ns_is_whole, ir_is_whole, false, PySem.W.mg_of X G1 a0, F0, b0, q0, sc_is_whole, ck_is_whole, fun h => (nomatch h), fun _ => ob_is_whole, fun h => absurd h (by decide)⟩
    | 1, h => have h : some (("is_from" : Str), (["thing", "least", "most"] : List Str)) = some (x, ps) := h; cases h; exact ⟨_, _, ss_is_from, ns_is_from, ir_is_from, false, PySem.W.mg_of X G1 a1, F1, b1, q1, sc_is_from, ck_is_from, fun h => (nomatch h), fun _ => ob_is_from, fun h => absurd h (by decide)⟩
    | 2, h => have h : some (("is_name" : Str), (["thing"] : List Str)) = some (x, ps) := h; cases h; exact ⟨_, _, ss_is_name, ns_is_name, ir_is_name, false, PySem.W.mg_of X G1 a2, F2, b2, q2, sc_is_name, ck_is_name, fun h => (nomatch h), fun _ => ob_is_name, fun h => absurd h (by decide)⟩
    | 3, h => have h : some (("numbered" : Str), (["edition", "label"] : List Str)) = some (x, ps) := h; cases h; exact ⟨_, _, ss_numbered, ns_numbered, ir_numbered, false, PySem.W.mg_of X G1 a3, F3, b3, q3, sc_numbered, ck_numbered, fun h => (nomatch h), fun _ => ob_numbered, fun h => absurd h (by decide)⟩
    | 4, h => have h : some (("bar_with" : Str), (["edition", "piece"] : List Str)) = some (x, ps) := h; cases h; exact ⟨_, _, ss_bar_with, ns_bar_with, ir_bar_with, false, PySem.W.mg_of X G1 a4, F4, b4, q4, sc_bar_with, ck_bar_with, fun h => (nomatch h), fun _ => ob_bar_with, fun h => absurd h (by decide)⟩
    | 5, h => have h : some (("piece_of" : Str), (["edition", "place"] : List Str)) = some (x, ps) := h; cases h; exact ⟨_, _, ss_piece_of, ns_piece_of, ir_piece_of, false, PySem.W.mg_of X G1 a5, F5, b5, q5, sc_piece_of, ck_piece_of, fun h => (nomatch h), fun _ => ob_piece_of, fun h => absurd h (by decide)⟩
    | 6, h => have h : some (("place_in" : Str), (["one", "other", "place"] : List Str)) = some (x, ps) := h; cases h; exact ⟨_, _, ss_place_in, ns_place_in, ir_place_in, false, PySem.W.mg_of X G1 a6, F6, b6, q6, sc_place_in, ck_place_in, fun h => (nomatch h), fun _ => ob_place_in, fun h => absurd h (by decide)⟩
    | 7, h => have h : some (("_law_pen" : Str), (["_law_script", "_law_k"] : List Str)) = some (x, ps) := h; cases h; exact ⟨_, _, ss__law_pen, ns__law_pen, ir__law_pen, false, PySem.W.mg_of X G1 a7, F7, b7, q7, sc__law_pen, ck__law_pen, fun h => (nomatch h), fun _ => ob__law_pen, fun h => absurd h (by decide)⟩
    | 8, h => have h : some (("_law_take" : Str), (["_law_pen_here", "_law_many_here"] : List Str)) = some (x, ps) := h; cases h; exact ⟨_, _, ss__law_take, ns__law_take, ir__law_take, false, PySem.W.mg_of X G1 a8, F8, b8, q8, sc__law_take, ck__law_take, fun h => (nomatch h), fun _ => ob__law_take, fun h => absurd h (by decide)⟩
    | 9, h => have h : some (("_law_labels" : Str), (["_law_pen_here", "_law_many_here"] : List Str)) = some (x, ps) := h; cases h; exact ⟨_, _, ss__law_labels, ns__law_labels, ir__law_labels, false, PySem.W.mg_of X G1 a9, F9, b9, q9, sc__law_labels, ck__law_labels, fun h => (nomatch h), fun _ => ob__law_labels, fun h => absurd h (by decide)⟩
    | 10, h => have h : some (("_law_edition" : Str), (["_law_pen_here", "_law_many_here", "_law_labels_here"] : List Str)) = some (x, ps) := h; cases h; exact ⟨_, _, ss__law_edition, ns__law_edition, ir__law_edition, false, PySem.W.mg_of X G1 a10, F10, b10, q10, sc__law_edition, ck__law_edition, fun h => (nomatch h), fun _ => ob__law_edition, fun h => absurd h (by decide)⟩
    | 11, h => have h : some (("_law_many" : Str), (["_law_pen_here"] : List Str)) = some (x, ps) := h; cases h; exact ⟨_, _, ss__law_many, ns__law_many, ir__law_many, false, PySem.W.mg_of X G1 a11, F11, b11, q11, sc__law_many, ck__law_many, fun h => (nomatch h), fun _ => ob__law_many, fun h => absurd h (by decide)⟩
    | 12, h => have h : some (("_law_two" : Str), (["_law_pen_here", "_law_many_here"] : List Str)) = some (x, ps) := h; cases h; exact ⟨_, _, ss__law_two, ns__law_two, ir__law_two, false, PySem.W.mg_of X G1 a12, F12, b12, q12, sc__law_two, ck__law_two, fun h => (nomatch h), fun _ => ob__law_two, fun h => absurd h (by decide)⟩
    | 13, h => have h : some (("_law_bar" : Str), (["_law_edition_here", "_law_piece"] : List Str)) = some (x, ps) := h; cases h; exact ⟨_, _, ss__law_bar, ns__law_bar, ir__law_bar, false, PySem.W.mg_of X G1 a13, F13, b13, q13, sc__law_bar, ck__law_bar, fun h => (nomatch h), fun _ => ob__law_bar, fun h => absurd h (by decide)⟩
    | 14, h => have h : some (("_law_same" : Str), (["_law_found", "_law_due"] : List Str)) = some (x, ps) := h; cases h; exact ⟨_, _, ss__law_same, ns__law_same, ir__law_same, false, PySem.W.mg_of X G1 a14, F14, b14, q14, sc__law_same, ck__law_same, fun h => (nomatch h), fun _ => ob__law_same, fun h => absurd h (by decide)⟩
    | 15, h => have h : some (("_law_heard" : Str), (["_law_ask"] : List Str)) = some (x, ps) := h; cases h; exact ⟨_, _, ss__law_heard, ns__law_heard, ir__law_heard, false, PySem.W.mg_of X G1 a15, F15, b15, q15, sc__law_heard, ck__law_heard, fun h => (nomatch h), fun h => absurd h (by decide), fun _ => ob__law_heard⟩
    | 16, h => have h : some (("_law_none" : Str), (["_law_pen_here", "_law_one", "_law_other"] : List Str)) = some (x, ps) := h; cases h; exact ⟨_, _, ss__law_none, ns__law_none, ir__law_none, false, PySem.W.mg_of X G1 a16, F16, b16, q16, sc__law_none, ck__law_none, fun h => (nomatch h), fun _ => ob__law_none, fun h => absurd h (by decide)⟩
    | 17, h => have h : some (("_law_right" : Str), (["_law_one", "_law_other"] : List Str)) = some (x, ps) := h; cases h; exact ⟨_, _, ss__law_right, ns__law_right, ir__law_right, false, PySem.W.mg_of X G1 a17, F17, b17, q17, sc__law_right, ck__law_right, fun h => (nomatch h), fun _ => ob__law_right, fun h => absurd h (by decide)⟩
    | 18, h => have h : some (("law" : Str), (["_law_script"] : List Str)) = some (x, ps) := h; cases h; exact ⟨_, _, ss_law, ns_law, ir_law, true, PySem.W.mg_of X G1 a18, F18, b18, q18, sc_law, ck_law, fun _ => mk18, fun _ => ob_law, fun h => absurd h (by decide)⟩
    | n + 19, h => exact absurd (show (none : Option (Str × List Str)) = some (x, ps) from h) nofun
  have hbl : ∀ b ∈ tb.bl, mg b = none := by
    intro b hb
    have hb : b ∈ (["ValueError", "abs", "bool", "int", "isinstance", "len", "min", "range", "repr", "str", "tuple"] : List Str) := hb
    simp only [List.mem_cons, List.not_mem_nil, or_false] at hb
    rcases hb with rfl | rfl | rfl | rfl | rfl | rfl | rfl | rfl | rfl | rfl | rfl
    · exact PySem.W.mg_none_of X G1 z0
    · exact PySem.W.mg_none_of X G1 z1
    · exact PySem.W.mg_none_of X G1 z2
    · exact PySem.W.mg_none_of X G1 z3
    · exact PySem.W.mg_none_of X G1 z4
    · exact PySem.W.mg_none_of X G1 z5
    · exact PySem.W.mg_none_of X G1 z6
    · exact PySem.W.mg_none_of X G1 z7
    · exact PySem.W.mg_none_of X G1 z8
    · exact PySem.W.mg_none_of X G1 z9
    · exact PySem.W.mg_none_of X G1 z10
  have hgi : ∀ x n, tb.gi.lookup x = some n → ∃ t, mg x = some (.int n t) := by
    intro x n h
    have h := mem_lookupD h
    have h : (x, n) ∈ ([] : List (Str × Int)) := h
    simp only [List.mem_cons, List.not_mem_nil, or_false, Prod.mk.injEq] at h
  have hgs : ∀ x n, tb.gs.lookup x = some n → ∃ t, mg x = some (.str n t) := by
    intro x n h
    have h := mem_lookupD h
    have h : (x, n) ∈ ([("LETTERS", "abcdefghijklmnopqrstuvwxyz")] : List (Str × Str)) := h
    simp only [List.mem_cons, List.not_mem_nil, or_false, Prod.mk.injEq] at h
    rcases h with ⟨rfl, rfl⟩
    · exact ⟨_, PySem.W.mg_of X G1 r0⟩
  have hex : tb.ex ≠ [] → ∃ P, ExAll K mg tb.ex P := fun _ => ⟨X0, xsp, xtk, PySem.W.mg_of X G1 xa_0, ⟨Y0, xc_0, xn_0⟩, by
    intro c hc
    have hc : c ∈ (["PlayError", "NoWriting", "Crossed", "NoPlace", "NoEdition", "NoBar", "NoCut", "Parted", "NoSound", "Full", "Held", "NoPin", "NoDeed", "NoText", "NoRow"] : List Str) := hc
    simp only [List.mem_cons, List.not_mem_nil, or_false] at hc
    rcases hc with rfl | rfl | rfl | rfl | rfl | rfl | rfl | rfl | rfl | rfl | rfl | rfl | rfl | rfl | rfl
    · exact ⟨X0, PySem.W.mg_of X G1 xa_0, ⟨Y0, xc_0, xn_0, by rw [xm_0, if_pos (by decide +kernel)]; rfl⟩, xt_0, xh_0, xg_0, xe_0, xl_0, xk_0, fun h => absurd h (by decide +kernel), fun _ => xx_0, fun h => absurd h (by decide +kernel)⟩
    · exact ⟨X1, PySem.W.mg_of X G1 xa_1, ⟨Y1, xc_1, xn_1, by rw [xm_1, if_neg (by decide +kernel)]; rfl⟩, xt_1, xh_1, xg_1, xe_1, xl_1, xk_1, fun h => absurd h (by decide +kernel), fun _ => xx_1, fun h => absurd h (by decide +kernel)⟩
    · exact ⟨X2, PySem.W.mg_of X G1 xa_2, ⟨Y2, xc_2, xn_2, by rw [xm_2, if_neg (by decide +kernel)]; rfl⟩, xt_2, xh_2, xg_2, xe_2, xl_2, xk_2, fun _ => ⟨xf0_2, xf1_2, xf2_2⟩, fun h => absurd h (by decide +kernel), fun _ => (show excFs "Crossed" = (["one", "other"] : List Str) by decide +kernel) ▸ ini_mk (st := si_Crossed) yl_2 yc_2 yx_2 rfl ys_2 ye_2 xt_2 xk_2 yi_2 yt_2 (fun f hf => by simp only [List.mem_cons, List.not_mem_nil, or_false] at hf; rcases hf with rfl | rfl <;> assumption) ⟨PySem.W.mg_of X G1 xa_0, xpg, xpr, xpf⟩ sci_Crossed rfl cki_Crossed fun us hl => match us, hl with | [_, _, _], _ => rfl⟩
    · exact ⟨X3, PySem.W.mg_of X G1 xa_3, ⟨Y3, xc_3, xn_3, by rw [xm_3, if_neg (by decide +kernel)]; rfl⟩, xt_3, xh_3, xg_3, xe_3, xl_3, xk_3, fun h => absurd h (by decide +kernel), fun _ => xx_3, fun h => absurd h (by decide +kernel)⟩
    · exact ⟨X4, PySem.W.mg_of X G1 xa_4, ⟨Y4, xc_4, xn_4, by rw [xm_4, if_neg (by decide +kernel)]; rfl⟩, xt_4, xh_4, xg_4, xe_4, xl_4, xk_4, fun h => absurd h (by decide +kernel), fun _ => xx_4, fun h => absurd h (by decide +kernel)⟩
    · exact ⟨X5, PySem.W.mg_of X G1 xa_5, ⟨Y5, xc_5, xn_5, by rw [xm_5, if_neg (by decide +kernel)]; rfl⟩, xt_5, xh_5, xg_5, xe_5, xl_5, xk_5, fun h => absurd h (by decide +kernel), fun _ => xx_5, fun h => absurd h (by decide +kernel)⟩
    · exact ⟨X6, PySem.W.mg_of X G1 xa_6, ⟨Y6, xc_6, xn_6, by rw [xm_6, if_neg (by decide +kernel)]; rfl⟩, xt_6, xh_6, xg_6, xe_6, xl_6, xk_6, fun h => absurd h (by decide +kernel), fun _ => xx_6, fun h => absurd h (by decide +kernel)⟩
    · exact ⟨X7, PySem.W.mg_of X G1 xa_7, ⟨Y7, xc_7, xn_7, by rw [xm_7, if_neg (by decide +kernel)]; rfl⟩, xt_7, xh_7, xg_7, xe_7, xl_7, xk_7, fun _ => ⟨xf0_7, xf1_7, xf2_7⟩, fun h => absurd h (by decide +kernel), fun _ => (show excFs "Parted" = (["label"] : List Str) by decide +kernel) ▸ ini_mk (st := si_Parted) yl_7 yc_7 yx_7 rfl ys_7 ye_7 xt_7 xk_7 yi_7 yt_7 (fun f hf => by simp only [List.mem_cons, List.not_mem_nil, or_false] at hf; rcases hf with rfl <;> assumption) ⟨PySem.W.mg_of X G1 xa_0, xpg, xpr, xpf⟩ sci_Parted rfl cki_Parted fun us hl => match us, hl with | [_, _], _ => rfl⟩
    · exact ⟨X8, PySem.W.mg_of X G1 xa_8, ⟨Y8, xc_8, xn_8, by rw [xm_8, if_neg (by decide +kernel)]; rfl⟩, xt_8, xh_8, xg_8, xe_8, xl_8, xk_8, fun h => absurd h (by decide +kernel), fun _ => xx_8, fun h => absurd h (by decide +kernel)⟩
    · exact ⟨X9, PySem.W.mg_of X G1 xa_9, ⟨Y9, xc_9, xn_9, by rw [xm_9, if_neg (by decide +kernel)]; rfl⟩, xt_9, xh_9, xg_9, xe_9, xl_9, xk_9, fun h => absurd h (by decide +kernel), fun _ => xx_9, fun h => absurd h (by decide +kernel)⟩
    · exact ⟨X10, PySem.W.mg_of X G1 xa_10, ⟨Y10, xc_10, xn_10, by rw [xm_10, if_neg (by decide +kernel)]; rfl⟩, xt_10, xh_10, xg_10, xe_10, xl_10, xk_10, fun h => absurd h (by decide +kernel), fun _ => xx_10, fun h => absurd h (by decide +kernel)⟩
    · exact ⟨X11, PySem.W.mg_of X G1 xa_11, ⟨Y11, xc_11, xn_11, by rw [xm_11, if_neg (by decide +kernel)]; rfl⟩, xt_11, xh_11, xg_11, xe_11, xl_11, xk_11, fun h => absurd h (by decide +kernel), fun _ => xx_11, fun h => absurd h (by decide +kernel)⟩
    · exact ⟨X12, PySem.W.mg_of X G1 xa_12, ⟨Y12, xc_12, xn_12, by rw [xm_12, if_neg (by decide +kernel)]; rfl⟩, xt_12, xh_12, xg_12, xe_12, xl_12, xk_12, fun h => absurd h (by decide +kernel), fun _ => xx_12, fun h => absurd h (by decide +kernel)⟩
    · exact ⟨X13, PySem.W.mg_of X G1 xa_13, ⟨Y13, xc_13, xn_13, by rw [xm_13, if_neg (by decide +kernel)]; rfl⟩, xt_13, xh_13, xg_13, xe_13, xl_13, xk_13, fun h => absurd h (by decide +kernel), fun _ => xx_13, fun h => absurd h (by decide +kernel)⟩
    · exact ⟨X14, PySem.W.mg_of X G1 xa_14, ⟨Y14, xc_14, xn_14, by rw [xm_14, if_neg (by decide +kernel)]; rfl⟩, xt_14, xh_14, xg_14, xe_14, xl_14, xk_14, fun h => absurd h (by decide +kernel), fun _ => xx_14, fun h => absurd h (by decide +kernel)⟩
    ⟩
  refine ⟨PySem.W.fnOf "law" "law" (defArgs ss_law) (defBody ss_law) (defScope ss_law) .none kV18 dc18 pm18 an18 cd18 ct18, fun s v => .of_eq rfl, ?_, fun base _ _ TB => ?_⟩
  · rintro ⟨c1, c2⟩ hc
    obtain ⟨y, hy, e⟩ := tabs_mem hc
    have hy : y ∈ (["law"] : List Str) := hy
    simp only [List.mem_cons, List.not_mem_nil, or_false] at hy
    subst hy
    · rw [ta18] at e; have e := (Prod.mk.inj (Option.some.inj e)).2; rw [← e]; exact tq18
  have LM : ∀ kk N vs ck, tb.lam[kk]? = some (N, vs, ck) → LamOk tb G kk N vs ck := by
    intro kk N vs ck h
    match kk, h with
    | 0, h => have h : some (ns_law, ([4, 5, 8] : List Nat), fun sc e => chkE (tbV tb0 false false) irlam_0 ns_law sc e) = some (N, vs, ck) := h; cases h; exact ⟨irlam_0, sc_law.nd, fun _ _ h => h, ob_lam0⟩
    | n + 1, h => exact absurd (show (none : Option LForm) = some (N, vs, ck) from h) nofun
  exact law_fin (mk := true) ⟨hbl, hex, hgi, hgs, by decide⟩ TB DF LM G0 F18 sc_law (fun _ => mk18) ck_law ob_law law_start
end
theorem walk {l : PySem.W.OpenLaw} {q : Program} {loose : List Str} {XP : (Str → Option Value) → Heap → Prop} {YP : World → Heap → Prop} {d : DefRec} {K : Params → PySem.W.Frag} (hn : l.most = some 63) (hdf : d.params.defaults = [])
    (hY : ∀ (w : World) (h : Heap), YP w h → (K w.params).In h)
    (hrec : ∀ y ∈ lamNames, ∃ e, (PyProof.Rows.recsOf q).find? (fun e => e.name == y) = some e)
    (F : ∀ (w : World) (mg : Str → Option Value) (fa : Addr) (h : Heap), (K w.params).In h → h.Ns mainGlobals mg → mg d.name = some (.ref fa) →
      ∃ fd : FuncData, (∀ (s : Shared) (u : Value), BindsTo s fd ⟨[u], []⟩ [("_law_script", u)]) ∧ (∀ c ∈ tabs (K w.params), (K w.params).lookup c.2 = none) ∧ ∀ base : Heap, (K w.params).In base → base.Ns mainGlobals mg → TabBs (K w.params) mg base → FnG l.prog w (K w.params) mg base 62 fa fd ["_law_script"] (spLaw (K w.params))) :
    PySem.W.WalkO q loose XP YP l.row.toRowW d [] (fun f vs => PySem.call f vs) :=
  walk_deep (k := 62) (x := "_law_script") hn hdf ⟨rfl, by decide, by decide⟩ hY hrec F
end LK
open PySem PySem.W PyProof.Rows
set_option maxRecDepth 100000 in
set_option maxHeartbeats 0 in
theorem PySem.Challenge.cw_signsback_k41_places_lead_holds : PySem.Challenge.rw_signsback_k41_places_lead.Holds := by
  w_on; o_law; k_head; (case hw => w_witness2)
  k_fill
  refine LK.walk (l := PySem.Challenge.rw_signsback_k41_places_lead) rfl rfl (fun w h Y => by first | exact PySem.W.kIn_of Y | exact PySem.W.km_in_of Y) ?R ?F
  case R =>
    intro y hy
    have hy : y ∈ (["law"] : List Str) := hy
    simp only [List.mem_cons, List.not_mem_nil, or_false] at hy
    rcases hy with rfl <;> exact ⟨_, rfl⟩
  case F =>
    intro w mg fa h KX G hmg
    refine' LK.all_mk KX G hmg ?a0 ?l0 ?c0 ?k0 ?a1 ?l1 ?c1 ?k1 ?a2 ?l2 ?c2 ?k2 ?a3 ?l3 ?c3 ?k3 ?a4 ?l4 ?c4 ?k4 ?a5 ?l5 ?c5 ?k5 ?a6 ?l6 ?c6 ?k6 ?a7 ?l7 ?c7 ?k7 ?a8 ?l8 ?c8 ?k8 ?a9 ?l9 ?c9 ?k9 ?a10 ?l10 ?c10 ?k10 ?a11 ?l11 ?c11 ?k11 ?a12 ?l12 ?c12 ?k12 ?a13 ?l13 ?c13 ?k13 ?a14 ?l14 ?c14 ?k14 ?a15 ?l15 ?c15 ?k15 ?a16 ?l16 ?c16 ?k16 ?a17 ?l17 ?c17 ?k17 ?a18 ?l18 ?c18 ?k18 ?tc18 ?tl18 ?tv18 ?tq18 ?z0 ?z1 ?z2 ?z3 ?z4 ?z5 ?z6 ?z7 ?z8 ?z9 ?z10 ?r0 ?xa_0 ?xc_0 ?xn_0 ?xm_0 ?xt_0 ?xh_0 ?xg_0 ?xe_0 ?xl_0 ?xk_0 ?xx_0 ?xa_1 ?xc_1 ?xn_1 ?xm_1 ?xt_1 ?xh_1 ?xg_1 ?xe_1 ?xl_1 ?xk_1 ?xx_1 ?xa_2 ?xc_2 ?xn_2 ?xm_2 ?xt_2 ?xh_2 ?xg_2 ?xe_2 ?xl_2 ?xk_2 ?xf0_2 ?xf1_2 ?xf2_2 ?xa_3 ?xc_3 ?xn_3 ?xm_3 ?xt_3 ?xh_3 ?xg_3 ?xe_3 ?xl_3 ?xk_3 ?xx_3 ?xa_4 ?xc_4 ?xn_4 ?xm_4 ?xt_4 ?xh_4 ?xg_4 ?xe_4 ?xl_4 ?xk_4 ?xx_4 ?xa_5 ?xc_5 ?xn_5 ?xm_5 ?xt_5 ?xh_5 ?xg_5 ?xe_5 ?xl_5 ?xk_5 ?xx_5 ?xa_6 ?xc_6 ?xn_6 ?xm_6 ?xt_6 ?xh_6 ?xg_6 ?xe_6 ?xl_6 ?xk_6 ?xx_6 ?xa_7 ?xc_7 ?xn_7 ?xm_7 ?xt_7 ?xh_7 ?xg_7 ?xe_7 ?xl_7 ?xk_7 ?xf0_7 ?xf1_7 ?xf2_7 ?xa_8 ?xc_8 ?xn_8 ?xm_8 ?xt_8 ?xh_8 ?xg_8 ?xe_8 ?xl_8 ?xk_8 ?xx_8 ?xa_9 ?xc_9 ?xn_9 ?xm_9 ?xt_9 ?xh_9 ?xg_9 ?xe_9 ?xl_9 ?xk_9 ?xx_9 ?xa_10 ?xc_10 ?xn_10 ?xm_10 ?xt_10 ?xh_10 ?xg_10 ?xe_10 ?xl_10 ?xk_10 ?xx_10 ?xa_11 ?xc_11 ?xn_11 ?xm_11 ?xt_11 ?xh_11 ?xg_11 ?xe_11 ?xl_11 ?xk_11 ?xx_11 ?xa_12 ?xc_12 ?xn_12 ?xm_12 ?xt_12 ?xh_12 ?xg_12 ?xe_12 ?xl_12 ?xk_12 ?xx_12 ?xa_13 ?xc_13 ?xn_13 ?xm_13 ?xt_13 ?xh_13 ?xg_13 ?xe_13 ?xl_13 ?xk_13 ?xx_13 ?xa_14 ?xc_14 ?xn_14 ?xm_14 ?xt_14 ?xh_14 ?xg_14 ?xe_14 ?xl_14 ?xk_14 ?xx_14 ?yi_2 ?yl_2 ?yc_2 ?yx_2 ?ys_2 ?ye_2 ?yt_2 ?yi_7 ?yl_7 ?yc_7 ?yx_7 ?ys_7 ?ye_7 ?yt_7 ?xpg ?xpr ?xpf ?xsp ?xtk
    (case a0 => k_is)
    (case l0 => k_is)
    (case c0 => k_is)
    (case k0 => k_is)
    (case a1 => k_is)
    (case l1 => k_is)
    (case c1 => k_is)
    (case k1 => k_is)
    (case a2 => k_is)
    (case l2 => k_is)
    (case c2 => k_is)
    (case k2 => k_is)
    (case a3 => k_is)
    (case l3 => k_is)
    (case c3 => k_is)
    (case k3 => k_is)
    (case a4 => k_is)
    (case l4 => k_is)
    (case c4 => k_is)
    (case k4 => k_is)
    (case a5 => k_is)
    (case l5 => k_is)
    (case c5 => k_is)
    (case k5 => k_is)
    (case a6 => k_is)
    (case l6 => k_is)
    (case c6 => k_is)
    (case k6 => k_is)
    (case a7 => k_is)
    (case l7 => k_is)
    (case c7 => k_is)
    (case k7 => k_is)
    (case a8 => k_is)
    (case l8 => k_is)
    (case c8 => k_is)
    (case k8 => k_is)
    (case a9 => k_is)
    (case l9 => k_is)
    (case c9 => k_is)
    (case k9 => k_is)
    (case a10 => k_is)
    (case l10 => k_is)
    (case c10 => k_is)
    (case k10 => k_is)
    (case a11 => k_is)
    (case l11 => k_is)
    (case c11 => k_is)
    (case k11 => k_is)
    (case a12 => k_is)
    (case l12 => k_is)
    (case c12 => k_is)
    (case k12 => k_is)
    (case a13 => k_is)
    (case l13 => k_is)
    (case c13 => k_is)
    (case k13 => k_is)
    (case a14 => k_is)
    (case l14 => k_is)
    (case c14 => k_is)
    (case k14 => k_is)
    (case a15 => k_is)
    (case l15 => k_is)
    (case c15 => k_is)
    (case k15 => k_is)
    (case a16 => k_is)
    (case l16 => k_is)
    (case c16 => k_is)
    (case k16 => k_is)
    (case a17 => k_is)
    (case l17 => k_is)
    (case c17 => k_is)
    (case k17 => k_is)
    (case a18 => k_is)
    (case l18 => k_is)
    (case c18 => k_is)
    (case k18 => k_is)
    (case tc18 => rfl)
    (case tl18 => k_is)
    (case tv18 => rfl)
    (case tq18 => first | kernel_rfl | exact rfl)
    (case z0 => k_is)
    (case z1 => k_is)
    (case z2 => k_is)
    (case z3 => k_is)
    (case z4 => k_is)
    (case z5 => k_is)
    (case z6 => k_is)
    (case z7 => k_is)
    (case z8 => k_is)
    (case z9 => k_is)
    (case z10 => k_is)
    (case r0 => k_is)
    (case xa_0 => k_is)
    (case xc_0 => k_is)
    (case xn_0 => rfl)
    (case xm_0 => rfl)
    (case xt_0 => k_is)
    (case xh_0 => k_is)
    (case xg_0 => k_is)
    (case xe_0 => k_is)
    (case xl_0 => k_is)
    (case xk_0 => k_is)
    (case xx_0 => k_exc)
    (case xa_1 => k_is)
    (case xc_1 => k_is)
    (case xn_1 => rfl)
    (case xm_1 => rfl)
    (case xt_1 => k_is)
    (case xh_1 => k_is)
    (case xg_1 => k_is)
    (case xe_1 => k_is)
    (case xl_1 => k_is)
    (case xk_1 => k_is)
    (case xx_1 => k_exc)
    (case xa_2 => k_is)
    (case xc_2 => k_is)
    (case xn_2 => rfl)
    (case xm_2 => rfl)
    (case xt_2 => k_is)
    (case xh_2 => k_is)
    (case xg_2 => k_is)
    (case xe_2 => k_is)
    (case xl_2 => k_is)
    (case xk_2 => k_is)
    (case xf0_2 => k_is)
    (case xf1_2 => k_is)
    (case xf2_2 => k_is)
    (case xa_3 => k_is)
    (case xc_3 => k_is)
    (case xn_3 => rfl)
    (case xm_3 => rfl)
    (case xt_3 => k_is)
    (case xh_3 => k_is)
    (case xg_3 => k_is)
    (case xe_3 => k_is)
    (case xl_3 => k_is)
    (case xk_3 => k_is)
    (case xx_3 => k_exc)
    (case xa_4 => k_is)
    (case xc_4 => k_is)
    (case xn_4 => rfl)
    (case xm_4 => rfl)
    (case xt_4 => k_is)
    (case xh_4 => k_is)
    (case xg_4 => k_is)
    (case xe_4 => k_is)
    (case xl_4 => k_is)
    (case xk_4 => k_is)
    (case xx_4 => k_exc)
    (case xa_5 => k_is)
    (case xc_5 => k_is)
    (case xn_5 => rfl)
    (case xm_5 => rfl)
    (case xt_5 => k_is)
    (case xh_5 => k_is)
    (case xg_5 => k_is)
    (case xe_5 => k_is)
    (case xl_5 => k_is)
    (case xk_5 => k_is)
    (case xx_5 => k_exc)
    (case xa_6 => k_is)
    (case xc_6 => k_is)
    (case xn_6 => rfl)
    (case xm_6 => rfl)
    (case xt_6 => k_is)
    (case xh_6 => k_is)
    (case xg_6 => k_is)
    (case xe_6 => k_is)
    (case xl_6 => k_is)
    (case xk_6 => k_is)
    (case xx_6 => k_exc)
    (case xa_7 => k_is)
    (case xc_7 => k_is)
    (case xn_7 => rfl)
    (case xm_7 => rfl)
    (case xt_7 => k_is)
    (case xh_7 => k_is)
    (case xg_7 => k_is)
    (case xe_7 => k_is)
    (case xl_7 => k_is)
    (case xk_7 => k_is)
    (case xf0_7 => k_is)
    (case xf1_7 => k_is)
    (case xf2_7 => k_is)
    (case xa_8 => k_is)
    (case xc_8 => k_is)
    (case xn_8 => rfl)
    (case xm_8 => rfl)
    (case xt_8 => k_is)
    (case xh_8 => k_is)
    (case xg_8 => k_is)
    (case xe_8 => k_is)
    (case xl_8 => k_is)
    (case xk_8 => k_is)
    (case xx_8 => k_exc)
    (case xa_9 => k_is)
    (case xc_9 => k_is)
    (case xn_9 => rfl)
    (case xm_9 => rfl)
    (case xt_9 => k_is)
    (case xh_9 => k_is)
    (case xg_9 => k_is)
    (case xe_9 => k_is)
    (case xl_9 => k_is)
    (case xk_9 => k_is)
    (case xx_9 => k_exc)
    (case xa_10 => k_is)
    (case xc_10 => k_is)
    (case xn_10 => rfl)
    (case xm_10 => rfl)
    (case xt_10 => k_is)
    (case xh_10 => k_is)
    (case xg_10 => k_is)
    (case xe_10 => k_is)
    (case xl_10 => k_is)
    (case xk_10 => k_is)
    (case xx_10 => k_exc)
    (case xa_11 => k_is)
    (case xc_11 => k_is)
    (case xn_11 => rfl)
    (case xm_11 => rfl)
    (case xt_11 => k_is)
    (case xh_11 => k_is)
    (case xg_11 => k_is)
    (case xe_11 => k_is)
    (case xl_11 => k_is)
    (case xk_11 => k_is)
    (case xx_11 => k_exc)
    (case xa_12 => k_is)
    (case xc_12 => k_is)
    (case xn_12 => rfl)
    (case xm_12 => rfl)
    (case xt_12 => k_is)
    (case xh_12 => k_is)
    (case xg_12 => k_is)
    (case xe_12 => k_is)
    (case xl_12 => k_is)
    (case xk_12 => k_is)
    (case xx_12 => k_exc)
    (case xa_13 => k_is)
    (case xc_13 => k_is)
    (case xn_13 => rfl)
    (case xm_13 => rfl)
    (case xt_13 => k_is)
    (case xh_13 => k_is)
    (case xg_13 => k_is)
    (case xe_13 => k_is)
    (case xl_13 => k_is)
    (case xk_13 => k_is)
    (case xx_13 => k_exc)
    (case xa_14 => k_is)
    (case xc_14 => k_is)
    (case xn_14 => rfl)
    (case xm_14 => rfl)
    (case xt_14 => k_is)
    (case xh_14 => k_is)
    (case xg_14 => k_is)
    (case xe_14 => k_is)
    (case xl_14 => k_is)
    (case xk_14 => k_is)
    (case xx_14 => k_exc)
    (case yi_2 => k_is)
    (case yl_2 => k_is)
    (case yc_2 => k_is)
    (case yx_2 => k_is)
    (case ys_2 => k_is)
    (case ye_2 => k_is)
    (case yt_2 => k_is)
    (case yi_7 => k_is)
    (case yl_7 => k_is)
    (case yc_7 => k_is)
    (case yx_7 => k_is)
    (case ys_7 => k_is)
    (case ye_7 => k_is)
    (case yt_7 => k_is)
    (case xpg => k_is)
    (case xpr => k_is)
    (case xpf => k_is)
    (case xsp => k_is)
    (case xtk => k_is)

