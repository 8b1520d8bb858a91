import PyProof.Rows.All
import Wide.All
import OpenK.AllK
import Wide.FinOn
import HandS.ForMost
import HandS.ForExc
import HandS.Lambda
import HandS.ExcInit
import HandS.ExcValue
import HandS.Wide
import HandS.WideBits
import HandS.TupAny
import HandS.Flow
import HandS.IsInst
import HandS.Style
import HandS.Walk
import HandS.Iter
import HandS.Zip
import HandS.Comp
import HandS.Text
import HandS.Deep
import HandS.More
import HandS.NoneIn
import KE.KOpsOwn
import OpenK.KMeth
import HandS.SlotsOwn
import HandS.DictTup
import HandS.Conv
import HandS.ListItems
import KE.KSortTupG
import KE.KDictSum
import HandS.SortInts
import HandS.Ends
import KE.KNestM
import KE.KLam
import KE.KDictDisplayH
import HandS.TryMany
import HandS.ExcField
import PyProof.Rows.NestShow
import HandS.TupMul
import PyProof.Draws
import PyProof.EnumMake
import HandS.Defaults
import HandS.ExcIs
import KE.IntTextLaws
import PyProof.Rows.Digits
import KE.KIntText
import HandS.Codes
import OpenK.KOwn
import PyProof.TupleOfStr
import PyProof.NeKinds
import PySem.Challenge.RW_allscales_k90_whole_coprime_bases
import KE.RegKTryMore
import KE.RegKIsAll
section DlA
set_option Elab.async false
set_option linter.all false
set_option maxRecDepth 100000
set_option maxHeartbeats 4000000
/-! DlA: the data level: plain data D, how it lies in the abstract heap, what a frame holds (slots), and the two lifts. -/
namespace DL
open PySem PySem.Spec PyProof.Rows L2

/-- plain data -/
inductive D where
  | non | bl (b : Bool) | int (i : Int) | str (x : Str) | ref (a : Addr) | ty (n : String)
  | tup (xs : List D) | lst (xs : List D)
  /-- a list that is not the law's own: the script, a list of the module -/
  | fix (xs : List D)
  | dk (ks : List Key) (vs : List D) | dt (ks : List (List Key)) (vs : List D)
  | ins (C : Addr) (ns : List Str) (vs : List D)
  /-- a caught exception at a, its fields at dd -/
  | xn (a dd C : Addr) (ns : List Str) (vs : List D)
  /-- an exception that is a value, with its fields -/
  | xo (C : Addr) (ns : List Str) (vs : List D)
  /-- a made function, with what it captured -/
  | cap (f c : Addr) (q : Str) (us : List V) (vs : List D)
  deriving Inhabited

/-- whose an address is: data that never changes again, somebody else's, a result in the air, a slot's own -/
inductive Tag where
  | fz | off | tmp | sl (i : Nat)
abbrev TM := Addr → Option Tag

/-- the empty abstract heap -/
def H0 : Hp := fun _ => none

def FixF (K : PySem.W.Frag) (T : TM) (H : Hp) (a : Addr) (xs : List V) : Prop :=
  (T a = some .fz ∧ ∃ o, H a = some (.frz o (.lst xs))) ∨ SqL K H0 a xs
def TupF (T : TM) (H : Hp) (a : Addr) (xs : List V) : Prop := T a = some .fz ∧ H a = some (.tup xs)

mutual
def RepV (K : PySem.W.Frag) (T : TM) (H : Hp) : D → V → Prop
  | .non, v => v = .non
  | .bl b, v => v = .bl b
  | .int i, v => v = .int i
  | .str x, v => v = .str x
  | .ref a, v => v = .ref a
  | .ty n, v => v = .ty n
  | .tup ds, v => ∃ a xs, v = .ref a ∧ TupF T H a xs ∧ RepL K T H ds xs
  | .lst ds, v => ∃ a xs, v = .ref a ∧ T a = some .fz ∧ H a = some (.lst xs) ∧ RepL K T H ds xs
  | .fix ds, v => ∃ a xs, v = .ref a ∧ FixF K T H a xs ∧ RepL K T H ds xs
  | .dk ks ds, v => ∃ a kvs, v = .ref a ∧ T a = some .fz ∧ Rd H a (.dK kvs) ∧ kvs.map (·.1) = ks ∧ RepL K T H ds (kvs.map (·.2))
  | .dt ks ds, v => ∃ a kvs, v = .ref a ∧ T a = some .fz ∧ Rd H a (.dT kvs) ∧ kvs.map (·.1) = ks ∧ RepL K T H ds (kvs.map (·.2))
  | .ins C ns ds, v => ∃ a dx fs, v = .ref a ∧ T a = some .fz ∧ H a = some (.ins C dx fs) ∧ fs.map (·.1) = ns ∧ RepL K T H ds (fs.map (·.2))
  | .xn a dd _ ns ds, v => v = .ref a ∧ T dd = some .fz ∧ ∃ fs, H dd = some (.xd fs) ∧ fs.map (·.1) = ns ∧ RepL K T H ds (fs.map (·.2))
  | .xo C ns ds, v => ∃ a, v = .ref a ∧ T a = some .fz ∧ ((ns = [] ∧ ds = [] ∧ H a = some (ExO (.ref C) a)) ∨ ∃ d fs, H a = some (exo a C (some d)) ∧ T d = some .fz ∧ H d = some (exd d fs) ∧ fs.map (·.1) = ns ∧ RepL K T H ds (fs.map (·.2)))
  | .cap f c q us ds, v => v = .ref f ∧ T c = some .fz ∧ H c = some (LamX.CodeO c q) ∧ RepL K T H ds us
def RepL (K : PySem.W.Frag) (T : TM) (H : Hp) : List D → List V → Prop
  | [], xs => xs = []
  | d :: ds, xs => ∃ x r, xs = x :: r ∧ RepV K T H d x ∧ RepL K T H ds r
end

/-- a mutable object -/
inductive Ob where
  | lst (xs : List D) | dk (kvs : List (Key × D)) | dt (kvs : List (List Key × D)) | ins (C : Addr) (fs : List (Str × D))
  deriving Inhabited
def Ob.toD : Ob → D
  | .lst xs => .lst xs
  | .dk kvs => .dk (kvs.map (·.1)) (kvs.map (·.2))
  | .dt kvs => .dt (kvs.map (·.1)) (kvs.map (·.2))
  | .ins C fs => .ins C (fs.map (·.1)) (fs.map (·.2))
def RepO (K : PySem.W.Frag) (T : TM) (H : Hp) : Ob → Addr → Prop
  | .lst ds, a => ∃ xs, H a = some (.lst xs) ∧ RepL K T H ds xs
  | .dk kvs, a => ∃ ys, H a = some (.dK ys) ∧ ys.map (·.1) = kvs.map (·.1) ∧ RepL K T H (kvs.map (·.2)) (ys.map (·.2))
  | .dt kvs, a => ∃ ys, H a = some (.dT ys) ∧ ys.map (·.1) = kvs.map (·.1) ∧ RepL K T H (kvs.map (·.2)) (ys.map (·.2))
  | .ins C fs, a => ∃ dx ys, H a = some (.ins C dx ys) ∧ ys.map (·.1) = fs.map (·.1) ∧ RepL K T H (fs.map (·.2)) (ys.map (·.2))

/-- an exception by its class and fields -/
structure Exn where
  cls : Value
  fs : List (Str × D)
def RepX (K : PySem.W.Frag) (T : TM) (H : Hp) (e : Exn) (cls : Value) (d : Option Addr) : Prop :=
  cls = e.cls ∧ match d with
    | none => e.fs = []
    | some dd => ∃ ys, T dd = some .fz ∧ H dd = some (.xd ys) ∧ ys.map (·.1) = e.fs.map (·.1) ∧ RepL K T H (e.fs.map (·.2)) (ys.map (·.2))

/-- a slot of a frame -/
inductive Sl where
  | un | val (d : D) | own (o : Ob) | bor (o : Ob) | bfz (d : D)
  deriving Inhabited
abbrev Ev := List Sl
/-- a result -/
inductive R where
  | val (d : D) | loc (i : Nat) | own (o : Ob)
  deriving Inhabited

/-- the tables of code objects that the law's lambdas fill, with their names -/
class TabEnv where
  ts : List (Addr × Str)
variable [TabEnv]
/-- the tables stand, untagged; what they tell is frozen -/
def TabOk (T : TM) (H : Hp) (p : Addr × Str) : Prop := T p.1 = none ∧ ∃ ps : Array Value, H p.1 = some (.tbl ps) ∧ TriplesOk ps.toList ∧ ∀ (pos : Pos) (cv : Value), codeAmong pos ps.toList = some cv → ∃ c, cv = .ref c ∧ T c = some .fz ∧ H c = some (LamX.CodeO c p.2)
def TabsOk (T : TM) (H : Hp) : Prop := ∀ p ∈ TabEnv.ts, TabOk T H p
/-- what is tagged stands; only frozen things are tuples -/
structure Good (T : TM) (H : Hp) : Prop where
  g : ∀ a t, T a = some t → H a ≠ none ∧ (t ≠ .fz → ∀ xs, H a ≠ some (.tup xs))
  tabs : TabsOk T H
instance {T : TM} {H : Hp} : CoeFun (Good T H) (fun _ => ∀ a t, T a = some t → H a ≠ none ∧ (t ≠ .fz → ∀ xs, H a ≠ some (.tup xs))) := ⟨Good.g⟩
/-- what stands: the frozen, the others', the results in the air -/
structure Fr (T : TM) (H : Hp) (T' : TM) (H' : Hp) : Prop where
  keep : ∀ a t, T a = some t → (∀ i, t ≠ .sl i) → T' a = some t ∧ H' a = H a
  noff : ∀ a, T' a = some .off → T a = some .off
  good : Good T' H'
theorem Fr.trans {T T1 T2 : TM} {H H1 H2 : Hp} (f : Fr T H T1 H1) (g : Fr T1 H1 T2 H2) : Fr T H T2 H2 := by
  refine ⟨fun a t e n => ?_, fun a e => f.noff a (g.noff a e), g.good⟩
  obtain ⟨e1, h1⟩ := f.keep a t e n
  obtain ⟨e2, h2⟩ := g.keep a t e1 n
  exact ⟨e2, h2.trans h1⟩
theorem Fr.fz {T T' : TM} {H H' : Hp} (f : Fr T H T' H') {a : Addr} (e : T a = some .fz) : T' a = some .fz ∧ H' a = H a := f.keep a _ e (fun _ h => nomatch h)
theorem Fr.tmp {T T' : TM} {H H' : Hp} (f : Fr T H T' H') {a : Addr} (e : T a = some .tmp) : T' a = some .tmp ∧ H' a = H a := f.keep a _ e (fun _ h => nomatch h)
theorem Fr.off {T T' : TM} {H H' : Hp} (f : Fr T H T' H') {a : Addr} (e : T a = some .off) : T' a = some .off ∧ H' a = H a := f.keep a _ e (fun _ h => nomatch h)

theorem Fr.refl {T : TM} {H : Hp} (g : Good T H) : Fr T H T H := ⟨fun _ _ e _ => ⟨e, rfl⟩, fun _ e => e, g⟩

section
variable {K : PySem.W.Frag} {T T' : TM} {H H' : Hp}
def isDict : HO → Bool
  | .dK _ => true
  | .dT _ => true
  | _ => false
/-- the same, but for the lock of a dict -/
def StayD (x y : Option HO) : Prop := y = x ∨ ∃ o u, isDict u = true ∧ ((x = some u ∧ y = some (.frz o u)) ∨ (x = some (.frz o u) ∧ y = some u))
theorem StayD.keep {x y : Option HO} {u : HO} (h : StayD x y) (e : x = some u) (n : isDict u = false) (n2 : ∀ o v, u = .frz o v → isDict v = false) : y = some u := by
  rcases h with h | ⟨o, v, d, ⟨h, _⟩ | ⟨h, _⟩⟩
  · exact h.trans e
  · rw [e] at h; cases h; rw [n] at d; cases d
  · rw [e] at h; cases h; rw [n2 o v rfl] at d; cases d
theorem StayD.rd {a : Addr} {u : HO} (h : StayD (H a) (H' a)) (d : isDict u = true) (r : Rd H a u) : Rd H' a u := by
  rcases h with h | ⟨o, v, dv, ⟨h, h2⟩ | ⟨h, h2⟩⟩
  · exact r.imp (fun z => h.trans z) fun ⟨o, z⟩ => ⟨o, h.trans z⟩
  · rcases r with r | ⟨o', r⟩
    · rw [h] at r; cases r; exact .inr ⟨o, h2⟩
    · rw [h] at r; cases r; cases dv
  · rcases r with r | ⟨o', r⟩
    · rw [h] at r; cases r; cases d
    · rw [h] at r; cases r; exact .inl h2
/-- the frozen part may grow, the frozen objects stand -/
def Le (T : TM) (H : Hp) (T' : TM) (H' : Hp) : Prop := ∀ a, T a = some .fz → T' a = some .fz ∧ StayD (H a) (H' a)
theorem Fr.le (f : Fr T H T' H') : Le T H T' H' := fun _ e => ⟨(f.fz e).1, .inl (f.fz e).2⟩
theorem Le.at {a : Addr} {u : HO} (f : Le T H T' H') (t : T a = some .fz) (e : H a = some u) (n : isDict u = false := by rfl) (n2 : ∀ o v, u = .frz o v → isDict v = false := by intro _ _ h; cases h) : H' a = some u := (f a t).2.keep e n n2
theorem FixF.mono {a : Addr} {xs : List V} (f : Le T H T' H') (h : FixF K T H a xs) : FixF K T' H' a xs := by
  rcases h with ⟨e, o, r⟩ | h
  · exact .inl ⟨(f a e).1, o, f.at e r rfl fun _ _ h => by cases h; rfl⟩
  · exact .inr h
theorem TupF.mono {a : Addr} {xs : List V} (f : Le T H T' H') (h : TupF T H a xs) : TupF T' H' a xs := ⟨(f a h.1).1, f.at h.1 h.2⟩
mutual
theorem RepV.mono (f : Le T H T' H') : ∀ (d : D) (v : V), RepV K T H d v → RepV K T' H' d v
  | .non, _, h => h
  | .bl _, _, h => h
  | .int _, _, h => h
  | .str _, _, h => h
  | .ref _, _, h => h
  | .ty _, _, h => h
  | .tup ds, v, h => by
    simp only [RepV] at h ⊢
    obtain ⟨a, xs, e, s, r⟩ := h
    exact ⟨a, xs, e, s.mono f, RepL.mono f ds xs r⟩
  | .lst ds, v, h => by
    simp only [RepV] at h ⊢
    obtain ⟨a, xs, e, t, s, r⟩ := h
    exact ⟨a, xs, e, (f a t).1, f.at t s, RepL.mono f ds xs r⟩
  | .fix ds, v, h => by
    simp only [RepV] at h ⊢
    obtain ⟨a, xs, e, s, r⟩ := h
    exact ⟨a, xs, e, s.mono f, RepL.mono f ds xs r⟩
  | .dk ks ds, v, h => by
    simp only [RepV] at h ⊢
    obtain ⟨a, kvs, e, t, s, k, r⟩ := h
    exact ⟨a, kvs, e, (f a t).1, (f a t).2.rd rfl s, k, RepL.mono f ds _ r⟩
  | .dt ks ds, v, h => by
    simp only [RepV] at h ⊢
    obtain ⟨a, kvs, e, t, s, k, r⟩ := h
    exact ⟨a, kvs, e, (f a t).1, (f a t).2.rd rfl s, k, RepL.mono f ds _ r⟩
  | .ins C ns ds, v, h => by
    simp only [RepV] at h ⊢
    obtain ⟨a, dx, fs, e, t, s, k, r⟩ := h
    exact ⟨a, dx, fs, e, (f a t).1, f.at t s, k, RepL.mono f ds _ r⟩
  | .xn a dd _ ns ds, v, h => by
    simp only [RepV] at h ⊢
    obtain ⟨e, t, fs, s, k, r⟩ := h
    exact ⟨e, (f dd t).1, fs, f.at t s, k, RepL.mono f ds _ r⟩
  | .xo C ns ds, v, h => by
    simp only [RepV] at h ⊢
    obtain ⟨a, e, t, h⟩ := h
    refine ⟨a, e, (f a t).1, ?_⟩
    rcases h with ⟨e1, e2, s⟩ | ⟨d, fs, s, t2, s2, k, r⟩
    · exact .inl ⟨e1, e2, f.at t s rfl fun o v z => by unfold ExO at z; cases z⟩
    · exact .inr ⟨d, fs, f.at t s rfl (fun o v z => by unfold exo at z; cases z), (f d t2).1, f.at t2 s2 rfl (fun o v z => by unfold exd at z; cases z), k, RepL.mono f ds _ r⟩
  | .cap g c q us ds, v, h => by
    simp only [RepV] at h ⊢
    obtain ⟨e, t, s, r⟩ := h
    exact ⟨e, (f c t).1, f.at t s rfl (fun o v z => by unfold LamX.CodeO at z; cases z), RepL.mono f ds us r⟩
theorem RepL.mono (f : Le T H T' H') : ∀ (ds : List D) (vs : List V), RepL K T H ds vs → RepL K T' H' ds vs
  | [], _, h => by simpa only [RepL] using h
  | d :: ds, _, h => by
    simp only [RepL] at h ⊢
    obtain ⟨x, r, e, h1, h2⟩ := h
    exact ⟨x, r, e, RepV.mono f d x h1, RepL.mono f ds r h2⟩
end
theorem RepO.mono (f : Le T H T' H') {o : Ob} {a : Addr} (e : H' a = H a) (h : RepO K T H o a) : RepO K T' H' o a := by
  cases o with
  | lst ds => obtain ⟨xs, q, r⟩ := h; exact ⟨xs, e.trans q, r.mono f⟩
  | dk kvs => obtain ⟨xs, q, k, r⟩ := h; exact ⟨xs, e.trans q, k, r.mono f⟩
  | dt kvs => obtain ⟨xs, q, k, r⟩ := h; exact ⟨xs, e.trans q, k, r.mono f⟩
  | ins C fs => obtain ⟨dx, xs, q, k, r⟩ := h; exact ⟨dx, xs, e.trans q, k, r.mono f⟩
theorem RepO.notup {o : Ob} {a : Addr} (h : RepO K T H o a) : ∀ xs, H a ≠ some (.tup xs) := by
  cases o with
  | lst ds => obtain ⟨xs, q, r⟩ := h; rw [q]; intro _ z; cases z
  | dk kvs => obtain ⟨xs, q, k, r⟩ := h; rw [q]; intro _ z; cases z
  | dt kvs => obtain ⟨xs, q, k, r⟩ := h; rw [q]; intro _ z; cases z
  | ins C fs => obtain ⟨dx, xs, q, k, r⟩ := h; rw [q]; intro _ z; cases z
theorem RepO.there {o : Ob} {a : Addr} (h : RepO K T H o a) : H a ≠ none := by
  cases o with
  | lst ds => obtain ⟨xs, q, r⟩ := h; rw [q]; simp
  | dk kvs => obtain ⟨xs, q, k, r⟩ := h; rw [q]; simp
  | dt kvs => obtain ⟨xs, q, k, r⟩ := h; rw [q]; simp
  | ins C fs => obtain ⟨dx, xs, q, k, r⟩ := h; rw [q]; simp
theorem RepX.mono (f : Le T H T' H') {e : Exn} {cls : Value} {d : Option Addr} (h : RepX K T H e cls d) : RepX K T' H' e cls d := by
  obtain ⟨e1, h⟩ := h
  refine ⟨e1, ?_⟩
  cases d with
  | none => exact h
  | some dd =>
    obtain ⟨ys, t, q, k, r⟩ := h
    exact ⟨ys, (f dd t).1, f.at t q, k, r.mono f⟩

/-! lists of data -/
theorem RepL.length : ∀ {ds : List D} {vs : List V}, RepL K T H ds vs → ds.length = vs.length
  | [], _, h => by simp only [RepL] at h; subst h; rfl
  | d :: ds, _, h => by
    simp only [RepL] at h
    obtain ⟨x, r, e, _, h2⟩ := h
    subst e
    simp [RepL.length h2]
theorem RepL.nil : RepL K T H [] [] := by simp [RepL]
theorem RepL.cons {d : D} {ds : List D} {v : V} {vs : List V} (h : RepV K T H d v) (h' : RepL K T H ds vs) : RepL K T H (d :: ds) (v :: vs) := by
  simp only [RepL]
  exact ⟨v, vs, rfl, h, h'⟩
theorem RepL.cons_inv {d : D} {ds : List D} {xs : List V} (h : RepL K T H (d :: ds) xs) : ∃ x r, xs = x :: r ∧ RepV K T H d x ∧ RepL K T H ds r := by
  simpa only [RepL] using h
theorem RepL.get : ∀ {ds : List D} {vs : List V} {i : Nat} {d : D}, RepL K T H ds vs → ds[i]? = some d → ∃ v, vs[i]? = some v ∧ RepV K T H d v
  | [], _, _, _, _, e => by simp at e
  | d :: ds, _, 0, d', h, e => by
    obtain ⟨x, r, rfl, h1, _⟩ := h.cons_inv
    simp at e; subst e
    exact ⟨x, rfl, h1⟩
  | d :: ds, _, i + 1, d', h, e => by
    obtain ⟨x, r, rfl, _, h2⟩ := h.cons_inv
    obtain ⟨v, e1, h3⟩ := RepL.get (i := i) h2 (by simpa using e)
    exact ⟨v, by simpa using e1, h3⟩
theorem RepL.append : ∀ {ds es : List D} {vs ws : List V}, RepL K T H ds vs → RepL K T H es ws → RepL K T H (ds ++ es) (vs ++ ws)
  | [], _, _, _, h, h' => by simp only [RepL] at h; subst h; exact h'
  | d :: ds, _, _, _, h, h' => by
    obtain ⟨x, r, rfl, h1, h2⟩ := h.cons_inv
    exact .cons h1 (RepL.append h2 h')
theorem RepL.set : ∀ {ds : List D} {vs : List V} {d : D} {v : V} (i : Nat), RepL K T H ds vs → RepV K T H d v → RepL K T H (ds.set i d) (vs.set i v)
  | [], _, _, _, _, h, _ => by simp only [RepL] at h; subst h; simpa using RepL.nil
  | d :: ds, _, d', v', 0, h, h' => by
    obtain ⟨x, r, rfl, h1, h2⟩ := h.cons_inv
    exact .cons h' h2
  | d :: ds, _, d', v', i + 1, h, h' => by
    obtain ⟨x, r, rfl, h1, h2⟩ := h.cons_inv
    exact .cons h1 (RepL.set i h2 h')
theorem RepL.drop : ∀ {ds : List D} {vs : List V} (i : Nat), RepL K T H ds vs → RepL K T H (ds.drop i) (vs.drop i)
  | _, _, 0, h => h
  | [], _, _ + 1, h => by simp only [RepL] at h; subst h; exact .nil
  | d :: ds, _, i + 1, h => by
    obtain ⟨x, r, rfl, h1, h2⟩ := h.cons_inv
    exact RepL.drop i h2
theorem RepL.take : ∀ {ds : List D} {vs : List V} (i : Nat), RepL K T H ds vs → RepL K T H (ds.take i) (vs.take i)
  | _, _, 0, h => by simpa using RepL.nil
  | [], _, _ + 1, h => by simp only [RepL] at h; subst h; simpa using RepL.nil
  | d :: ds, _, i + 1, h => by
    obtain ⟨x, r, rfl, h1, h2⟩ := h.cons_inv
    exact .cons h1 (RepL.take i h2)

/-! freezing an object -/
theorem RepO.frozen {o : Ob} {a : Addr} (h : RepO K T H o a) (e : T a = some .fz) : RepV K T H o.toD (.ref a) := by
  cases o with
  | lst ds => obtain ⟨xs, q, r⟩ := h; simp only [Ob.toD, RepV]; exact ⟨a, xs, rfl, e, q, r⟩
  | dk kvs => obtain ⟨xs, q, k, r⟩ := h; simp only [Ob.toD, RepV]; exact ⟨a, xs, rfl, e, .inl q, k, r⟩
  | dt kvs => obtain ⟨xs, q, k, r⟩ := h; simp only [Ob.toD, RepV]; exact ⟨a, xs, rfl, e, .inl q, k, r⟩
  | ins C fs => obtain ⟨dx, xs, q, k, r⟩ := h; simp only [Ob.toD, RepV]; exact ⟨a, dx, xs, rfl, e, q, k, r⟩
end

/-- the tags with one more -/
def tag (T : TM) (a : Addr) (t : Option Tag) : TM := fun b => if b = a then t else T b
theorem tag_same {T : TM} {a : Addr} {t : Option Tag} : tag T a t a = t := if_pos rfl
theorem tag_ne {T : TM} {a b : Addr} {t : Option Tag} (h : b ≠ a) : tag T a t b = T b := if_neg h
section
variable {T T' : TM} {H H' : Hp}
theorem TabsOk.move (t : TabsOk T H) (h1 : ∀ a ps, T a = none → H a = some (.tbl ps) → T' a = none ∧ H' a = H a) (le : Le T H T' H') : TabsOk T' H' := fun p hp => by
  obtain ⟨e1, ps, e2, e3, e4⟩ := t p hp
  obtain ⟨f1, f2⟩ := h1 _ _ e1 e2
  refine ⟨f1, ps, f2.trans e2, e3, fun pos cv hc => ?_⟩
  obtain ⟨c, c1, c2, c3⟩ := e4 pos cv hc
  refine ⟨c, c1, (le c c2).1, le.at c2 c3 rfl fun o v z => ?_⟩
  unfold LamX.CodeO at z
  cases z
/-- another tag for what is tagged -/
theorem TabsOk.tag {a : Addr} {u : Tag} {x : Option Tag} (t : TabsOk T H) (h : T a = some u) (hu : u ≠ .fz) : TabsOk (tag T a x) H := by
  refine t.move (fun b ps e1 e2 => ?_) fun b e => ?_
  · have hb : b ≠ a := fun z => by rw [z, h] at e1; cases e1
    exact ⟨by rw [tag_ne hb]; exact e1, rfl⟩
  · have hb : b ≠ a := fun z => by rw [z, h] at e; cases e; exact hu rfl
    exact ⟨by rw [tag_ne hb]; exact e, .inl rfl⟩
/-- what is tagged is written -/
theorem TabsOk.put {a : Addr} {u : Tag} {o : HO} (t : TabsOk T H) (h : T a = some u) (hu : u ≠ .fz) : TabsOk T (upd H a o) := by
  refine t.move (fun b ps e1 e2 => ?_) fun b e => ?_
  · have hb : b ≠ a := fun z => by rw [z, h] at e1; cases e1
    exact ⟨e1, upd_ne hb⟩
  · have hb : b ≠ a := fun z => by rw [z, h] at e; cases e; exact hu rfl
    exact ⟨e, .inl (upd_ne hb)⟩
/-- a frozen thing is locked, unlocked -/
theorem TabsOk.putF {a : Addr} {o : HO} (t : TabsOk T H) (h : T a = some .fz) (le : Le T H T (upd H a o)) : TabsOk T (upd H a o) :=
  t.move (fun b ps e1 e2 => ⟨e1, upd_ne fun z => by rw [z, h] at e1; cases e1⟩) le
end

/-- a value as it may be read now -/
def View (K : PySem.W.Frag) (T : TM) (H : Hp) : D → V → Prop
  | .lst ds, v => ∃ a xs, v = .ref a ∧ H a = some (.lst xs) ∧ RepL K T H ds xs
  | .dk ks ds, v => ∃ a kvs, v = .ref a ∧ Rd H a (.dK kvs) ∧ kvs.map (·.1) = ks ∧ RepL K T H ds (kvs.map (·.2))
  | .dt ks ds, v => ∃ a kvs, v = .ref a ∧ Rd H a (.dT kvs) ∧ kvs.map (·.1) = ks ∧ RepL K T H ds (kvs.map (·.2))
  | .ins C ns ds, v => ∃ a dx fs, v = .ref a ∧ H a = some (.ins C dx fs) ∧ fs.map (·.1) = ns ∧ RepL K T H ds (fs.map (·.2))
  | d, v => RepV K T H d v
section
variable {K : PySem.W.Frag} {T T' : TM} {H H' : Hp}
theorem SqL.of0 {a : Addr} {xs : List V} (h : SqL K H0 a xs) : SqL K H a xs := by
  rcases h with (h | ⟨o, h⟩) | h
  · exact nomatch (show (none : Option HO) = some _ from h)
  · exact nomatch (show (none : Option HO) = some _ from h)
  · exact .inr h
theorem SqT.of0 {a : Addr} {xs : List V} (h : SqT K H0 a xs) : SqT K H a xs := by
  rcases h with (h | ⟨o, h⟩) | h
  · exact nomatch (show (none : Option HO) = some _ from h)
  · exact nomatch (show (none : Option HO) = some _ from h)
  · exact .inr h
theorem FixF.sq {a : Addr} {xs : List V} (h : FixF K T H a xs) : SqL K H a xs := by
  rcases h with ⟨_, o, r⟩ | h
  · exact .inl (.inr ⟨o, r⟩)
  · exact SqL.of0 h
theorem TupF.sq {a : Addr} {xs : List V} (h : TupF T H a xs) : SqT K H a xs := .inl (.inl h.2)
theorem View.of {d : D} {v : V} (h : RepV K T H d v) : View K T H d v := by
  cases d with
  | lst ds => simp only [RepV] at h; obtain ⟨a, xs, e, _, s, r⟩ := h; exact ⟨a, xs, e, s, r⟩
  | dk ks ds => simp only [RepV] at h; obtain ⟨a, xs, e, _, s, k, r⟩ := h; exact ⟨a, xs, e, s, k, r⟩
  | dt ks ds => simp only [RepV] at h; obtain ⟨a, xs, e, _, s, k, r⟩ := h; exact ⟨a, xs, e, s, k, r⟩
  | ins C ns ds => simp only [RepV] at h; obtain ⟨a, dx, xs, e, _, s, k, r⟩ := h; exact ⟨a, dx, xs, e, s, k, r⟩
  | _ => exact h
theorem View.ofO {o : Ob} {a : Addr} (h : RepO K T H o a) : View K T H o.toD (.ref a) := by
  cases o with
  | lst ds => obtain ⟨xs, q, r⟩ := h; exact ⟨a, xs, rfl, q, r⟩
  | dk kvs => obtain ⟨xs, q, k, r⟩ := h; exact ⟨a, xs, rfl, .inl q, k, r⟩
  | dt kvs => obtain ⟨xs, q, k, r⟩ := h; exact ⟨a, xs, rfl, .inl q, k, r⟩
  | ins C fs => obtain ⟨dx, xs, q, k, r⟩ := h; exact ⟨a, dx, xs, rfl, q, k, r⟩
theorem View.int {i : Int} {v : V} (h : View K T H (.int i) v) : v = .int i := by simpa only [View, RepV] using h
theorem View.bl {i : Bool} {v : V} (h : View K T H (.bl i) v) : v = .bl i := by simpa only [View, RepV] using h
theorem View.str {i : Str} {v : V} (h : View K T H (.str i) v) : v = .str i := by simpa only [View, RepV] using h
theorem View.non {v : V} (h : View K T H .non v) : v = .non := by simpa only [View, RepV] using h
theorem View.ref {a : Addr} {v : V} (h : View K T H (.ref a) v) : v = .ref a := by simpa only [View, RepV] using h
theorem View.ty {a : String} {v : V} (h : View K T H (.ty a) v) : v = .ty a := by simpa only [View, RepV] using h
theorem View.lst {xs : List D} {v : V} (h : View K T H (.lst xs) v) : ∃ a ys, v = .ref a ∧ H a = some (.lst ys) ∧ RepL K T H xs ys := h
theorem View.tup {xs : List D} {v : V} (h : View K T H (.tup xs) v) : ∃ a ys, v = .ref a ∧ TupF T H a ys ∧ RepL K T H xs ys := by simpa only [View, RepV] using h
theorem View.fix {xs : List D} {v : V} (h : View K T H (.fix xs) v) : ∃ a ys, v = .ref a ∧ FixF K T H a ys ∧ RepL K T H xs ys := by simpa only [View, RepV] using h
end
end DL

end DlA
section DlB
set_option Elab.async false
set_option linter.all false
set_option maxRecDepth 100000
set_option maxHeartbeats 4000000
/-! DlB: frames, the lifts LE, LT, LA, LS, and the rules for names, constants, operators, tests. -/
namespace DL
open PySem PySem.Spec PyProof.Rows L2
variable [TabEnv]

def Sl.isB : Sl → Bool
  | .bor _ => true
  | .bfz _ => true
  | _ => false
def SlOk (K : PySem.W.Frag) (T : TM) (H : Hp) (i : Nat) : Sl → Option (Option V) → Prop
  | .un, _ => True
  | .val d, x => ∃ v, x = some (some v) ∧ RepV K T H d v
  | .own o, x => ∃ a, x = some (some (.ref a)) ∧ T a = some (.sl i) ∧ RepO K T H o a
  | .bor o, x => ∃ a, x = some (some (.ref a)) ∧ T a = some (.sl i) ∧ RepO K T H o a
  | .bfz d, x => ∃ a, x = some (some (.ref a)) ∧ T a = some .fz ∧ RepV K T H d (.ref a)
structure EvOk (K : PySem.W.Frag) (T : TM) (H : Hp) (env : Ev) (σ : L2.St) : Prop where
  good : Good T H
  len : env.length = σ.length
  ok : ∀ (i : Nat) (s : Sl), env[i]? = some s → SlOk K T H i s σ[i]?
def Keep (env : Ev) (σ : L2.St) (env' : Ev) (σ' : L2.St) : Prop :=
  env'.length = env.length ∧ ∀ (i : Nat) (s : Sl), env[i]? = some s → s.isB = true → σ'[i]? = σ[i]? ∧ ∃ s', env'[i]? = some s' ∧ s'.isB = true
structure Af (K : PySem.W.Frag) (T : TM) (H : Hp) (env : Ev) (σ : L2.St) (T' : TM) (H' : Hp) (env' : Ev) (σ' : L2.St) : Prop where
  fr : Fr T H T' H'
  ev : EvOk K T' H' env' σ'
  kp : Keep env σ env' σ'
theorem Keep.refl {env : Ev} {σ : L2.St} : Keep env σ env σ := ⟨rfl, fun _ s e b => ⟨rfl, s, e, b⟩⟩
theorem Keep.trans {e0 e1 e2 : Ev} {s0 s1 s2 : L2.St} (a : Keep e0 s0 e1 s1) (b : Keep e1 s1 e2 s2) : Keep e0 s0 e2 s2 := ⟨b.1.trans a.1, fun i s h hb => by
  obtain ⟨q1, s', h1, b1⟩ := a.2 i s h hb
  obtain ⟨q2, s'', h2, b2⟩ := b.2 i s' h1 b1
  exact ⟨q2.trans q1, s'', h2, b2⟩⟩
/-- a slot that is not borrowed is set -/
theorem Keep.set {env : Ev} {σ : L2.St} {i : Nat} {s' : Sl} {x : Option V} (h : ∀ (s : Sl), env[i]? = some s → s.isB = false) : Keep env σ (env.set i s') (σ.set i x) := ⟨by simp, fun j s e b => by
  by_cases hj : i = j
  · subst hj; rw [h s e] at b; cases b
  · rw [List.getElem?_set_ne hj, List.getElem?_set_ne hj]
    exact ⟨rfl, s, e, b⟩⟩
theorem Keep.setB {env : Ev} {σ : L2.St} {i : Nat} {s' : Sl} (h : s'.isB = true) : Keep env σ (env.set i s') σ := ⟨by simp, fun j s e b => by
  by_cases hj : i = j
  · subst hj
    have hi : i < env.length := (List.getElem?_eq_some_iff.mp e).1
    exact ⟨rfl, s', List.getElem?_set_self hi, h⟩
  · exact ⟨rfl, s, by rw [List.getElem?_set_ne hj]; exact e, b⟩⟩
theorem Keep.setN {env : Ev} {σ : L2.St} {i : Nat} {s' : Sl} (h : ∀ (s : Sl), env[i]? = some s → s.isB = false) : Keep env σ (env.set i s') σ := ⟨by simp, fun j s e b => by
  by_cases hj : i = j
  · subst hj; rw [h s e] at b; cases b
  · exact ⟨rfl, s, by rw [List.getElem?_set_ne hj]; exact e, b⟩⟩

section
variable {K : PySem.W.Frag} {T T0 T' T1 : TM} {H H0 H' H1 : Hp} {env env0 env1 : Ev} {σ σ0 σ1 : L2.St}
theorem SlOk.mono {j : Nat} {s : Sl} {x : Option (Option V)} (f : Le T H T' H') (g : ∀ a, T a = some (.sl j) → T' a = some (.sl j) ∧ H' a = H a) (h : SlOk K T H j s x) : SlOk K T' H' j s x := by
  cases s with
  | un => trivial
  | val d => obtain ⟨v, e, r⟩ := h; exact ⟨v, e, r.mono f⟩
  | own o => obtain ⟨a, e, t, r⟩ := h; exact ⟨a, e, (g a t).1, r.mono f (g a t).2⟩
  | bor o => obtain ⟨a, e, t, r⟩ := h; exact ⟨a, e, (g a t).1, r.mono f (g a t).2⟩
  | bfz d => obtain ⟨a, e, t, r⟩ := h; exact ⟨a, e, (f a t).1, r.mono f⟩
theorem EvOk.mono (E : EvOk K T H env σ) (f : Le T H T' H') (gd : Good T' H') (g : ∀ j a, T a = some (.sl j) → T' a = some (.sl j) ∧ H' a = H a) : EvOk K T' H' env σ :=
  ⟨gd, E.len, fun i s e => (E.ok i s e).mono f (g i)⟩
/-- only new objects, all slots stand -/
structure Gr (T : TM) (H : Hp) (T' : TM) (H' : Hp) : Prop where
  fr : Fr T H T' H'
  sl : ∀ j a, T a = some (.sl j) → T' a = some (.sl j) ∧ H' a = H a
theorem Gr.refl (g : Good T H) : Gr T H T H := ⟨Fr.refl g, fun _ _ e => ⟨e, rfl⟩⟩
theorem Gr.trans {T2 : TM} {H2 : Hp} (a : Gr T H T1 H1) (b : Gr T1 H1 T2 H2) : Gr T H T2 H2 := ⟨a.fr.trans b.fr, fun j c e => by
  obtain ⟨e1, h1⟩ := a.sl j c e
  obtain ⟨e2, h2⟩ := b.sl j c e1
  exact ⟨e2, h2.trans h1⟩⟩
theorem EvOk.grow (E : EvOk K T H env σ) (g : Gr T H T' H') : EvOk K T' H' env σ := E.mono g.fr.le g.fr.good g.sl
theorem Good.none {a : Addr} (g : Good T H) (h : H a = none) : T a = none := by
  cases e : T a with
  | none => rfl
  | some t => exact absurd h (g a t e).1
theorem Gr.alloc {p : Addr} {o : HO} {t : Option Tag} (g : Good T H) (hp : H p = none) (ht : t ≠ some .off) (ho : t = some .fz ∨ ∀ xs, o ≠ .tup xs) : Gr T H (tag T p t) (upd H p o) := by
  have n : T p = none := g.none hp
  have ne : ∀ b u, T b = some u → b ≠ p := fun b u e z => by rw [z, n] at e; cases e
  refine ⟨⟨fun a u e _ => ⟨by rw [tag_ne (ne a u e)]; exact e, upd_ne (ne a u e)⟩, fun a e => ?_, ⟨fun a u e => ?_, g.tabs.move (fun a ps e1 e2 => ?_) fun b e => ⟨by rw [tag_ne (ne b _ e)]; exact e, .inl (upd_ne (ne b _ e))⟩⟩⟩, fun j a e => ⟨by rw [tag_ne (ne a _ e)]; exact e, upd_ne (ne a _ e)⟩⟩
  · by_cases h : a = p
    · subst h; rw [tag_same] at e; exact absurd e ht
    · rwa [tag_ne h] at e
  · by_cases h : a = p
    · subst h; rw [upd_same]
      refine ⟨by simp, fun n xs z => ?_⟩
      rw [tag_same] at e
      cases z
      rcases ho with ho | ho
      · rw [ho] at e; cases e; exact n rfl
      · exact ho xs rfl
    · rw [tag_ne h] at e; rw [upd_ne h]; exact g a u e
  · have h : a ≠ p := fun z => by rw [z, hp] at e2; cases e2
    exact ⟨by rw [tag_ne h]; exact e1, upd_ne h⟩
/-- a result that hung in the air gets another tag -/
theorem Fr.retag {a : Addr} {t : Option Tag} (f : Fr T0 H0 T H) (h1 : T a = some .tmp) (h0 : T0 a ≠ some .tmp) (ht : t ≠ some .off) : Fr T0 H0 (tag T a t) H := by
  refine ⟨fun b u e n => ?_, fun b e => ?_, fun b u e => ?_, f.good.tabs.tag h1 (by simp)⟩
  · obtain ⟨e1, h⟩ := f.keep b u e n
    have hb : b ≠ a := fun z => by
      subst z
      rw [h1] at e1; cases e1
      exact h0 e
    exact ⟨by rw [tag_ne hb]; exact e1, h⟩
  · by_cases h : b = a
    · subst h; rw [tag_same] at e; exact absurd e ht
    · rw [tag_ne h] at e; exact f.noff b e
  · by_cases h : b = a
    · subst h; exact ⟨(f.good _ _ h1).1, fun _ => (f.good _ _ h1).2 (by simp)⟩
    · rw [tag_ne h] at e; exact f.good b u e
theorem Le.retag {a : Addr} {t : Option Tag} (h1 : T a = some .tmp) : Le T H (tag T a t) H := fun b e => by
  have hb : b ≠ a := fun z => by subst z; rw [h1] at e; cases e
  exact ⟨by rw [tag_ne hb]; exact e, .inl rfl⟩
theorem EvOk.retag {a : Addr} {t : Option Tag} (E : EvOk K T H env σ) (h1 : T a = some .tmp) : EvOk K (tag T a t) H env σ := by
  refine E.mono (Le.retag h1) ⟨fun b u e => ?_, E.good.tabs.tag h1 (by simp)⟩ fun j b e => ?_
  · by_cases h : b = a
    · subst h; exact ⟨(E.good _ _ h1).1, fun _ => (E.good _ _ h1).2 (by simp)⟩
    · rw [tag_ne h] at e; exact E.good b u e
  · have hb : b ≠ a := fun z => by subst z; rw [h1] at e; cases e
    exact ⟨by rw [tag_ne hb]; exact e, rfl⟩

/-! results -/
def RepR (K : PySem.W.Frag) (T0 T : TM) (H : Hp) (σ : L2.St) : R → V → Prop
  | .val d, v => RepV K T H d v
  | .loc i, v => σ[i]? = some (some v)
  | .own o, v => ∃ a, v = .ref a ∧ T0 a ≠ some .tmp ∧ T a = some .tmp ∧ RepO K T H o a
theorem RepR.mono {r : R} {v : V} (f : Fr T H T' H') (h : RepR K T0 T H σ r v) : RepR K T0 T' H' σ r v := by
  cases r with
  | val d => exact RepV.mono f.le d v h
  | loc i => exact h
  | own o => obtain ⟨a, e, n, t, q⟩ := h; exact ⟨a, e, n, (f.tmp t).1, q.mono f.le (f.tmp t).2⟩
theorem RepR.pre {r : R} {v : V} (f : Fr T0 H0 T1 H1) (h : RepR K T1 T H σ r v) : RepR K T0 T H σ r v := by
  cases r with
  | val d => exact h
  | loc i => exact h
  | own o => obtain ⟨a, e, n, t, q⟩ := h; exact ⟨a, e, fun z => n (f.tmp z).1, t, q⟩

/-- the slot's data -/
def slv (s : Option Sl) (k : D → Prop) : Prop := match s with
  | some (.val d) => k d
  | some (.bfz d) => k d
  | some (.own o) => k o.toD
  | some (.bor o) => k o.toD
  | _ => False
/-- what may be read of a result -/
def vw (r : R) (e : Ev) (k : D → Prop) : Prop := match r with
  | .val d => k d
  | .own o => k o.toD
  | .loc i => slv e[i]? k
theorem vw_view {r : R} {v : V} {k : D → Prop} (E : EvOk K T H env σ) (h : RepR K T0 T H σ r v) (q : vw r env k) : ∃ d, View K T H d v ∧ k d := by
  cases r with
  | val d => exact ⟨d, View.of h, q⟩
  | own o =>
    obtain ⟨a, e, _, _, r⟩ := h
    subst e
    exact ⟨_, View.ofO r, q⟩
  | loc i =>
    have h : σ[i]? = some (some v) := h
    have q : slv env[i]? k := q
    cases e : env[i]? with
    | none => rw [e] at q; exact q.elim
    | some s =>
      rw [e] at q
      have := E.ok i s e
      rw [h] at this
      cases s with
      | un => exact q.elim
      | val d => obtain ⟨v', e', r⟩ := this; cases e'; exact ⟨d, View.of r, q⟩
      | bfz d => obtain ⟨v', e', _, r⟩ := this; cases e'; exact ⟨d, View.of r, q⟩
      | own o => obtain ⟨v', e', _, r⟩ := this; cases e'; exact ⟨_, View.ofO r, q⟩
      | bor o => obtain ⟨v', e', _, r⟩ := this; cases e'; exact ⟨_, View.ofO r, q⟩
/-- what may be stored of a result: a fresh object is frozen -/
def dv (r : R) (k : D → Prop) : Prop := match r with
  | .val d => k d
  | .own o => k o.toD
  | .loc _ => False
theorem dv_rep {r : R} {v : V} {k : D → Prop} (f : Fr T0 H0 T H) (E : EvOk K T H env σ) (h : RepR K T0 T H σ r v) (q : dv r k) :
    ∃ T' d, Fr T0 H0 T' H ∧ EvOk K T' H env σ ∧ Le T H T' H ∧ (∀ b, T' b = some .tmp → T b = some .tmp) ∧ (∀ j b, T b = some (.sl j) → T' b = some (.sl j)) ∧ RepV K T' H d v ∧ k d := by
  cases r with
  | val d => exact ⟨T, d, f, E, fun _ e => ⟨e, .inl rfl⟩, fun _ e => e, fun _ _ e => e, h, q⟩
  | loc i => exact q.elim
  | own o =>
    obtain ⟨a, e, n, t, r⟩ := h
    subst e
    refine ⟨tag T a (some .fz), o.toD, f.retag t n (by simp), E.retag t, Le.retag t, fun b e => ?_, fun j b e => ?_, RepO.frozen (r.mono (Le.retag t) rfl) tag_same, q⟩
    · by_cases hb : b = a
      · subst hb; exact t
      · rwa [tag_ne hb] at e
    · have hb : b ≠ a := fun z => by subst z; rw [t] at e; cases e
      rw [tag_ne hb]; exact e
end

/-! the lifts -/
abbrev WX' := Exn → Ev → Prop
abbrev WE := Ev → (R → Ev → Prop) → WX' → Prop
abbrev WT := Ev → (Bool → Ev → Prop) → WX' → Prop
abbrev WA := Ev → (List R → Ev → Prop) → WX' → Prop

def XOkS (K : PySem.W.Frag) (W : WX) (T : TM) (H : Hp) (env : Ev) (σ : L2.St) (x : WX') : Prop :=
  ∀ T' H' env' σ' e c d, Af K T H env σ T' H' env' σ' → RepX K T' H' e c d → x e env' → W c d σ' H'
/-- out of an expression: no slot's value has changed -/
def XOk (K : PySem.W.Frag) (W : WX) (T : TM) (H : Hp) (env : Ev) (σ : L2.St) (x : WX') : Prop :=
  ∀ T' H' env' e c d, Af K T H env σ T' H' env' σ → RepX K T' H' e c d → x e env' → W c d σ H'
theorem XOkS.x {K : PySem.W.Frag} {W : WX} {T : TM} {H : Hp} {env : Ev} {σ : L2.St} {x : WX'} (h : XOkS K W T H env σ x) : XOk K W T H env σ x := fun T' H' env' e c d => h T' H' env' σ e c d
def LE (K : PySem.W.Frag) (W : WX) (w : WE) : TE := fun σ H Q => ∃ T env q x, EvOk K T H env σ ∧ w env q x ∧
  (∀ T' H' env' r v, Af K T H env σ T' H' env' σ → RepR K T T' H' σ r v → q r env' → Q v H') ∧ XOk K W T H env σ x
def LT (K : PySem.W.Frag) (W : WX) (w : WT) : TT := fun σ H Q => ∃ T env q x, EvOk K T H env σ ∧ w env q x ∧
  (∀ T' H' env' b, Af K T H env σ T' H' env' σ → q b env' → Q b H') ∧ XOk K W T H env σ x
/-- results in a row, their objects apart -/
def ownAd : List R → List V → List Addr
  | .own _ :: rs, .ref a :: vs => a :: ownAd rs vs
  | _ :: rs, _ :: vs => ownAd rs vs
  | _, _ => []
inductive RepRs (K : PySem.W.Frag) (T0 T : TM) (H : Hp) (σ : L2.St) : List R → List V → Prop
  | nil : RepRs K T0 T H σ [] []
  | cons {r v rs vs} : RepR K T0 T H σ r v → RepRs K T0 T H σ rs vs → RepRs K T0 T H σ (r :: rs) (v :: vs)
def LA (K : PySem.W.Frag) (W : WX) (w : WA) : TA := fun σ H Q => ∃ T env q x, EvOk K T H env σ ∧ w env q x ∧
  (∀ T' H' env' rs vs, Af K T H env σ T' H' env' σ → RepRs K T T' H' σ rs vs → (ownAd rs vs).Nodup → q rs env' → Q vs H') ∧ XOk K W T H env σ x

abbrev DE (X : Cx) (W : WX) (e : Expr) (w : WE) : Prop := PE X e (LE X.K W w)
abbrev DT (X : Cx) (W : WX) (e : Expr) (w : WT) : Prop := PT X e (LT X.K W w)
abbrev DA (X : Cx) (W : WX) (es : List Expr) (w : WA) : Prop := PA X es (LA X.K W w)

theorem PE.le {X : Cx} {e : Expr} {t t' : TE} (h : PE X e t) (i : ∀ σ H Q, t' σ H Q → t σ H Q) : PE X e t' := ⟨fun pins s σ H Q I q => h.run pins s σ H Q I (i σ H Q q)⟩
theorem PT.le {X : Cx} {e : Expr} {t t' : TT} (h : PT X e t) (i : ∀ σ H Q, t' σ H Q → t σ H Q) : PT X e t' := ⟨fun pins s σ H Q I q => h.run pins s σ H Q I (i σ H Q q)⟩
theorem PA.le {X : Cx} {e : List Expr} {t t' : TA} (h : PA X e t) (i : ∀ σ H Q, t' σ H Q → t σ H Q) : PA X e t' := ⟨fun pos pins s σ H Q I q => h.run pos pins s σ H Q I (i σ H Q q)⟩

section
variable {K : PySem.W.Frag} {W : WX} {T T0 T' T1 T2 : TM} {H H0 H' H1 H2 : Hp} {env env0 env1 env2 : Ev} {σ σ0 σ1 σ2 : L2.St}
theorem Af.refl (E : EvOk K T H env σ) : Af K T H env σ T H env σ := ⟨Fr.refl E.good, E, .refl⟩
theorem Af.trans (a : Af K T H env σ T1 H1 env1 σ1) (b : Af K T1 H1 env1 σ1 T2 H2 env2 σ2) : Af K T H env σ T2 H2 env2 σ2 := ⟨a.fr.trans b.fr, b.ev, a.kp.trans b.kp⟩
theorem Af.grow (a : Af K T H env σ T1 H1 env1 σ1) (g : Gr T1 H1 T2 H2) : Af K T H env σ T2 H2 env1 σ1 := ⟨a.fr.trans g.fr, a.ev.grow g, a.kp⟩
theorem XOkS.after {x : WX'} (a : Af K T H env σ T1 H1 env1 σ1) (h : XOkS K W T H env σ x) : XOkS K W T1 H1 env1 σ1 x := fun T' H' env' σ' e c d b r q => h T' H' env' σ' e c d (a.trans b) r q
theorem XOk.after {x : WX'} (a : Af K T H env σ T1 H1 env1 σ) (h : XOk K W T H env σ x) : XOk K W T1 H1 env1 σ x := fun T' H' env' e c d b r q => h T' H' env' e c d (a.trans b) r q

/-! names -/
def wVar (i : Nat) : WE := fun env q _ => match env[i]? with
  | some (.val d) => q (.val d) env
  | some (.bfz d) => q (.val d) env
  | some (.own _) => q (.loc i) env
  | some (.bor _) => q (.loc i) env
  | _ => False
theorem lv (i : Nat) {Q : VK} (h : LE K W (wVar i) σ H Q) : tVar i σ H Q := by
  obtain ⟨T, env, q, x, E, w, k, _⟩ := h
  unfold wVar at w
  cases e : env[i]? with
  | none => rw [e] at w; exact w.elim
  | some s =>
    have z := E.ok i s e
    rw [e] at w
    cases s with
    | un => exact w.elim
    | val d => obtain ⟨v, e', r⟩ := z; exact ⟨v, e', k T H env (.val d) v (Af.refl E) r w⟩
    | bfz d => obtain ⟨v, e', _, r⟩ := z; exact ⟨_, e', k T H env (.val d) _ (Af.refl E) r w⟩
    | own o => obtain ⟨v, e', _, r⟩ := z; exact ⟨_, e', k T H env (.loc i) _ (Af.refl E) e' w⟩
    | bor o => obtain ⟨v, e', _, r⟩ := z; exact ⟨_, e', k T H env (.loc i) _ (Af.refl E) e' w⟩
/-- an own object becomes data -/
def wTake (i : Nat) : WE := fun env q _ => match env[i]? with
  | some (.val d) => q (.val d) env
  | some (.bfz d) => q (.val d) env
  | some (.own o) => q (.val o.toD) (env.set i (.val o.toD))
  | some (.bor o) => q (.val o.toD) (env.set i (.bfz o.toD))
  | _ => False
/-- a slot's object gets another tag -/
theorem EvOk.turn {i : Nat} {a : Addr} {s : Sl} {t : Option Tag} (E : EvOk K T H env σ) (ta : T a = some (.sl i)) (hi : SlOk K (tag T a t) H i s σ[i]?) : EvOk K (tag T a t) H (env.set i s) σ ∧ Le T H (tag T a t) H := by
  have le : Le T H (tag T a t) H := fun b e => by
    have hb : b ≠ a := fun z => by subst z; rw [ta] at e; cases e
    exact ⟨by rw [tag_ne hb]; exact e, .inl rfl⟩
  refine ⟨⟨⟨fun b u e => ?_, E.good.tabs.tag ta (by simp)⟩, by simpa using E.len, fun j s' e => ?_⟩, le⟩
  · by_cases h : b = a
    · subst h; exact ⟨(E.good _ _ ta).1, fun _ => (E.good _ _ ta).2 (by simp)⟩
    · rw [tag_ne h] at e; exact E.good b u e
  · by_cases hj : i = j
    · subst hj
      by_cases hl : i < env.length
      · rw [List.getElem?_set_self hl] at e; cases e; exact hi
      · rw [List.getElem?_eq_none (by simpa using hl)] at e; cases e
    · rw [List.getElem?_set_ne hj] at e
      refine (E.ok j s' e).mono le fun b eb => ?_
      have hb : b ≠ a := fun z => by
        subst z; rw [ta] at eb
        injection eb with eb; injection eb with eb
        exact hj eb
      exact ⟨by rw [tag_ne hb]; exact eb, rfl⟩
theorem Fr.turn {i : Nat} {a : Addr} {t : Option Tag} (g : Good T H) (ta : T a = some (.sl i)) (ht : t ≠ some .off) : Fr T H (tag T a t) H := by
  refine ⟨fun b u e n => ?_, fun b e => ?_, fun b u e => ?_, g.tabs.tag ta (by simp)⟩
  · have hb : b ≠ a := fun z => by subst z; rw [ta] at e; cases e; exact n i rfl
    exact ⟨by rw [tag_ne hb]; exact e, rfl⟩
  · by_cases h : b = a
    · subst h; rw [tag_same] at e; exact absurd e ht
    · rwa [tag_ne h] at e
  · by_cases h : b = a
    · subst h; exact ⟨(g _ _ ta).1, fun _ => (g _ _ ta).2 (by simp)⟩
    · rw [tag_ne h] at e; exact g b u e
theorem lvT (i : Nat) {Q : VK} (h : LE K W (wTake i) σ H Q) : tVar i σ H Q := by
  obtain ⟨T, env, q, x, E, w, k, _⟩ := h
  unfold wTake at w
  cases e : env[i]? with
  | none => rw [e] at w; exact w.elim
  | some s =>
    have z := E.ok i s e
    rw [e] at w
    cases s with
    | un => exact w.elim
    | val d => obtain ⟨v, e', r⟩ := z; exact ⟨v, e', k T H env (.val d) v (Af.refl E) r w⟩
    | bfz d => obtain ⟨v, e', _, r⟩ := z; exact ⟨_, e', k T H env (.val d) _ (Af.refl E) r w⟩
    | own o =>
      obtain ⟨a, e', t, r⟩ := z
      have le : Le T H (tag T a (some .fz)) H := fun b e => by
        have hb : b ≠ a := fun z => by subst z; rw [t] at e; cases e
        exact ⟨by rw [tag_ne hb]; exact e, .inl rfl⟩
      have rv : RepV K (tag T a (some .fz)) H o.toD (.ref a) := RepO.frozen (r.mono le rfl) tag_same
      obtain ⟨E', _⟩ := E.turn (s := .val o.toD) (t := some .fz) t ⟨_, e', rv⟩
      exact ⟨_, e', k _ H _ (.val o.toD) _ ⟨Fr.turn E.good t (by simp), E', Keep.setN fun s hs => by rw [e] at hs; cases hs; rfl⟩ rv w⟩
    | bor o =>
      obtain ⟨a, e', t, r⟩ := z
      have le : Le T H (tag T a (some .fz)) H := fun b e => by
        have hb : b ≠ a := fun z => by subst z; rw [t] at e; cases e
        exact ⟨by rw [tag_ne hb]; exact e, .inl rfl⟩
      have rv : RepV K (tag T a (some .fz)) H o.toD (.ref a) := RepO.frozen (r.mono le rfl) tag_same
      obtain ⟨E', _⟩ := E.turn (s := .bfz o.toD) (t := some .fz) t ⟨_, e', tag_same, rv⟩
      exact ⟨_, e', k _ H _ (.val o.toD) _ ⟨Fr.turn E.good t (by simp), E', Keep.setB rfl⟩ rv w⟩
/-- an own object leaves its slot -/
def wMove (i : Nat) : WE := fun env q _ => match env[i]? with
  | some (.val d) => q (.val d) env
  | some (.bfz d) => q (.val d) env
  | some (.own o) => q (.own o) (env.set i .un)
  | some (.bor o) => q (.val o.toD) (env.set i (.bfz o.toD))
  | _ => False
theorem lvM (i : Nat) {Q : VK} (h : LE K W (wMove i) σ H Q) : tVar i σ H Q := by
  obtain ⟨T, env, q, x, E, w, k, xk⟩ := h
  cases e : env[i]? with
  | none => unfold wMove at w; rw [e] at w; exact w.elim
  | some s =>
    cases s with
    | own o =>
      unfold wMove at w
      rw [e] at w
      obtain ⟨a, e', t, r⟩ := E.ok i _ e
      obtain ⟨E', le⟩ := E.turn (s := .un) (t := some .tmp) t trivial
      exact ⟨_, e', k _ H _ (.own o) _ ⟨Fr.turn E.good t (by simp), E', Keep.setN fun s hs => by rw [e] at hs; cases hs; rfl⟩ ⟨a, rfl, (by rw [t]; simp), tag_same, r.mono le rfl⟩ w⟩
    | un => unfold wMove at w; rw [e] at w; exact w.elim
    | val d => exact lvT (W := W) i ⟨T, env, q, x, E, (by unfold wTake; unfold wMove at w; rw [e] at w ⊢; exact w), k, xk⟩
    | bfz d => exact lvT (W := W) i ⟨T, env, q, x, E, (by unfold wTake; unfold wMove at w; rw [e] at w ⊢; exact w), k, xk⟩
    | bor o => exact lvT (W := W) i ⟨T, env, q, x, E, (by unfold wTake; unfold wMove at w; rw [e] at w ⊢; exact w), k, xk⟩
/-- a constant -/
def wC (d : D) : WE := fun env q _ => q (.val d) env
theorem lc {d : D} {v : V} (hr : ∀ T H, RepV K T H d v) {Q : VK} (h : LE K W (wC d) σ H Q) : tC v σ H Q := by
  obtain ⟨T, env, q, x, E, w, k, _⟩ := h
  exact k T H env (.val d) v (Af.refl E) (hr T H) w
end
section
variable {X : Cx} {W : WX} {pos : Pos}
theorem dvar (i : Nat) {x : Str} (hN : X.N[i]? = some x := by rfl) (hv : Vis X.env.scope x := by first | exact Or.inl rfl | exact Or.inr (Or.inl rfl) | exact Or.inr (Or.inr rfl)) (hd : (x == ("__debug__" : Str)) = false := by decide)
    (hcd : (x == ("__classdict__" : Str)) = false := by decide) : DE X W (.Name x pos) (wVar i) := PE.le (pe_var hN hv hd hcd) fun _ _ _ h => lv i h
theorem dtake (i : Nat) {x : Str} (hN : X.N[i]? = some x := by rfl) (hv : Vis X.env.scope x := by first | exact Or.inl rfl | exact Or.inr (Or.inl rfl) | exact Or.inr (Or.inr rfl)) (hd : (x == ("__debug__" : Str)) = false := by decide)
    (hcd : (x == ("__classdict__" : Str)) = false := by decide) : DE X W (.Name x pos) (wTake i) := PE.le (pe_var hN hv hd hcd) fun _ _ _ h => lvT i h
theorem dmove (i : Nat) {x : Str} (hN : X.N[i]? = some x := by rfl) (hv : Vis X.env.scope x := by first | exact Or.inl rfl | exact Or.inr (Or.inl rfl) | exact Or.inr (Or.inr rfl)) (hd : (x == ("__debug__" : Str)) = false := by decide)
    (hcd : (x == ("__classdict__" : Str)) = false := by decide) : DE X W (.Name x pos) (wMove i) := PE.le (pe_var hN hv hd hcd) fun _ _ _ h => lvM i h
theorem dint {i j} : DE X W (.Constant (.int i) j pos) (wC (.int i)) := PE.le pe_int fun _ _ _ h => lc (fun _ _ => by simp [RepV]) h
theorem dbl {b j} : DE X W (.Constant (.bool b) j pos) (wC (.bl b)) := PE.le pe_bl fun _ _ _ h => lc (fun _ _ => by simp [RepV]) h
theorem dnon {j} : DE X W (.Constant .none j pos) (wC .non) := PE.le pe_non fun _ _ _ h => lc (fun _ _ => by simp [RepV]) h
theorem dstr {x j} : DE X W (.Constant (.str x) j pos) (wC (.str x)) := PE.le pe_str fun _ _ _ h => lc (fun _ _ => by simp [RepV]) h
/-- a class, a def, a number of the module; a built-in class -/
theorem dglob {x : Str} {a : Addr} (hg : Gl X x) (hm : X.mg x = some (.ref a)) (hd : (x == ("__debug__" : Str)) = false := by decide) : DE X W (.Name x pos) (wC (.ref a)) := PE.le (pe_glob (v := .ref a) hg hm rfl hd) fun _ _ _ h => lc (fun _ _ => by simp [RepV]) h
theorem dglobI {x : Str} {i : Int} {t : Tok} (hg : Gl X x) (hm : X.mg x = some (.int i t)) (hd : (x == ("__debug__" : Str)) = false := by decide) : DE X W (.Name x pos) (wC (.int i)) := PE.le (pe_glob (v := .int i) hg hm ⟨t, rfl⟩ hd) fun _ _ _ h => lc (fun _ _ => by simp [RepV]) h
theorem dglobS {x : Str} {i : Str} {t : Tok} (hg : Gl X x) (hm : X.mg x = some (.str i t)) (hd : (x == ("__debug__" : Str)) = false := by decide) : DE X W (.Name x pos) (wC (.str i)) := PE.le (pe_glob (v := .str i) hg hm ⟨t, rfl⟩ hd) fun _ _ _ h => lc (fun _ _ => by simp [RepV]) h
theorem dty {x : Str} {n : String} (hg : Gl X x) (hm : X.mg x = none) (hv : bootBuiltins x = some (.type n)) (hn : x ≠ "__name__" := by decide) (hd : (x == ("__debug__" : Str)) = false := by decide) : DE X W (.Name x pos) (wC (.ty n)) :=
  PE.le (pe_bltn (v := .ty n) hg hm hv rfl hn hd) fun _ _ _ h => lc (fun _ _ => by simp [RepV]) h

/-! operators -/
/-- a two-place operation on what may be read -/
def OpD (X : Cx) (f : Value → Value → Sem Value) (g : D → D → (R → Prop) → Prop) : Prop :=
  ∃ r : R2, OpR X f r ∧ ∀ T H σ da db va vb (Q : VK) (q : R → Prop), Good T H → View X.K T H da va → View X.K T H db vb → g da db q →
    (∀ T' H' res v, Gr T H T' H' → RepR X.K T T' H' σ res v → q res → Q v H') → r va vb H Q
def wBin (g : D → D → (R → Prop) → Prop) (wa wb : WE) : WE := fun env q x => wa env (fun ra e1 => wb e1 (fun rb e2 => vw ra e2 fun da => vw rb e2 fun db => g da db fun r => q r e2) x) x
theorem lop {r : R2} {g : D → D → (R → Prop) → Prop} {wa wb : WE} {σ : L2.St} {H : Hp} {Q : VK}
    (hr : ∀ T H σ da db va vb (Q : VK) (q : R → Prop), Good T H → View X.K T H da va → View X.K T H db vb → g da db q →
      (∀ T' H' res v, Gr T H T' H' → RepR X.K T T' H' σ res v → q res → Q v H') → r va vb H Q)
    (h : LE X.K W (wBin g wa wb) σ H Q) : tOp r (LE X.K W wa) (LE X.K W wb) σ H Q := by
  obtain ⟨T, env, q, x, E, w, k, xk⟩ := h
  refine ⟨T, env, _, x, E, w, fun T1 H1 e1 ra va a1 ra1 w1 => ?_, xk⟩
  refine ⟨T1, e1, _, x, a1.ev, w1, fun T2 H2 e2 rb vb a2 rb2 w2 => ?_, xk.after a1⟩
  obtain ⟨da, hva, w3⟩ := vw_view a2.ev (ra1.mono a2.fr) w2
  obtain ⟨db, hvb, w4⟩ := vw_view a2.ev rb2 w3
  refine hr T2 H2 σ da db va vb Q _ a2.ev.good hva hvb w4 fun T3 H3 res v g3 r3 q3 => ?_
  exact k T3 H3 e2 res v ((a1.trans a2).grow g3) (r3.pre (a1.trans a2).fr) q3
theorem dbin {op : Operator} {g : D → D → (R → Prop) → Prop} {a b : Expr} {wa wb : WE} (ho : OpD X (binaryOp op) g) (ha : DE X W a wa) (hb : DE X W b wb) : DE X W (.BinOp a op b pos) (wBin g wa wb) := by
  obtain ⟨r, h1, h2⟩ := ho
  exact PE.le (pe_op h1 ha hb) fun _ _ _ h => lop h2 h
theorem dcmp {op : CmpOp} {g : D → D → (R → Prop) → Prop} {a b : Expr} {wa wb : WE} (ho : OpD X (compareOp op) g) (ha : DE X W a wa) (hb : DE X W b wb) (hm : behindInMarks op b = false := by first | exact nobehind _ (by decide) (by decide) | rfl) : DE X W (.Compare a [op] [b] pos) (wBin g wa wb) := by
  obtain ⟨r, h1, h2⟩ := ho
  exact PE.le (pe_cmpR h1 ha hb hm) fun _ _ _ h => lop h2 h
/-- a value that is a bool, as a test -/
def wTst (w : WE) : WT := fun env q x => w env (fun r e => match r with | .val (.bl b) => q b e | _ => False) x
theorem ltst {w : WE} {K : PySem.W.Frag} {σ : L2.St} {H : Hp} {Q : Bool → Hp → Prop} (h : LT K W (wTst w) σ H Q) : tTest (LE K W w) σ H Q := by
  obtain ⟨T, env, q, x, E, w, k, xk⟩ := h
  refine ⟨T, env, _, x, E, w, fun T1 H1 e1 r v a1 r1 w1 => ?_, xk⟩
  cases r with
  | val d =>
    cases d with
    | bl b =>
      have e : v = .bl b := by simpa only [RepR, RepV] using r1
      exact ⟨b, e, k T1 H1 e1 b a1 w1⟩
    | _ => exact w1.elim
  | _ => exact w1.elim
theorem dtcmp {op : CmpOp} {g : D → D → (R → Prop) → Prop} {a b : Expr} {wa wb : WE} (ho : OpD X (compareOp op) g) (ha : DE X W a wa) (hb : DE X W b wb) (hm : behindInMarks op b = false := by first | exact nobehind _ (by decide) (by decide) | rfl) : DT X W (.Compare a [op] [b] pos) (wTst (wBin g wa wb)) := by
  obtain ⟨r, h1, h2⟩ := ho
  refine PT.le (pt_cmpR h1 ha hb hm) fun σ H Q h => ?_
  obtain z := ltst h
  -- the two readings agree
  exact lop (W := W) (Q := fun x H' => ∃ k, x = .bl k ∧ Q k H') h2 z
/-- truth -/
def tru (d : D) (k : Bool → Prop) : Prop := match d with
  | .non => k false
  | .bl b => k b
  | .int i => k (i != 0)
  | .str x => x.length ≤ sizeLine ∧ k (x.length != 0)
  | .lst xs => k (!xs.isEmpty)
  | .tup xs => k (!xs.isEmpty)
  | _ => False
def wTru (w : WE) : WT := fun env q x => w env (fun r e => vw r e fun d => tru d fun b => q b e) x
end
end DL

end DlB
section DlC
set_option Elab.async false
set_option linter.all false
set_option maxRecDepth 100000
set_option maxHeartbeats 4000000
/-! DlC: operators by their data, tests, displays, arguments, calls of built-ins. -/
namespace DL
open PySem PySem.Spec PyProof.Rows L2
variable [TabEnv]

section
variable {K : PySem.W.Frag} {T : TM} {H : Hp} {σ : L2.St}
theorem Gr.new {p : Addr} {o : HO} {t : Option Tag} (g : Good T H) (hp : H p = none) (ht : t ≠ some .off := by simp) (ho : t = some .fz ∨ ∀ xs, o ≠ .tup xs := by first | exact Or.inl rfl | (exact Or.inr fun _ z => by cases z)) : Gr T H (tag T p t) (upd H p o) := Gr.alloc g hp ht ho
theorem new_lst {ds : List D} {xs : List V} {p : Addr} (g : Good T H) (hp : H p = none) (r : RepL K T H ds xs) : RepR K T (tag T p (some .tmp)) (upd H p (.lst xs)) σ (.own (.lst ds)) (.ref p) :=
  ⟨p, rfl, (by rw [g.none hp]; simp), tag_same, xs, upd_same, r.mono (Gr.new g hp).fr.le⟩
theorem new_tup {ds : List D} {xs : List V} {p : Addr} (g : Good T H) (hp : H p = none) (r : RepL K T H ds xs) : RepR K T (tag T p (some .fz)) (upd H p (.tup xs)) σ (.val (.tup ds)) (.ref p) := by
  show RepV _ _ _ _ _
  simp only [RepV]
  exact ⟨p, xs, rfl, ⟨tag_same, upd_same⟩, r.mono (Gr.new g hp).fr.le⟩
theorem rep_int {i : Int} : RepR K T T H σ (.val (.int i)) (.int i) := by show RepV _ _ _ _ _; simp [RepV]
theorem rep_bl {i : Bool} : RepR K T T H σ (.val (.bl i)) (.bl i) := by show RepV _ _ _ _ _; simp [RepV]
theorem rep_str {i : Str} : RepR K T T H σ (.val (.str i)) (.str i) := by show RepV _ _ _ _ _; simp [RepV]
theorem rep_non : RepR K T T H σ (.val .non) .non := by show RepV _ _ _ _ _; simp [RepV]
end

/-! ### operators -/
def gAdd (a b : D) (q : R → Prop) : Prop := match a, b with
  | .int i, .int j => q (.val (.int (i + j)))
  | .str i, .str j => i.length + j.length ≤ sizeLine ∧ q (.val (.str (i ++ j)))
  | .lst xs, .lst ys => xs.length + ys.length ≤ sizeLine ∧ q (.own (.lst (xs ++ ys)))
  | .tup xs, .tup ys => xs.length + ys.length ≤ sizeLine ∧ q (.val (.tup (xs ++ ys)))
  | _, _ => False
theorem oAdd {X : Cx} : OpD X (binaryOp .Add) gAdd := by
  refine ⟨_, OpR.or (OpR.or op_add op_add_str) (OpR.or op_cat op_catA), fun T H σ da db va vb Q q g ha hb h k => ?_⟩
  cases da <;> cases db <;> first | exact h.elim | skip
  · cases ha.int; cases hb.int
    exact .inl (.inl ⟨_, _, rfl, rfl, k T H _ _ (Gr.refl g) rep_int h⟩)
  · cases ha.str; cases hb.str
    exact .inl (.inr ⟨_, _, rfl, rfl, h.1, k T H _ _ (Gr.refl g) rep_str h.2⟩)
  · obtain ⟨a, xs, rfl, s1, r1⟩ := ha.tup
    obtain ⟨b, ys, rfl, s2, r2⟩ := hb.tup
    have l1 := r1.length
    have l2 := r2.length
    refine .inr (.inr ⟨a, b, xs, ys, rfl, rfl, s1.sq, s2.sq, (by have := h.1; omega), fun e => ?_, fun _ e => ?_, fun _ _ p hp => k _ _ _ _ (Gr.new g hp) (new_tup g hp (r1.append r2)) h.2⟩)
    · subst e
      cases List.length_eq_zero_iff.mp l1
      exact k T H _ _ (Gr.refl g) (by show RepV _ _ _ _ _; rw [List.nil_append]; simpa only [View] using hb) h.2
    · subst e
      cases List.length_eq_zero_iff.mp l2
      have h2 := h.2
      rw [List.append_nil] at h2
      exact k T H _ _ (Gr.refl g) (by show RepV _ _ _ _ _; simpa only [View] using ha) h2
  · obtain ⟨a, xs, rfl, s1, r1⟩ := ha.lst
    obtain ⟨b, ys, rfl, s2, r2⟩ := hb.lst
    have l1 := r1.length
    have l2 := r2.length
    exact .inr (.inl ⟨a, b, xs, ys, rfl, rfl, s1, s2, (by have := h.1; omega), fun p hp => k _ _ _ _ (Gr.new g hp) (new_lst g hp (r1.append r2)) h.2⟩)
def gInt (C : Int → Int → Prop) (f : Int → Int → D) (a b : D) (q : R → Prop) : Prop := match a, b with
  | .int i, .int j => C i j ∧ q (.val (f i j))
  | _, _ => False
theorem oInt {X : Cx} {f : Value → Value → Sem Value} {C : Int → Int → Prop} {g : Int → Int → V} {g' : Int → Int → D} (h : OpR X f (rI C g)) (hg : ∀ T H i j, RepV X.K T H (g' i j) (g i j)) : OpD X f (gInt C g') := by
  refine ⟨_, h, fun T H σ da db va vb Q q gd ha hb h k => ?_⟩
  cases da <;> cases db <;> first | exact h.elim | skip
  cases ha.int; cases hb.int
  exact ⟨_, _, rfl, rfl, h.1, k T H (.val (g' _ _)) _ (Gr.refl gd) (hg T H _ _) h.2⟩
theorem oInt0 {X : Cx} {f : Value → Value → Sem Value} {g : Int → Int → V} {g' : Int → Int → D} (h : OpR X f (rI0 g)) (hg : ∀ T H i j, RepV X.K T H (g' i j) (g i j)) : OpD X f (gInt (fun _ _ => True) g') := by
  refine ⟨_, h, fun T H σ da db va vb Q q gd ha hb h k => ?_⟩
  cases da <;> cases db <;> first | exact h.elim | skip
  cases ha.int; cases hb.int
  exact ⟨_, _, rfl, rfl, k T H (.val (g' _ _)) _ (Gr.refl gd) (hg T H _ _) h.2⟩
abbrev gSub := gInt (fun _ _ => True) fun i j => .int (i - j)
theorem oSub {X : Cx} : OpD X (binaryOp .Sub) gSub := oInt0 op_sub fun _ _ _ _ => by simp [RepV]
def gMul (a b : D) (q : R → Prop) : Prop := match a, b with
  | .int i, .int j => IntMulOk i j ∧ q (.val (.int (i * j)))
  | .lst xs, .int k => -(2 ^ 63) ≤ k ∧ k < 2 ^ 63 ∧ xs.length * k.toNat ≤ sizeLine ∧ q (.own (.lst (List.replicate k.toNat xs).flatten))
  | _, _ => False
theorem op_mulOk {X : Cx} : OpR X (binaryOp .Mult) (rI IntMulOk fun i j => .int (i * j)) := opI fun _ _ _ _ _ _ _ hc q => mul_int q hc
theorem RepL.flat {K : PySem.W.Frag} {T : TM} {H : Hp} {ds : List D} {xs : List V} (h : RepL K T H ds xs) : ∀ n, RepL K T H (List.replicate n ds).flatten (List.replicate n xs).flatten
  | 0 => by simpa using RepL.nil
  | n + 1 => by
    rw [List.replicate_succ, List.replicate_succ, List.flatten_cons, List.flatten_cons]
    exact h.append (RepL.flat h n)
theorem oMul {X : Cx} : OpD X (binaryOp .Mult) gMul := by
  refine ⟨_, OpR.or op_mulOk op_rep, fun T H σ da db va vb Q q g ha hb h k => ?_⟩
  cases da <;> cases db <;> first | exact h.elim | skip
  · cases ha.int; cases hb.int
    exact .inl ⟨_, _, rfl, rfl, h.1, k T H _ _ (Gr.refl g) rep_int h.2⟩
  · obtain ⟨a, xs, rfl, s1, r1⟩ := ha.lst
    cases hb.int
    have l1 := r1.length
    exact .inr ⟨a, _, xs, rfl, rfl, s1, h.1, h.2.1, (by rw [← l1]; exact h.2.2.1), fun p hp => k _ _ _ _ (Gr.new g hp) (new_lst g hp (r1.flat _)) h.2.2.2⟩
/-- // : the divisor is not 0, and the machine divides by itself -/
def CFd (i j : Int) : Prop := j ≠ 0 ∧ Builtin.divisionGoesByPylong i j = false
abbrev gFdiv := gInt CFd fun i j => .int (i.fdiv j)
theorem oFdiv {X : Cx} : OpD X (binaryOp .FloorDiv) gFdiv := oInt (opI fun _ _ _ _ _ _ _ hc q => floordiv_int hc.1 q (.inl hc.2)) fun _ _ _ _ => by simp [RepV]
abbrev gMod := gInt (fun _ j => j ≠ 0) fun i j => .int (i.fmod j)
theorem oMod {X : Cx} : OpD X (binaryOp .Mod) gMod := oInt op_modN fun _ _ _ _ => by simp [RepV]
abbrev gPow := gInt CPow fun i j => .int (i ^ j.toNat)
theorem oPow {X : Cx} : OpD X (binaryOp .Pow) gPow := oInt op_pow fun _ _ _ _ => by simp [RepV]

/-! ### comparisons -/
abbrev gLt := gInt (fun _ _ => True) fun i j => .bl (decide (i < j))
abbrev gLe := gInt (fun _ _ => True) fun i j => .bl (decide (i ≤ j))
abbrev gGt := gInt (fun _ _ => True) fun i j => .bl (decide (j < i))
abbrev gGe := gInt (fun _ _ => True) fun i j => .bl (decide (j ≤ i))
theorem oLt {X : Cx} : OpD X (compareOp .Lt) gLt := oInt0 op_lt fun _ _ _ _ => by simp [RepV]
theorem oLe {X : Cx} : OpD X (compareOp .LtE) gLe := oInt0 op_le fun _ _ _ _ => by simp [RepV]
theorem oGt {X : Cx} : OpD X (compareOp .Gt) gGt := oInt0 op_gt fun _ _ _ _ => by simp [RepV]
theorem oGe {X : Cx} : OpD X (compareOp .GtE) gGe := oInt0 op_ge fun _ _ _ _ => by simp [RepV]
mutual
/-- data without dicts and instances, as the library has it -/
def toP : D → Option PyData
  | .non => some .none
  | .bl b => some (.bool b)
  | .int i => some (.int i)
  | .str x => some (.str x)
  | .tup xs => (toPs xs).map .tuple
  | .lst xs => (toPs xs).map .list
  | _ => none
def toPs : List D → Option (List PyData)
  | [] => some []
  | d :: ds => match toP d, toPs ds with
    | some p, some ps => some (p :: ps)
    | _, _ => none
end
mutual
theorem Dp.of {K : PySem.W.Frag} {T : TM} {H : Hp} : ∀ (d : D) (v : V) (p : PyData), View K T H d v → toP d = some p → Dp K H v p
  | .non, v, p, h, e => by cases h.non; simp only [toP] at e; cases e; exact .non
  | .bl b, v, p, h, e => by cases h.bl; simp only [toP] at e; cases e; exact .bl _
  | .int b, v, p, h, e => by cases h.int; simp only [toP] at e; cases e; exact .int _
  | .str b, v, p, h, e => by cases h.str; simp only [toP] at e; cases e; exact .str _
  | .tup xs, v, p, h, e => by
    obtain ⟨a, ys, rfl, s, r⟩ := h.tup
    simp only [toP, Option.map_eq_some_iff] at e
    obtain ⟨ps, e1, rfl⟩ := e
    exact .tup s.sq (Dp.ofs xs ys ps r e1)
  | .lst xs, v, p, h, e => by
    obtain ⟨a, ys, rfl, s, r⟩ := h.lst
    simp only [toP, Option.map_eq_some_iff] at e
    obtain ⟨ps, e1, rfl⟩ := e
    exact .lst (SqL.of s) (Dp.ofs xs ys ps r e1)
  | .ref _, _, _, _, e => by simp [toP] at e
  | .ty _, _, _, _, e => by simp [toP] at e
  | .fix _, _, _, _, e => by simp [toP] at e
  | .dk _ _, _, _, _, e => by simp [toP] at e
  | .dt _ _, _, _, _, e => by simp [toP] at e
  | .ins _ _ _, _, _, _, e => by simp [toP] at e
  | .xn _ _ _ _ _, _, _, _, e => by simp [toP] at e
  | .xo _ _ _, _, _, _, e => by simp [toP] at e
  | .cap _ _ _ _ _, _, _, _, e => by simp [toP] at e
theorem Dp.ofs {K : PySem.W.Frag} {T : TM} {H : Hp} : ∀ (ds : List D) (vs : List V) (ps : List PyData), RepL K T H ds vs → toPs ds = some ps → DpAll K H vs ps
  | [], _, _, h, e => by
    simp only [RepL] at h
    simp only [toPs] at e
    cases e; subst h
    exact .nil
  | d :: ds, _, ps, h, e => by
    obtain ⟨x, r, rfl, h1, h2⟩ := h.cons_inv
    simp only [toPs] at e
    cases e1 : toP d with
    | none => rw [e1] at e; cases e
    | some p =>
      cases e2 : toPs ds with
      | none => rw [e1, e2] at e; cases e
      | some qs =>
        rw [e1, e2] at e; cases e
        exact .cons (Dp.of d x p (View.of h1) e1) (Dp.ofs ds r qs h2 e2)
end
/-- == and != of data at any depth -/
def gEqv (f : Bool → Bool) (a b : D) (q : R → Prop) : Prop := ∃ pa pb, toP a = some pa ∧ toP b = some pb ∧ SeqAt.shaped pa = true ∧ SeqAt.shaped pb = true ∧ q (.val (.bl (f (PyData.eqv pa pb))))
theorem oEqv {X : Cx} (hu : X.A.units + 64 < cLine) : OpD X (compareOp .Eq) (gEqv id) := by
  refine ⟨_, op_eqD hu, fun T H σ da db va vb Q q g ha hb h k => ?_⟩
  obtain ⟨pa, pb, e1, e2, s1, s2, h⟩ := h
  exact ⟨pa, pb, Dp.of _ _ _ ha e1, Dp.of _ _ _ hb e2, s1, s2, k T H _ _ (Gr.refl g) rep_bl h⟩
theorem oNev {X : Cx} (hu : X.A.units + 64 < cLine) : OpD X (compareOp .NotEq) (gEqv not) := by
  refine ⟨_, op_neD hu, fun T H σ da db va vb Q q g ha hb h k => ?_⟩
  obtain ⟨pa, pb, e1, e2, s1, s2, h⟩ := h
  exact ⟨pa, pb, Dp.of _ _ _ ha e1, Dp.of _ _ _ hb e2, s1, s2, k T H _ _ (Gr.refl g) rep_bl h⟩
/-- is None, is not None -/
def D.isNon : D → Bool
  | .non => true
  | _ => false
def gIsN (f : Bool → Bool) (a b : D) (q : R → Prop) : Prop := match b with
  | .non => q (.val (.bl (f a.isNon)))
  | _ => False
theorem View.nonIff {K : PySem.W.Frag} {T : TM} {H : Hp} {d : D} {v : V} (h : View K T H d v) : decide (v = .non) = d.isNon := by
  cases d with
  | non => cases h.non; rfl
  | bl _ => cases h.bl; rfl
  | int _ => cases h.int; rfl
  | str _ => cases h.str; rfl
  | ref _ => cases h.ref; rfl
  | ty _ => cases h.ty; rfl
  | tup _ => obtain ⟨_, _, rfl, _⟩ := h.tup; rfl
  | lst _ => obtain ⟨_, _, rfl, _⟩ := h.lst; rfl
  | fix _ => obtain ⟨_, _, rfl, _⟩ := h.fix; rfl
  | dk _ _ => obtain ⟨_, _, rfl, _⟩ := h; rfl
  | dt _ _ => obtain ⟨_, _, rfl, _⟩ := h; rfl
  | ins _ _ _ => obtain ⟨_, _, _, rfl, _⟩ := h; rfl
  | xn _ _ _ _ _ => simp only [View, RepV] at h; obtain ⟨rfl, _⟩ := h; rfl
  | xo _ _ _ => simp only [View, RepV] at h; obtain ⟨a, rfl, _⟩ := h; rfl
  | cap _ _ _ _ _ => simp only [View, RepV] at h; obtain ⟨rfl, _⟩ := h; rfl
theorem oIsN {X : Cx} : OpD X (compareOp .Is) (gIsN id) := by
  refine ⟨_, op_isN, fun T H σ da db va vb Q q g ha hb h k => ?_⟩
  cases db <;> first | exact h.elim | skip
  refine ⟨hb.non, ?_⟩
  rw [ha.nonIff]
  exact k T H _ _ (Gr.refl g) rep_bl h
theorem oNotN {X : Cx} : OpD X (compareOp .IsNot) (gIsN not) := by
  refine ⟨_, op_notN, fun T H σ da db va vb Q q g ha hb h k => ?_⟩
  cases db <;> first | exact h.elim | skip
  refine ⟨hb.non, ?_⟩
  rw [ha.nonIff]
  exact k T H _ _ (Gr.refl g) rep_bl h

/-! ### one-place -/
def wUn (g : D → (R → Prop) → Prop) (wa : WE) : WE := fun env q x => wa env (fun ra e1 => vw ra e1 fun da => g da fun r => q r e1) x
def UnD (X : Cx) (f : Value → Sem Value) (g : D → (R → Prop) → Prop) : Prop :=
  ∃ r, UnR X f r ∧ ∀ T H σ da va (Q : VK) (q : R → Prop), Good T H → View X.K T H da va → g da q →
    (∀ T' H' res v, Gr T H T' H' → RepR X.K T T' H' σ res v → q res → Q v H') → r va H Q
section
variable {X : Cx} {W : WX} {pos : Pos} {a b c : Expr} {wa wb wc : WE}
theorem dun {op : UnaryOp} {g : D → (R → Prop) → Prop} (ho : UnD X (unaryOp op) g) (ha : DE X W a wa) : DE X W (.UnaryOp op a pos) (wUn g wa) := by
  obtain ⟨r, h1, h2⟩ := ho
  refine PE.le (pe_un h1 ha) fun σ H Q h => ?_
  obtain ⟨T, env, q, x, E, w, k, xk⟩ := h
  refine ⟨T, env, _, x, E, w, fun T1 H1 e1 ra va a1 ra1 w1 => ?_, xk⟩
  obtain ⟨da, hva, w2⟩ := vw_view a1.ev ra1 w1
  exact h2 T1 H1 σ da va Q _ a1.ev.good hva w2 fun T2 H2 res v g2 r2 q2 => k T2 H2 e1 res v (a1.grow g2) (r2.pre a1.fr) q2
def gNeg (a : D) (q : R → Prop) : Prop := match a with
  | .int i => q (.val (.int (-i)))
  | _ => False
theorem oNeg {X : Cx} : UnD X (unaryOp .USub) gNeg := by
  refine ⟨_, un_neg, fun T H σ da va Q q g ha h k => ?_⟩
  cases da <;> first | exact h.elim | skip
  cases ha.int
  exact ⟨_, rfl, k T H _ _ (Gr.refl g) rep_int h⟩

/-! ### tests -/
theorem View.tru {K : PySem.W.Frag} {T : TM} {H : Hp} {d : D} {v : V} {k : Bool → Prop} (h : View K T H d v) (q : tru d k) : ∃ b, TruV K v H b ∧ k b := by
  cases d <;> first | exact q.elim | skip
  · cases h.non; exact ⟨false, rfl, q⟩
  · cases h.bl; exact ⟨_, rfl, q⟩
  · cases h.int; exact ⟨_, rfl, q⟩
  · cases h.str
    refine ⟨_, ⟨q.1, rfl⟩, ?_⟩
    have e : ∀ n : Nat, (((n : Nat) : Int) != 0) = (n != 0) := fun n => by
      rw [Bool.eq_iff_iff]; simp
    rw [e]; exact q.2
  · obtain ⟨a, ys, rfl, s, r⟩ := h.tup
    refine ⟨_, .inr (.inl ⟨ys, s.sq, rfl⟩), ?_⟩
    have l := r.length
    rename_i xs
    cases xs <;> cases ys <;> first | exact q | (simp at l)
  · obtain ⟨a, ys, rfl, s, r⟩ := h.lst
    refine ⟨_, .inl ⟨ys, SqL.of s, rfl⟩, ?_⟩
    have l := r.length
    rename_i xs
    cases xs <;> cases ys <;> first | exact q | (simp at l)
theorem dtru {e : Expr} {w : WE} (he : DE X W e w) (hp : ∀ whole, isTrue e X.env whole = (do let v ← whole; standAt e.pos; holding [v] (truthy v)) := by intro _; rfl) : DT X W e (wTru w) := by
  refine PT.le (pt_truth he hp) fun σ H Q h => ?_
  obtain ⟨T, env, q, x, E, w1, k, xk⟩ := h
  refine ⟨T, env, _, x, E, w1, fun T1 H1 e1 r v a1 r1 w2 => ?_, xk⟩
  obtain ⟨d, hv, w3⟩ := vw_view a1.ev r1 w2
  obtain ⟨b, tb, q3⟩ := hv.tru w3
  exact ⟨b, tb, k T1 H1 e1 b a1 q3⟩
def wNot (w : WT) : WT := fun env q x => w env (fun b e => q (!b) e) x
theorem dnot {e : Expr} {w : WT} (he : DT X W e w) : DT X W (.UnaryOp .Not e pos) (wNot w) := by
  refine PT.le (pt_not he) fun σ H Q h => ?_
  obtain ⟨T, env, q, x, E, w1, k, xk⟩ := h
  exact ⟨T, env, _, x, E, w1, fun T1 H1 e1 b a1 q1 => k T1 H1 e1 (!b) a1 q1, xk⟩
abbrev DW (X : Cx) (W : WX) (e : Expr) (w : WT) : Prop := PW X e (LT X.K W w)
theorem PW.le {X : Cx} {e : Expr} {t t' : TT} (h : PW X e t) (i : ∀ σ H Q, t' σ H Q → t σ H Q) : PW X e t' := ⟨fun wh pins s σ H Q I q => h.run wh pins s σ H Q I (i σ H Q q)⟩
def wAnd (w u : WT) : WT := fun env q x => w env (fun b e => if b = true then u e q x else q false e) x
def wOr (w u : WT) : WT := fun env q x => w env (fun b e => if b = true then q true e else u e q x) x
theorem land {K : PySem.W.Frag} {w u : WT} {σ : L2.St} {H : Hp} {Q : Bool → Hp → Prop} (h : LT K W (wAnd w u) σ H Q) : tAnd (LT K W w) (LT K W u) σ H Q := by
  obtain ⟨T, env, q, x, E, w1, k, xk⟩ := h
  refine ⟨T, env, _, x, E, w1, fun T1 H1 e1 b a1 q1 => ?_, xk⟩
  cases b with
  | false => exact k T1 H1 e1 false a1 q1
  | true => exact ⟨T1, e1, q, x, a1.ev, q1, fun T2 H2 e2 b a2 q2 => k T2 H2 e2 b (a1.trans a2) q2, xk.after a1⟩
theorem lor' {K : PySem.W.Frag} {w u : WT} {σ : L2.St} {H : Hp} {Q : Bool → Hp → Prop} (h : LT K W (wOr w u) σ H Q) : tOr (LT K W w) (LT K W u) σ H Q := by
  obtain ⟨T, env, q, x, E, w1, k, xk⟩ := h
  refine ⟨T, env, _, x, E, w1, fun T1 H1 e1 b a1 q1 => ?_, xk⟩
  cases b with
  | true => exact k T1 H1 e1 true a1 q1
  | false => exact ⟨T1, e1, q, x, a1.ev, q1, fun T2 H2 e2 b a2 q2 => k T2 H2 e2 b (a1.trans a2) q2, xk.after a1⟩
variable {rest : List Expr}
theorem dand1 {w : WT} (ha : DT X W a w) : DW X W (.BoolOp .And [a] pos) w := pw_and1 ha
theorem dor1 {w : WT} (ha : DT X W a w) : DW X W (.BoolOp .Or [a] pos) w := pw_or1 ha
theorem dand {w u : WT} (ha : DT X W a w) (hb : DW X W (.BoolOp .And (b :: rest) pos) u) : DW X W (.BoolOp .And (a :: b :: rest) pos) (wAnd w u) := PW.le (pw_and ha hb) fun _ _ _ h => land h
theorem dor {w u : WT} (ha : DT X W a w) (hb : DW X W (.BoolOp .Or (b :: rest) pos) u) : DW X W (.BoolOp .Or (a :: b :: rest) pos) (wOr w u) := PW.le (pw_or ha hb) fun _ _ _ h => lor' h
/-- .. as values, all but the last one bools -/
def wAndV (w u : WE) : WE := fun env q x => w env (fun r e => match r with | .val (.bl b) => if b = true then u e q x else q (.val (.bl false)) e | _ => False) x
def wOrV (w u : WE) : WE := fun env q x => w env (fun r e => match r with | .val (.bl b) => if b = true then q (.val (.bl true)) e else u e q x | _ => False) x
theorem landV {K : PySem.W.Frag} {w u : WE} {σ : L2.St} {H : Hp} {Q : VK} (h : LE K W (wAndV w u) σ H Q) : tAndV (LE K W w) (LE K W u) σ H Q := by
  obtain ⟨T, env, q, x, E, w1, k, xk⟩ := h
  refine ⟨T, env, _, x, E, w1, fun T1 H1 e1 r v a1 r1 q1 => ?_, xk⟩
  cases r with
  | val d =>
    cases d with
    | bl b =>
      have e : v = .bl b := by simpa only [RepR, RepV] using r1
      refine ⟨b, e, ?_⟩
      cases b with
      | false => exact k T1 H1 e1 _ _ a1 (by show RepV _ _ _ _ _; simp [RepV]) q1
      | true => exact ⟨T1, e1, q, x, a1.ev, q1, fun T2 H2 e2 r v a2 r2 q2 => k T2 H2 e2 r v (a1.trans a2) (r2.pre a1.fr) q2, xk.after a1⟩
    | _ => exact q1.elim
  | _ => exact q1.elim
theorem lorV {K : PySem.W.Frag} {w u : WE} {σ : L2.St} {H : Hp} {Q : VK} (h : LE K W (wOrV w u) σ H Q) : tOrV (LE K W w) (LE K W u) σ H Q := by
  obtain ⟨T, env, q, x, E, w1, k, xk⟩ := h
  refine ⟨T, env, _, x, E, w1, fun T1 H1 e1 r v a1 r1 q1 => ?_, xk⟩
  cases r with
  | val d =>
    cases d with
    | bl b =>
      have e : v = .bl b := by simpa only [RepR, RepV] using r1
      refine ⟨b, e, ?_⟩
      cases b with
      | true => exact k T1 H1 e1 _ _ a1 (by show RepV _ _ _ _ _; simp [RepV]) q1
      | false => exact ⟨T1, e1, q, x, a1.ev, q1, fun T2 H2 e2 r v a2 r2 q2 => k T2 H2 e2 r v (a1.trans a2) (r2.pre a1.fr) q2, xk.after a1⟩
    | _ => exact q1.elim
  | _ => exact q1.elim
theorem done1 {op} {w : WE} (ha : DE X W a w) : DE X W (.BoolOp op [a] pos) w := pe_one ha
theorem dandV {w u : WE} (ha : DE X W a w) (hb : DE X W (.BoolOp .And (b :: rest) pos) u) : DE X W (.BoolOp .And (a :: b :: rest) pos) (wAndV w u) := PE.le (pe_and ha hb) fun _ _ _ h => landV h
theorem dorV {w u : WE} (ha : DE X W a w) (hb : DE X W (.BoolOp .Or (b :: rest) pos) u) : DE X W (.BoolOp .Or (a :: b :: rest) pos) (wOrV w u) := PE.le (pe_or ha hb) fun _ _ _ h => lorV h
/-- not, as a value of any kind -/
def wNotV (w : WE) : WE := fun env q x => w env (fun r e => vw r e fun d => tru d fun b => q (.val (.bl (!b))) e) x
theorem dnotV {w : WE} (ha : DE X W a w) : DE X W (.UnaryOp .Not a pos) (wNotV w) := by
  refine PE.le (pe_notT ha) fun σ H Q h => ?_
  obtain ⟨T, env, q, x, E, w1, k, xk⟩ := h
  refine ⟨T, env, _, x, E, w1, fun T1 H1 e1 r v a1 r1 w2 => ?_, xk⟩
  obtain ⟨d, hv, w3⟩ := vw_view a1.ev r1 w2
  obtain ⟨b, tb, q3⟩ := hv.tru w3
  exact ⟨b, tb, k T1 H1 e1 _ _ a1 (by show RepV _ _ _ _ _; simp [RepV]) q3⟩
def wIfE (t : WT) (u v : WE) : WE := fun env q x => t env (fun b e => if b = true then u e q x else v e q x) x
theorem difE {t : WT} {u v : WE} (hc : DT X W c t) (ha : DE X W a u) (hb : DE X W b v) : DE X W (.IfExp c a b pos) (wIfE t u v) := by
  refine PE.le (pe_ifExp hc ha hb) fun σ H Q h => ?_
  obtain ⟨T, env, q, x, E, w1, k, xk⟩ := h
  refine ⟨T, env, _, x, E, w1, fun T1 H1 e1 b a1 q1 => ?_, xk⟩
  cases b with
  | true => exact ⟨T1, e1, q, x, a1.ev, q1, fun T2 H2 e2 r v a2 r2 q2 => k T2 H2 e2 r v (a1.trans a2) (r2.pre a1.fr) q2, xk.after a1⟩
  | false => exact ⟨T1, e1, q, x, a1.ev, q1, fun T2 H2 e2 r v a2 r2 q2 => k T2 H2 e2 r v (a1.trans a2) (r2.pre a1.fr) q2, xk.after a1⟩
/-- a < b < c -/
def wChain (g g' : D → D → (R → Prop) → Prop) (wa wb wc : WE) : WE := fun env q x => wa env (fun ra e1 => wb e1 (fun rb e2 => vw ra e2 fun da => vw rb e2 fun db => g da db fun r => match r with
  | .val (.bl k) => if k = true then wc e2 (fun rc e3 => vw rb e3 fun db' => vw rc e3 fun dc => g' db' dc fun r' => q r' e3) x else q (.val (.bl false)) e2
  | _ => False) x) x
end
end DL

end DlC
section DlD
set_option Elab.async false
set_option linter.all false
set_option maxRecDepth 100000
set_option maxHeartbeats 4000000
/-! DlD: arguments, displays, calls of built-ins, subscripts, slices, in. -/
namespace DL
open PySem PySem.Spec PyProof.Rows L2
variable [TabEnv]

section
variable {K : PySem.W.Frag} {W : WX} {T T0 T' T1 T2 : TM} {H H0 H' H1 H2 : Hp} {env env0 env1 env2 : Ev} {σ σ0 σ1 σ2 : L2.St}
theorem RepRs.mono {rs : List R} {vs : List V} (f : Fr T H T' H') (h : RepRs K T0 T H σ rs vs) : RepRs K T0 T' H' σ rs vs := by
  induction h with
  | nil => exact .nil
  | cons a _ ih => exact .cons (a.mono f) ih
theorem RepRs.pre {rs : List R} {vs : List V} (f : Fr T0 H0 T1 H1) (h : RepRs K T1 T H σ rs vs) : RepRs K T0 T H σ rs vs := by
  induction h with
  | nil => exact .nil
  | cons a _ ih => exact .cons (a.pre f) ih
theorem ownAd_tmp {rs : List R} {vs : List V} (h : RepRs K T0 T H σ rs vs) : ∀ b ∈ ownAd rs vs, T0 b ≠ some .tmp ∧ T b = some .tmp := by
  induction h with
  | nil => intro b hb; exact absurd hb (by simp [ownAd])
  | @cons r v rs vs a _ ih =>
    intro b hb
    cases r with
    | val d => exact ih b (by simpa [ownAd] using hb)
    | loc i => exact ih b (by simpa [ownAd] using hb)
    | own o =>
      obtain ⟨c, e, n, t, _⟩ := a
      subst e
      rcases List.mem_cons.mp (by simpa [ownAd] using hb : b ∈ c :: ownAd rs vs) with z | z
      · subst z; exact ⟨n, t⟩
      · exact ih b z
/-- the reading of an argument list -/
def wNil : WA := fun env q _ => q [] env
def wCons (w : WE) (u : WA) : WA := fun env q x => w env (fun r e1 => u e1 (fun rs e2 => q (r :: rs) e2) x) x
theorem lnil {Q : List V → Hp → Prop} (h : LA K W wNil σ H Q) : tNil σ H Q := by
  obtain ⟨T, env, q, x, E, w, k, _⟩ := h
  exact k T H env [] [] (Af.refl E) .nil (by simp [ownAd]) w
theorem lcons {w : WE} {u : WA} {Q : List V → Hp → Prop} (h : LA K W (wCons w u) σ H Q) : tCons (LE K W w) (LA K W u) σ H Q := by
  obtain ⟨T, env, q, x, E, w, k, xk⟩ := h
  refine ⟨T, env, _, x, E, w, fun T1 H1 e1 r v a1 r1 w1 => ?_, xk⟩
  refine ⟨T1, e1, _, x, a1.ev, w1, fun T2 H2 e2 rs vs a2 r2 nd q2 => ?_, xk.after a1⟩
  refine k T2 H2 e2 (r :: rs) (v :: vs) (a1.trans a2) (.cons (r1.mono a2.fr) (r2.pre a1.fr)) ?_ q2
  cases r with
  | val d => simpa [ownAd] using nd
  | loc i => simpa [ownAd] using nd
  | own o =>
    obtain ⟨c, e, n, t, _⟩ := r1
    subst e
    simp only [ownAd, List.nodup_cons]
    exact ⟨fun z => (ownAd_tmp r2 c z).1 t, nd⟩
/-- what may be stored of some results -/
def dvs (rs : List R) (k : List D → Prop) : Prop := match rs with
  | [] => k []
  | r :: rs => dv r fun d => dvs rs fun ds => k (d :: ds)
theorem dvs_rep : ∀ {rs : List R} {vs : List V} {T : TM} {k : List D → Prop}, Fr T0 H0 T H → EvOk K T H env σ → RepRs K T0 T H σ rs vs → (ownAd rs vs).Nodup → dvs rs k →
    ∃ T' ds, Fr T0 H0 T' H ∧ EvOk K T' H env σ ∧ Le T H T' H ∧ (∀ b, T b = some .tmp → b ∉ ownAd rs vs → T' b = some .tmp) ∧ RepL K T' H ds vs ∧ k ds
  | _, _, T, k, f, E, .nil, _, q => ⟨T, [], f, E, fun _ e => ⟨e, .inl rfl⟩, fun _ e _ => e, .nil, q⟩
  | r :: rs, v :: vs, T, k, f, E, .cons a h, nd, q => by
    cases r with
    | val d =>
      have q : dvs rs fun ds => k (d :: ds) := q
      obtain ⟨T', ds, f', E', le, kt, r', q'⟩ := dvs_rep (rs := rs) (vs := vs) f E h (by simpa [ownAd] using nd) q
      exact ⟨T', d :: ds, f', E', le, fun b e n => kt b e (by simpa [ownAd] using n), .cons (RepV.mono le d v a) r', q'⟩
    | loc i => exact q.elim
    | own o =>
      obtain ⟨c, e, n, t, ro⟩ := a
      subst e
      have nd : c ∉ ownAd rs vs ∧ (ownAd rs vs).Nodup := by simpa [ownAd] using nd
      have h' : RepRs K T0 (tag T c (some .fz)) H σ rs vs := by
        have key : ∀ {rs : List R} {vs : List V}, c ∉ ownAd rs vs → RepRs K T0 T H σ rs vs → RepRs K T0 (tag T c (some .fz)) H σ rs vs := by
          intro rs vs hc h
          induction h with
          | nil => exact .nil
          | @cons r v rs vs a h ih =>
            cases r with
            | val d => exact .cons (RepV.mono (Le.retag t) d v a) (ih (by simpa [ownAd] using hc))
            | loc i => exact .cons a (ih (by simpa [ownAd] using hc))
            | own o =>
              obtain ⟨b, e, n, tb, q⟩ := a
              subst e
              have hb : b ≠ c ∧ c ∉ ownAd rs vs := by
                have : c ≠ b ∧ c ∉ ownAd rs vs := by simpa [ownAd] using hc
                exact ⟨fun z => this.1 z.symm, this.2⟩
              exact .cons ⟨b, rfl, n, by rw [tag_ne hb.1]; exact tb, q.mono (Le.retag t) rfl⟩ (ih hb.2)
        exact key nd.1 h
      have q : dvs rs fun ds => k (o.toD :: ds) := q
      obtain ⟨T', ds, f', E', le, kt, r', q'⟩ := dvs_rep (rs := rs) (vs := vs) (f.retag t n (by simp)) (E.retag t) h' nd.2 q
      refine ⟨T', o.toD :: ds, f', E', fun b e => ?_, fun b e hn => ?_, .cons (RepV.mono le _ _ (RepO.frozen (ro.mono (Le.retag t) rfl) tag_same)) r', q'⟩
      · exact le b ((Le.retag (H := H) t) b e).1
      · have hn : b ≠ c ∧ b ∉ ownAd rs vs := by simpa [ownAd] using hn
        exact kt b (by rw [tag_ne hn.1]; exact e) hn.2
theorem Af.freeze {a0 : Af K T0 H0 env0 σ0 T H env σ} (f' : Fr T0 H0 T' H) (E' : EvOk K T' H env σ) : Af K T0 H0 env0 σ0 T' H env σ := ⟨f', E', a0.kp⟩
theorem dvs_after {rs : List R} {vs : List V} {k : List D → Prop} (a0 : Af K T0 H0 env0 σ0 T H env σ) (h : RepRs K T0 T H σ rs vs) (nd : (ownAd rs vs).Nodup) (q : dvs rs k) :
    ∃ T' ds, Af K T0 H0 env0 σ0 T' H env σ ∧ RepL K T' H ds vs ∧ k ds := by
  obtain ⟨T', ds, f', E', _, _, r, q'⟩ := dvs_rep a0.fr a0.ev h nd q
  exact ⟨T', ds, ⟨f', E', a0.kp⟩, r, q'⟩
/-- views of some results -/
def vws (rs : List R) (e : Ev) (k : List D → Prop) : Prop := match rs with
  | [] => k []
  | r :: rs => vw r e fun d => vws rs e fun ds => k (d :: ds)
inductive ViewL (K : PySem.W.Frag) (T : TM) (H : Hp) : List D → List V → Prop
  | nil : ViewL K T H [] []
  | cons {d v ds vs} : View K T H d v → ViewL K T H ds vs → ViewL K T H (d :: ds) (v :: vs)
theorem vws_view (E : EvOk K T H env σ) : ∀ {rs : List R} {vs : List V} {k : List D → Prop}, RepRs K T0 T H σ rs vs → vws rs env k → ∃ ds, ViewL K T H ds vs ∧ k ds
  | _, _, _, .nil, q => ⟨[], .nil, q⟩
  | _ :: _, _ :: _, _, .cons a h, q => by
    obtain ⟨d, hv, q1⟩ := vw_view E a q
    obtain ⟨ds, hl, q2⟩ := vws_view E h q1
    exact ⟨d :: ds, .cons hv hl, q2⟩

def wTup (u : WA) : WE := fun env q x => u env (fun rs e => dvs rs fun ds => ds.length ≤ sizeLine ∧ q (.val (.tup ds)) e) x
def wLst (u : WA) : WE := fun env q x => u env (fun rs e => dvs rs fun ds => ds.length ≤ sizeLine ∧ q (.own (.lst ds)) e) x
def wCall (g : List D → (R → Prop) → Prop) (u : WA) : WE := fun env q x => u env (fun rs e => vws rs e fun ds => g ds fun r => q r e) x
end

section
variable {X : Cx} {W : WX} {pos : Pos} {a b c e : Expr} {es : List Expr} {wa wb wc w : WE} {u : WA}
theorem dnil : DA X W [] wNil := PA.le pa_nil fun _ _ _ h => lnil h
theorem dcons (ha : DE X W e w) (hr : DA X W es u) (hs : starEach (e :: es) X.env = (false, eval e X.env) :: starEach es X.env := by rfl) : DA X W (e :: es) (wCons w u) := PA.le (pa_cons ha hr hs) fun _ _ _ h => lcons h
theorem dtup {k} (h : DA X W es u) : DE X W (.Tuple es k pos) (wTup u) := by
  refine PE.le (pe_tup h) fun σ H Q h => ?_
  obtain ⟨T, env, q, x, E, w, k, xk⟩ := h
  refine ⟨T, env, _, x, E, w, fun T1 H1 e1 rs vs a1 r1 nd q1 => ?_, xk⟩
  obtain ⟨T2, ds, a2, r2, hl, q2⟩ := dvs_after a1 r1 nd q1
  refine ⟨by rw [← r2.length]; exact hl, fun p hp => ?_⟩
  exact k _ _ e1 _ _ (a2.grow (Gr.new a2.ev.good hp)) ((new_tup a2.ev.good hp r2).pre a2.fr) q2
theorem dlst (h : DA X W es u) : DE X W (.List es pos) (wLst u) := by
  refine PE.le (pe_lst h) fun σ H Q h => ?_
  obtain ⟨T, env, q, x, E, w, k, xk⟩ := h
  refine ⟨T, env, _, x, E, w, fun T1 H1 e1 rs vs a1 r1 nd q1 => ?_, xk⟩
  obtain ⟨T2, ds, a2, r2, hl, q2⟩ := dvs_after a1 r1 nd q1
  refine ⟨by rw [← r2.length]; exact hl, fun p hp => ?_⟩
  exact k _ _ e1 _ _ (a2.grow (Gr.new a2.ev.good hp)) ((new_lst a2.ev.good hp r2).pre a2.fr) q2

/-! ### calls of built-ins -/
def CallD (X : Cx) (f : Value) (g : List D → (R → Prop) → Prop) : Prop :=
  ∃ r, CallR X f r ∧ ∀ T H σ ds vs (Q : VK) (q : R → Prop), Good T H → ViewL X.K T H ds vs → g ds q →
    (∀ T' H' res v, Gr T H T' H' → RepR X.K T T' H' σ res v → q res → Q v H') → r vs H Q
theorem lcall {r : List V → Hp → VK → Prop} {g : List D → (R → Prop) → Prop} {σ : L2.St} {H : Hp} {Q : VK}
    (h2 : ∀ T H σ ds vs (Q : VK) (q : R → Prop), Good T H → ViewL X.K T H ds vs → g ds q → (∀ T' H' res v, Gr T H T' H' → RepR X.K T T' H' σ res v → q res → Q v H') → r vs H Q)
    (h : LE X.K W (wCall g u) σ H Q) : tCB r (LA X.K W u) σ H Q := by
  obtain ⟨T, env, q, x, E, w, k, xk⟩ := h
  refine ⟨T, env, _, x, E, w, fun T1 H1 e1 rs vs a1 r1 nd q1 => ?_, xk⟩
  obtain ⟨ds, hv, q2⟩ := vws_view a1.ev r1 q1
  exact h2 T1 H1 σ ds vs Q _ a1.ev.good hv q2 fun T2 H2 res v g2 r2 q3 => k T2 H2 e1 res v (a1.grow g2) (r2.pre a1.fr) q3
theorem dcallB {x : Str} {id : String} {g : List D → (R → Prop) → Prop} {p : Pos} (hc : CallD X (.builtin id) g) (hm : X.mg x = none) (ha : DA X W (e :: es) u) (hg : Gl X x := by rfl) (hv : bootBuiltins x = some (.builtin id) := by decide +kernel) (hn : x ≠ "__name__" := by decide) (hdb : (x == ("__debug__" : Str)) = false := by decide)
    (he : starEach (e :: es) X.env = (false, eval e X.env) :: starEach es X.env := by rfl) (hpl : (backTo pos (starEach es X.env)).any (·.1) = false := by rfl) : DE X W (.Call (.Name x p) (e :: es) [] pos) (wCall g u) := by
  obtain ⟨r, h1, h2⟩ := hc
  exact PE.le (pe_callB h1 hg hm hv ha hn hdb he hpl) fun _ _ _ h => lcall h2 h
theorem dcallTy {x : Str} {id : String} {g : List D → (R → Prop) → Prop} {p : Pos} (hc : CallD X (.type id) g) (hm : X.mg x = none) (ha : DA X W (e :: es) u) (hg : Gl X x := by rfl) (hv : bootBuiltins x = some (.type id) := by decide +kernel) (hn : x ≠ "__name__" := by decide) (hdb : (x == ("__debug__" : Str)) = false := by decide)
    (he : starEach (e :: es) X.env = (false, eval e X.env) :: starEach es X.env := by rfl) (hpl : (backTo pos (starEach es X.env)).any (·.1) = false := by rfl) : DE X W (.Call (.Name x p) (e :: es) [] pos) (wCall g u) := by
  obtain ⟨r, h1, h2⟩ := hc
  exact PE.le (pe_callTy h1 hg hm hv ha hn hdb he hpl) fun _ _ _ h => lcall h2 h
theorem ViewL.one {K : PySem.W.Frag} {T : TM} {H : Hp} {d : D} {vs : List V} (h : ViewL K T H [d] vs) : ∃ v, vs = [v] ∧ View K T H d v := by
  cases h with
  | cons a h => cases h; exact ⟨_, rfl, a⟩
theorem ViewL.two {K : PySem.W.Frag} {T : TM} {H : Hp} {d d' : D} {vs : List V} (h : ViewL K T H [d, d'] vs) : ∃ v v', vs = [v, v'] ∧ View K T H d v ∧ View K T H d' v' := by
  cases h with
  | cons a h =>
    obtain ⟨v, rfl, b⟩ := h.one
    exact ⟨_, _, rfl, a, b⟩
/-- one argument -/
def g1 (g : D → (R → Prop) → Prop) (ds : List D) (q : R → Prop) : Prop := match ds with
  | [d] => g d q
  | _ => False
def g2 (g : D → D → (R → Prop) → Prop) (ds : List D) (q : R → Prop) : Prop := match ds with
  | [d, d'] => g d d' q
  | _ => False
theorem CallD.of1 {f : Value} {g : D → (R → Prop) → Prop} {r : List V → Hp → VK → Prop} (h1 : CallR X f r)
    (h2 : ∀ T H σ d v (Q : VK) (q : R → Prop), Good T H → View X.K T H d v → g d q → (∀ T' H' res v, Gr T H T' H' → RepR X.K T T' H' σ res v → q res → Q v H') → r [v] H Q) : CallD X f (g1 g) := by
  refine ⟨r, h1, fun T H σ ds vs Q q gd hv hg k => ?_⟩
  match ds, hv, hg with
  | [d], hv, hg =>
    obtain ⟨v, rfl, hv'⟩ := hv.one
    exact h2 T H σ d v Q q gd hv' hg k
theorem CallD.of2 {f : Value} {g : D → D → (R → Prop) → Prop} {r : List V → Hp → VK → Prop} (h1 : CallR X f r)
    (h2 : ∀ T H σ d d' v v' (Q : VK) (q : R → Prop), Good T H → View X.K T H d v → View X.K T H d' v' → g d d' q → (∀ T' H' res v, Gr T H T' H' → RepR X.K T T' H' σ res v → q res → Q v H') → r [v, v'] H Q) : CallD X f (g2 g) := by
  refine ⟨r, h1, fun T H σ ds vs Q q gd hv hg k => ?_⟩
  match ds, hv, hg with
  | [d, d'], hv, hg =>
    obtain ⟨v, v', rfl, hv1, hv2⟩ := hv.two
    exact h2 T H σ d d' v v' Q q gd hv1 hv2 hg k
theorem CallR.or {f : Value} {r r' : List V → Hp → VK → Prop} (h : CallR X f r) (h' : CallR X f r') : CallR X f (fun xs H Q => r xs H Q ∨ r' xs H Q) := by
  intro pins s σ H xs us Q I rv q
  rcases q with q | q
  · exact h pins s σ H xs us Q I rv q
  · exact h' pins s σ H xs us Q I rv q
def gLen (d : D) (q : R → Prop) : Prop := match d with
  | .lst xs => q (.val (.int xs.length))
  | .tup xs => q (.val (.int xs.length))
  | .fix xs => q (.val (.int xs.length))
  | .str x => x.length ≤ sizeLine ∧ q (.val (.int x.length))
  | _ => False
theorem cLen : CallD X (.builtin "len") (g1 gLen) := CallD.of1 call_len fun T H σ d v Q q g hv hg k => by
  cases d <;> first | exact hg.elim | skip
  · cases hv.str
    exact ⟨_, _, rfl, ⟨hg.1, rfl⟩, k T H _ _ (Gr.refl g) rep_int hg.2⟩
  · obtain ⟨a, ys, rfl, s, r⟩ := hv.tup
    exact ⟨_, _, rfl, .inr ⟨ys, s.sq, rfl⟩, k T H _ _ (Gr.refl g) rep_int (by rw [← r.length]; exact hg)⟩
  · obtain ⟨a, ys, rfl, s, r⟩ := hv.lst
    exact ⟨_, _, rfl, .inl ⟨ys, SqL.of s, rfl⟩, k T H _ _ (Gr.refl g) rep_int (by rw [← r.length]; exact hg)⟩
  · obtain ⟨a, ys, rfl, s, r⟩ := hv.fix
    exact ⟨_, _, rfl, .inl ⟨ys, s.sq, rfl⟩, k T H _ _ (Gr.refl g) rep_int (by rw [← r.length]; exact hg)⟩
def gAbs (d : D) (q : R → Prop) : Prop := match d with
  | .int i => q (.val (.int (if i < 0 then -i else i)))
  | _ => False
theorem cAbs : CallD X (.builtin "abs") (g1 gAbs) := CallD.of1 call_abs fun T H σ d v Q q g hv hg k => by
  cases d <;> first | exact hg.elim | skip
  cases hv.int
  exact ⟨_, rfl, k T H _ _ (Gr.refl g) rep_int hg⟩
/-- int(n): of an int, a bool -/
def gIntC (d : D) (q : R → Prop) : Prop := match d with
  | .int i => q (.val (.int i))
  | .bl b => q (.val (.int (if b then 1 else 0)))
  | _ => False
theorem cInt : CallD X (.type "int") (g1 gIntC) := CallD.of1 call_int1 fun T H σ d v Q q g hv hg k => by
  cases d <;> first | exact hg.elim | skip
  · cases hv.bl; exact .inr ⟨_, rfl, k T H _ _ (Gr.refl g) rep_int hg⟩
  · cases hv.int; exact .inl ⟨_, rfl, k T H _ _ (Gr.refl g) rep_int hg⟩
def gListC (d : D) (q : R → Prop) : Prop := match d with
  | .lst xs => q (.own (.lst xs))
  | .tup xs => q (.own (.lst xs))
  | .fix xs => q (.own (.lst xs))
  | _ => False
theorem cList : CallD X (.type "list") (g1 gListC) := CallD.of1 call_list_of fun T H σ d v Q q g hv hg k => by
  cases d <;> first | exact hg.elim | skip
  · obtain ⟨a, ys, rfl, s, r⟩ := hv.tup
    exact ⟨_, ys, rfl, .inr s.sq, fun p hp => k _ _ _ _ (Gr.new g hp) (new_lst g hp r) hg⟩
  · obtain ⟨a, ys, rfl, s, r⟩ := hv.lst
    exact ⟨_, ys, rfl, .inl (SqL.of s), fun p hp => k _ _ _ _ (Gr.new g hp) (new_lst g hp r) hg⟩
  · obtain ⟨a, ys, rfl, s, r⟩ := hv.fix
    exact ⟨_, ys, rfl, .inl s.sq, fun p hp => k _ _ _ _ (Gr.new g hp) (new_lst g hp r) hg⟩
def gTupC (d : D) (q : R → Prop) : Prop := match d with
  | .lst xs => q (.val (.tup xs))
  | .tup xs => q (.val (.tup xs))
  | _ => False
theorem cTup : CallD X (.type "tuple") (g1 gTupC) := CallD.of1 call_tuple_of fun T H σ d v Q q g hv hg k => by
  cases d <;> first | exact hg.elim | skip
  · obtain ⟨a, ys, rfl, s, r⟩ := hv.tup
    exact ⟨_, ys, rfl, .inr ⟨s.sq, k T H _ _ (Gr.refl g) (by show RepV _ _ _ _ _; simpa only [View] using hv) hg⟩⟩
  · obtain ⟨a, ys, rfl, s, r⟩ := hv.lst
    exact ⟨_, ys, rfl, .inl ⟨SqL.of s, fun p hp => k _ _ _ _ (Gr.new g hp) (new_tup g hp r) hg⟩⟩

/-! ### dicts by their data -/
end
section
variable {κ α : Type} [DecidableEq κ]
def lkD (kvs : List (κ × α)) (k : κ) : Option α := match kvs with
  | [] => none
  | p :: r => if p.1 = k then some p.2 else lkD r k
def putD (kvs : List (κ × α)) (k : κ) (v : α) : List (κ × α) := match kvs with
  | [] => [(k, v)]
  | p :: r => if p.1 = k then (p.1, v) :: r.map (fun kv => if kv.1 = k then (kv.1, v) else kv) else p :: putD r k v
theorem valV_lk (kvs : List (κ × V)) (k : κ) : valV kvs k = lkD kvs k := by
  induction kvs with
  | nil => rfl
  | cons p r ih =>
    by_cases e : p.1 = k
    · rw [valV_pos e]; simp [lkD, e]
    · rw [valV_neg e, ih]; simp [lkD, e]
theorem putK_put (kvs : List (κ × V)) (k : κ) (v : V) : putK kvs k v = putD kvs k v := by
  induction kvs with
  | nil => rfl
  | cons p r ih =>
    by_cases e : p.1 = k
    · simp [putK, putD, e]
    · unfold putK at ih ⊢
      rw [List.any_cons, decide_eq_false e, Bool.false_or]
      simp only [putD, if_neg e]
      rw [← ih]
      split
      · rw [List.map_cons, if_neg e]
      · rfl
theorem putD_keys (v : α) (w : V) (k : κ) : ∀ (xs : List (κ × α)) (ys : List (κ × V)), ys.map (·.1) = xs.map (·.1) → (putD ys k w).map (·.1) = (putD xs k v).map (·.1)
  | [], ys, h => by
    have : ys = [] := by simpa using h
    subst this; rfl
  | x :: xs, [], h => by simp at h
  | x :: xs, y :: ys, h => by
    simp only [List.map_cons, List.cons.injEq] at h
    obtain ⟨h1, h2⟩ := h
    have key : ∀ {β : Type} (u : β) (l : List (κ × β)), (l.map (fun kv => if kv.1 = k then (kv.1, u) else kv)).map (·.1) = l.map (·.1) := by
      intro β u l
      rw [List.map_map]
      refine List.map_congr_left fun p _ => ?_
      simp only [Function.comp]
      split <;> rfl
    by_cases e : x.1 = k
    · simp only [putD, h1, if_pos e, List.map_cons, key, h2]
    · simp only [putD, h1, if_neg e, List.map_cons, putD_keys v w k xs ys h2]
end
section
variable {κ : Type} [DecidableEq κ] {K : PySem.W.Frag} {T : TM} {H : Hp}
theorem lk_rep {k : κ} {d : D} : ∀ {kvs : List (κ × D)} {ys : List (κ × V)}, ys.map (·.1) = kvs.map (·.1) → RepL K T H (kvs.map (·.2)) (ys.map (·.2)) → lkD kvs k = some d → ∃ v, valV ys k = some v ∧ RepV K T H d v
  | [], _, _, _, e => by simp [lkD] at e
  | x :: xs, [], h, _, _ => by simp at h
  | x :: xs, y :: ys, h, r, e => by
    simp only [List.map_cons, List.cons.injEq] at h
    obtain ⟨v, vs, e1, r1, r2⟩ := r.cons_inv
    simp only [List.map_cons, List.cons.injEq] at e1
    obtain ⟨e1, e2⟩ := e1
    subst e2
    simp only [lkD] at e
    by_cases hk : x.1 = k
    · rw [if_pos hk] at e; cases e
      exact ⟨_, valV_pos (h.1.trans hk), by rw [e1]; exact r1⟩
    · rw [if_neg hk] at e
      obtain ⟨v, h1, h2⟩ := lk_rep h.2 r2 e
      exact ⟨v, by rw [valV_neg (by rw [h.1]; exact hk)]; exact h1, h2⟩
theorem lk_none {k : κ} : ∀ {kvs : List (κ × D)} {ys : List (κ × V)}, ys.map (·.1) = kvs.map (·.1) → lkD kvs k = none → valV ys k = none
  | [], ys, h, _ => by
    have : ys = [] := by simpa using h
    subst this; rfl
  | x :: xs, [], h, _ => by simp at h
  | x :: xs, y :: ys, h, e => by
    simp only [List.map_cons, List.cons.injEq] at h
    simp only [lkD] at e
    by_cases hk : x.1 = k
    · rw [if_pos hk] at e; cases e
    · rw [if_neg hk] at e
      rw [valV_neg (by rw [h.1]; exact hk)]
      exact lk_none h.2 e
theorem put_rep {k : κ} {d : D} {v : V} (rv : RepV K T H d v) : ∀ {kvs : List (κ × D)} {ys : List (κ × V)}, ys.map (·.1) = kvs.map (·.1) → RepL K T H (kvs.map (·.2)) (ys.map (·.2)) → RepL K T H ((putD kvs k d).map (·.2)) ((putD ys k v).map (·.2))
  | [], ys, h, r => by
    have : ys = [] := by simpa using h
    subst this
    exact .cons rv .nil
  | x :: xs, [], h, _ => by simp at h
  | x :: xs, y :: ys, h, r => by
    simp only [List.map_cons, List.cons.injEq] at h
    obtain ⟨h1, h2⟩ := h
    obtain ⟨w, vs, e1, r1, r2⟩ := r.cons_inv
    simp only [List.map_cons, List.cons.injEq] at e1
    obtain ⟨e1, e2⟩ := e1
    subst e2
    by_cases e : x.1 = k
    · simp only [putD, h1, if_pos e, List.map_cons]
      refine .cons rv ?_
      have key : ∀ {xs : List (κ × D)} {ys : List (κ × V)}, ys.map (·.1) = xs.map (·.1) → RepL K T H (xs.map (·.2)) (ys.map (·.2)) →
          RepL K T H ((xs.map (fun kv => if kv.1 = k then (kv.1, d) else kv)).map (·.2)) ((ys.map (fun kv => if kv.1 = k then (kv.1, v) else kv)).map (·.2)) := by
        intro xs
        induction xs with
        | nil => intro ys h _; have : ys = [] := by simpa using h
                 subst this; exact .nil
        | cons a xs ih =>
          intro ys h r
          cases ys with
          | nil => simp at h
          | cons b ys =>
            simp only [List.map_cons, List.cons.injEq] at h
            obtain ⟨w, vs, e1, r1, r2⟩ := r.cons_inv
            simp only [List.map_cons, List.cons.injEq] at e1
            obtain ⟨e1, e2⟩ := e1
            subst e2
            simp only [List.map_cons]
            refine .cons ?_ (ih h.2 r2)
            by_cases e : a.1 = k
            · rw [if_pos e, if_pos (h.1.trans e)]; exact rv
            · rw [if_neg e, if_neg (by rw [h.1]; exact e), e1]; exact r1
      exact key h2 r2
    · simp only [putD, h1, if_neg e, List.map_cons]
      rw [e1]
      exact .cons r1 (put_rep rv h2 r2)
theorem zip_map {α β : Type} : ∀ (l : List (α × β)), (l.map (·.1)).zip (l.map (·.2)) = l
  | [] => rfl
  | p :: r => by simp [zip_map r]
end
/-- a key of a dict -/
def D.key : D → Option Key
  | .int i => some (.inl i)
  | .str x => some (.inr x)
  | _ => none
def D.keys : List D → Option (List Key)
  | [] => some []
  | d :: ds => match d.key, D.keys ds with
    | some k, some ks => some (k :: ks)
    | _, _ => none
section
variable {K : PySem.W.Frag} {T : TM} {H : Hp}
theorem key_rep {d : D} {k : Key} {v : V} (h : View K T H d v) (e : d.key = some k) : v = kV k := by
  cases d <;> simp [D.key] at e <;> subst e
  · cases h.int; rfl
  · cases h.str; rfl
theorem keys_rep : ∀ {ds : List D} {ks : List Key} {vs : List V}, RepL K T H ds vs → D.keys ds = some ks → vs = ks.map kV
  | [], ks, vs, h, e => by simp only [RepL] at h; subst h; simp [D.keys] at e; subst e; rfl
  | d :: ds, ks, vs, h, e => by
    obtain ⟨x, r, rfl, h1, h2⟩ := h.cons_inv
    simp only [D.keys] at e
    cases e1 : d.key with
    | none => rw [e1] at e; cases e
    | some k =>
      cases e2 : D.keys ds with
      | none => rw [e1, e2] at e; cases e
      | some ks' =>
        rw [e1, e2] at e; cases e
        rw [key_rep (View.of h1) e1, keys_rep h2 e2]; rfl
/-- what a dict holds at a key, by its data -/
def dget (d k : D) (q : Option D → Prop) : Prop := match d, k with
  | .dk ks vs, k => ∃ y, k.key = some y ∧ q (lkD (ks.zip vs) y)
  | .dt ks vs, .tup ds => ∃ y, D.keys ds = some y ∧ q (lkD (ks.zip vs) y)
  | _, _ => False
theorem map_zip {α β : Type} : ∀ {a : List α} {b : List β}, a.length = b.length → (a.zip b).map (·.1) = a ∧ (a.zip b).map (·.2) = b
  | [], [], _ => ⟨rfl, rfl⟩
  | x :: a, y :: b, h => by
    obtain ⟨h1, h2⟩ := map_zip (a := a) (b := b) (by simpa using h)
    simp [h1, h2]
theorem dget_rep {d k : D} {v y : V} {q : Option D → Prop} (hd : View K T H d v) (hk : View K T H k y) (h : dget d k q) : ∃ a o r, v = .ref a ∧ DGet H a y o ∧ q r ∧
    (∀ x, r = some x → ∃ z, o = some z ∧ RepV K T H x z) ∧ (r = none → o = none) := by
  have fin : ∀ {κ : Type} [DecidableEq κ] {ks : List κ} {vs : List D} {kvs : List (κ × V)} {k : κ}, kvs.map (·.1) = ks → RepL K T H vs (kvs.map (·.2)) →
      (∀ x, lkD (ks.zip vs) k = some x → ∃ z, valV kvs k = some z ∧ RepV K T H x z) ∧ (lkD (ks.zip vs) k = none → valV kvs k = none) := by
    intro κ _ ks vs kvs k h1 h2
    have hl : ks.length = vs.length := by rw [h2.length, ← h1]; simp
    obtain ⟨m1, m2⟩ := map_zip hl
    exact ⟨fun x e => lk_rep (kvs := ks.zip vs) (by rw [m1]; exact h1) (by rw [m2]; exact h2) e, fun e => lk_none (kvs := ks.zip vs) (by rw [m1]; exact h1) e⟩
  cases d with
  | dk ks vs =>
    have h : ∃ z, k.key = some z ∧ q (lkD (ks.zip vs) z) := h
    obtain ⟨z, e, q1⟩ := h
    obtain ⟨a, kvs, rfl, s, h1, h2⟩ := hd
    cases key_rep hk e
    exact ⟨a, _, _, rfl, .inl ⟨kvs, z, s, rfl, rfl⟩, q1, fin h1 h2⟩
  | dt ks vs =>
    cases k with
    | tup ds =>
      have h : ∃ z, D.keys ds = some z ∧ q (lkD (ks.zip vs) z) := h
      obtain ⟨z, e, q1⟩ := h
      obtain ⟨a, kvs, rfl, s, h1, h2⟩ := hd
      obtain ⟨b, ys, rfl, t, r⟩ := hk.tup
      cases keys_rep r e
      exact ⟨a, _, _, rfl, .inr ⟨kvs, z, b, s, rfl, t.2, rfl⟩, q1, fin h1 h2⟩
    | _ => exact h.elim
  | _ => exact h.elim
end

/-! ### subscripts -/
def IxD (X : Cx) (g : D → D → (R → Prop) → Prop) : Prop :=
  ∃ r : R2, IxR X r ∧ ∀ T H σ da db va vb (Q : VK) (q : R → Prop), Good T H → View X.K T H da va → View X.K T H db vb → g da db q →
    (∀ T' H' res v, Gr T H T' H' → RepR X.K T T' H' σ res v → q res → Q v H') → r va vb H Q
def gIx (a b : D) (q : R → Prop) : Prop := match a, b with
  | .lst xs, .int i => ∃ d, atI xs i = some d ∧ q (.val d)
  | .tup xs, .int i => ∃ d, atI xs i = some d ∧ q (.val d)
  | .fix xs, .int i => ∃ d, atI xs i = some d ∧ q (.val d)
  | .str z, .int i => ∃ c, z.length ≤ sizeLine ∧ atI z.cps.toList i = some c ∧ q (.val (.str ⟨#[c]⟩))
  | .dk ks vs, k => dget (.dk ks vs) k fun o => ∃ d, o = some d ∧ q (.val d)
  | .dt ks vs, k => dget (.dt ks vs) k fun o => ∃ d, o = some d ∧ q (.val d)
  | _, _ => False
theorem ix_dict {X : Cx} (hu : X.A.units + 1 < cLine) : IxR X (fun x y H Q => ∃ a v, x = .ref a ∧ DGet H a y (some v) ∧ Q v H) := by
  intro value slice pins s σ H x y v u Q I rx ry h hs
  obtain ⟨a, w, rfl, g, q⟩ := h
  obtain rfl : v = Value.ref a := rx
  exact tail_any (dict_typeIs I g) PySem.F.slot_dict_getitem.lookup (d_getItem hu I g ry fun w' s' I' rw' => ⟨w, H, I', rw', q⟩) hs
theorem atI_rep {K : PySem.W.Frag} {T : TM} {H : Hp} {ds : List D} {vs : List V} {i : Int} {d : D} (r : RepL K T H ds vs) (h : atI ds i = some d) : ∃ v, atI vs i = some v ∧ RepV K T H d v := by
  unfold atI at h ⊢
  rw [← r.length]
  cases e : ixN ds.length i with
  | none => rw [e] at h; cases h
  | some j =>
    rw [e] at h
    exact r.get (by simpa using h)
theorem oIx {X : Cx} (hu : X.A.units + 1 < cLine) : IxD X gIx := by
  refine ⟨_, IxR.or (IxR.or ix_list ix_tup) (IxR.or ix_str (ix_dict hu)), fun T H σ da db va vb Q q g ha hb h k => ?_⟩
  have dic : ∀ {a b : D}, View X.K T H a va → View X.K T H b vb → (dget a b fun o => ∃ d, o = some d ∧ q (.val d)) → ∃ a v, va = .ref a ∧ DGet H a vb (some v) ∧ Q v H := by
    intro a b ha hb h
    obtain ⟨p, o, r, rfl, dg, ⟨d, e, q1⟩, f1, _⟩ := dget_rep ha hb h
    obtain ⟨z, rfl, rz⟩ := f1 d e
    exact ⟨p, z, rfl, dg, k T H (.val d) z (Gr.refl g) rz q1⟩
  cases da with
  | dk ks vs => exact .inr (.inr (dic ha hb h))
  | dt ks vs => exact .inr (.inr (dic ha hb h))
  | lst xs =>
    cases db <;> first | exact h.elim | skip
    obtain ⟨d, e, q1⟩ := h
    obtain ⟨p, ys, rfl, s, r⟩ := ha.lst
    cases hb.int
    obtain ⟨v, e1, r1⟩ := atI_rep r e
    exact .inl (.inl ⟨p, ys, _, v, rfl, rfl, SqL.of s, e1, k T H (.val d) v (Gr.refl g) r1 q1⟩)
  | fix xs =>
    cases db <;> first | exact h.elim | skip
    obtain ⟨d, e, q1⟩ := h
    obtain ⟨p, ys, rfl, s, r⟩ := ha.fix
    cases hb.int
    obtain ⟨v, e1, r1⟩ := atI_rep r e
    exact .inl (.inl ⟨p, ys, _, v, rfl, rfl, s.sq, e1, k T H (.val d) v (Gr.refl g) r1 q1⟩)
  | tup xs =>
    cases db <;> first | exact h.elim | skip
    obtain ⟨d, e, q1⟩ := h
    obtain ⟨p, ys, rfl, s, r⟩ := ha.tup
    cases hb.int
    obtain ⟨v, e1, r1⟩ := atI_rep r e
    exact .inl (.inr ⟨p, ys, _, v, rfl, rfl, s.sq, e1, k T H (.val d) v (Gr.refl g) r1 q1⟩)
  | str z =>
    cases db <;> first | exact h.elim | skip
    obtain ⟨c, hl, e, q1⟩ := h
    cases ha.str
    cases hb.int
    exact .inr (.inl ⟨_, _, c, rfl, rfl, hl, e, k T H _ _ (Gr.refl g) rep_str q1⟩)
  | _ => exact h.elim
section
variable {X : Cx} {W : WX} {pos p2 : Pos} {a b c e : Expr} {es : List Expr} {wa wb wc w : WE} {u : WA}
theorem dix (hu : X.A.units + 1 < cLine) (ha : DE X W a wa) (hb : DE X W b wb) (hs : PlainIx b := by first | (intro _ _; rfl)) : DE X W (.Subscript a b pos) (wBin gIx wa wb) := by
  obtain ⟨r, h1, h2⟩ := oIx hu
  exact PE.le (pe_ix h1 ha hb hs) fun _ _ _ h => lop h2 h
/-! slices -/
abbrev WO := Ev → (Option Int → Ev → Prop) → WX' → Prop
def LO (K : PySem.W.Frag) (W : WX) (w : WO) : TO := fun σ H Q => ∃ T env q x, EvOk K T H env σ ∧ w env q x ∧
  (∀ T' H' env' b, Af K T H env σ T' H' env' σ → q b env' → Q b H') ∧ XOk K W T H env σ x
abbrev DO (X : Cx) (W : WX) (e : Option Expr) (w : WO) : Prop := PO X e (LO X.K W w)
def wNoP : WO := fun env q _ => q none env
def wPart (w : WE) : WO := fun env q x => w env (fun r e => match r with | .val (.int i) => q (some i) e | _ => False) x
theorem PO.le {X : Cx} {e : Option Expr} {t t' : TO} (h : PO X e t) (i : ∀ σ H Q, t' σ H Q → t σ H Q) : PO X e t' := ⟨fun pins s σ H Q I q => h.run pins s σ H Q I (i σ H Q q)⟩
theorem dono : DO X W none wNoP := PO.le po_none fun σ H Q h => by
  obtain ⟨T, env, q, x, E, w, k, _⟩ := h
  exact k T H env none (Af.refl E) w
theorem dosome (h : DE X W e w) : DO X W (some e) (wPart w) := PO.le (po_some h) fun σ H Q h => by
  obtain ⟨T, env, q, x, E, w, k, xk⟩ := h
  refine ⟨T, env, _, x, E, w, fun T1 H1 e1 r v a1 r1 w1 => ?_, xk⟩
  cases r with
  | val d =>
    cases d with
    | int i =>
      have e : v = .int i := by simpa only [RepR, RepV] using r1
      exact ⟨i, e, k T1 H1 e1 (some i) a1 w1⟩
    | _ => exact w1.elim
  | _ => exact w1.elim
def cutD (xs : List D) (lo hi : Option Int) : List D := (xs.drop (HT.sIx xs.length 0 lo)).take (HT.sIx xs.length xs.length hi - HT.sIx xs.length 0 lo)
def gSl (d : D) (lo hi : Option Int) (q : R → Prop) : Prop := match d with
  | .lst xs => q (.own (.lst (cutD xs lo hi)))
  | .tup xs => q (.val (.tup (cutD xs lo hi)))
  | _ => False
def wSl (w : WE) (lo hi : WO) : WE := fun env q x => w env (fun r e1 => lo e1 (fun l e2 => hi e2 (fun u e3 => vw r e3 fun d => gSl d l u fun res => q res e3) x) x) x
theorem SlR.or {X : Cx} {r r' : V → Option Int → Option Int → Hp → VK → Prop} (h : SlR X r) (h' : SlR X r') : SlR X (fun x lo hi H Q => r x lo hi H Q ∨ r' x lo hi H Q) := by
  intro pins s σ H x v vl vu lo hi sl Q I rx hs pl pu q
  rcases q with q | q
  · exact h pins s σ H x v vl vu lo hi sl Q I rx hs pl pu q
  · exact h' pins s σ H x v vl vu lo hi sl Q I rx hs pl pu q
end
end DL

end DlD
section DlE
set_option Elab.async false
set_option linter.all false
set_option maxRecDepth 100000
set_option maxHeartbeats 4000000
/-! DlE: statements: blocks, stores, if, while, for, return. -/
namespace DL
open PySem PySem.Spec PyProof.Rows L2
variable [TabEnv]

/-- what is wanted behind a statement -/
structure Po where
  nx : Ev → Prop
  rt : R → Ev → Prop
  ex : WX'
  bk : Ev → Prop := fun _ => False
  ct : Ev → Prop := fun _ => False
abbrev WS := Ev → Po → Prop
structure KS (K : PySem.W.Frag) (W : WX) (T : TM) (H : Hp) (env : Ev) (σ : L2.St) (P : Po) (F : Ends) : Prop where
  nx : ∀ T' H' env' σ', Af K T H env σ T' H' env' σ' → P.nx env' → F.nx σ' H'
  rt : ∀ T' H' env' σ' r v, Af K T H env σ T' H' env' σ' → RepR K T T' H' σ' r v → P.rt r env' → F.rt v H'
  exS : XOkS K W T H env σ P.ex
  bk : ∀ T' H' env' σ', Af K T H env σ T' H' env' σ' → P.bk env' → F.bk σ' H'
  ct : ∀ T' H' env' σ', Af K T H env σ T' H' env' σ' → P.ct env' → F.ct σ' H'
theorem KS.ex {K : PySem.W.Frag} {W : WX} {T : TM} {H : Hp} {env : Ev} {σ : L2.St} {P : Po} {F : Ends} (k : KS K W T H env σ P F) : XOk K W T H env σ P.ex := k.exS.x
def LS (K : PySem.W.Frag) (W : WX) (w : WS) : TS := fun F σ H => ∃ T env P, EvOk K T H env σ ∧ w env P ∧ KS K W T H env σ P F
abbrev DS (X : Cx) (W : WX) (st : Stmt) (w : WS) : Prop := PS X st (LS X.K W w)
abbrev DSs (X : Cx) (W : WX) (st : List Stmt) (w : WS) : Prop := PSs X st (LS X.K W w)
theorem PS.le {X : Cx} {e : Stmt} {t t' : TS} (h : PS X e t) (i : ∀ D σ H, t' D σ H → t D σ H) : PS X e t' := ⟨fun pins s σ H D I q => h.run pins s σ H D I (i D σ H q)⟩
theorem PSs.le {X : Cx} {e : List Stmt} {t t' : TS} (h : PSs X e t) (i : ∀ D σ H, t' D σ H → t D σ H) : PSs X e t' := ⟨fun pins s σ H D I q => h.run pins s σ H D I (i D σ H q)⟩

section
variable {K : PySem.W.Frag} {W : WX} {T T0 T' T1 T2 : TM} {H H0 H' H1 H2 : Hp} {env env0 env1 env2 : Ev} {σ σ0 σ1 σ2 : L2.St} {P : Po} {F : Ends}
theorem KS.after (a : Af K T H env σ T1 H1 env1 σ1) (h : KS K W T H env σ P F) : KS K W T1 H1 env1 σ1 P F :=
  ⟨fun T' H' e s b q => h.nx T' H' e s (a.trans b) q, fun T' H' e s r v b rr q => h.rt T' H' e s r v (a.trans b) (rr.pre a.fr) q, h.exS.after a, fun T' H' e s b q => h.bk T' H' e s (a.trans b) q, fun T' H' e s b q => h.ct T' H' e s (a.trans b) q⟩
def wNext : WS := fun env P => P.nx env
def wSeq (w u : WS) : WS := fun env P => w env { P with nx := fun e => u e P }
theorem lseq {w u : WS} (h : LS K W (wSeq w u) F σ H) : tSeq (LS K W w) (LS K W u) F σ H := by
  obtain ⟨T, env, P, E, q, k⟩ := h
  exact ⟨T, env, _, E, q, ⟨fun T1 H1 e1 s1 a1 q1 => ⟨T1, e1, P, a1.ev, q1, k.after a1⟩, k.rt, k.exS, k.bk, k.ct⟩⟩
/-- a slot gets a result -/
def bndR (i : Nat) (r : R) (env : Ev) (k : Ev → Prop) : Prop := match r with
  | .val d => k (env.set i (.val d))
  | .own o => k (env.set i (.own o))
  | .loc _ => False
def bnd (i : Nat) (r : R) (env : Ev) (k : Ev → Prop) : Prop := match env[i]? with
  | none => False
  | some (.bor _) => False
  | some (.bfz _) => False
  | some _ => bndR i r env k
theorem EvOk.setVal {i : Nat} {d : D} {v : V} (E : EvOk K T H env σ) (r : RepV K T H d v) : EvOk K T H (env.set i (.val d)) (σ.set i (some v)) := by
  refine ⟨E.good, by simpa using E.len, fun j s e => ?_⟩
  by_cases hj : i = j
  · subst hj
    by_cases hl : i < env.length
    · rw [List.getElem?_set_self hl] at e; cases e
      rw [List.getElem?_set_self (by rw [← E.len]; exact hl)]
      exact ⟨v, rfl, r⟩
    · rw [List.getElem?_eq_none (by simpa using hl)] at e; cases e
  · rw [List.getElem?_set_ne hj] at e ⊢
    exact E.ok j s e
theorem EvOk.setOwn {i : Nat} {o : Ob} {a : Addr} (E : EvOk K T H env σ) (t : T a = some .tmp) (r : RepO K T H o a) : EvOk K (tag T a (some (.sl i))) H (env.set i (.own o)) (σ.set i (some (.ref a))) := by
  have E1 := E.retag (t := some (.sl i)) t
  refine ⟨E1.good, by simpa using E.len, fun j s e => ?_⟩
  by_cases hj : i = j
  · subst hj
    by_cases hl : i < env.length
    · rw [List.getElem?_set_self hl] at e; cases e
      rw [List.getElem?_set_self (by rw [← E.len]; exact hl)]
      exact ⟨a, rfl, tag_same, r.mono (Le.retag t) rfl⟩
    · rw [List.getElem?_eq_none (by simpa using hl)] at e; cases e
  · rw [List.getElem?_set_ne hj] at e ⊢
    exact E1.ok j s e
theorem bnd_ok {i : Nat} {r : R} {v : V} {k : Ev → Prop} (a : Af K T0 H0 env0 σ0 T H env σ) (rr : RepR K T0 T H σ r v) (q : bnd i r env k) :
    ∃ T' env', Af K T0 H0 env0 σ0 T' H env' (σ.set i (some v)) ∧ k env' ∧ Le T H T' H ∧ (∀ b, T b = some .tmp → b ∉ ownAd [r] [v] → T' b = some .tmp) := by
  unfold bnd at q
  have kp : ∀ {s' : Sl}, (∀ (s : Sl), env[i]? = some s → s.isB = false) → Keep env0 σ0 (env.set i s') (σ.set i (some v)) := fun {s'} h => a.kp.trans (Keep.set h)
  cases e : env[i]? with
  | none => rw [e] at q; exact q.elim
  | some s =>
    rw [e] at q
    have hb : (∀ (s' : Sl), env[i]? = some s' → s'.isB = false) ∧ bndR i r env k := by
      cases s with
      | un => exact ⟨fun s' h => by rw [e] at h; cases h; rfl, q⟩
      | val d => exact ⟨fun s' h => by rw [e] at h; cases h; rfl, q⟩
      | own d => exact ⟨fun s' h => by rw [e] at h; cases h; rfl, q⟩
      | bor d => exact False.elim q
      | bfz d => exact False.elim q
    obtain ⟨hb, q⟩ := hb
    cases r with
    | val d => exact ⟨T, _, ⟨a.fr, a.ev.setVal rr, kp hb⟩, q, fun _ h => ⟨h, .inl rfl⟩, fun _ h _ => h⟩
    | loc j => exact False.elim q
    | own o =>
      obtain ⟨c, ec, n, t, ro⟩ := rr
      subst ec
      exact ⟨_, _, ⟨a.fr.retag t n (by simp), a.ev.setOwn t ro, kp hb⟩, q, Le.retag t, fun b h hn => by
        have : b ≠ c := by simpa [ownAd] using hn
        rw [tag_ne this]; exact h⟩
def wSet (i : Nat) (w : WE) : WS := fun env P => w env (fun r e => bnd i r e P.nx) P.ex
theorem lset {i : Nat} {w : WE} (h : LS K W (wSet i w) F σ H) : tAsg (LE K W w) (gName i) F σ H := by
  obtain ⟨T, env, P, E, q, k⟩ := h
  refine ⟨T, env, _, _, E, q, fun T1 H1 e1 r v a1 r1 q1 => ?_, k.ex⟩
  obtain ⟨T2, e2, a2, q2, _, _⟩ := bnd_ok a1 r1 q1
  exact k.nx T2 H1 e2 _ a2 q2
def wIf (c : WT) (w u : WS) : WS := fun env P => c env (fun b e => if b = true then w e P else u e P) P.ex
theorem lif {c : WT} {w u : WS} (h : LS K W (wIf c w u) F σ H) : tIfS (LT K W c) (LS K W w) (LS K W u) F σ H := by
  obtain ⟨T, env, P, E, q, k⟩ := h
  refine ⟨T, env, _, _, E, q, fun T1 H1 e1 b a1 q1 => ?_, k.ex⟩
  cases b with
  | true => exact ⟨T1, e1, P, a1.ev, q1, k.after a1⟩
  | false => exact ⟨T1, e1, P, a1.ev, q1, k.after a1⟩
def wRet (w : WE) : WS := fun env P => w env P.rt P.ex
theorem lret {w : WE} (h : LS K W (wRet w) F σ H) : tRet (LE K W w) F σ H := by
  obtain ⟨T, env, P, E, q, k⟩ := h
  exact ⟨T, env, _, _, E, q, fun T1 H1 e1 r v a1 r1 q1 => k.rt T1 H1 e1 σ r v a1 r1 q1, k.ex⟩
def wRetN : WS := fun env P => P.rt (.val .non) env
theorem lretN (h : LS K W wRetN F σ H) : tRetN F σ H := by
  obtain ⟨T, env, P, E, q, k⟩ := h
  exact k.rt T H env σ _ _ (Af.refl E) (by show RepV _ _ _ _ _; simp [RepV]) q
def wExp (w : WE) : WS := fun env P => w env (fun _ e => P.nx e) P.ex
theorem lexp {w : WE} (h : LS K W (wExp w) F σ H) : tDrop (LE K W w) F σ H := by
  obtain ⟨T, env, P, E, q, k⟩ := h
  exact ⟨T, env, _, _, E, q, fun T1 H1 e1 r v a1 r1 q1 => k.nx T1 H1 e1 σ a1 q1, k.ex⟩
def wBrk : WS := fun env P => P.bk env
def wCnt : WS := fun env P => P.ct env
/-- stores of results in a row -/
def bnds (is : List Nat) (rs : List R) (env : Ev) (k : Ev → Prop) : Prop := match is, rs with
  | [], [] => k env
  | i :: is, r :: rs => bnd i r env fun e => bnds is rs e k
  | _, _ => False
def setL (is : List Nat) (vs : List V) (σ : L2.St) : L2.St := match is, vs with
  | i :: is, v :: vs => setL is vs (σ.set i (some v))
  | _, _ => σ
theorem bnd_noloc {i j : Nat} {env : Ev} {k : Ev → Prop} (q : bnd i (.loc j) env k) : False := by
  unfold bnd at q
  cases h : env[i]? with
  | none => rw [h] at q; exact q
  | some s => rw [h] at q; cases s <;> exact q
theorem bnd_some {i : Nat} {r : R} {env : Ev} {k : Ev → Prop} (q : bnd i r env k) : ∃ e, k e := by
  unfold bnd at q
  cases h : env[i]? with
  | none => rw [h] at q; exact q.elim
  | some s =>
    rw [h] at q
    cases r with
    | val d => cases s <;> first | exact ⟨_, q⟩ | exact False.elim q
    | own d => cases s <;> first | exact ⟨_, q⟩ | exact False.elim q
    | loc d => cases s <;> exact False.elim q
/-- the results stand, whatever the slots are, where none is a slot -/
theorem RepRs.move {rs : List R} {vs : List V} {σ' : L2.St} (le : Le T H T' H) (kt : ∀ b ∈ ownAd rs vs, T' b = some .tmp) (hn : ∀ r ∈ rs, ∀ i, r ≠ .loc i) (h : RepRs K T0 T H σ rs vs) : RepRs K T0 T' H σ' rs vs := by
  induction h with
  | nil => exact .nil
  | @cons r v rs vs a _ ih =>
    cases r with
    | val d => exact .cons (RepV.mono le d v a) (ih (fun b hb => kt b (by simpa [ownAd] using hb)) fun r hr i => hn r (List.mem_cons_of_mem _ hr) i)
    | own o =>
      obtain ⟨c, ec, n, t, ro⟩ := a
      subst ec
      exact .cons ⟨c, rfl, n, kt c (by simp [ownAd]), ro.mono le rfl⟩ (ih (fun b hb => kt b (by simp [ownAd, hb])) fun r hr i => hn r (List.mem_cons_of_mem _ hr) i)
    | loc i => exact absurd rfl (hn (.loc i) List.mem_cons_self i)
theorem bnds_noloc : ∀ {is : List Nat} {rs : List R} {env : Ev} {k : Ev → Prop}, bnds is rs env k → ∀ r ∈ rs, ∀ i, r ≠ .loc i
  | [], [], _, _, _ => fun r hr => by cases hr
  | i :: is, r :: rs, env, k, q => fun r' hr j e => by
    have q : bnd i r env fun e => bnds is rs e k := q
    rcases List.mem_cons.mp hr with z | z
    · subst z; subst e; exact bnd_noloc q
    · obtain ⟨e', q'⟩ := bnd_some q
      exact bnds_noloc q' r' z j e
theorem bnds_ok : ∀ {is : List Nat} {rs : List R} {vs : List V} {T : TM} {env : Ev} {σ : L2.St} {k : Ev → Prop}, Af K T0 H0 env0 σ0 T H env σ → RepRs K T0 T H σ rs vs → (ownAd rs vs).Nodup → bnds is rs env k →
    ∃ T' env', Af K T0 H0 env0 σ0 T' H env' (setL is vs σ) ∧ k env'
  | [], [], _, T, env, σ, k, a, .nil, _, q => ⟨T, env, a, q⟩
  | i :: is, r :: rs, v :: vs, T, env, σ, k, a, .cons h hs, nd, q => by
    have nl := bnds_noloc q
    have q : bnd i r env fun e => bnds is rs e k := q
    obtain ⟨T1, e1, a1, q1, le, kt⟩ := bnd_ok a h q
    have nd' : (ownAd rs vs).Nodup ∧ ∀ b ∈ ownAd rs vs, b ∉ ownAd [r] [v] := by
      cases r with
      | val d => exact ⟨by simpa [ownAd] using nd, fun b hb z => by simp [ownAd] at z⟩
      | loc j => exact absurd rfl (nl (.loc j) List.mem_cons_self j)
      | own o =>
        obtain ⟨c, ec, n, t, ro⟩ := h
        subst ec
        have : c ∉ ownAd rs vs ∧ (ownAd rs vs).Nodup := by simpa [ownAd] using nd
        exact ⟨this.2, fun b hb z => by
          have : b = c := by simpa [ownAd] using z
          subst this; exact absurd hb this.1⟩
    exact bnds_ok (is := is) (rs := rs) (vs := vs) a1 (hs.move (σ' := σ.set i (some v)) le (fun b hb => kt b (ownAd_tmp hs b hb).2 (nd'.2 b hb)) fun r hr i => nl r (List.mem_cons_of_mem _ hr) i) nd'.1 q1

/-! ### for: what is walked, its data, what must stay true of the slots -/
abbrev WI := Ev → (List D → List Nat → (Ev → Prop) → Ev → Prop) → WX' → Prop
def ItOk (K : PySem.W.Frag) (T : TM) (H : Hp) (env : Ev) (σ : L2.St) (J : It) (ds : List D) (ix : List Nat) (gd : Ev → Prop) : Prop :=
  ∀ T' H' env' σ', Fr T H T' H' → EvOk K T' H' env' σ' → (∀ i ∈ ix, σ'[i]? = σ[i]?) → gd env' → ∀ i, (ds.length ≤ i → J.stop i H') ∧
    ∀ d, ds[i]? = some d → J.go i H' ∧ ∀ x H2, J.yld i H' x H2 → ∃ T2, Gr T' H' T2 H2 ∧ RepV K T2 H2 d x
def LI (K : PySem.W.Frag) (W : WX) (w : WI) : TI := fun σ H R => ∃ T env q x, EvOk K T H env σ ∧ w env q x ∧
  (∀ T' H' env' J ds ix gd, Af K T H env σ T' H' env' σ → ItOk K T' H' env' σ J ds ix gd → q ds ix gd env' → R J H') ∧ XOk K W T H env σ x
abbrev WG := D → Ev → (Ev → Prop) → Prop
/-- how the slots may have changed -/
abbrev Rl := L2.St → L2.St → Prop
abbrev anyR : Rl := fun _ _ => True
def LG (K : PySem.W.Frag) (ρ : Rl) (w : WG) : TG := fun v σ H Q => ∃ T env d q, EvOk K T H env σ ∧ RepV K T H d v ∧ w d env q ∧ ∀ T' H' env' σ', Af K T H env σ T' H' env' σ' → ρ σ σ' → q env' → Q σ' H'
def forD (gd : Ev → Prop) (g : WG) (b : WS) (ds : List D) (env : Ev) (P : Po) : Prop := match ds with
  | [] => gd env ∧ P.nx env
  | d :: ds => gd env ∧ g d env fun e1 => b e1 { nx := fun e => forD gd g b ds e P, rt := P.rt, ex := P.ex, bk := P.nx, ct := fun e => forD gd g b ds e P }
/-- the slots that are read on the way are borrowed ones (nobody else stores there) -/
def allB (ix : List Nat) (e : Ev) : Prop := ∀ i ∈ ix, ∃ s, e[i]? = some s ∧ s.isB = true
def wFor (wi : WI) (g : WG) (b : WS) : WS := fun env P => wi env (fun ds ix gd e => allB ix e ∧ forD gd g b ds e P) P.ex
theorem forD_gd {gd : Ev → Prop} {g : WG} {b : WS} {ds : List D} {env : Ev} {P : Po} (h : forD gd g b ds env P) : gd env := by
  cases ds with
  | nil => exact h.1
  | cons d ds => exact h.1
theorem lfor_at {g : WG} {b : WS} {J : It} {ds : List D} {ix : List Nat} {gd : Ev → Prop} (E : EvOk K T H env σ) (io : ItOk K T H env σ J ds ix gd) (hB : allB ix env) (q1 : forD gd g b ds env P) (k1 : KS K W T H env σ P F) :
    tFor (fun _ _ R => R J H) (LG K anyR g) (LS K W b) F σ H := by
  refine ⟨fun i m σ' H' => m = ds.length - i ∧ i ≤ ds.length ∧ ∃ T' e', Af K T H env σ T' H' e' σ' ∧ forD gd g b (ds.drop i) e' P, ⟨ds.length, by simp, by simp, T, env, Af.refl E, by simpa using q1⟩, ?_⟩
  rintro i m σ' H' ⟨rfl, hi, T', e', a2, q2⟩
  obtain ⟨st, gy⟩ := io T' H' e' σ' a2.fr a2.ev (fun i hi => let ⟨s, h1, h2⟩ := hB i hi; (a2.kp.2 i s h1 h2).1) (forD_gd q2) i
  by_cases hlt : i < ds.length
  · refine .inr ⟨(gy ds[i] (by simp [hlt])).1, fun σ3 H3 => ∃ T3 e3, Af K T H env σ T3 H3 e3 σ3 ∧ forD gd g b (ds.drop (i + 1)) e3 P, fun σ3 H3 ⟨T3, e3, a3, q3⟩ => ⟨ds.length - (i + 1), by omega, rfl, hlt, T3, e3, a3, q3⟩, fun x H2 y => ?_⟩
    obtain ⟨T2, g2, rv⟩ := (gy ds[i] (by simp [hlt])).2 x H2 y
    rw [List.drop_eq_getElem_cons hlt] at q2
    obtain ⟨_, q2⟩ := q2
    have a3 : Af K T H env σ T2 H2 e' σ' := a2.grow g2
    refine ⟨T2, e', ds[i], _, a3.ev, rv, q2, fun T4 H4 e4 σ4 a4 _ q4 => ⟨T4, e4, _, a4.ev, q4, ?_⟩⟩
    have a5 := a3.trans a4
    have k5 := k1.after a5
    exact ⟨fun T6 H6 e6 s6 a6 q6 => ⟨T6, e6, a5.trans a6, q6⟩, k5.rt, k5.exS, k5.nx, fun T6 H6 e6 s6 a6 q6 => ⟨T6, e6, a5.trans a6, q6⟩⟩
  · have e : i = ds.length := by omega
    subst e
    rw [List.drop_length] at q2
    exact .inl ⟨st (Nat.le_refl _), k1.nx T' H' e' σ' a2 q2.2⟩
theorem lfor {wi : WI} {g : WG} {b : WS} (h : LS K W (wFor wi g b) F σ H) : tFor (LI K W wi) (LG K anyR g) (LS K W b) F σ H := by
  obtain ⟨T, env, P, E, q, k⟩ := h
  exact ⟨T, env, _, _, E, q, fun T1 H1 e1 J ds ix gd a1 io q1 => lfor_at a1.ev io q1.1 q1.2 (k.after a1), k.ex⟩
/-! ### while -/
def whD (c : WT) (b : WS) (n : Nat) (env : Ev) (P : Po) : Prop := match n with
  | 0 => False
  | n + 1 => c env (fun t e => if t = true then b e { nx := fun e => whD c b n e P, rt := P.rt, ex := P.ex, bk := P.nx, ct := fun e => whD c b n e P } else P.nx e) P.ex
def wWhile (c : WT) (b : WS) : WS := fun env P => ∃ n, whD c b n env P
theorem lwhile {c : WT} {b : WS} (h : LS K W (wWhile c b) F σ H) : tWhile (LT K W c) (LS K W b) F σ H := by
  obtain ⟨T, env, P, E, ⟨n, q⟩, k⟩ := h
  refine ⟨fun m σ' H' => ∃ T' e', Af K T H env σ T' H' e' σ' ∧ whD c b m e' P, ⟨n, T, env, Af.refl E, q⟩, ?_⟩
  rintro m σ' H' ⟨T', e', a, q⟩
  cases m with
  | zero => exact q.elim
  | succ m =>
    refine ⟨T', e', _, _, a.ev, q, fun T1 H1 e1 t a1 q1 => ?_, (k.after a).ex⟩
    cases t with
    | false => exact k.nx T1 H1 e1 σ' (a.trans a1) q1
    | true =>
      rw [if_pos rfl]
      refine ⟨fun σ3 H3 => ∃ T3 e3, Af K T H env σ T3 H3 e3 σ3 ∧ whD c b m e3 P, fun σ3 H3 h3 => ⟨m, Nat.lt_succ_self m, h3⟩, T1, e1, _, a1.ev, q1, ?_⟩
      have a5 := a.trans a1
      have k5 := k.after a5
      exact ⟨fun T6 H6 e6 s6 a6 q6 => ⟨T6, e6, a5.trans a6, q6⟩, k5.rt, k5.exS, k5.nx, fun T6 H6 e6 s6 a6 q6 => ⟨T6, e6, a5.trans a6, q6⟩⟩
/-! ### targets -/
def wGN (i : Nat) : WG := fun d env q => bnd i (.val d) env q
theorem lgn {ρ : Rl} {i : Nat} (hρ : ∀ σ x, ρ σ (σ.set i x)) {v : V} {Q : L2.St → Hp → Prop} (h : LG K ρ (wGN i) v σ H Q) : gName i v σ H Q := by
  obtain ⟨T, env, d, q, E, r, w, k⟩ := h
  obtain ⟨T1, e1, a1, q1, _⟩ := bnd_ok (r := .val d) (Af.refl E) r w
  exact k T1 H e1 _ a1 (hρ _ _) q1
abbrev WGs := List D → Ev → (Ev → Prop) → Prop
def LGs (K : PySem.W.Frag) (ρ : Rl) (w : WGs) : TGs := fun vs σ H Q => ∃ T env ds q, EvOk K T H env σ ∧ RepL K T H ds vs ∧ w ds env q ∧ ∀ T' H' env' σ', Af K T H env σ T' H' env' σ' → ρ σ σ' → q env' → Q σ' H'
def wG0 : WGs := fun ds env q => ds = [] ∧ q env
def wGC (g : WG) (gs : WGs) : WGs := fun ds env q => match ds with
  | [] => False
  | d :: ds => g d env fun e => gs ds e q
theorem lg0 {ρ : Rl} (hρ : ∀ σ, ρ σ σ) {vs : List V} {Q : L2.St → Hp → Prop} (h : LGs K ρ wG0 vs σ H Q) : gNil vs σ H Q := by
  obtain ⟨T, env, ds, q, E, r, ⟨e, w⟩, k⟩ := h
  subst e
  simp only [RepL] at r
  exact ⟨r, k T H env σ (Af.refl E) (hρ σ) w⟩
theorem lgc {ρ : Rl} (hρ : ∀ a b c, ρ a b → ρ b c → ρ a c) {g : WG} {gs : WGs} {vs : List V} {Q : L2.St → Hp → Prop} (h : LGs K ρ (wGC g gs) vs σ H Q) : gCons (LG K ρ g) (LGs K ρ gs) vs σ H Q := by
  obtain ⟨T, env, ds, q, E, r, w, k⟩ := h
  cases ds with
  | nil => exact w.elim
  | cons d ds =>
    obtain ⟨x, xs, e, r1, r2⟩ := r.cons_inv
    exact ⟨x, xs, e, T, env, d, _, E, r1, w, fun T1 H1 e1 s1 a1 p1 q1 => ⟨T1, e1, ds, q, a1.ev, r2.mono a1.fr.le, q1, fun T2 H2 e2 s2 a2 p2 q2 => k T2 H2 e2 s2 (a1.trans a2) (hρ _ _ _ p1 p2) q2⟩⟩
def wGT (n : Nat) (gs : WGs) : WG := fun d env q => match d with
  | .tup ds => ds.length = n ∧ gs ds env q
  | _ => False
theorem lgt {ρ : Rl} {n : Nat} {gs : WGs} {v : V} {Q : L2.St → Hp → Prop} (h : LG K ρ (wGT n gs) v σ H Q) : gTup K n (LGs K ρ gs) v σ H Q := by
  obtain ⟨T, env, d, q, E, r, w, k⟩ := h
  cases d <;> first | exact w.elim | skip
  rename_i ds
  simp only [RepV] at r
  obtain ⟨a, xs, e, s, rl⟩ := r
  exact ⟨a, xs, e, s.sq, by rw [← rl.length]; exact w.1, T, env, ds, q, E, rl, w.2, k⟩
/-- target = value, the value data -/
def wAsg (g : WG) (w : WE) : WS := fun env P => w env (fun r e => dv r fun d => g d e P.nx) P.ex
theorem lasg {g : WG} {w : WE} (h : LS K W (wAsg g w) F σ H) : tAsg (LE K W w) (LG K anyR g) F σ H := by
  obtain ⟨T, env, P, E, q, k⟩ := h
  refine ⟨T, env, _, _, E, q, fun T1 H1 e1 r v a1 r1 q1 => ?_, k.ex⟩
  obtain ⟨T2, d, f2, E2, _, _, _, rv, q2⟩ := dv_rep a1.fr a1.ev r1 q1
  exact ⟨T2, e1, d, _, E2, rv, q2, fun T3 H3 e3 s3 a3 _ q3 => k.nx T3 H3 e3 s3 (Af.trans ⟨f2, E2, a1.kp⟩ a3) q3⟩
end

section
variable {X : Cx} {W : WX} {pos pos' : Pos} {st : Stmt} {rest body orelse : List Stmt} {w u : WS} {we : WE} {e c : Expr} {wt : WT} {tg iter : Expr} {wi : WI} {g : WG} {gs : WGs} {es : List Expr}
theorem snil : DSs X W [] wNext := PSs.le pss_nil fun F σ H h => by
  obtain ⟨T, env, P, E, q, k⟩ := h
  exact k.nx T H env σ (Af.refl E) q
theorem scons (h1 : DS X W st w) (h2 : DSs X W rest u) : DSs X W (st :: rest) (wSeq w u) := PSs.le (pss_cons h1 h2) fun _ _ _ h => lseq h
theorem sone (h1 : DS X W st w) : DSs X W [st] w := pss_one h1
theorem spass : DS X W (.Pass pos) wNext := PS.le ps_pass fun F σ H h => by
  obtain ⟨T, env, P, E, q, k⟩ := h
  exact k.nx T H env σ (Af.refl E) q
theorem sbrk : DS X W (.Break pos) wBrk := PS.le ps_break fun F σ H h => by
  obtain ⟨T, env, P, E, q, k⟩ := h
  exact k.bk T H env σ (Af.refl E) q
theorem scnt : DS X W (.Continue pos) wCnt := PS.le ps_continue fun F σ H h => by
  obtain ⟨T, env, P, E, q, k⟩ := h
  exact k.ct T H env σ (Af.refl E) q
theorem sexp (he : DE X W e we) (hs : swapsWith e none pos.line X.env = pure false := by rfl) : DS X W (.Expr e pos) (wExp we) := PS.le (ps_expr he hs) fun _ _ _ h => lexp h
theorem sret (he : DE X W e we) : DS X W (.Return (some e) pos) (wRet we) := PS.le (ps_ret he) fun _ _ _ h => lret h
theorem sretN : DS X W (.Return none pos) wRetN := PS.le ps_retN fun _ _ _ h => lretN h
theorem sif {a b : List Stmt} (hc : DT X W c wt) (ha : DSs X W a w) (hb : DSs X W b u) : DS X W (.If c a b pos) (wIf wt w u) := PS.le (ps_if hc ha hb) fun _ _ _ h => lif h
theorem sset {i : Nat} {x : Str} (hN : X.N.Nodup) (he : DE X W e we) (hi : X.N[i]? = some x := by rfl) (hx : Loc X.env.scope x := by first | exact Or.inl rfl | exact Or.inr rfl) (hs : swapsWith e (some (.Name x pos')) pos.line X.env = pure false := by rfl)
    (hf : X.fn x = true ∨ X.env.scope.names.lookup x = some .local := by first | exact .inl rfl | exact .inr rfl | assumption) : DS X W (.Assign [.Name x pos'] e pos) (wSet i we) := PS.le (ps_set hN hi hx he hs hf) fun _ _ _ h => lset h
/-- which changes of slots are told -/
structure RlOk (ρ : Rl) (is : List Nat) : Prop where
  refl : ∀ σ, ρ σ σ
  trans : ∀ a b c, ρ a b → ρ b c → ρ a c
  set : ∀ i ∈ is, ∀ σ x, ρ σ (σ.set i x)
theorem anyR_ok {is : List Nat} : RlOk anyR is := ⟨fun _ => trivial, fun _ _ _ _ _ => trivial, fun _ _ _ _ => trivial⟩
abbrev DG (X : Cx) (ρ : Rl) (tg : Expr) (g : WG) : Prop := PG X tg (LG X.K ρ g)
abbrev DGs (X : Cx) (ρ : Rl) (tg : List Expr) (g : WGs) : Prop := PGs X tg (LGs X.K ρ g)
theorem gname {ρ : Rl} {is : List Nat} {i : Nat} {x : Str} (R : RlOk ρ is) (hN : X.N.Nodup) (hm : i ∈ is) (hi : X.N[i]? = some x := by rfl) (hx : Loc X.env.scope x := by first | exact Or.inl rfl | exact Or.inr rfl) (hf : X.fn x = true ∨ X.env.scope.names.lookup x = some .local := by first | exact .inl rfl | exact .inr rfl | assumption) :
    DG X ρ (.Name x pos) (wGN i) := ⟨fun pins s σ H v u Q I r h => (pg_name hN hi hx hf).run pins s σ H v u Q I r (lgn (R.set i hm) h)⟩
theorem gnil {ρ : Rl} {is : List Nat} (R : RlOk ρ is) : DGs X ρ [] wG0 := ⟨fun pins s σ H v u Q I r h => pgs_nil.run pins s σ H v u Q I r (lg0 R.refl h)⟩
theorem gcons {ρ : Rl} {is : List Nat} (R : RlOk ρ is) (h1 : DG X ρ e g) (h2 : DGs X ρ es gs) (hs : (assignEach (e :: es) X.env).map (·.2) = assign e X.env :: (assignEach es X.env).map (·.2) := by rfl) : DGs X ρ (e :: es) (wGC g gs) :=
  ⟨fun pins s σ H v u Q I r h => (pgs_cons h1 h2 hs).run pins s σ H v u Q I r (lgc R.trans h)⟩
theorem gtup {ρ : Rl} {k n : Nat} (hc : X.calm = true) (h : DGs X ρ es gs) (hn : (assignEach es X.env).length = n := by rfl) (hst : (assignEach es X.env).findIdx? (·.1) = none := by rfl) : DG X ρ (.Tuple es k pos) (wGT n gs) :=
  ⟨fun pins s σ H v u Q I r h' => (pg_tup hc h hn hst).run pins s σ H v u Q I r (lgt h')⟩
theorem sasg (he : DE X W e we) (hg : DG X anyR tg g) (hs : swapsWithSole [tg] e pos.line X.env = pure false := by rfl) (hw : swappedStores [tg] e X.env = pure none := by rfl) (h1 : (assignEach [tg] X.env).map (·.2) = [assign tg X.env] := by rfl) : DS X W (.Assign [tg] e pos) (wAsg g we) :=
  PS.le (ps_asg he hg hs hw h1) fun _ _ _ h => lasg h
theorem sfor (hp : PassesOwn (model X.prog X.w) X.A X.env X.xe) (hc : X.calm = true) (hi : PI X tg iter (LI X.K W wi)) (hg : DG X anyR tg g) (hb : DSs X W body w) (hs : ∀ x, foldedSetIterable iter X.env x = pure x := by intro _; rfl) : DS X W (.For tg iter body [] pos) (wFor wi g w) :=
  PS.le (ps_for hp hc hi hg hb hs) fun _ _ _ h => lfor h
theorem swhile (hp : PassesOwn (model X.prog X.w) X.A X.env X.xe) (hc : DT X W c wt) (hb : DSs X W body w) : DS X W (.While c body [] pos) (wWhile wt w) := PS.le (ps_while hp hc hb) fun _ _ _ h => lwhile h
end
end DL

end DlE
section DlF
set_option Elab.async false
set_option linter.all false
set_option maxRecDepth 100000
set_option maxHeartbeats 4000000
/-! DlF: what is walked; comprehensions; stores; attributes; methods of lists and dicts. -/
namespace DL
open PySem PySem.Spec PyProof.Rows L2
variable [TabEnv]

theorem PI.le {X : Cx} {tg iter : Expr} {t t' : TI} (h : PI X tg iter t) (i : ∀ σ H R, t' σ H R → t σ H R) : PI X tg iter t' := ⟨fun pins s σ H R I q => h.run pins s σ H R I (i σ H R q)⟩
/-- a list, a tuple, a text, whatever it is -/
def iAny (K : PySem.W.Frag) (te : TE) : TI := fun σ H R => te σ H fun x H1 =>
  (∃ a, x = .ref a ∧ (∃ xs, SqL K H1 a xs) ∧ R (Itl K a) H1) ∨ (∃ a, x = .ref a ∧ (∃ xs, SqT K H1 a xs) ∧ R (Itt K a) H1) ∨ ∃ z, x = .str z ∧ R (Its z) H1
theorem pi_any {X : Cx} {tg e : Expr} {te : TE} (he : PE X e te) : PI X tg e (iAny X.K te) := by
  constructor
  intro pins s σ H R I hw
  apply thn (he.run pins s σ H _ I hw)
  rintro v s1 ⟨x, H1, J, rx, hq⟩
  have fp : ∀ b ∈ [s1.heap.objs.size], FpOk X pins H1 b := fun b hb => by
    rw [List.mem_singleton] at hb
    rw [hb]
    exact J.fpOk (Nat.le_refl _) (J.hok.fresh (Nat.le_refl _))
  rcases hq with ⟨a, ex, ⟨xs, sq⟩, q⟩ | ⟨a, ex, ⟨xs, sq⟩, q⟩ | ⟨z, ex, q⟩
  · rw [ex] at rx
    cases rx
    obtain ⟨its, _, pl, _⟩ := J.list sq
    apply wpAny_pyIter_list pl.isList
    exact ⟨_, _, _, _, _, rfl, J.kept (t' := s1.toks) (fun b o hb => Heap.get?_push_of_some _ hb), turn_list a _, ⟨_, Heap.get?_push_size _ rfl, rfl, rfl⟩, fp, q⟩
  · rw [ex] at rx
    cases rx
    obtain ⟨its, _, pt, _⟩ := J.tuple sq
    apply wpAny_pyIter_tuple (show s1.heap.IsTuple a its.toArray from pt)
    exact ⟨_, _, _, _, _, rfl, J.kept (t' := s1.toks) (fun b o hb => Heap.get?_push_of_some _ hb), turn_tuple a _, ⟨_, Heap.get?_push_size _ rfl, rfl, rfl⟩, fp, q⟩
  · rw [ex] at rx
    obtain ⟨t, rfl⟩ := rx
    cases hc : z.cps.all (· < 128) with
    | true => exact wpAny_pyIter_ascii hc (pi_one (tk := s1.toks) J _ (turn_str _ z t _ (Or.inl rfl)) ⟨_, Heap.get?_push_size _ rfl, rfl, rfl⟩ q)
    | false => exact wpAny_pyIter_wide hc (pi_one (tk := s1.toks) J _ (turn_str _ z t _ (Or.inr rfl)) ⟨_, Heap.get?_push_size _ rfl, rfl, rfl⟩ q)
section
variable {K : PySem.W.Frag} {W : WX} {T T0 T' T1 T2 : TM} {H H0 H' H1 H2 : Hp} {env env0 env1 env2 : Ev} {σ σ0 σ1 σ2 : L2.St}
/-- the data of what is walked -/
def itD (d : D) (k : List D → Prop) : Prop := match d with
  | .lst xs => k xs
  | .tup xs => k xs
  | .fix xs => k xs
  | .str z => k (z.cps.toList.map fun c => .str ⟨#[c]⟩)
  | _ => False
def wIt (w : WE) : WI := fun env q x => w env (fun r e => match r with
  | .val d => itD d fun ds => q ds [] (fun _ => True) e
  | .own o => itD o.toD fun ds => q ds [] (fun _ => True) e
  | .loc i => slv e[i]? fun d => itD d fun ds => q ds [i] (fun e' => slv e'[i]? fun d' => d' = d) e) x
theorem RepL.itm {ds : List D} {xs : List V} {i : Nat} {d : D} {x : V} (h : RepL K T H ds xs) (e : ds[i]? = some d) (f : xs[i]? = some x) : RepV K T H d x := by
  obtain ⟨v, e1, r⟩ := h.get e
  rw [f] at e1; cases e1
  exact r
/-- what is walked may be read as d at each turn -/
theorem it_view {d : D} {v : V} {ix : List Nat} {gd : Ev → Prop} {k : List D → Prop}
    (h : ∀ T' H' env' σ', Fr T H T' H' → EvOk K T' H' env' σ' → (∀ i ∈ ix, σ'[i]? = σ[i]?) → gd env' → View K T' H' d v) (h0 : View K T H d v) (q : itD d k) : ∃ J ds, ItOk K T H env σ J ds ix gd ∧ k ds ∧
    ((∃ a, v = .ref a ∧ (∃ xs, SqL K H a xs) ∧ J = Itl K a) ∨ (∃ a, v = .ref a ∧ (∃ xs, SqT K H a xs) ∧ J = Itt K a) ∨ ∃ z, v = .str z ∧ J = Its z) := by
  have list : ∀ {a : Addr} {ds : List D}, v = .ref a → (∀ T' H' env' σ', Fr T H T' H' → EvOk K T' H' env' σ' → (∀ i ∈ ix, σ'[i]? = σ[i]?) → gd env' → ∃ xs, SqL K H' a xs ∧ RepL K T' H' ds xs) → ItOk K T H env σ (Itl K a) ds ix gd := by
    intro a ds ev h T' H' env' σ' f E c g i
    obtain ⟨xs, s, r⟩ := h T' H' env' σ' f E c g
    have l := r.length
    refine ⟨fun hi => ⟨xs, s, by omega⟩, fun d e => ?_⟩
    obtain ⟨v, e1, rv⟩ := r.get e
    refine ⟨⟨xs, v, s, e1⟩, fun x H2 y => ?_⟩
    obtain ⟨rfl, y⟩ := y
    exact ⟨T', Gr.refl E.good, r.itm e (y xs s)⟩
  cases d <;> first | exact q.elim | skip
  · cases h0.str
    refine ⟨_, _, fun T' H' env' σ' f E c g i => ⟨fun hi => ?_, fun d e => ?_⟩, q, .inr (.inr ⟨_, rfl, rfl⟩)⟩
    · show _ ≤ i
      simpa using hi
    · rw [List.getElem?_map, Option.map_eq_some_iff] at e
      obtain ⟨c, e, rfl⟩ := e
      rw [Array.getElem?_toList] at e
      refine ⟨(Array.getElem?_eq_some_iff.mp e).1, fun x H2 y => ?_⟩
      obtain ⟨rfl, c', e', rfl⟩ := y
      rw [e] at e'; cases e'
      exact ⟨T', Gr.refl E.good, by simp [RepV]⟩
  · rename_i ds
    obtain ⟨a, ys, ev, s, rl⟩ := h0.tup
    refine ⟨Itt K a, ds, fun T' H' env' σ' f E c g i => ?_, q, .inr (.inl ⟨a, ev, ⟨ys, s.sq⟩, rfl⟩)⟩
    obtain ⟨a', xs, ev', s, r⟩ := (h T' H' env' σ' f E c g).tup
    rw [ev] at ev'; cases ev'
    have l := r.length
    refine ⟨fun hi => ⟨xs, s.sq, by omega⟩, fun d e => ?_⟩
    obtain ⟨v, e1, rv⟩ := r.get e
    refine ⟨⟨xs, v, s.sq, e1⟩, fun x H2 y => ?_⟩
    obtain ⟨rfl, y⟩ := y
    exact ⟨T', Gr.refl E.good, r.itm e (y xs s.sq)⟩
  · rename_i ds
    obtain ⟨a, ys, ev, s, rl⟩ := h0.lst
    refine ⟨Itl K a, ds, list ev fun T' H' env' σ' f E c g => ?_, q, .inl ⟨a, ev, ⟨ys, SqL.of s⟩, rfl⟩⟩
    obtain ⟨a', xs, ev', s, r⟩ := (h T' H' env' σ' f E c g).lst
    rw [ev] at ev'; cases ev'
    exact ⟨xs, SqL.of s, r⟩
  · rename_i ds
    obtain ⟨a, ys, ev, s, rl⟩ := h0.fix
    refine ⟨Itl K a, ds, list ev fun T' H' env' σ' f E c g => ?_, q, .inl ⟨a, ev, ⟨ys, s.sq⟩, rfl⟩⟩
    obtain ⟨a', xs, ev', s, r⟩ := (h T' H' env' σ' f E c g).fix
    rw [ev] at ev'; cases ev'
    exact ⟨xs, s.sq, r⟩
theorem slv_view {i : Nat} {v : V} {d : D} (E : EvOk K T H env σ) (h : σ[i]? = some (some v)) (q : slv env[i]? fun d' => d' = d) : View K T H d v := by
  obtain ⟨d', hv, e⟩ := vw_view (r := .loc i) (T0 := T) E h q
  rw [← e]; exact hv
theorem slv_some {s : Option Sl} {k : D → Prop} (q : slv s k) : ∃ d, slv s (fun d' => d' = d) ∧ k d := by
  cases s with
  | none => exact q.elim
  | some s =>
    cases s with
    | un => exact q.elim
    | val d => exact ⟨d, rfl, q⟩
    | bfz d => exact ⟨d, rfl, q⟩
    | own d => exact ⟨_, rfl, q⟩
    | bor d => exact ⟨_, rfl, q⟩
theorem lit {w : WE} {R : It → Hp → Prop} (h : LI K W (wIt w) σ H R) : iAny K (LE K W w) σ H R := by
  obtain ⟨T, env, q, x, E, w1, k, xk⟩ := h
  refine ⟨T, env, _, x, E, w1, fun T1 H1 e1 r v a1 r1 q1 => ?_, xk⟩
  have fin : ∀ {d : D} {ix : List Nat} {gd : Ev → Prop}, (∀ T' H' env' σ', Fr T1 H1 T' H' → EvOk K T' H' env' σ' → (∀ i ∈ ix, σ'[i]? = σ[i]?) → gd env' → View K T' H' d v) → View K T1 H1 d v → itD d (fun ds => q ds ix gd e1) →
      (∃ a, v = .ref a ∧ (∃ xs, SqL K H1 a xs) ∧ R (Itl K a) H1) ∨ (∃ a, v = .ref a ∧ (∃ xs, SqT K H1 a xs) ∧ R (Itt K a) H1) ∨ ∃ z, v = .str z ∧ R (Its z) H1 := by
    intro d ix gd h h0 q1
    obtain ⟨J, ds, io, q2, h⟩ := it_view (env := e1) (σ := σ) h h0 q1
    have q3 := k T1 H1 e1 J ds ix gd a1 io q2
    rcases h with ⟨a, ev, sq, rfl⟩ | ⟨a, ev, sq, rfl⟩ | ⟨z, ev, rfl⟩
    · exact .inl ⟨a, ev, sq, q3⟩
    · exact .inr (.inl ⟨a, ev, sq, q3⟩)
    · exact .inr (.inr ⟨z, ev, q3⟩)
  cases r with
  | val d => exact fin (ix := []) (gd := fun _ => True) (fun T' H' e' s' f _ _ _ => View.of (RepV.mono f.le d v r1)) (View.of r1) q1
  | own o =>
    obtain ⟨a, rfl, n, t, ro⟩ := r1
    exact fin (ix := []) (gd := fun _ => True) (fun T' H' e' s' f _ _ _ => View.ofO (ro.mono f.le (f.tmp t).2)) (View.ofO ro) q1
  | loc i =>
    have r1 : σ[i]? = some (some v) := r1
    have q1 : slv e1[i]? fun d => itD d fun ds => q ds [i] (fun e' => slv e'[i]? fun d' => d' = d) e1 := q1
    obtain ⟨d, q2, q3⟩ := slv_some q1
    exact fin (fun T' H' e' s' f E' c g => slv_view E' ((c i (by simp)).trans r1) g) (slv_view a1.ev r1 q2) q3
end
section
variable {X : Cx} {W : WX} {pos pos' p p2 apos cpos tpos : Pos} {tg e e2 a b c o iter : Expr} {es : List Expr} {we wa wb wc w : WE} {u : WA} {g : WG} {wt : WT}
theorem dit (he : DE X W e we) : PI X tg e (LI X.K W (wIt we)) := PI.le (pi_any he) fun _ _ _ h => lit h
/-! ranges -/
def rngL (lo : Int) (n : Nat) : List D := (List.range n).map fun (i : Nat) => .int (lo + (i : Int))
def wRng1 (u : WA) : WI := fun env q x => u env (fun rs e => vws rs e fun ds => match ds with | [.int j] => -(2 ^ 62) ≤ j ∧ j < 2 ^ 62 ∧ q (rngL 0 j.toNat) [] (fun _ => True) e | _ => False) x
def wRng2 (u : WA) : WI := fun env q x => u env (fun rs e => vws rs e fun ds => match ds with | [.int i, .int j] => (-(2 ^ 62) ≤ i ∧ i < 2 ^ 62 ∧ -(2 ^ 62) ≤ j ∧ j < 2 ^ 62) ∧ q (rngL i (j - i).toNat) [] (fun _ => True) e | _ => False) x
theorem it_rng {K : PySem.W.Frag} {T : TM} {H : Hp} {env : Ev} {σ : L2.St} {lo : Int} {n : Nat} {gd : Ev → Prop} : ItOk K T H env σ (Itr lo n) (rngL lo n) [] gd := by
  intro T' H' env' σ' f E c g i
  refine ⟨fun hi => ?_, fun d e => ?_⟩
  · show n ≤ i
    simpa [rngL] using hi
  · unfold rngL at e
    rw [List.getElem?_map, Option.map_eq_some_iff] at e
    obtain ⟨j, e, rfl⟩ := e
    have hj : i < n ∧ j = i := by
      have := List.getElem?_eq_some_iff.mp e
      obtain ⟨h, h2⟩ := this
      simp at h h2
      exact ⟨h, h2.symm⟩
    obtain ⟨hi, rfl⟩ := hj
    refine ⟨hi, fun x H2 y => ?_⟩
    obtain ⟨rfl, rfl⟩ := y
    exact ⟨T', Gr.refl E.good, by simp [RepV]⟩
theorem drng1 (hm : X.mg "range" = none) (ha : DA X W [a] u) (hg : Gl X "range" := by rfl) (hs : starEach [a] X.env = [(false, eval a X.env)] := by rfl) : PI X tg (.Call (.Name "range" p) [a] [] pos) (LI X.K W (wRng1 u)) := by
  refine PI.le (pi_range1 hg hm ha hs) fun σ H R h => ?_
  obtain ⟨T, env, q, x, E, w1, k, xk⟩ := h
  refine ⟨T, env, _, x, E, w1, fun T1 H1 e1 rs vs a1 r1 nd q1 => ?_, xk⟩
  obtain ⟨ds, hv, q2⟩ := vws_view a1.ev r1 q1
  match ds, hv, q2 with
  | [.int j], hv, q2 =>
    obtain ⟨v, rfl, hv1⟩ := hv.one
    cases hv1.int
    exact ⟨j, rfl, q2.1, q2.2.1, k T1 H1 e1 _ _ [] _ a1 it_rng q2.2.2⟩
theorem drng2 (hm : X.mg "range" = none) (ha : DA X W [a, b] u) (hg : Gl X "range" := by rfl) (hs : starEach [a, b] X.env = [(false, eval a X.env), (false, eval b X.env)] := by rfl) (hs2 : starEach [b] X.env = [(false, eval b X.env)] := by rfl) : PI X tg (.Call (.Name "range" p) [a, b] [] pos) (LI X.K W (wRng2 u)) := by
  refine PI.le (pi_range2 hg hm ha hs hs2) fun σ H R h => ?_
  obtain ⟨T, env, q, x, E, w1, k, xk⟩ := h
  refine ⟨T, env, _, x, E, w1, fun T1 H1 e1 rs vs a1 r1 nd q1 => ?_, xk⟩
  obtain ⟨ds, hv, q2⟩ := vws_view a1.ev r1 q1
  match ds, hv, q2 with
  | [.int i, .int j], hv, q2 =>
    obtain ⟨v, v', rfl, hv1, hv2⟩ := hv.two
    cases hv1.int
    cases hv2.int
    exact ⟨i, j, rfl, q2.1, k T1 H1 e1 _ _ [] _ a1 it_rng q2.2⟩
end
end DL

end DlF
section DlG
set_option Elab.async false
set_option linter.all false
set_option maxRecDepth 100000
set_option maxHeartbeats 4000000
/-! DlG: comprehensions. -/
namespace DL
open PySem PySem.Spec PyProof.Rows L2
variable [TabEnv]

def Sl.plain : Sl → Bool
  | .un => true
  | .val _ => true
  | _ => false
/-- the comprehension's own slots: emptied; as they were -/
def unE (vs : List Nat) (e : Ev) : Ev := match vs with
  | [] => e
  | i :: vs => unE vs (e.set i .un)
def reE (vs : List Nat) (e0 e : Ev) : Ev := match vs with
  | [] => e
  | i :: vs => reE vs e0 (e.set i (e0[i]?.getD .un))
def plE (vs : List Nat) (e : Ev) : Prop := match vs with
  | [] => True
  | i :: vs => (match e[i]? with | some s => s.plain = true | none => False) ∧ plE vs e
def lcD (gd : Ev → Prop) (g : WG) (t : WT) (w : WE) (vs : List Nat) (ds acc : List D) (e : Ev) (k : List D → Ev → Prop) : Prop := match ds with
  | [] => gd e ∧ k acc e
  | d :: ds => gd e ∧ plE vs e ∧ g d (unE vs e) fun e2 => t e2 (fun b e3 =>
      if b = true then w e3 (fun r e4 => dv r fun dd => acc.length < sizeLine ∧ lcD gd g t w vs ds (acc ++ [dd]) (reE vs e e4) k) (fun _ _ => False)
      else lcD gd g t w vs ds acc (reE vs e e3) k) (fun _ _ => False)
def wLc (wi : WI) (g : WG) (t : WT) (w : WE) (vs : List Nat) : WE := fun env q x => wi env (fun ds ix gd e => (∀ i ∈ ix, i ∉ vs) ∧ lcD gd g t w vs ds [] e fun acc e' => q (.own (.lst acc)) e') x

section
variable {K : PySem.W.Frag} {W : WX} {T T0 T' T1 T2 : TM} {H H0 H' H1 H2 : Hp} {env env0 env1 env2 : Ev} {σ σ0 σ1 σ2 : L2.St}
theorem unE_len : ∀ (vs : List Nat) (e : Ev), (unE vs e).length = e.length
  | [], _ => rfl
  | i :: vs, e => by rw [unE, unE_len vs]; simp
theorem reE_len : ∀ (vs : List Nat) (e0 e : Ev), (reE vs e0 e).length = e.length
  | [], _, _ => rfl
  | i :: vs, e0, e => by rw [reE, reE_len vs]; simp
theorem unE_at {j : Nat} {s : Sl} : ∀ {vs : List Nat} {e : Ev}, (unE vs e)[j]? = some s → (s = .un) ∨ (j ∉ vs ∧ e[j]? = some s)
  | [], e, h => .inr ⟨by simp, h⟩
  | i :: vs, e, h => by
    rcases unE_at (vs := vs) h with h | ⟨h1, h2⟩
    · exact .inl h
    · by_cases hj : i = j
      · subst hj
        by_cases hl : i < e.length
        · rw [List.getElem?_set_self hl] at h2; exact .inl (Option.some.inj h2).symm
        · rw [List.getElem?_eq_none (by simpa using hl)] at h2; cases h2
      · rw [List.getElem?_set_ne hj] at h2
        exact .inr ⟨by simp [h1, Ne.symm hj], h2⟩
theorem unE_not {j : Nat} : ∀ {vs : List Nat} {e : Ev}, j ∉ vs → (unE vs e)[j]? = e[j]?
  | [], e, h => rfl
  | i :: vs, e, h => by
    have hn : ¬ j = i ∧ j ∉ vs := by simpa using h
    rw [unE, unE_not hn.2, List.getElem?_set_ne (Ne.symm hn.1)]
theorem wipe_not {j : Nat} {vs : List Nat} (h : j ∉ vs) : (wipe σ vs)[j]? = σ[j]? := wipe_out h
theorem EvOk.unE {vs : List Nat} (E : EvOk K T H env σ) : EvOk K T H (unE vs env) (wipe σ vs) := by
  refine ⟨E.good, by rw [unE_len, wipe_length]; exact E.len, fun i s e => ?_⟩
  rcases unE_at e with h | ⟨h1, h2⟩
  · subst h; trivial
  · rw [wipe_not h1]; exact E.ok i s h2
theorem reE_not {j : Nat} : ∀ {vs : List Nat} {e0 e : Ev}, j ∉ vs → (reE vs e0 e)[j]? = e[j]?
  | [], e0, e, h => rfl
  | i :: vs, e0, e, h => by
    have hn : ¬ j = i ∧ j ∉ vs := by simpa using h
    rw [reE, reE_not hn.2, List.getElem?_set_ne (Ne.symm hn.1)]
theorem reE_in {j : Nat} : ∀ {vs : List Nat} {e0 e : Ev} {s : Sl}, j ∈ vs → (reE vs e0 e)[j]? = some s → s = e0[j]?.getD .un
  | i :: vs, e0, e, s, h, q => by
    by_cases hv : j ∈ vs
    · exact reE_in hv q
    · have hj : j = i := by simpa [hv] using h
      subst hj
      rw [reE, reE_not hv] at q
      by_cases hl : j < e.length
      · rw [List.getElem?_set_self hl] at q; exact (Option.some.inj q).symm
      · rw [List.getElem?_eq_none (by simpa using hl)] at q; cases q
theorem plE_in {j : Nat} : ∀ {vs : List Nat} {e : Ev}, plE vs e → j ∈ vs → ∃ s, e[j]? = some s ∧ s.plain = true
  | i :: vs, e, h, hj => by
    obtain ⟨h1, h2⟩ := h
    by_cases hv : j ∈ vs
    · exact plE_in h2 hv
    · have hj : j = i := by simpa [hv] using hj
      subst hj
      cases q : e[j]? with
      | none => rw [q] at h1; exact h1.elim
      | some s => rw [q] at h1; exact ⟨s, rfl, h1⟩
theorem wipe_agree {vs : List Nat} (h : wipe σ1 vs = wipe σ vs) {j : Nat} (hj : j ∉ vs) : σ1[j]? = σ[j]? := by
  rw [← wipe_not (σ := σ1) hj, ← wipe_not (σ := σ) hj, h]
/-- behind a turn: the own slots are as they were -/
theorem EvOk.reE {vs : List Nat} (E : EvOk K T H env σ) (pl : plE vs env) (le : Le T H T1 H1) (E1 : EvOk K T1 H1 env1 σ1) (hw : wipe σ1 vs = wipe σ vs) : EvOk K T1 H1 (reE vs env env1) σ := by
  have hl : σ1.length = σ.length := by
    have := congrArg List.length hw
    rwa [wipe_length, wipe_length] at this
  refine ⟨E1.good, by rw [reE_len, E1.len, hl], fun i s e => ?_⟩
  by_cases hv : i ∈ vs
  · have hs := reE_in hv e
    obtain ⟨s0, h0, p0⟩ := plE_in pl hv
    rw [h0] at hs
    have hs : s = s0 := hs
    subst hs
    have ok := E.ok i s h0
    cases s <;> first | trivial | (cases p0; done) | skip
    obtain ⟨v, e1, r⟩ := ok
    exact ⟨v, e1, r.mono le⟩
  · rw [reE_not hv] at e
    rw [← wipe_agree hw hv]
    exact E1.ok i s e
theorem Keep.reE {vs : List Nat} (pl : plE vs env) (k : Keep (unE vs env) (wipe σ vs) env1 σ1) (hw : wipe σ1 vs = wipe σ vs) : Keep env σ (reE vs env env1) σ := ⟨by rw [reE_len, k.1, unE_len], fun i s e b => by
  refine ⟨rfl, ?_⟩
  by_cases hv : i ∈ vs
  · obtain ⟨s0, h0, p0⟩ := plE_in pl hv
    rw [e] at h0; cases h0
    cases s <;> first | (cases b; done) | (cases p0; done)
  · obtain ⟨_, s', e', b'⟩ := k.2 i s (by rw [unE_not hv]; exact e) b
    exact ⟨s', by rw [reE_not hv]; exact e', b'⟩⟩
/-- a new item in a list that hangs in the air -/
theorem EvOk.bump {D : Addr} {o : HO} (E : EvOk K T H env σ) (t : T D = some .tmp) (ho : ∀ xs, o ≠ .tup xs) : EvOk K T (upd H D o) env σ ∧ Le T H T (upd H D o) := by
  have le : Le T H T (upd H D o) := fun b e => ⟨e, .inl (upd_ne fun z => by rw [z, t] at e; cases e)⟩
  refine ⟨E.mono le ⟨fun b u e => ?_, E.good.tabs.put t (by simp)⟩ fun j b e => ⟨e, upd_ne fun z => by rw [z, t] at e; cases e⟩, le⟩
  by_cases h : b = D
  · subst h; rw [upd_same]; exact ⟨by simp, fun _ xs z => by cases z; exact ho xs rfl⟩
  · rw [upd_ne h]; exact E.good b u e
theorem Fr.bump {D : Addr} {o : HO} (f : Fr T0 H0 T H) (g : Good T (upd H D o)) (t : T D = some .tmp) (t0 : T0 D ≠ some .tmp) : Fr T0 H0 T (upd H D o) := by
  refine ⟨fun a u e n => ?_, f.noff, g⟩
  obtain ⟨e1, h⟩ := f.keep a u e n
  have ha : a ≠ D := fun z => by subst z; rw [t] at e1; cases e1; exact t0 e
  exact ⟨e1, by rw [upd_ne ha]; exact h⟩
/-- all but the own slots stand -/
def wpR (vs : List Nat) : Rl := fun a b => wipe b vs = wipe a vs
theorem wipe_set : ∀ {vs : List Nat} {i : Nat} {x : Option V} {σ : L2.St}, i ∈ vs → wipe (σ.set i x) vs = wipe σ vs := by
  intro vs i x σ h
  refine List.ext_getElem? fun j => ?_
  have hl : (wipe (σ.set i x) vs).length = (wipe σ vs).length := by rw [wipe_length, wipe_length]; simp
  by_cases hj : j ∈ vs
  · have key : ∀ {τ : L2.St}, ∀ y, (wipe τ vs)[j]? = some y → y = none := fun {τ} y e => by
      cases y with
      | none => rfl
      | some y => exact absurd hj (wipe_some e).2
    cases h1 : (wipe (σ.set i x) vs)[j]? with
    | none =>
      rw [List.getElem?_eq_none_iff, hl] at h1
      rw [List.getElem?_eq_none h1]
    | some y =>
      have hy := key y h1
      subst hy
      have h2 : j < (wipe σ vs).length := by rw [← hl]; exact (List.getElem?_eq_some_iff.mp h1).1
      rw [List.getElem?_eq_getElem h2]
      rw [key _ (List.getElem?_eq_getElem h2)]
  · rw [wipe_out hj, wipe_out hj, List.getElem?_set_ne (fun z => hj (by rw [← z]; exact h))]
theorem wpR_ok {vs : List Nat} : RlOk (wpR vs) vs := ⟨fun _ => rfl, fun _ _ _ h1 h2 => Eq.trans h2 h1, fun i hi σ x => wipe_set hi⟩
theorem llc_at {g : WG} {t : WT} {w : WE} {vs : List Nat} {W0 : WX} {Q : VK} {J : It} {ds : List D} {ix : List Nat} {gd : Ev → Prop} {q : R → Ev → Prop} {e1 : Ev} (E1 : EvOk K T1 H1 e1 σ) (io : ItOk K T1 H1 e1 σ J ds ix gd)
    (q1 : lcD gd g t w vs ds [] e1 fun acc e' => q (.own (.lst acc)) e') (k : ∀ T' H' env' r v, Af K T1 H1 e1 σ T' H' env' σ → RepR K T1 T' H' σ r v → q r env' → Q v H') : tLc (fun _ _ R => R J H1) (LG K (wpR vs) g) (LT K W0 t) (LE K W0 w) vs σ H1 Q := by
  intro D hD
  have t1 : T1 D = none := E1.good.none hD
  have gn : Gr T1 H1 (tag T1 D (some .tmp)) (upd H1 D (.lst [])) := Gr.new E1.good hD
  refine ⟨fun i m H' => m = ds.length - i ∧ i ≤ ds.length ∧ ∃ T' e' acc xs, Fr T1 H1 T' H' ∧ EvOk K T' H' e' σ ∧ Keep e1 σ e' σ ∧ T' D = some .tmp ∧ H' D = some (.lst xs) ∧ RepL K T' H' acc xs ∧
      lcD gd g t w vs (ds.drop i) acc e' (fun acc e' => q (.own (.lst acc)) e'), ⟨ds.length, by simp, by simp, _, e1, [], [], gn.fr, E1.grow gn, .refl, tag_same, upd_same, .nil, by simpa using q1⟩, ?_⟩
  rintro i m H' ⟨rfl, hi, T', e', acc, xs, f2, E2, k2, tD, hDx, ra, q2⟩
  have g2 : gd e' := by
    cases hd : ds.drop i with
    | nil => rw [hd] at q2; exact q2.1
    | cons d r => rw [hd] at q2; exact q2.1
  obtain ⟨st, gy⟩ := io T' H' e' σ f2 E2 (fun _ _ => rfl) g2 i
  by_cases hlt : i < ds.length
  · rw [List.drop_eq_getElem_cons hlt] at q2
    obtain ⟨_, pl, q2⟩ := q2
    refine .inr ⟨(gy ds[i] (by simp [hlt])).1, fun H5 => ∃ T' e' acc xs, Fr T1 H1 T' H5 ∧ EvOk K T' H5 e' σ ∧ Keep e1 σ e' σ ∧ T' D = some .tmp ∧ H5 D = some (.lst xs) ∧ RepL K T' H5 acc xs ∧
      lcD gd g t w vs (ds.drop (i + 1)) acc e' (fun acc e' => q (.own (.lst acc)) e'), fun H5 h5 => ⟨ds.length - (i + 1), by omega, rfl, hlt, h5⟩, fun x H3 y => ?_⟩
    obtain ⟨T3, g3, rv⟩ := (gy ds[i] (by simp [hlt])).2 x H3 y
    have E3 := (E2.grow g3).unE (vs := vs)
    have D3 := g3.fr.tmp tD
    have r3 := ra.mono g3.fr.le
    refine ⟨T3, _, ds[i], _, E3, rv, q2, fun T4 H4 e4 σ4 a4 w4 q4 => ?_⟩
    have hw : wipe σ4 vs = wipe σ vs := by
      have w4 : wipe σ4 vs = wipe (wipe σ vs) vs := w4
      rw [w4]
      exact List.ext_getElem? fun j => by
        by_cases hj : j ∈ vs
        · cases h1 : (wipe σ vs)[j]? with
          | none =>
            have : (wipe (wipe σ vs) vs).length = (wipe σ vs).length := wipe_length _ _
            rw [List.getElem?_eq_none_iff] at h1 ⊢
            rw [this]; exact h1
          | some y =>
            have hy : y = none := by
              cases y with
              | none => rfl
              | some y => exact absurd hj (wipe_some h1).2
            subst hy
            have hl : j < (wipe (wipe σ vs) vs).length := by rw [wipe_length]; exact (List.getElem?_eq_some_iff.mp h1).1
            rw [List.getElem?_eq_getElem hl]
            cases h2 : (wipe (wipe σ vs) vs)[j] with
            | none => rfl
            | some y => exact absurd hj (wipe_some (by rw [List.getElem?_eq_getElem hl, h2])).2
        · rw [wipe_out hj]
    refine ⟨hw, T4, e4, _, _, a4.ev, q4, fun T5 H5 e5 b a5 q5 => ?_, fun _ _ _ _ _ _ _ _ z => z.elim⟩
    have a6 := a4.trans a5
    have D5 := a6.fr.tmp D3.1
    have f5 : Fr T1 H1 T5 H5 := (f2.trans g3.fr).trans a6.fr
    have hD5 : H5 D = some (.lst xs) := (D5.2.trans D3.2).trans hDx
    cases b with
    | false =>
      have le6 : Le T3 H3 T5 H5 := a6.fr.le
      exact ⟨T5, _, acc, xs, f5, (E2.grow g3).reE pl le6 a6.ev hw, k2.trans (Keep.reE pl a6.kp hw), D5.1, hD5, r3.mono le6, q5⟩
    | true =>
      simp only [if_true] at q5
      refine iteT ?_
      refine ⟨T5, e5, _, _, a5.ev, q5, fun T6 H6 e6 r v a7 r7 q7 => ?_, fun _ _ _ _ _ _ _ _ z => z.elim⟩
      have a8 := a6.trans a7
      have D6 := a7.fr.tmp D5.1
      have hD6 : H6 D = some (.lst xs) := D6.2.trans hD5
      -- the item is stored
      obtain ⟨T7, dd, f7, E7, le7, sl7, rv7, hz, q8, t7⟩ : ∃ T7 dd, Fr T3 H3 T7 H6 ∧ EvOk K T7 H6 e6 σ4 ∧ Le T6 H6 T7 H6 ∧ True ∧ RepV K T7 H6 dd v ∧ acc.length < sizeLine ∧ lcD gd g t w vs (ds.drop (i + 1)) (acc ++ [dd]) (DL.reE vs e' e6) (fun acc e' => q (.own (.lst acc)) e') ∧ T7 D = some .tmp := by
        cases r with
        | val d => exact ⟨T6, d, a8.fr, a7.ev, fun _ e => ⟨e, .inl rfl⟩, trivial, r7, q7.1, q7.2, D6.1⟩
        | loc j => exact q7.elim
        | own o =>
          obtain ⟨c, ec, n, tc, ro⟩ := r7
          subst ec
          have hc : D ≠ c := fun z => n (by rw [← z]; exact D5.1)
          have n3 : T3 c ≠ some .tmp := fun z => n (a6.fr.tmp z).1
          exact ⟨tag T6 c (some .fz), o.toD, a8.fr.retag tc n3 (by simp), a7.ev.retag tc, Le.retag tc, trivial, RepO.frozen (ro.mono (Le.retag tc) rfl) tag_same, q7.1, q7.2, by rw [tag_ne hc]; exact D6.1⟩
      have le8 : Le T3 H3 T7 H6 := f7.le
      have Er := (E2.grow g3).reE pl le8 E7 hw
      obtain ⟨E9, le9⟩ := Er.bump (o := .lst (xs ++ [v])) t7 fun _ z => by cases z
      have n1 : T1 D ≠ some .tmp := by rw [t1]; simp
      refine ⟨xs, hD6, by rw [← (r3.length)]; exact hz, T7, _, acc ++ [dd], xs ++ [v], ((f2.trans g3.fr).trans f7).bump E9.good t7 n1, E9, k2.trans (Keep.reE pl a8.kp hw), t7, upd_same, ?_, q8⟩
      exact ((r3.mono le8).append (.cons rv7 .nil)).mono le9
  · have e : i = ds.length := by omega
    subst e
    rw [List.drop_length] at q2
    refine .inl ⟨st (Nat.le_refl _), k T' H' e' (.own (.lst acc)) (.ref D) ⟨f2, E2, k2⟩ ⟨D, rfl, ?_, tD, xs, hDx, ra⟩ q2.2⟩
    rw [t1]; simp
theorem llc {wi : WI} {g : WG} {t : WT} {w : WE} {vs : List Nat} {W0 : WX} {Q : VK} (h : LE K W (wLc wi g t w vs) σ H Q) : tLc (LI K W wi) (LG K (wpR vs) g) (LT K W0 t) (LE K W0 w) vs σ H Q := by
  obtain ⟨T, env, q, x, E, w1, k, xk⟩ := h
  exact ⟨T, env, _, x, E, w1, fun T1 H1 e1 J ds ix gd a1 io q1 => llc_at a1.ev io q1.2 fun T' H' env' r v a rr qq => k T' H' env' r v (a1.trans a) (rr.pre a1.fr) qq, xk⟩
end
end DL

end DlG
section DlH
set_option Elab.async false
set_option linter.all false
set_option maxRecDepth 100000
set_option maxHeartbeats 4000000
/-! DlH: the rule of comprehensions, slices, attributes, stores into objects, methods of lists and dicts. -/
namespace DL
open PySem PySem.Spec PyProof.Rows L2
variable [TabEnv]

section
variable {K : PySem.W.Frag} {W : WX} {T T0 T' T1 T2 : TM} {H H0 H' H1 H2 : Hp} {env env0 env1 env2 : Ev} {σ σ0 σ1 σ2 : L2.St}
/-- a slot's object is changed -/
def mutK (e : Ev) (k : Nat) (f : Ob → (Ob → Prop) → Prop) (q : Ev → Prop) : Prop := match e[k]? with
  | some (.own o) => f o fun o' => q (e.set k (.own o'))
  | some (.bor o) => f o fun o' => q (e.set k (.bor o'))
  | _ => False
theorem Le.sl {i : Nat} {a : Addr} {ho : HO} (t : T a = some (.sl i)) : Le T H T (upd H a ho) := fun b e => ⟨e, .inl (upd_ne fun z => by rw [z, t] at e; cases e)⟩
theorem put_ok {k : Nat} {a : Addr} {o' : Ob} {s' : Sl} {ho : HO} (E : EvOk K T H env σ) (hv : σ[k]? = some (some (.ref a))) (t : T a = some (.sl k)) (ro : RepO K T (upd H a ho) o' a) (hs : s' = .own o' ∨ s' = .bor o')
    (hb : ∀ s, env[k]? = some s → s.isB = true → s'.isB = true) : Af K T H env σ T (upd H a ho) (env.set k s') σ := by
  have gd : Good T (upd H a ho) := ⟨fun b u e => by
    by_cases h : b = a
    · subst h; exact ⟨ro.there, fun _ => ro.notup⟩
    · rw [upd_ne h]; exact E.good b u e, E.good.tabs.put t (by simp)⟩
  refine ⟨⟨fun b u e n => ⟨e, upd_ne fun z => by subst z; rw [t] at e; cases e; exact n k rfl⟩, fun _ e => e, gd⟩, ⟨gd, by simpa using E.len, fun j s e => ?_⟩, by simp, fun j s e b => ?_⟩
  · by_cases hj : k = j
    · subst hj
      by_cases hl : k < env.length
      · rw [List.getElem?_set_self hl] at e; cases e
        rcases hs with rfl | rfl <;> exact ⟨a, hv, t, ro⟩
      · rw [List.getElem?_eq_none (by simpa using hl)] at e; cases e
    · rw [List.getElem?_set_ne hj] at e
      refine (E.ok j s e).mono (Le.sl t) fun b eb => ⟨eb, upd_ne fun z => ?_⟩
      subst z; rw [t] at eb
      injection eb with eb; injection eb with eb
      exact hj eb
  · by_cases hj : k = j
    · subst hj
      exact ⟨rfl, s', List.getElem?_set_self (List.getElem?_eq_some_iff.mp e).1, hb s e b⟩
    · exact ⟨rfl, s, by rw [List.getElem?_set_ne hj]; exact e, b⟩
theorem mut_ok {k : Nat} {f : Ob → (Ob → Prop) → Prop} {q : Ev → Prop} {v : V} (E : EvOk K T H env σ) (hv : σ[k]? = some (some v)) (h : mutK env k f q) :
    ∃ a o, v = .ref a ∧ T a = some (.sl k) ∧ RepO K T H o a ∧ ∃ mk : Ob → Sl, f o (fun o' => q (env.set k (mk o'))) ∧ ∀ o' ho, RepO K T (upd H a ho) o' a → Af K T H env σ T (upd H a ho) (env.set k (mk o')) σ := by
  unfold mutK at h
  cases e : env[k]? with
  | none => rw [e] at h; exact h.elim
  | some s =>
    rw [e] at h
    have ok := E.ok k s e
    cases s with
    | own o =>
      obtain ⟨a, ea, t, r⟩ := ok
      rw [hv] at ea; cases ea
      exact ⟨a, o, rfl, t, r, .own, h, fun o' ho ro => put_ok E hv t ro (.inl rfl) fun s hs b => by rw [e] at hs; cases hs; cases b⟩
    | bor o =>
      obtain ⟨a, ea, t, r⟩ := ok
      rw [hv] at ea; cases ea
      exact ⟨a, o, rfl, t, r, .bor, h, fun o' ho ro => put_ok E hv t ro (.inr rfl) fun _ _ _ => rfl⟩
    | _ => exact h.elim
end
section
variable {X : Cx} {W W0 : WX} {pos pos' p p2 apos cpos tpos : Pos} {tg e e2 a b c o iter value : Expr} {es ifs : List Expr} {we wa wb wc wo wv w : WE} {u : WA} {g : WG} {wt : WT} {wi : WI}
/-! ### comprehensions -/
abbrev DTs (X : Cx) (W : WX) (ifs : List Expr) (w : WT) : Prop := PTs X ifs (LT X.K W w)
def wYes : WT := fun env q _ => q true env
theorem dyes : DTs X W [] wYes := ⟨fun pins s σ H Q I h => pts_nil.run pins s σ H Q I (by
  obtain ⟨T, env, q, x, E, w, k, _⟩ := h
  exact k T H env true (Af.refl E) w)⟩
theorem dtest (h : DT X W c wt) : DTs X W [c] wt := pts_one h
theorem dlc {scope : Scope} {own : List (Str × Nat)} (hc : X.calm = true) (hN : X.N.Nodup) (hi : PI X tg iter (LI X.K W wi)) (ok : BlkOk X.N X.env.scope scope own)
    (hg : ∀ (s : Shared) (H : Hp) (C : Addr) (cl : List (Str × Addr)) (fp : List Addr), DG (X.blk s H scope (compEnvC scope cl C X.env) fp) (wpR (own.map (·.2))) tg g)
    (ht : ∀ (s : Shared) (H : Hp) (C : Addr) (cl : List (Str × Addr)) (fp : List Addr), DTs (X.blk s H scope (compEnvC scope cl C X.env) fp) W0 ifs wt)
    (he : ∀ (s : Shared) (H : Hp) (C : Addr) (cl : List (Str × Addr)) (fp : List Addr), DE (X.blk s H scope (compEnvC scope cl C X.env) fp) W0 e w) (hs : ∀ x, foldedSetIterable iter X.env x = pure x := by intro _; rfl) :
    DE X W (.ListComp e [⟨tg, iter, ifs, 0⟩] scope pos) (wLc wi g wt w (own.map (·.2))) := PE.le (pe_lc hc hN hi ok hg ht he hs) fun _ _ _ h => llc h
theorem slc {scope : Scope} {own : List (Str × Nat)} {i : Nat} {y : Str} {py spos : Pos} (hc : X.calm = true) (hN : X.N.Nodup) (hy : X.N[i]? = some y) (hyl : X.env.scope.names.lookup y = some .local)
    (hsw : swapsWith (.ListComp e [⟨tg, iter, ifs, 0⟩] scope pos) (some (.Name y py)) spos.line X.env = pure true) (hi : PI X tg iter (LI X.K W wi)) (ok : BlkOk X.N X.env.scope scope own)
    (hg : ∀ (s : Shared) (H : Hp) (C : Addr) (cl : List (Str × Addr)) (fp : List Addr), DG (X.blk s H scope (compEnvC scope cl C X.env) fp) (wpR (own.map (·.2))) tg g)
    (ht : ∀ (s : Shared) (H : Hp) (C : Addr) (cl : List (Str × Addr)) (fp : List Addr), DTs (X.blk s H scope (compEnvC scope cl C X.env) fp) W0 ifs wt)
    (he : ∀ (s : Shared) (H : Hp) (C : Addr) (cl : List (Str × Addr)) (fp : List Addr), DE (X.blk s H scope (compEnvC scope cl C X.env) fp) W0 e w) (hs : ∀ x, foldedSetIterable iter X.env x = pure x := by intro _; rfl) :
    DS X W (.Assign [.Name y py] (.ListComp e [⟨tg, iter, ifs, 0⟩] scope pos) spos) (wSet i (wLc wi g wt w (own.map (·.2)))) := PS.le (ps_setLc hc hN hy hyl hsw hi ok hg ht he hs) fun F σ H h => by
  have z := lset h
  exact llc (W0 := W0) (W := W) (Q := fun x H1 => gName i x σ H1 F.nx) z
/-! ### slices -/
theorem RepL.cut {K : PySem.W.Frag} {T : TM} {H : Hp} {ds : List D} {xs : List V} (h : RepL K T H ds xs) (lo hi : Option Int) : RepL K T H (cutD ds lo hi) (cutV xs lo hi) := by
  unfold cutD cutV
  rw [h.length]
  exact (h.drop _).take _
def gSlice (d : D) (lo hi : Option Int) (q : R → Prop) : Prop := match d with
  | .lst xs => q (.own (.lst (cutD xs lo hi)))
  | .tup xs => q (.val (.tup (cutD xs lo hi)))
  | .str z => z.length ≤ sizeLine ∧ q (.val (.str (cutS z lo hi)))
  | _ => False
def wSlice (w : WE) (lo hi : WO) : WE := fun env q x => w env (fun r e1 => lo e1 (fun l e2 => hi e2 (fun u e3 => vw r e3 fun d => gSlice d l u fun res => q res e3) x) x) x
theorem cutD_whole {xs : List D} {lo hi : Option Int} (h : HT.sIx xs.length 0 lo = 0 ∧ HT.sIx xs.length xs.length hi = xs.length) : cutD xs lo hi = xs := by
  unfold cutD
  rw [h.1, h.2]
  simp
theorem dslice {lo hi : Option Expr} {wl wh : WO} (he : DE X W e we) (hl : DO X W lo wl) (hu : DO X W hi wh) : DE X W (.Subscript e (.Slice lo hi none p2) pos) (wSlice we wl wh) := by
  refine PE.le (pe_slice (SlR.or (SlR.or sl_list sl_tupA) sl_str) he hl hu) fun σ H Q h => ?_
  obtain ⟨T, env, q, x, E, w, k, xk⟩ := h
  refine ⟨T, env, _, x, E, w, fun T1 H1 e1 r v a1 r1 w1 => ⟨T1, e1, _, x, a1.ev, w1, fun T2 H2 e2 l a2 w2 => ⟨T2, e2, _, x, a2.ev, w2, fun T3 H3 e3 u a3 w3 => ?_, (xk.after a1).after a2⟩, xk.after a1⟩, xk⟩
  have a4 := (a1.trans a2).trans a3
  obtain ⟨d, hv, g⟩ := vw_view a4.ev (r1.mono (a2.fr.trans a3.fr)) w3
  cases d <;> first | exact g.elim | skip
  · cases hv.str
    exact .inr ⟨_, rfl, g.1, k T3 H3 e3 _ _ a4 (by show RepV _ _ _ _ _; simp [RepV]) g.2⟩
  · rename_i ds
    obtain ⟨a, xs, rfl, s, r⟩ := hv.tup
    refine .inl (.inr ⟨a, xs, rfl, s.sq, fun h => ?_, fun h p hp => ?_⟩)
    · refine k T3 H3 e3 (.val (.tup (cutD ds l u))) _ a4 ?_ g
      rw [cutD_whole (by rw [r.length]; exact h)]
      show RepV _ _ _ _ _
      simp only [RepV]
      exact ⟨a, xs, rfl, s, r⟩
    · exact k _ _ e3 _ _ (a4.grow (Gr.new a4.ev.good hp)) ((new_tup a4.ev.good hp (r.cut l u)).pre a4.fr) g
  · rename_i ds
    obtain ⟨a, xs, rfl, s, r⟩ := hv.lst
    exact .inl (.inl ⟨a, xs, rfl, SqL.of s, fun p hp => k _ _ e3 _ _ (a4.grow (Gr.new a4.ev.good hp)) ((new_lst a4.ev.good hp (r.cut l u)).pre a4.fr) g⟩)
/-! ### attributes -/
theorem lookup_rep {K : PySem.W.Frag} {T : TM} {H : Hp} {f : Str} {d : D} : ∀ {ns : List Str} {ds : List D} {fs : List (Str × V)}, fs.map (·.1) = ns → RepL K T H ds (fs.map (·.2)) → lkD (ns.zip ds) f = some d → ∃ v, fs.lookup f = some v ∧ RepV K T H d v
  | [], _, fs, _, _, e => by simp [lkD] at e
  | n :: ns, [], fs, _, _, e => by simp [lkD] at e
  | n :: ns, d :: ds, [], h, _, _ => by simp at h
  | n :: ns, d :: ds, q :: fs, h, r, e => by
    simp only [List.map_cons, List.cons.injEq] at h
    obtain ⟨h1, h2⟩ := h
    obtain ⟨v, vs, e1, r1, r2⟩ := r.cons_inv
    simp only [List.map_cons, List.cons.injEq] at e1
    obtain ⟨e1, e2⟩ := e1
    subst e2
    simp only [List.zip_cons_cons, lkD] at e
    obtain ⟨qn, qv⟩ := q
    simp only at h1 e1
    subst h1 e1
    by_cases hk : qn = f
    · rw [if_pos hk] at e; cases e
      exact ⟨qv, by simp [List.lookup, hk], r1⟩
    · rw [if_neg hk] at e
      obtain ⟨v, h1, h3⟩ := lookup_rep h2 r2 e
      exact ⟨v, by
        have hb : (f == qn) = false := beq_eq_false_iff_ne.mpr (Ne.symm hk)
        simp only [List.lookup, hb]; exact h1, h3⟩
def FldOk (K : PySem.W.Frag) (C : Addr) (f : Str) : Prop := Cls K C ∧ NoAttr K C f
def wFld (K : PySem.W.Frag) (f : Str) (w : WE) : WE := fun env q x => w env (fun r e => vw r e fun d => match d with
  | .ins C ns vs => FldOk K C f ∧ ∃ d, lkD (ns.zip vs) f = some d ∧ q (.val d) e
  | _ => False) x
theorem dfld {f : Str} (he : DE X W e we) (hb : attributeBase e f X.env (eval e X.env) = eval e X.env := by rfl) : DE X W (.Attribute e f pos) (wFld X.K f we) := by
  refine PE.le (pe_fld he hb) fun σ H Q h => ?_
  obtain ⟨T, env, q, x, E, w, k, xk⟩ := h
  refine ⟨T, env, _, x, E, w, fun T1 H1 e1 r v a1 r1 w1 => ?_, xk⟩
  obtain ⟨d, hv, g⟩ := vw_view a1.ev r1 w1
  cases d <;> first | exact g.elim | skip
  obtain ⟨⟨hc, hn⟩, d, hl, q1⟩ := g
  obtain ⟨a, dx, fs, rfl, s, hk, r⟩ := hv
  obtain ⟨v, h1, h2⟩ := lookup_rep hk r hl
  exact ⟨a, _, dx, fs, v, rfl, s, hc, hn, h1, k T1 H1 e1 (.val d) v a1 h2 q1⟩
def putFD (f : Str) (v : D) : List (Str × D) → List (Str × D)
  | [] => [(f, v)]
  | (g, x) :: r => if g = f then (g, v) :: r else (g, x) :: putFD f v r
theorem putF_rep {K : PySem.W.Frag} {T : TM} {H : Hp} {f : Str} {d : D} {v : V} (rv : RepV K T H d v) : ∀ {fs : List (Str × D)} {ys : List (Str × V)}, ys.map (·.1) = fs.map (·.1) → RepL K T H (fs.map (·.2)) (ys.map (·.2)) →
    (putF f v ys).map (·.1) = (putFD f d fs).map (·.1) ∧ RepL K T H ((putFD f d fs).map (·.2)) ((putF f v ys).map (·.2))
  | [], ys, h, r => by
    have : ys = [] := by simpa using h
    subst this
    exact ⟨rfl, .cons rv .nil⟩
  | x :: xs, [], h, _ => by simp at h
  | (xn, xd) :: xs, (yn, yv) :: ys, h, r => by
    simp only [List.map_cons, List.cons.injEq] at h
    obtain ⟨h1, h2⟩ := h
    subst h1
    obtain ⟨w, vs, e1, r1, r2⟩ := r.cons_inv
    simp only [List.map_cons, List.cons.injEq] at e1
    obtain ⟨e1, e2⟩ := e1
    subst e1 e2
    by_cases e : yn = f
    · simp only [putF, putFD, if_pos e, List.map_cons, h2]
      exact ⟨trivial, .cons rv r2⟩
    · obtain ⟨i1, i2⟩ := putF_rep rv h2 r2
      simp only [putF, putFD, if_neg e, List.map_cons]
      exact ⟨congrArg (yn :: ·) i1, .cons r1 i2⟩
/-- o.f = value -/
def wFldSet (K : PySem.W.Frag) (f : Str) (wo wv : WE) : WS := fun env P => wv env (fun rv e1 => wo e1 (fun ro e2 => match ro with
  | .loc k => dv rv fun d => mutK e2 k (fun o q => match o with | .ins C fs => FldOk K C f ∧ fs.length < 1000 ∧ q (.ins C (putFD f d fs)) | _ => False) P.nx
  | _ => False) P.ex) P.ex
theorem sfld {f : Str} (ho : DE X W o wo) (hv : DE X W value wv) (hs : swapsWith value (some (.Attribute o f pos')) pos.line X.env = pure false := by rfl) : DS X W (.Assign [.Attribute o f pos'] value pos) (wFldSet X.K f wo wv) := by
  refine PS.le (ps_fld ho hv hs) fun F σ H h => ?_
  obtain ⟨T, env, P, E, w, k⟩ := h
  refine ⟨T, env, _, _, E, w, fun T1 H1 e1 rv v a1 r1 w1 => ⟨T1, e1, _, _, a1.ev, w1, fun T2 H2 e2 ro y a2 r2 w2 => ?_, k.ex.after a1⟩, k.ex⟩
  cases ro <;> first | exact w2.elim | skip
  rename_i i
  have a3 := a1.trans a2
  obtain ⟨T3, d, f3, E3, le3, t3, sl3, rv3, w3⟩ := dv_rep a3.fr a3.ev (r1.mono a2.fr) w2
  obtain ⟨a, ob, rfl, t, ro, mk, w4, done⟩ := mut_ok E3 (show σ[i]? = some (some y) from r2) w3
  cases ob <;> first | exact w4.elim | skip
  rename_i C fs
  obtain ⟨⟨hc, hn⟩, hl, w4⟩ := w4
  obtain ⟨dx, ys, hy, hk, hr⟩ := ro
  have hlen : ys.length < 1000 := by
    have := congrArg List.length hk
    simp at this
    omega
  refine ⟨a, C, dx, ys, rfl, hy, hc, hn, hlen, ?_⟩
  have le : Le T3 H2 T3 (upd H2 a (.ins C dx (putF f v ys))) := Le.sl t
  obtain ⟨p1, p2⟩ := putF_rep (f := f) (rv3.mono le) hk (hr.mono le)
  exact k.nx _ _ _ _ (Af.trans ⟨f3, E3, a3.kp⟩ (done (.ins C (putFD f d fs)) _ ⟨dx, _, upd_same, p1, p2⟩)) w4
/-! ### o[i] = value -/
def setO (i d : D) (o : Ob) (q : Ob → Prop) : Prop := match o with
  | .lst ds => match i with
    | .int k => ∃ j, ixN ds.length k = some j ∧ q (.lst (ds.set j d))
    | _ => False
  | .dk kvs => ∃ k, i.key = some k ∧ kvs.length < sizeLine ∧ q (.dk (putD kvs k d))
  | .dt kvs => match i with
    | .tup ks => ∃ k, D.keys ks = some k ∧ kvs.length < sizeLine ∧ q (.dt (putD kvs k d))
    | _ => False
  | _ => False
def wSub (wo wi wv : WE) : WS := fun env P => wv env (fun rv e1 => wo e1 (fun ro e2 => wi e2 (fun ri e3 => match ro with
  | .loc k => vw ri e3 fun i => dv rv fun d => mutK e3 k (setO i d) P.nx
  | _ => False) P.ex) P.ex) P.ex
theorem set_dict (hu : X.A.units + 1 < cLine) : PSet X (fun o i v H Q => ∃ a H4, o = .ref a ∧ DPut H a i v H4 ∧ Q H4) := by
  intro pins s σ H o i v ov iv u Q I ro ri rv h
  obtain ⟨a, H4, rfl, g, q⟩ := h
  obtain rfl : ov = Value.ref a := ro
  exact d_setItem hu I g ri rv fun s4 I4 => ⟨H4, I4, q⟩
theorem PSet.or {t t' : TSet} (h : PSet X t) (h' : PSet X t') : PSet X (fun o i v H Q => t o i v H Q ∨ t' o i v H Q) := by
  intro pins s σ H o i v ov iv u Q I ro ri rv q
  rcases q with q | q
  · exact h pins s σ H o i v ov iv u Q I ro ri rv q
  · exact h' pins s σ H o i v ov iv u Q I ro ri rv q
theorem ssub {wi : WE} {i : Expr} (hu : X.A.units + 1 < cLine) (ho : DE X W o wo) (hi : DE X W i wi) (hv : DE X W value wv) (hs : swapsWithSole [.Subscript o i pos'] value pos.line X.env = pure false := by rfl) (hw : swappedStores [.Subscript o i pos'] value X.env = pure none := by rfl)
    (h1 : (assignEach [.Subscript o i pos'] X.env).map (·.2) = [assign (.Subscript o i pos') X.env] := by rfl)
    (ha : ∀ v, assign (.Subscript o i pos') X.env v = (do
      let ov ← holding [v] (eval o X.env)
      let iv ← holding [v, ov] (eval i X.env)
      standAt pos'
      holding [v, ov, iv] (setItem ov iv v)
      release [v, ov, iv] []) := by intro _; rfl) : DS X W (.Assign [.Subscript o i pos'] value pos) (wSub wo wi wv) := by
  refine PS.le (ps_asg hv (pg_sub ho hi (PSet.or set_list (set_dict hu)) ha) hs hw h1) fun F σ H h => ?_
  obtain ⟨T, env, P, E, w, k⟩ := h
  refine ⟨T, env, _, _, E, w, fun T1 H1 e1 rv v a1 r1 w1 => ⟨T1, e1, _, _, a1.ev, w1, fun T2 H2 e2 ro y a2 r2 w2 => ⟨T2, e2, _, _, a2.ev, w2, fun T3 H3 e3 ri x a3 r3 w3 => ?_, (k.ex.after a1).after a2⟩, k.ex.after a1⟩, k.ex⟩
  cases ro <;> first | exact w3.elim | skip
  rename_i j
  have a4 := (a1.trans a2).trans a3
  obtain ⟨di, hi, w4⟩ := vw_view a4.ev r3 w3
  obtain ⟨T5, d, f5, E5, le5, t5, sl5, rv5, w5⟩ := dv_rep a4.fr a4.ev (r1.mono (a2.fr.trans a3.fr)) w4
  obtain ⟨a, ob, rfl, t, ro, mk, w6, done⟩ := mut_ok E5 (show σ[j]? = some (some y) from r2) w5
  have fin : ∀ {o' : Ob} {ho : HO}, RepO X.K T5 (upd H3 a ho) o' a → P.nx (e3.set j (mk o')) → F.nx σ (upd H3 a ho) := fun {o' ho} ro' q => k.nx _ _ _ _ (Af.trans ⟨f5, E5, a4.kp⟩ (done _ _ ro')) q
  have le : ∀ {ho : HO}, Le T5 H3 T5 (upd H3 a ho) := fun {ho} => Le.sl t
  cases ob with
  | lst ds =>
    cases di <;> first | exact w6.elim | skip
    obtain ⟨m, e, q⟩ := w6
    obtain ⟨xs, hx, r⟩ := ro
    cases hi.int
    exact .inl ⟨a, xs, _, m, rfl, rfl, hx, by rw [← r.length]; exact e, fin (o' := .lst (ds.set m d)) ⟨_, upd_same, RepL.set m (r.mono le) (rv5.mono le)⟩ q⟩
  | dk kvs =>
    obtain ⟨m, e, hz, q⟩ := w6
    obtain ⟨ys, hx, hk, r⟩ := ro
    cases key_rep hi e
    have hl : ys.length < sizeLine := by
      have := congrArg List.length hk
      simp at this
      omega
    refine .inr ⟨a, _, rfl, DPut.k hx hl, fin (o' := .dk (putD kvs m d)) ⟨_, upd_same, ?_, ?_⟩ q⟩
    · rw [putK_put]; exact putD_keys d v m kvs ys hk
    · rw [putK_put]; exact put_rep (rv5.mono le) hk (r.mono le)
  | dt kvs =>
    cases di <;> first | exact w6.elim | skip
    obtain ⟨m, e, hz, q⟩ := w6
    obtain ⟨ys, hx, hk, r⟩ := ro
    obtain ⟨b, zs, rfl, s, rz⟩ := hi.tup
    cases keys_rep rz e
    have hl : ys.length < sizeLine := by
      have := congrArg List.length hk
      simp at this
      omega
    refine .inr ⟨a, _, rfl, DPut.t hx s.2 hl, fin (o' := .dt (putD kvs m d)) ⟨_, upd_same, ?_, ?_⟩ q⟩
    · rw [putK_put]; exact putD_keys d v m kvs ys hk
    · rw [putK_put]; exact put_rep (rv5.mono le) hk (r.mono le)
  | ins C fs => exact w6.elim
/-! ### methods of a list -/
def isLstR (r : R) (e : Ev) : Prop := vw r e fun d => match d with | .lst _ => True | _ => False
def wApp (wo wv : WE) : WE := fun env q x => wo env (fun ro e1 => isLstR ro e1 ∧ wv e1 (fun rv e2 => match ro with
  | .loc k => dv rv fun d => mutK e2 k (fun o q' => match o with | .lst ds => ds.length < sizeLine ∧ q' (.lst (ds ++ [d])) | _ => False) fun e3 => q (.val .non) e3
  | _ => False) x) x
theorem lst_ty {K : PySem.W.Frag} {T T0 : TM} {H : Hp} {env : Ev} {σ : L2.St} {r : R} {v : V} (E : EvOk K T H env σ) (h : RepR K T0 T H σ r v) (q : isLstR r env) : tyV K "list" v H := by
  obtain ⟨d, hv, q⟩ := vw_view E h q
  cases d <;> first | exact q.elim | skip
  obtain ⟨a, xs, rfl, s, _⟩ := hv.lst
  exact .inl ⟨rfl, xs, SqL.of s⟩
theorem dapp (ho : DE X W o wo) (hv : DE X W e wv) (hbase : attributeBase o "append" X.env (eval o X.env) = eval o X.env := by rfl)
    (hfew : ((backTo cpos (starEach [e] X.env)).all (fun x => !x.1) && (backToKw cpos (keywordEach [] X.env)).all (fun x => x.1.isSome)
      && decide (([e] : List Expr).length + ([] : List Keyword).length + (if ([] : List Keyword).isEmpty then 0 else 1) < 30)) = true := by rfl)
    (hline : (apos.endLine == cpos.line) = true := by rfl) (hs : starEach [e] X.env = (false, eval e X.env) :: starEach [] X.env := by rfl) (hplain : (backTo cpos (starEach [] X.env)).any (·.1) = false := by rfl) :
    DE X W (.Call (.Attribute o "append" apos) [e] [] cpos) (wApp wo wv) := by
  refine PE.le (pe_bm PySem.F.plainAttrs_list PySem.F.slot_list_append PySem.F.type_list_append mt_append ho (pa_cons hv pa_nil hs) hbase hfew hline hs hplain) fun σ H Q h => ?_
  obtain ⟨T, env, q, x, E, w, k, xk⟩ := h
  refine ⟨T, env, _, x, E, w, fun T1 H1 e1 ro y a1 r1 w1 => ⟨lst_ty a1.ev r1 w1.1, T1, e1, _, x, a1.ev, w1.2, fun T2 H2 e2 rv v a2 r2 w2 => ?_, xk.after a1⟩, xk⟩
  cases ro <;> first | exact w2.elim | skip
  rename_i j
  have a4 := a1.trans a2
  obtain ⟨T5, d, f5, E5, le5, t5, sl5, rv5, w5⟩ := dv_rep a4.fr a4.ev (r2.pre a1.fr) w2
  obtain ⟨a, ob, rfl, t, ro, mk, w6, done⟩ := mut_ok E5 (show σ[j]? = some (some y) from r1) w5
  cases ob <;> first | exact w6.elim | skip
  rename_i ds
  obtain ⟨xs, hx, r⟩ := ro
  have le : ∀ {ho : HO}, Le T5 H2 T5 (upd H2 a ho) := fun {ho} => Le.sl t
  refine ⟨a, xs, v, rfl, rfl, hx, by rw [← r.length]; exact w6.1, ?_⟩
  exact k _ _ _ (.val .non) .non (Af.trans ⟨f5, E5, a4.kp⟩ (done (.lst (ds ++ [d])) _ ⟨_, upd_same, (r.mono le).append (.cons (rv5.mono le) .nil)⟩)) (by show RepV _ _ _ _ _; simp [RepV]) w6.2
end
end DL

end DlH
section DlI
set_option Elab.async false
set_option linter.all false
set_option maxRecDepth 100000
set_option maxHeartbeats 4000000
/-! DlI: defs: their promises over data, their calls. -/
namespace DL
open PySem PySem.Spec PyProof.Rows L2
variable [TabEnv]

/-- an argument: data, or an object that is lent -/
inductive Ar where
  | val (d : D) | bor (o : Ob)
  deriving Inhabited
abbrev XA := Exn → List Ar → Prop
abbrev DSp := List Ar → (R → List Ar → Prop) → XA → Prop
def Ar1 (K : PySem.W.Frag) (T : TM) (H : Hp) (j : Nat) : Ar → V → Prop
  | .val d, v => RepV K T H d v
  | .bor o, v => ∃ a, v = .ref a ∧ T a = some (.sl j) ∧ RepO K T H o a
inductive ArOk (K : PySem.W.Frag) (T : TM) (H : Hp) : Nat → List Ar → List V → Prop
  | nil {j} : ArOk K T H j [] []
  | cons {j a v as vs} : Ar1 K T H j a v → ArOk K T H (j + 1) as vs → ArOk K T H j (a :: as) (v :: vs)
/-- what has become of an argument -/
def Bk1 (K : PySem.W.Frag) (T : TM) (H : Hp) (j : Nat) : Ar → Ar → V → Prop
  | .val d, .val d', _ => d' = d
  | .bor _, .bor o, v => ∃ a, v = .ref a ∧ T a = some (.sl j) ∧ RepO K T H o a
  | .bor _, .val d, v => ∃ a, v = .ref a ∧ T a = some .fz ∧ RepV K T H d v
  | .val _, .bor _, _ => False
inductive ArBk (K : PySem.W.Frag) (T : TM) (H : Hp) : Nat → List Ar → List Ar → List V → Prop
  | nil {j} : ArBk K T H j [] [] []
  | cons {j a b v as bs vs} : Bk1 K T H j a b v → ArBk K T H (j + 1) as bs vs → ArBk K T H j (a :: as) (b :: bs) (v :: vs)
def RepF (K : PySem.W.Frag) (T0 T : TM) (H : Hp) : R → V → Prop
  | .val d, v => RepV K T H d v
  | .own o, v => ∃ a, v = .ref a ∧ T0 a ≠ some .off ∧ T a = some .tmp ∧ RepO K T H o a
  | .loc _, _ => False
/-- a promise over data as a promise over the abstract heap -/
def spL (K : PySem.W.Frag) (sp : DSp) : Sp := fun vs H Q E => ∃ T args q x, Good T H ∧ (∀ a, T a ≠ some .tmp) ∧ ArOk K T H 0 args vs ∧ sp args q x ∧
  (∀ T' H' r args' v, Fr T H T' H' → ArBk K T' H' 0 args args' vs → RepF K T T' H' r v → q r args' → Q v H') ∧
  (∀ T' H' e args' c d, Fr T H T' H' → ArBk K T' H' 0 args args' vs → RepX K T' H' e c d → x e args' → E c d H')

/-- a def at f keeps a promise, outside of any repr -/
structure FnG (P : Program) (w : World) (K : PySem.W.Frag) (mg : Str → Option Value) (base : Heap) (k : Nat) (f : Addr) (fd : FuncData) (ps : List Str) (sp : Sp) : Prop where
  len : ∀ vs H Q E, sp vs H Q E → vs.length = ps.length
  run : ∀ (A : Around) (outer : List Env) (s : Shared) (H : Hp) (args : Args) (us : List Value) (vs : List V) (Q : VK) (E : XK),
    Room k A → A.guards = some [] → Env0 P w K mg base A outer s H → BindsTo s fd args (ps.zip us) → Vals vs us → sp vs H Q E → codeAny (model P w) A (.call (.ref f) args) (CR (L2.CX P w) outer P w H s Q E) s
theorem FnG.mono {P : Program} {w : World} {K : PySem.W.Frag} {mg : Str → Option Value} {base : Heap} {j k : Nat} {f : Addr} {fd : FuncData} {ps : List Str} {sp : Sp} (F : FnG P w K mg base j f fd ps sp) (h : j ≤ k) : FnG P w K mg base k f fd ps sp :=
  ⟨F.len, fun A outer s H args us vs Q E hr hg => F.run A outer s H args us vs Q E (hr.mono h) hg⟩

/-! ### a def by its body -/
def toSl : Ar → Sl
  | .val d => .val d
  | .bor o => .bor o
def initE (n : Nat) (args : List Ar) : Ev := args.map toSl ++ List.replicate (n - args.length) .un
/-- what the caller gets back -/
def exitA (args : List Ar) (e : Ev) : List Ar := match args, e with
  | [], _ => []
  | .val d :: r, _ :: e => .val d :: exitA r e
  | .bor _ :: r, .bor o :: e => .bor o :: exitA r e
  | .bor _ :: r, .bfz d :: e => .val d :: exitA r e
  | a :: r, _ :: e => a :: exitA r e
  | a :: r, [] => a :: exitA r []
section
variable {K : PySem.W.Frag} {W : WX} {T T0 T' T1 T2 : TM} {H H0 H' H1 H2 : Hp} {env env0 env1 env2 : Ev} {σ σ0 σ1 σ2 : L2.St}
theorem ArOk.len : ∀ {j : Nat} {as : List Ar} {vs : List V}, ArOk K T H j as vs → as.length = vs.length
  | _, _, _, .nil => rfl
  | _, _, _, .cons _ h => by simp [ArOk.len h]
theorem ArOk.get : ∀ {j : Nat} {as : List Ar} {vs : List V} {i : Nat} {a : Ar}, ArOk K T H j as vs → as[i]? = some a → ∃ v, vs[i]? = some v ∧ Ar1 K T H (j + i) a v
  | _, _, _, _, _, .nil, e => by simp at e
  | _, _, _, 0, _, .cons h _, e => by simp at e; subst e; exact ⟨_, rfl, h⟩
  | j, _, _, i + 1, a, .cons _ h, e => by
    obtain ⟨v, h1, h2⟩ := ArOk.get (i := i) h (by simpa using e)
    exact ⟨v, by simpa using h1, by rw [show j + (i + 1) = j + 1 + i by omega]; exact h2⟩
theorem init_ok {n : Nat} {N : List Str} {args : List Ar} {vs : List V} (hn : n = N.length) (hl : args.length ≤ n) (g : Good T H) (h : ArOk K T H 0 args vs) : EvOk K T H (initE n args) (L2.start N vs) := by
  have l := h.len
  refine ⟨g, by unfold initE L2.start; simp [l, hn], fun i s e => ?_⟩
  unfold initE at e
  by_cases hi : i < args.length
  · rw [List.getElem?_append_left (by simpa using hi), List.getElem?_map, Option.map_eq_some_iff] at e
    obtain ⟨a, e, rfl⟩ := e
    obtain ⟨v, h1, h2⟩ := h.get e
    have hs : (L2.start N vs)[i]? = some (some v) := by
      unfold L2.start
      rw [List.getElem?_append_left (by simp; omega), List.getElem?_map, h1]; rfl
    rw [hs]
    rw [Nat.zero_add] at h2
    cases a with
    | val d => exact ⟨v, rfl, h2⟩
    | bor o =>
      obtain ⟨a, rfl, t, r⟩ := h2
      exact ⟨a, rfl, t, r⟩
  · rw [List.getElem?_append_right (by simpa using hi)] at e
    rw [List.getElem?_replicate] at e
    split at e
    · cases e; trivial
    · cases e
/-- what stands in the parameters' places at the end -/
theorem exit_ok : ∀ {as : List Ar} {vs : List V} {j : Nat} {e' : Ev}, ArOk K T H j as vs → EvOk K T' H' env' σ' →
    (∀ (i : Nat) (o : Ob), as[i]? = some (.bor o) → σ'[j + i]? = some vs[i]? ∧ ∃ s : Sl, env'[j + i]? = some s ∧ s.isB = true) → e' = env'.drop j → j + as.length ≤ env'.length → ArBk K T' H' j as (exitA as e') vs
  | _, _, _, _, .nil, _, _, _, _ => .nil
  | a :: as, v :: vs, j, e', .cons h hs, E, hb, he, hl => by
    have hj : j < env'.length := by simp at hl; omega
    have hd : e' = env'[j] :: env'.drop (j + 1) := by rw [he, List.drop_eq_getElem_cons hj]
    have rec_ := exit_ok (e' := env'.drop (j + 1)) hs E (fun i o e => by
      have := hb (i + 1) o (by simpa using e)
      rw [show j + 1 + i = j + (i + 1) by omega]
      simpa using this) rfl (by simp at hl; omega)
    have hj' : env'[j]? = some env'[j] := List.getElem?_eq_getElem hj
    rw [hd]
    cases a with
    | val d => exact .cons rfl rec_
    | bor o =>
      obtain ⟨h1, s, h2, h3⟩ := hb 0 o rfl
      rw [Nat.add_zero] at h1 h2
      rw [hj'] at h2
      have h2 := Option.some.inj h2
      have ok := E.ok j _ hj'
      rw [h1] at ok
      rw [h2] at ok ⊢
      cases s with
      | bor o' =>
        obtain ⟨a, ea, t, r⟩ := ok
        have ea : v = .ref a := by simpa using ea
        exact .cons ⟨a, ea, t, r⟩ rec_
      | bfz d =>
        obtain ⟨a, ea, t, r⟩ := ok
        have ea : v = .ref a := by simpa using ea
        refine .cons ?_ rec_
        subst ea
        exact ⟨a, rfl, t, r⟩
      | _ => cases h3
end
section
variable {P : Program} {w : World} {K : PySem.W.Frag} {mg : Str → Option Value} {base : Heap}
/-- the wish of a def's body about exceptions -/
abbrev wxE (E : XK) : WX := fun c d _ H => E c d H
/-- the context of a body -/
abbrev cxB (P : Program) (w : World) (K : PySem.W.Frag) (mg : Str → Option Value) (base : Heap) (N : List Str) (qual : Str) (st : Stmt) (f : Addr) (cdv : Value) (A : Around) (outer : List Env) (s : Shared) (H : Hp) (E : XK) : Cx :=
  cxOf (L2.CX P w) P w K mg base N qual (defScope st) f cdv A outer s H E
/-- what a call needs -/
structure Cal (X : Cx) (W : WX) (k : Nat) : Prop where
  tk : Takes X W
  calm : X.calm = true
  room : Room k X.A
  gds : X.A.guards = some []
/-- what a body may use -/
structure Cok (X : Cx) (W : WX) (k : Nat) : Prop extends Cal X W k where
  po : PassesOwn (model X.prog X.w) X.A X.env X.xe
  nd : X.N.Nodup
theorem Cal.hu {X : Cx} {W : WX} {k : Nat} (c : Cal X W k) : X.A.units + 1 < cLine := hu_of c.room
theorem Cal.hu2 {X : Cx} {W : WX} {k : Nat} (c : Cal X W k) : X.A.units + 2 < cLine := by have := c.room.units; omega
theorem Cal.hu64 {X : Cx} {W : WX} {k : Nat} (c : Cal X W k) : X.A.units + 64 < cLine := c.room.units
/-- in a comprehension nothing is raised -/
abbrev noW : WX := fun _ _ _ _ => False
theorem Cal.blk {X : Cx} {W : WX} {k : Nat} {s : Shared} {H : Hp} {scope : Scope} {cenv : Env} {fp : List Addr} (c : Cal X W k) : Cal (X.blk s H scope cenv fp) noW k :=
  ⟨fun u s' h => by obtain ⟨_, _, _, _, _, _, _, _, _, _, _, _, _, _, _, _, z⟩ := h; exact z.elim, c.calm, c.room, c.gds⟩
/-- a body over data: for every context -/
def BodyD (P : Program) (w : World) (K : PySem.W.Frag) (mg : Str → Option Value) (base : Heap) (N : List Str) (qual : Str) (st : Stmt) (k : Nat) (b : WS) : Prop :=
  ∀ (f : Addr) (cdv : Value) (A : Around) (outer : List Env) (s : Shared) (H : Hp) (E : XK), Cok (cxB P w K mg base N qual st f cdv A outer s H E) (wxE E) k → DSs (cxB P w K mg base N qual st f cdv A outer s H E) (wxE E) (defBody st) b
/-- the code of the function at f -/
def CodeAt (K : PySem.W.Frag) (f : Addr) (cdv : Value) : Prop := ∃ o fd, K.lookup f = some o ∧ o.data = .func fd ∧ fd.code = cdv
/-- a body over data: for the function at f -/
def BodyC (P : Program) (w : World) (K : PySem.W.Frag) (mg : Str → Option Value) (base : Heap) (N : List Str) (qual : Str) (st : Stmt) (k : Nat) (f : Addr) (b : WS) : Prop :=
  ∀ (cdv : Value) (A : Around) (outer : List Env) (s : Shared) (H : Hp) (E : XK), CodeAt K f cdv → Cok (cxB P w K mg base N qual st f cdv A outer s H E) (wxE E) k → DSs (cxB P w K mg base N qual st f cdv A outer s H E) (wxE E) (defBody st) b
theorem Cal.le {X : Cx} {W : WX} {j k : Nat} (c : Cal X W k) (h : j ≤ k) : Cal X W j := ⟨c.tk, c.calm, c.room.mono h, c.gds⟩
/-- the body's wish at its ends -/
def poOf (args : List Ar) (q : R → List Ar → Prop) (x : XA) : Po where
  nx := fun e => q (.val .non) (exitA args e)
  rt := fun r e => (∀ i, r ≠ .loc i) ∧ q r (exitA args e)
  ex := fun y e => x y (exitA args e)
theorem fnGC {x qual : Str} {st : Stmt} {f : Addr} {fd : FuncData} {N ps : List Str} {k : Nat} {sp : DSp} {b : WS} (F : Fun K x qual st f fd) (S : FnScope N ps (defScope st)) (hb : BodyC P w K mg base N qual st k f b)
    (len : ∀ args q x, sp args q x → args.length = ps.length) (hsp : ∀ args q x, sp args q x → b (initE N.length args) (poOf args q x)) : FnG P w K mg base (k + 1) f fd ps (spL K sp) := by
  obtain ⟨oc, od, kV, doc, pm, an, cdv, ct, osl, rfl, lk, hcd⟩ := F.ex
  have hlen : ∀ vs H Q E, spL K sp vs H Q E → vs.length = ps.length := by
    rintro vs H Q E ⟨T, args, q, x, _, _, ha, h, _⟩
    rw [← ha.len]; exact len _ _ _ h
  constructor
  · exact hlen
  · intro A outer s H args us vs Q E hr hg e0 hbd rv hs
    have hl := hlen _ _ _ _ hs
    have KX : K.In s.heap := e0.mod.kin.keeps fun b o e => (e0.bs b o e).1
    have lim : s.heap.NoLimit := e0.mod.nolimit.keeps fun b o e => (e0.bs b o e).1
    apply codeAny_call_function hr.depth (KX _ _ lk) rfl S.co S.gen rfl (PySem.W.codeRec_of KX hcd)
    apply hbd
    have kinds : ∀ y ∈ ps.zip us, (defScope st).names.lookup y.1 = some .local ∨ ((defScope st).names.lookup y.1 = some .cell ∧ ((cellsFrom (s.heap.objs.size + 1) (defScope st).names []).lookup y.1).isSome = true) := by
      rintro ⟨n, v⟩ hy
      cases S.par n (List.of_mem_zip hy).1 with
      | inl q => exact Or.inl q
      | inr q => exact Or.inr ⟨q, PySem.W.cellsFrom_some _ _ _ (Or.inl q)⟩
    apply wpAny_newFunctionEnv_cells S.kind kinds
    intro fenv he s1 ic
    subst he
    constructor
    · exact lim.keeps ic.toInCall.keep
    · apply codeAny_func
      obtain ⟨T, ar, q, xx, gd, nt, ha, hq, kr, kx⟩ := hs
      have I : Inv (cxB P w K mg base N qual st f cdv A outer s H E) [] (L2.start N vs) H s1 := inv_start S hr.hd e0 hl rv ic
      have ck : Cok (cxB P w K mg base N qual st f cdv A outer s H E) (wxE E) k := ⟨⟨takes_of rfl rfl rfl rfl, rfl, hr.deeper _, hg⟩, passes_of rfl, S.nd⟩
      have hpl : ps.length ≤ N.length := by have := congrArg List.length S.pre; rw [List.length_take] at this; omega
      have hal : ar.length ≤ N.length := by rw [len _ _ _ hq]; exact hpl
      have E0 : EvOk K T H (initE N.length ar) (L2.start N vs) := init_ok rfl hal gd ha
      have ends : ∀ {T' : TM} {H' : Hp} {env' : Ev} {σ' : L2.St}, Af K T H (initE N.length ar) (L2.start N vs) T' H' env' σ' → ArBk K T' H' 0 ar (exitA ar env') vs := by
        intro T' H' env' σ' a
        refine exit_ok ha a.ev (fun i o e => ?_) rfl ?_
        · have hi : i < ar.length := (List.getElem?_eq_some_iff.mp e).1
          have e0 : (initE N.length ar)[i]? = some (.bor o) := by
            unfold initE
            rw [List.getElem?_append_left (by simpa using hi), List.getElem?_map, e]; rfl
          obtain ⟨z1, z2⟩ := a.kp.2 i _ e0 rfl
          rw [Nat.zero_add]
          refine ⟨?_, z2⟩
          rw [z1]
          unfold L2.start
          have hv : i < vs.length := by rw [← ha.len]; exact hi
          rw [List.getElem?_append_left (by simpa using hv), List.getElem?_map, List.getElem?_eq_getElem hv]; rfl
        · rw [a.kp.1]
          unfold initE
          simp
      have res : ∀ {T' : TM} {H' : Hp} {env' : Ev} {σ' : L2.St} {r : R} {v : V}, Af K T H (initE N.length ar) (L2.start N vs) T' H' env' σ' → RepR K T T' H' σ' r v → (∀ i, r ≠ .loc i) → RepF K T T' H' r v := by
        intro T' H' env' σ' r v a h hn
        cases r with
        | val d => exact h
        | loc i => exact absurd rfl (hn i)
        | own o =>
          obtain ⟨c, ec, n, t, ro⟩ := h
          refine ⟨c, ec, fun z => ?_, t, ro⟩
          have := (a.fr.off z).1
          rw [t] at this; cases this
      have run := (hb cdv A outer s H E ⟨_, _, lk, rfl, rfl⟩ ck).run [] s1 (L2.start N vs) H { nx := fun _ H' => Q .non H', rt := Q } I ⟨T, initE N.length ar, poOf ar q xx, E0, hsp _ _ _ hq, ⟨fun T' H' env' σ' a z => ?_, fun T' H' env' σ' r v a rr z => ?_, fun T' H' env' σ' e c d a rx z => ?_, fun _ _ _ _ _ z => z.elim, fun _ _ _ _ _ z => z.elim⟩⟩
      · apply wpAny_mono run _ (fun e s' he => he)
        intro fl s' hq'
        cases fl with
        | ret u =>
          obtain ⟨v, σ', H', J, rv', z⟩ := hq'
          exact ⟨v, H', J.os, J.bare, J.base, J.hok, rv', z⟩
        | next =>
          obtain ⟨σ', H', J, z⟩ := hq'
          exact ⟨.non, H', J.os, J.bare, J.base, J.hok, rfl, z⟩
        | brk => obtain ⟨_, _, _, z⟩ := hq'; exact z.elim
        | cont => obtain ⟨_, _, _, z⟩ := hq'; exact z.elim
      · exact kr T' H' (.val .non) _ .non a.fr (ends a) (by show RepV _ _ _ _ _; simp [RepV]) z
      · exact kr T' H' r _ v a.fr (ends a) (res a rr z.1) z.2
      · exact kx T' H' e _ c d a.fr (ends a) rx z
theorem fnG {x qual : Str} {st : Stmt} {f : Addr} {fd : FuncData} {N ps : List Str} {k : Nat} {sp : DSp} {b : WS} (F : Fun K x qual st f fd) (S : FnScope N ps (defScope st)) (hb : BodyD P w K mg base N qual st k b)
    (len : ∀ args q x, sp args q x → args.length = ps.length) (hsp : ∀ args q x, sp args q x → b (initE N.length args) (poOf args q x)) : FnG P w K mg base (k + 1) f fd ps (spL K sp) :=
  fnGC F S (fun cdv A outer s H E _ => hb f cdv A outer s H E) len hsp
end
end DL

end DlI
section DlJ
set_option Elab.async false
set_option linter.all false
set_option maxRecDepth 100000
set_option maxHeartbeats 4000000
/-! DlJ: the call of a def. -/
namespace DL
open PySem PySem.Spec PyProof.Rows L2
variable [TabEnv]
open Classical

/-- objects leave their slots for the time of a call -/
def outE (rs : List R) (e : Ev) (k : List Ar → Ev → Prop) : Prop := match rs with
  | [] => k [] e
  | .val d :: rs => outE rs e fun as e' => k (.val d :: as) e'
  | .own o :: rs => outE rs e fun as e' => k (.bor o :: as) e'
  | .loc i :: rs => match e[i]? with
    | some (.val d) => outE rs e fun as e' => k (.val d :: as) e'
    | some (.bfz d) => outE rs e fun as e' => k (.val d :: as) e'
    | some (.own o) => outE rs (e.set i .un) fun as e' => k (.bor o :: as) e'
    | some (.bor o) => outE rs (e.set i .un) fun as e' => k (.bor o :: as) e'
    | _ => False
/-- one comes back -/
def in1E (i : Nat) (a : Ar) (e0 e : Ev) : Ev := match e0[i]?, a with
  | some (.own _), .bor o => e.set i (.own o)
  | some (.own _), .val d => e.set i (.val d)
  | some (.bor _), .bor o => e.set i (.bor o)
  | some (.bor _), .val d => e.set i (.bfz d)
  | _, _ => e
def inE (rs : List R) (as : List Ar) (e0 e : Ev) : Ev := match rs, as with
  | .loc i :: rs, a :: as => inE rs as e0 (in1E i a e0 e)
  | _ :: rs, _ :: as => inE rs as e0 e
  | _, _ => e
def wFn (sp : DSp) (u : WA) : WE := fun env q x => u env (fun rs e => outE rs e fun ars e1 => sp ars (fun r ars' => q r (inE rs ars' e e1)) (fun y ars' => x y (inE rs ars' e e1))) x

section
variable {K : PySem.W.Frag} {W : WX} {T T0 T' T1 T2 : TM} {H H0 H' H1 H2 : Hp} {env env0 env1 env2 : Ev} {σ σ0 σ1 σ2 : L2.St}
/-- an argument in the air -/
def At1 (K : PySem.W.Frag) (T0 T : TM) (H : Hp) : Ar → V → Prop
  | .val d, v => RepV K T H d v
  | .bor o, v => ∃ a, v = .ref a ∧ T0 a ≠ some .tmp ∧ T a = some .tmp ∧ RepO K T H o a
inductive AtL (K : PySem.W.Frag) (T0 T : TM) (H : Hp) : List Ar → List V → Prop
  | nil : AtL K T0 T H [] []
  | cons {a v as vs} : At1 K T0 T H a v → AtL K T0 T H as vs → AtL K T0 T H (a :: as) (v :: vs)
def adA : List Ar → List V → List Addr
  | .bor _ :: as, .ref a :: vs => a :: adA as vs
  | _ :: as, _ :: vs => adA as vs
  | _, _ => []
theorem AtL.mono {as : List Ar} {vs : List V} (le : Le T H T1 H) (kt : ∀ b ∈ adA as vs, T1 b = some .tmp) (h : AtL K T0 T H as vs) : AtL K T0 T1 H as vs := by
  induction h with
  | nil => exact .nil
  | @cons a v as vs h _ ih =>
    cases a with
    | val d => exact .cons (RepV.mono le d v h) (ih fun b hb => kt b (by simpa [adA] using hb))
    | bor o =>
      obtain ⟨c, ec, n, t, r⟩ := h
      subst ec
      exact .cons ⟨c, rfl, n, kt c (by simp [adA]), r.mono le rfl⟩ (ih fun b hb => kt b (by simp [adA, hb]))
theorem RepRs.slot {rs : List R} {vs : List V} {i : Nat} {a : Addr} (t : T a = some (.sl i)) (h : RepRs K T0 T H σ rs vs) : RepRs K T0 (tag T a (some .tmp)) H σ rs vs := by
  have le : Le T H (tag T a (some .tmp)) H := fun b e => by
    have hb : b ≠ a := fun z => by subst z; rw [t] at e; cases e
    exact ⟨by rw [tag_ne hb]; exact e, .inl rfl⟩
  induction h with
  | nil => exact .nil
  | @cons r v rs vs h _ ih =>
    refine .cons ?_ ih
    cases r with
    | val d => exact RepV.mono le d v h
    | loc i => exact h
    | own o =>
      obtain ⟨c, ec, n, tc, ro⟩ := h
      have hc : c ≠ a := fun z => by subst z; rw [t] at tc; cases tc
      exact ⟨c, ec, n, by rw [tag_ne hc]; exact tc, ro.mono le rfl⟩
/-- the slots that are lent -/
def lentE (rs : List R) (e : Ev) : List Nat := match rs with
  | .loc i :: rs => match e[i]? with
    | some (.own _) => i :: lentE rs (e.set i .un)
    | some (.bor _) => i :: lentE rs (e.set i .un)
    | _ => lentE rs e
  | _ :: rs => lentE rs e
  | [] => []
/-- out: what one knows behind it -/
theorem out_ok : ∀ {rs : List R} {vs : List V} {T : TM} {env : Ev} {k : List Ar → Ev → Prop}, Fr T0 H0 T H → EvOk K T H env σ → RepRs K T0 T H σ rs vs → (ownAd rs vs).Nodup → outE rs env k →
    ∃ T1 env1 as, Fr T0 H0 T1 H ∧ EvOk K T1 H env1 σ ∧ Le T H T1 H ∧ (∀ b, T b = some .tmp → T1 b = some .tmp) ∧ AtL K T0 T1 H as vs ∧ (adA as vs).Nodup ∧ (∀ b ∈ adA as vs, b ∈ ownAd rs vs ∨ ∃ i, T b = some (.sl i)) ∧
      env1.length = env.length ∧ (∀ i : Nat, i ∉ lentE rs env → env1[i]? = env[i]?) ∧ (∀ i ∈ lentE rs env, env1[i]? = some .un ∧ ∃ o, env[i]? = some (.own o) ∨ env[i]? = some (.bor o)) ∧ k as env1
  | [], _, T, env, k, f, E, .nil, _, q => ⟨T, env, [], f, E, fun _ e => ⟨e, .inl rfl⟩, fun _ e => e, .nil, by simp [adA], by simp [adA], rfl, fun _ _ => rfl, by simp [lentE], q⟩
  | .val d :: rs, v :: vs, T, env, k, f, E, .cons h hs, nd, q => by
    obtain ⟨T1, env1, as, f1, E1, le, kt, at1, nd1, p, ll, l1, l2, q1⟩ := out_ok (rs := rs) (vs := vs) f E hs (by simpa [ownAd] using nd) q
    exact ⟨T1, env1, .val d :: as, f1, E1, le, kt, .cons (RepV.mono le d v h) at1, by simpa [adA] using nd1, by simpa [adA, ownAd] using p, ll, by simpa [lentE] using l1, by simpa [lentE] using l2, q1⟩
  | .own o :: rs, v :: vs, T, env, k, f, E, .cons h hs, nd, q => by
    obtain ⟨c, ec, n, t, r⟩ := h
    subst ec
    have nd' : c ∉ ownAd rs vs ∧ (ownAd rs vs).Nodup := by simpa [ownAd] using nd
    obtain ⟨T1, env1, as, f1, E1, le, kt, at1, nd1, p, ll, l1, l2, q1⟩ := out_ok (rs := rs) (vs := vs) f E hs nd'.2 q
    refine ⟨T1, env1, .bor o :: as, f1, E1, le, kt, .cons ⟨c, rfl, n, kt c t, r.mono le rfl⟩ at1, ?_, ?_, ll, by simpa [lentE] using l1, by simpa [lentE] using l2, q1⟩
    · simp only [adA, List.nodup_cons]
      refine ⟨fun z => ?_, nd1⟩
      rcases p c z with z | ⟨i, z⟩
      · exact nd'.1 z
      · rw [t] at z; cases z
    · intro b hb
      simp only [adA, List.mem_cons] at hb
      rcases hb with hb | hb
      · exact .inl (by simp [ownAd, hb])
      · rcases p b hb with z | z
        · exact .inl (by simp [ownAd, z])
        · exact .inr z
  | .loc i :: rs, v :: vs, T, env, k, f, E, .cons h hs, nd, q => by
    have hv : σ[i]? = some (some v) := h
    have nd' : (ownAd rs vs).Nodup := by simpa [ownAd] using nd
    have plain : ∀ {d : D}, RepV K T H d v → lentE (.loc i :: rs) env = lentE rs env → outE rs env (fun as e' => k (.val d :: as) e') →
        ∃ T1 env1 as, Fr T0 H0 T1 H ∧ EvOk K T1 H env1 σ ∧ Le T H T1 H ∧ (∀ b, T b = some .tmp → T1 b = some .tmp) ∧ AtL K T0 T1 H as (v :: vs) ∧ (adA as (v :: vs)).Nodup ∧ (∀ b ∈ adA as (v :: vs), b ∈ ownAd (.loc i :: rs) (v :: vs) ∨ ∃ i, T b = some (.sl i)) ∧
          env1.length = env.length ∧ (∀ j : Nat, j ∉ lentE (.loc i :: rs) env → env1[j]? = env[j]?) ∧ (∀ j ∈ lentE (.loc i :: rs) env, env1[j]? = some .un ∧ ∃ o, env[j]? = some (.own o) ∨ env[j]? = some (.bor o)) ∧ k as env1 := by
      intro d rd hl q
      obtain ⟨T1, env1, as, f1, E1, le, kt, at1, nd1, p, ll, l1, l2, q1⟩ := out_ok (rs := rs) (vs := vs) f E hs nd' q
      rw [hl]
      exact ⟨T1, env1, .val d :: as, f1, E1, le, kt, .cons (RepV.mono le d v rd) at1, by simpa [adA] using nd1, by simpa [adA, ownAd] using p, ll, l1, l2, q1⟩
    have lend : ∀ {o : Ob} {a : Addr}, (env[i]? = some (.own o) ∨ env[i]? = some (.bor o)) → v = .ref a → T a = some (.sl i) → RepO K T H o a → lentE (.loc i :: rs) env = i :: lentE rs (env.set i .un) → outE rs (env.set i .un) (fun as e' => k (.bor o :: as) e') →
        ∃ T1 env1 as, Fr T0 H0 T1 H ∧ EvOk K T1 H env1 σ ∧ Le T H T1 H ∧ (∀ b, T b = some .tmp → T1 b = some .tmp) ∧ AtL K T0 T1 H as (v :: vs) ∧ (adA as (v :: vs)).Nodup ∧ (∀ b ∈ adA as (v :: vs), b ∈ ownAd (.loc i :: rs) (v :: vs) ∨ ∃ i, T b = some (.sl i)) ∧
          env1.length = env.length ∧ (∀ j : Nat, j ∉ lentE (.loc i :: rs) env → env1[j]? = env[j]?) ∧ (∀ j ∈ lentE (.loc i :: rs) env, env1[j]? = some .un ∧ ∃ o, env[j]? = some (.own o) ∨ env[j]? = some (.bor o)) ∧ k as env1 := by
      intro o a he ev t r hl q
      subst ev
      obtain ⟨E', le0⟩ := E.turn (s := .un) (t := some .tmp) t trivial
      have n0 : T0 a ≠ some .tmp := fun z => by
        have := (f.tmp z).1
        rw [t] at this; cases this
      have f' : Fr T0 H0 (tag T a (some .tmp)) H := f.trans (Fr.turn E.good t (by simp))
      obtain ⟨T1, env1, as, f1, E1, le, kt, at1, nd1, p, ll, l1, l2, q1⟩ := out_ok (rs := rs) (vs := vs) f' E' (hs.slot t) nd' q
      have hi : i < env.length := by
        rcases he with he | he
        · exact (List.getElem?_eq_some_iff.mp he).1
        · exact (List.getElem?_eq_some_iff.mp he).1
      have ni : i ∉ lentE rs (env.set i .un) := fun z => by
        obtain ⟨_, o', h⟩ := l2 i z
        rw [List.getElem?_set_self hi] at h
        rcases h with h | h <;> cases h
      rw [hl]
      refine ⟨T1, env1, .bor o :: as, f1, E1, fun b e => le b (le0 b e).1, fun b e => ?_, .cons ⟨a, rfl, n0, kt a tag_same, (r.mono le0 rfl).mono le rfl⟩ at1, ?_, ?_, by rw [ll]; simp, fun j hj => ?_, fun j hj => ?_, q1⟩
      · have hb : b ≠ a := fun z => by subst z; rw [t] at e; cases e
        exact kt b (by rw [tag_ne hb]; exact e)
      · simp only [adA, List.nodup_cons]
        refine ⟨fun z => ?_, nd1⟩
        rcases p a z with z | ⟨j, z⟩
        · have := (ownAd_tmp hs a z).2
          rw [t] at this; cases this
        · rw [tag_same] at z; cases z
      · intro b hb
        simp only [adA, List.mem_cons] at hb
        rcases hb with hb | hb
        · exact .inr ⟨i, by rw [hb]; exact t⟩
        · rcases p b hb with z | ⟨j, z⟩
          · exact .inl (by simpa [ownAd] using z)
          · have hb : b ≠ a := fun y => by subst y; rw [tag_same] at z; cases z
            rw [tag_ne hb] at z
            exact .inr ⟨j, z⟩
      · have hj : j ≠ i ∧ j ∉ lentE rs (env.set i .un) := by simpa using hj
        rw [l1 j hj.2, List.getElem?_set_ne (Ne.symm hj.1)]
      · have hj : j = i ∨ j ∈ lentE rs (env.set i .un) := by simpa using hj
        rcases hj with hj | hj
        · rw [hj]
          exact ⟨by rw [l1 i ni, List.getElem?_set_self hi], o, he⟩
        · obtain ⟨h1, o', h2⟩ := l2 j hj
          have hji : i ≠ j := fun z => ni (Eq.subst (motive := fun k => k ∈ lentE rs (env.set i .un)) z.symm hj)
          rw [List.getElem?_set_ne hji] at h2
          exact ⟨h1, o', h2⟩
    cases e : env[i]? with
    | none => simp only [outE, e] at q
    | some s =>
      have ok := E.ok i s e
      rw [hv] at ok
      cases s with
      | un => simp only [outE, e] at q
      | val d =>
        simp only [outE, e] at q
        obtain ⟨v', ev, r⟩ := ok
        cases ev
        exact plain r (by simp [lentE, e]) q
      | bfz d =>
        simp only [outE, e] at q
        obtain ⟨v', ev, _, r⟩ := ok
        cases ev
        exact plain r (by simp [lentE, e]) q
      | own o =>
        simp only [outE, e] at q
        obtain ⟨v', ev, t, r⟩ := ok
        cases ev
        exact lend (.inl e) rfl t r (by simp [lentE, e]) q
      | bor o =>
        simp only [outE, e] at q
        obtain ⟨v', ev, t, r⟩ := ok
        cases ev
        exact lend (.inr e) rfl t r (by simp [lentE, e]) q
end
end DL

end DlJ
section DlK
set_option Elab.async false
set_option linter.all false
set_option maxRecDepth 100000
set_option maxHeartbeats 4000000
/-! DlK: the call of a def, back from it. -/
namespace DL
open PySem PySem.Spec PyProof.Rows L2
variable [TabEnv]

inductive Sh (e0 : Ev) : List R → List Ar → Prop
  | nil : Sh e0 [] []
  | lent {i : Nat} {o rs as} : (e0[i]? = some (.own o) ∨ e0[i]? = some (.bor o)) → Sh e0 rs as → Sh e0 (.loc i :: rs) (.bor o :: as)
  | locd {i : Nat} {d rs as} : (e0[i]? = some (.val d) ∨ e0[i]? = some (.bfz d)) → Sh e0 rs as → Sh e0 (.loc i :: rs) (.val d :: as)
  | val {d rs as} : Sh e0 rs as → Sh e0 (.val d :: rs) (.val d :: as)
  | own {o rs as} : Sh e0 rs as → Sh e0 (.own o :: rs) (.bor o :: as)
theorem outE_mono : ∀ {rs : List R} {env : Ev} {k k' : List Ar → Ev → Prop}, (∀ as e, k as e → k' as e) → outE rs env k → outE rs env k'
  | [], _, _, _, h, q => h _ _ q
  | .val d :: rs, _, _, _, h, q => outE_mono (rs := rs) (fun as e => h _ e) q
  | .own o :: rs, _, _, _, h, q => outE_mono (rs := rs) (fun as e => h _ e) q
  | .loc i :: rs, env, _, _, h, q => by
    cases e : env[i]? with
    | none => simp only [outE, e] at q
    | some s =>
      cases s with
      | un => simp only [outE, e] at q
      | val d => simp only [outE, e] at q ⊢; exact outE_mono (rs := rs) (fun as e => h _ e) q
      | bfz d => simp only [outE, e] at q ⊢; exact outE_mono (rs := rs) (fun as e => h _ e) q
      | own o => simp only [outE, e] at q ⊢; exact outE_mono (rs := rs) (fun as e => h _ e) q
      | bor o => simp only [outE, e] at q ⊢; exact outE_mono (rs := rs) (fun as e => h _ e) q
theorem outE_sh {e0 : Ev} : ∀ {rs : List R} {env : Ev} {k : List Ar → Ev → Prop}, (∀ (i : Nat) (s : Sl), env[i]? = some s → s ≠ .un → e0[i]? = some s) → outE rs env k → outE rs env (fun as e1 => k as e1 ∧ Sh e0 rs as)
  | [], _, _, _, q => ⟨q, .nil⟩
  | .val d :: rs, _, k, h, q => outE_mono (rs := rs) (fun as e (z : k (.val d :: as) e ∧ Sh e0 rs as) => ⟨z.1, .val z.2⟩) (outE_sh (rs := rs) h q)
  | .own d :: rs, _, k, h, q => outE_mono (rs := rs) (fun as e (z : k (.bor d :: as) e ∧ Sh e0 rs as) => ⟨z.1, .own z.2⟩) (outE_sh (rs := rs) h q)
  | .loc i :: rs, env, k, h, q => by
    have h' : ∀ (j : Nat) (s : Sl), (env.set i .un)[j]? = some s → s ≠ .un → e0[j]? = some s := fun j s e n => by
      by_cases hj : i = j
      · subst hj
        by_cases hl : i < env.length
        · rw [List.getElem?_set_self hl] at e; cases e; exact absurd rfl n
        · rw [List.getElem?_eq_none (by simpa using hl)] at e; cases e
      · rw [List.getElem?_set_ne hj] at e; exact h j s e n
    cases e : env[i]? with
    | none => simp only [outE, e] at q
    | some s =>
      cases s with
      | un => simp only [outE, e] at q
      | val d => simp only [outE, e] at q ⊢; exact outE_mono (fun as e z => ⟨z.1, .locd (.inl (h i _ ‹_› (by simp))) z.2⟩) (outE_sh (rs := rs) h q)
      | bfz d => simp only [outE, e] at q ⊢; exact outE_mono (fun as e z => ⟨z.1, .locd (.inr (h i _ ‹_› (by simp))) z.2⟩) (outE_sh (rs := rs) h q)
      | own o => simp only [outE, e] at q ⊢; exact outE_mono (fun as e z => ⟨z.1, .lent (.inl (h i _ ‹_› (by simp))) z.2⟩) (outE_sh (rs := rs) h' q)
      | bor o => simp only [outE, e] at q ⊢; exact outE_mono (fun as e z => ⟨z.1, .lent (.inr (h i _ ‹_› (by simp))) z.2⟩) (outE_sh (rs := rs) h' q)

/-- the callee's tags -/
def bT (T : TM) : TM := fun b => match T b with
  | some .fz => some .fz
  | some _ => some .off
  | none => none
def lenT (T : TM) : Nat → List Ar → List V → TM
  | j, .bor _ :: as, .ref a :: vs => fun b => if b = a then some (.sl j) else lenT T (j + 1) as vs b
  | j, _ :: as, _ :: vs => lenT T (j + 1) as vs
  | _, _, _ => bT T
open Classical in
/-- the caller's tags behind the call -/
noncomputable def outT (T T' : TM) (L : List Addr) : TM := fun a =>
  if a ∈ L then (match T' a with | some .fz => some .fz | _ => some .tmp)
  else match T a with
   | some .tmp => some .tmp
   | some .off => some .off
   | some (.sl i) => some (.sl i)
   | _ => match T' a with
     | some .fz => some .fz
     | some .tmp => some .tmp
     | _ => none
section
variable {K : PySem.W.Frag} {W : WX} {T T0 T' T1 T2 U : TM} {H H0 H' H1 H2 : Hp} {env env0 env1 env2 : Ev} {σ σ0 σ1 σ2 : L2.St}
theorem bT_fz {a : Addr} : bT T a = some .fz ↔ T a = some .fz := by
  unfold bT
  cases h : T a with
  | none => simp
  | some t => cases t <;> simp
theorem bT_ne {a : Addr} {i : Nat} : bT T a ≠ some (.sl i) ∧ bT T a ≠ some .tmp := by
  unfold bT
  cases h : T a with
  | none => simp
  | some t => cases t <;> simp
theorem lenT_out : ∀ {as : List Ar} {vs : List V} {j : Nat} {b : Addr}, b ∉ adA as vs → lenT T j as vs b = bT T b
  | [], _, _, _, _ => by simp [lenT]
  | .val _ :: as, [], _, _, _ => by simp [lenT]
  | .bor _ :: as, [], _, _, _ => by simp [lenT]
  | .val _ :: as, v :: vs, j, b, h => by simpa [lenT] using lenT_out (as := as) (vs := vs) (j := j + 1) (by simpa [adA] using h)
  | .bor _ :: as, v :: vs, j, b, h => by
    cases v with
    | ref a =>
      have h : b ≠ a ∧ b ∉ adA as vs := by simpa [adA] using h
      simp only [lenT, if_neg h.1]
      exact lenT_out h.2
    | _ => simpa [lenT] using lenT_out (as := as) (vs := vs) (j := j + 1) (by simpa [adA] using h)
theorem lenT_in : ∀ {as : List Ar} {vs : List V} {j : Nat} {b : Addr}, b ∈ adA as vs → ∃ i, lenT T j as vs b = some (.sl i)
  | [], _, _, _, h => by simp [adA] at h
  | .val _ :: as, [], _, _, h => by simp [adA] at h
  | .bor _ :: as, [], _, _, h => by simp [adA] at h
  | .val _ :: as, v :: vs, j, b, h => by simpa [lenT] using lenT_in (as := as) (vs := vs) (j := j + 1) (by simpa [adA] using h)
  | .bor _ :: as, v :: vs, j, b, h => by
    cases v with
    | ref a =>
      have h : b = a ∨ b ∈ adA as vs := by simpa [adA] using h
      simp only [lenT]
      by_cases hb : b = a
      · exact ⟨j, if_pos hb⟩
      · rw [if_neg hb]
        exact lenT_in (h.resolve_left hb)
    | _ => simpa [lenT] using lenT_in (as := as) (vs := vs) (j := j + 1) (by simpa [adA] using h)
theorem AtL.ad {as : List Ar} {vs : List V} (h : AtL K T0 T H as vs) : ∀ b ∈ adA as vs, T0 b ≠ some .tmp ∧ T b = some .tmp := by
  induction h with
  | nil => intro b hb; simp [adA] at hb
  | @cons a v as vs h _ ih =>
    intro b hb
    cases a with
    | val d => exact ih b (by simpa [adA] using hb)
    | bor o =>
      obtain ⟨c, ec, n, t, _⟩ := h
      subst ec
      have hb : b = c ∨ b ∈ adA as vs := by simpa [adA] using hb
      rcases hb with hb | hb
      · rw [hb]; exact ⟨n, t⟩
      · exact ih b hb
theorem AtL.args {as : List Ar} {vs : List V} (h : AtL K T0 T H as vs) : ∀ {j : Nat}, (adA as vs).Nodup → Le T H T' H → (∀ b ∈ adA as vs, T' b = lenT T j as vs b) → ArOk K T' H j as vs := by
  induction h with
  | nil => intro _ _ _ _; exact .nil
  | @cons a v as vs h _ ih =>
    intro j nd le hj
    cases a with
    | val d => exact .cons (RepV.mono le d v h) (ih (by simpa [adA] using nd) le fun b hb => by simpa [lenT] using hj b (by simpa [adA] using hb))
    | bor o =>
      obtain ⟨c, ec, n, t, r⟩ := h
      subst ec
      have nd : c ∉ adA as vs ∧ (adA as vs).Nodup := by simpa [adA] using nd
      refine .cons ⟨c, rfl, ?_, r.mono le rfl⟩ (ih nd.2 le fun b hb => ?_)
      · have := hj c (by simp [adA])
        simpa [lenT] using this
      · have hc : b ≠ c := fun z => nd.1 (z ▸ hb)
        have := hj b (by simp [adA, hb])
        simpa [lenT, if_neg hc] using this
theorem ArBk.lent {as bs : List Ar} {vs : List V} {j : Nat} (h : ArBk K T H j as bs vs) : ∀ b ∈ adA as vs, T b = some .fz ∨ ∃ i, T b = some (.sl i) := by
  induction h with
  | nil => intro b hb; simp [adA] at hb
  | @cons j a b' v as bs vs h _ ih =>
    intro b hb
    cases a with
    | val d => exact ih b (by simpa [adA] using hb)
    | bor o =>
      cases b' with
      | val d =>
        obtain ⟨c, ec, t, _⟩ := h
        subst ec
        have hb : b = c ∨ b ∈ adA as vs := by simpa [adA] using hb
        rcases hb with hb | hb
        · rw [hb]; exact .inl t
        · exact ih b hb
      | bor d =>
        obtain ⟨c, ec, t, _⟩ := h
        subst ec
        have hb : b = c ∨ b ∈ adA as vs := by simpa [adA] using hb
        rcases hb with hb | hb
        · rw [hb]; exact .inr ⟨_, t⟩
        · exact ih b hb
/-- the tags behind a call -/
structure BackT (T : TM) (H : Hp) (L : List Addr) (T' : TM) (H' : Hp) : Prop where
  good : Good T H
  lt : ∀ a ∈ L, T a = some .tmp
  fr : ∃ Tc, Fr Tc H T' H' ∧ (∀ a, a ∉ L → Tc a = bT T a)
  bk : ∀ a ∈ L, T' a = some .fz ∨ ∃ i, T' a = some (.sl i)
theorem BackT.off {L : List Addr} (B : BackT T H L T' H') {a : Addr} {t : Tag} (h : T a = some t) (n : t ≠ .fz) (hl : a ∉ L) : T' a = some .off ∧ H' a = H a ∧ outT T T' L a = some t := by
  obtain ⟨Tc, f, e⟩ := B.fr
  have : Tc a = some .off := by
    rw [e a hl]; unfold bT; rw [h]
    cases t <;> first | exact absurd rfl n | rfl
  obtain ⟨h1, h2⟩ := f.off this
  refine ⟨h1, h2, ?_⟩
  unfold outT
  rw [if_neg hl, h]
  cases t <;> first | exact absurd rfl n | rfl
theorem BackT.fz {L : List Addr} (B : BackT T H L T' H') {a : Addr} (h : T' a = some .fz) : outT T T' L a = some .fz := by
  by_cases hl : a ∈ L
  · unfold outT; rw [if_pos hl, h]
  · cases e : T a with
    | none => unfold outT; rw [if_neg hl, e, h]
    | some t =>
      by_cases ht : t = .fz
      · subst ht; unfold outT; rw [if_neg hl, e, h]
      · rw [(B.off e ht hl).1] at h; cases h
theorem BackT.leIn {L : List Addr} (B : BackT T H L T' H') : Le T' H' (outT T T' L) H' := fun a e => ⟨B.fz e, .inl rfl⟩
theorem BackT.le {L : List Addr} (B : BackT T H L T' H') : Le T H (outT T T' L) H' := fun a e => by
  have hl : a ∉ L := fun z => by have := B.lt a z; rw [e] at this; cases this
  obtain ⟨Tc, f, hc⟩ := B.fr
  have : Tc a = some .fz := by rw [hc a hl]; exact bT_fz.mpr e
  obtain ⟨h1, h2⟩ := f.fz this
  exact ⟨B.fz h1, .inl h2⟩
theorem BackT.lent {L : List Addr} (B : BackT T H L T' H') {a : Addr} {i : Nat} (hl : a ∈ L) (h : T' a = some (.sl i)) : outT T T' L a = some .tmp := by
  unfold outT; rw [if_pos hl, h]
theorem BackT.gd {L : List Addr} (B : BackT T H L T' H') : Good (outT T T' L) H' := by
  obtain ⟨Tc, f, hc⟩ := B.fr
  refine ⟨fun a t e => ?_, fun p hp => ?_⟩
  rotate_left
  · obtain ⟨e1, ps, e2, e3, e4⟩ := f.good.tabs p hp
    obtain ⟨d1, _⟩ := B.good.tabs p hp
    have hl : p.1 ∉ L := fun z => by have := B.lt _ z; rw [d1] at this; cases this
    refine ⟨by unfold outT; rw [if_neg hl, d1, e1], ps, e2, e3, fun pos cv hq => ?_⟩
    obtain ⟨c, c1, c2, c3⟩ := e4 pos cv hq
    exact ⟨c, c1, B.fz c2, c3⟩
  by_cases hl : a ∈ L
  · rcases B.bk a hl with h | ⟨i, h⟩
    · rw [B.fz h] at e; cases e
      exact ⟨(f.good _ _ h).1, fun n => absurd rfl n⟩
    · rw [B.lent hl h] at e; cases e
      exact ⟨(f.good _ _ h).1, fun _ => (f.good _ _ h).2 (by simp)⟩
  · cases eT : T a with
    | some u =>
      by_cases hu : u = .fz
      · subst hu
        obtain ⟨h1, h2⟩ := B.le a eT
        rw [h1] at e; cases e
        have : T' a = some .fz := (f.fz (by rw [hc a hl]; exact bT_fz.mpr eT)).1
        exact ⟨(f.good _ _ this).1, fun n => absurd rfl n⟩
      · obtain ⟨_, h2, h3⟩ := B.off eT hu hl
        rw [h3] at e; cases e
        rw [h2]; exact B.good a _ eT
    | none =>
      unfold outT at e
      rw [if_neg hl, eT] at e
      cases e' : T' a with
      | none => rw [e'] at e; cases e
      | some u =>
        rw [e'] at e
        cases u with
        | fz => cases e; exact ⟨(f.good _ _ e').1, fun n => absurd rfl n⟩
        | tmp => cases e; exact f.good _ _ e'
        | _ => cases e
theorem BackT.toFr {L : List Addr} (B : BackT T H L T' H') (f0 : Fr T0 H0 T H) (n : ∀ a ∈ L, T0 a ≠ some .tmp) : Fr T0 H0 (outT T T' L) H' := by
  refine ⟨fun a t e ns => ?_, fun a e => ?_, B.gd⟩
  · obtain ⟨e1, h1⟩ := f0.keep a t e ns
    by_cases ht : t = .fz
    · subst ht
      obtain ⟨Tc, f, hc⟩ := B.fr
      have hl : a ∉ L := fun z => by have := B.lt a z; rw [e1] at this; cases this
      have := f.fz (a := a) (by rw [hc a hl]; exact bT_fz.mpr e1)
      exact ⟨(B.le a e1).1, this.2.trans h1⟩
    · have hl : a ∉ L := fun z => by have := B.lt a z; rw [e1] at this; cases this; exact n a z e
      obtain ⟨_, h2, h3⟩ := B.off e1 ht hl
      exact ⟨h3, h2.trans h1⟩
  · refine f0.noff a ?_
    unfold outT at e
    split at e
    · split at e <;> cases e
    · cases h : T a with
      | none => rw [h] at e; simp only at e; split at e <;> cases e
      | some t =>
        rw [h] at e
        cases t with
        | fz => simp only at e; split at e <;> cases e
        | off => rfl
        | tmp => cases e
        | sl i => cases e
theorem BackT.evs {L : List Addr} (B : BackT T H L T' H') (E : EvOk K T H env σ) : EvOk K (outT T T' L) H' env σ :=
  E.mono B.le B.gd fun j a e => by
    have hl : a ∉ L := fun z => by have := B.lt a z; rw [e] at this; cases this
    obtain ⟨_, h2, h3⟩ := B.off e (by simp) hl
    exact ⟨h3, h2⟩
/-- a result of the call -/
theorem BackT.res {L : List Addr} (B : BackT T H L T' H') (f0 : Fr T0 H0 T H) {Tc : TM} (ho : ∀ a, a ∉ L → Tc a = bT T a) (fc : Fr Tc H T' H') {r : R} {v : V} (h : RepF K Tc T' H' r v) :
    RepR K T0 (outT T T' L) H' σ r v ∧ ∀ o, r = .own o → ∀ a, v = .ref a → a ∉ L := by
  cases r with
  | val d => exact ⟨RepV.mono B.leIn d v h, fun _ z => by cases z⟩
  | loc i => exact h.elim
  | own o =>
    obtain ⟨a, ea, n, t, ro⟩ := h
    subst ea
    have hl : a ∉ L := fun z => by
      rcases B.bk a z with h | ⟨i, h⟩ <;> · rw [t] at h; cases h
    have e0 : T a = none := by
      cases e : T a with
      | none => rfl
      | some u =>
        by_cases hu : u = .fz
        · subst hu
          have := (fc.fz (a := a) (by rw [ho a hl]; exact bT_fz.mpr e)).1
          rw [t] at this; cases this
        · have := (B.off e hu hl).1
          rw [t] at this; cases this
    have e2 : outT T T' L a = some .tmp := by unfold outT; rw [if_neg hl, e0, t]
    refine ⟨⟨a, rfl, fun z => ?_, e2, ro.mono B.leIn rfl⟩, fun _ _ b hb => by cases hb; exact hl⟩
    have := (f0.tmp z).1
    rw [e0] at this; cases this
end
section
variable {K : PySem.W.Frag} {W : WX} {T T0 T' T1 T2 U : TM} {H H0 H' H1 H2 : Hp} {env env0 env1 env2 e0 e : Ev} {σ σ0 σ1 σ2 : L2.St}
/-- what comes back to a slot -/
def InB (K : PySem.W.Frag) (T0 U : TM) (H : Hp) (a : Addr) : Ar → Prop
  | .bor o => U a = some .tmp ∧ T0 a ≠ some .tmp ∧ RepO K U H o a
  | .val d => U a = some .fz ∧ RepV K U H d (.ref a)
inductive InR (K : PySem.W.Frag) (T0 U : TM) (H : Hp) (σ : L2.St) (e0 : Ev) : List R → List Ar → List Addr → Prop
  | nil : InR K T0 U H σ e0 [] [] []
  | lent {i : Nat} {o rs b bs a L} : (e0[i]? = some (.own o) ∨ e0[i]? = some (.bor o)) → σ[i]? = some (some (.ref a)) → InB K T0 U H a b → InR K T0 U H σ e0 rs bs L → InR K T0 U H σ e0 (.loc i :: rs) (b :: bs) (a :: L)
  | skip {r rs b bs L} : (∀ i : Nat, r = .loc i → ∀ o, e0[i]? ≠ some (.own o) ∧ e0[i]? ≠ some (.bor o)) → InR K T0 U H σ e0 rs bs L → InR K T0 U H σ e0 (r :: rs) (b :: bs) L
theorem InR.retag {a : Addr} {t : Option Tag} {rs : List R} {bs : List Ar} {L : List Addr} (ha : U a = some .tmp) (hl : a ∉ L) (h : InR K T0 U H σ e0 rs bs L) : InR K T0 (tag U a t) H σ e0 rs bs L := by
  induction h with
  | nil => exact .nil
  | @lent i o rs b bs c L h1 h2 h3 _ ih =>
    have hl : a ≠ c ∧ a ∉ L := by simpa using hl
    refine .lent h1 h2 ?_ (ih hl.2)
    cases b with
    | bor o =>
      obtain ⟨z1, z2, z3⟩ := h3
      exact ⟨by rw [tag_ne (Ne.symm hl.1)]; exact z1, z2, z3.mono (Le.retag ha) rfl⟩
    | val d =>
      obtain ⟨z1, z2⟩ := h3
      exact ⟨by rw [tag_ne (Ne.symm hl.1)]; exact z1, RepV.mono (Le.retag ha) _ _ z2⟩
  | skip h _ ih => exact .skip h (ih hl)
/-- an object in the air comes into a slot -/
theorem EvOk.into {i : Nat} {a : Addr} {s : Sl} {t : Option Tag} (E : EvOk K U H env σ) (ta : U a = some .tmp) (hi : SlOk K (tag U a t) H i s σ[i]?) : EvOk K (tag U a t) H (env.set i s) σ := by
  have E' := E.retag (t := t) ta
  refine ⟨E'.good, by simpa using E.len, fun j s' e => ?_⟩
  by_cases hj : i = j
  · subst hj
    by_cases hl : i < env.length
    · rw [List.getElem?_set_self hl] at e; cases e; exact hi
    · rw [List.getElem?_eq_none (by simpa using hl)] at e; cases e
  · rw [List.getElem?_set_ne hj] at e
    exact E'.ok j s' e
theorem EvOk.put {i : Nat} {s : Sl} (E : EvOk K U H env σ) (hi : SlOk K U H i s σ[i]?) : EvOk K U H (env.set i s) σ := by
  refine ⟨E.good, by simpa using E.len, fun j s' e => ?_⟩
  by_cases hj : i = j
  · subst hj
    by_cases hl : i < env.length
    · rw [List.getElem?_set_self hl] at e; cases e; exact hi
    · rw [List.getElem?_eq_none (by simpa using hl)] at e; cases e
  · rw [List.getElem?_set_ne hj] at e
    exact E.ok j s' e
def HasB (e : Ev) (i : Nat) : Prop := ∃ s : Sl, e[i]? = some s ∧ s.isB = true
theorem HasB.set {i j : Nat} {s : Sl} (h : HasB e i) (hj : j ≠ i) : HasB (e.set j s) i := by
  obtain ⟨u, h1, h2⟩ := h
  exact ⟨u, by rw [List.getElem?_set_ne hj]; exact h1, h2⟩
theorem in_ok : ∀ {rs : List R} {bs : List Ar} {L : List Addr} {U : TM} {e : Ev}, e.length = e0.length → Fr T0 H0 U H → EvOk K U H e σ → InR K T0 U H σ e0 rs bs L → L.Nodup →
    (∀ (i : Nat) (s : Sl), e0[i]? = some s → s.isB = true → HasB e i ∨ (R.loc i ∈ rs ∧ ∃ o, e0[i]? = some (.bor o))) →
    ∃ U', Fr T0 H0 U' H ∧ EvOk K U' H (inE rs bs e0 e) σ ∧ Le U H U' H ∧ (∀ b, U b = some .tmp → b ∉ L → U' b = some .tmp) ∧ (inE rs bs e0 e).length = e0.length ∧
      ∀ (i : Nat) (s : Sl), e0[i]? = some s → s.isB = true → HasB (inE rs bs e0 e) i
  | [], _, _, U, e, hlen, f, E, .nil, _, hb => ⟨U, f, E, fun _ h => ⟨h, .inl rfl⟩, fun _ h _ => h, hlen, fun i s h1 h2 => by
      rcases hb i s h1 h2 with h | ⟨h, _⟩
      · exact h
      · simp at h⟩
  | _ :: _, _, _, U, e, hlen, f, E, .lent (i := i) (o := o) (b := b) (a := a) (rs := rs) (bs := bs) (L := L) h1 h2 h3 hs, nd, hb => by
    have nd : a ∉ L ∧ L.Nodup := by simpa using nd
    have hi : i < e.length := by
      rw [hlen]
      rcases h1 with h1 | h1
      · exact (List.getElem?_eq_some_iff.mp h1).1
      · exact (List.getElem?_eq_some_iff.mp h1).1
    have step : ∀ {U1 : TM} {s : Sl}, in1E i b e0 e = e.set i s → Fr T0 H0 U1 H → EvOk K U1 H (e.set i s) σ → InR K T0 U1 H σ e0 rs bs L → Le U H U1 H → (∀ c, U c = some .tmp → c ≠ a → U1 c = some .tmp) → ((∃ o, e0[i]? = some (.bor o)) → s.isB = true) →
        ∃ U', Fr T0 H0 U' H ∧ EvOk K U' H (inE (.loc i :: rs) (b :: bs) e0 e) σ ∧ Le U H U' H ∧ (∀ b, U b = some .tmp → b ∉ a :: L → U' b = some .tmp) ∧ (inE (.loc i :: rs) (b :: bs) e0 e).length = e0.length ∧
          ∀ (j : Nat) (s : Sl), e0[j]? = some s → s.isB = true → HasB (inE (.loc i :: rs) (b :: bs) e0 e) j := by
      intro U1 s he f1 E1 R1 le kt hB
      have := in_ok (rs := rs) (bs := bs) (e := e.set i s) (by simpa using hlen) f1 E1 R1 nd.2 (fun j u hj hu => by
        by_cases hij : i = j
        · subst hij
          left
          have : s.isB = true := by
            apply hB
            rcases h1 with h1 | h1
            · rw [h1] at hj; cases hj; cases hu
            · exact ⟨_, h1⟩
          exact ⟨s, List.getElem?_set_self hi, this⟩
        · rcases hb j u hj hu with h | ⟨h, h'⟩
          · exact .inl (h.set hij)
          · simp only [List.mem_cons, R.loc.injEq] at h
            rcases h with h | h
            · exact absurd h.symm hij
            · exact .inr ⟨h, h'⟩)
      obtain ⟨U', q1, q2, q3, q4, q5, q6⟩ := this
      simp only [inE, he]
      refine ⟨U', q1, q2, fun c hc => ?_, fun c hc hn => ?_, q5, q6⟩
      · obtain ⟨z1, z2⟩ := le c hc
        exact ⟨(q3 c z1).1, .inl rfl⟩
      · have hn : c ≠ a ∧ c ∉ L := by simpa using hn
        exact q4 c (kt c hc hn.1) hn.2
    cases b with
    | bor o' =>
      obtain ⟨z1, z2, z3⟩ := h3
      have z3' := z3.mono (Le.retag (t := some (.sl i)) z1) rfl
      have kt : ∀ c, U c = some .tmp → c ≠ a → tag U a (some (.sl i)) c = some .tmp := fun c hc n => by rw [tag_ne n]; exact hc
      rcases h1 with h1 | h1
      · exact step (U1 := tag U a (some (.sl i))) (s := .own o') (by simp [in1E, h1]) (f.retag z1 z2 (by simp)) (E.into z1 ⟨a, h2, tag_same, z3'⟩) (hs.retag z1 nd.1) (Le.retag z1) kt (fun ⟨o, z⟩ => by rw [h1] at z; cases z)
      · exact step (U1 := tag U a (some (.sl i))) (s := .bor o') (by simp [in1E, h1]) (f.retag z1 z2 (by simp)) (E.into z1 ⟨a, h2, tag_same, z3'⟩) (hs.retag z1 nd.1) (Le.retag z1) kt (fun _ => rfl)
    | val d =>
      obtain ⟨z1, z2⟩ := h3
      rcases h1 with h1 | h1
      · exact step (U1 := U) (s := .val d) (by simp [in1E, h1]) f (E.put ⟨_, h2, z2⟩) hs (fun c hc => ⟨hc, .inl rfl⟩) (fun c hc _ => hc) (fun ⟨o, z⟩ => by rw [h1] at z; cases z)
      · exact step (U1 := U) (s := .bfz d) (by simp [in1E, h1]) f (E.put ⟨_, h2, z1, z2⟩) hs (fun c hc => ⟨hc, .inl rfl⟩) (fun c hc _ => hc) (fun _ => rfl)
  | _ :: _, _, _, U, e, hlen, f, E, .skip (r := r) (rs := rs) (b := b) (bs := bs) (L := L) h1 hs, nd, hb => by
    have he : inE (r :: rs) (b :: bs) e0 e = inE rs bs e0 e := by
      cases r with
      | loc i =>
        have : in1E i b e0 e = e := by
          unfold in1E
          cases q : e0[i]? with
          | none => rfl
          | some s =>
            cases s with
            | own o => exact absurd q (h1 i rfl o).1
            | bor o => exact absurd q (h1 i rfl o).2
            | _ => rfl
        simp only [inE, this]
      | _ => simp only [inE]
    rw [he]
    exact in_ok hlen f E hs nd fun i s q1 q2 => by
      rcases hb i s q1 q2 with h | ⟨h, o, h'⟩
      · exact .inl h
      · simp only [List.mem_cons] at h
        rcases h with h | h
        · exact absurd h' (h1 i h.symm o).2
        · exact .inr ⟨h, o, h'⟩
end
end DL

end DlK
section DlL
set_option Elab.async false
set_option linter.all false
set_option maxRecDepth 100000
set_option maxHeartbeats 4000000
/-! DlL: the call of a def, as a rule. -/
namespace DL
open PySem PySem.Spec PyProof.Rows L2
variable [TabEnv]
section
variable {K : PySem.W.Frag} {W : WX} {T T0 T' T1 T2 U Tc : TM} {H H0 H' H1 H2 : Hp} {env env0 env1 env2 e0 e : Ev} {σ σ0 σ1 σ2 : L2.St}
/-- the lent addresses that come back to slots -/
def adS : List R → List Ar → List V → List Addr
  | .loc _ :: rs, .bor _ :: as, .ref a :: vs => a :: adS rs as vs
  | _ :: rs, _ :: as, _ :: vs => adS rs as vs
  | _, _, _ => []
theorem adS_sub : ∀ {rs : List R} {as : List Ar} {vs : List V}, (adS rs as vs).Sublist (adA as vs)
  | [], _, _ => by simp [adS]
  | _ :: _, [], _ => by simp [adS]
  | .loc i :: rs, .bor o :: as, .ref a :: vs => by simpa [adS, adA] using adS_sub (rs := rs) (as := as) (vs := vs)
  | .loc i :: rs, .bor o :: as, .non :: vs => by simpa [adS, adA] using adS_sub (rs := rs) (as := as) (vs := vs)
  | .loc i :: rs, .bor o :: as, v :: vs => by
    cases v <;> simpa [adS, adA] using adS_sub (rs := rs) (as := as) (vs := vs)
  | .loc i :: rs, .val d :: as, v :: vs => by simpa [adS, adA] using adS_sub (rs := rs) (as := as) (vs := vs)
  | .val i :: rs, .bor o :: as, v :: vs => by
    cases v <;> simp only [adS, adA]
    case ref => exact (adS_sub (rs := rs) (as := as) (vs := vs)).trans (List.sublist_cons_self _ _)
    all_goals exact adS_sub
  | .own i :: rs, .bor o :: as, v :: vs => by
    cases v <;> simp only [adS, adA]
    case ref => exact (adS_sub (rs := rs) (as := as) (vs := vs)).trans (List.sublist_cons_self _ _)
    all_goals exact adS_sub
  | .val i :: rs, .val d :: as, v :: vs => by simpa [adS, adA] using adS_sub (rs := rs) (as := as) (vs := vs)
  | .own i :: rs, .val d :: as, v :: vs => by simpa [adS, adA] using adS_sub (rs := rs) (as := as) (vs := vs)
  | .loc i :: rs, .bor o :: as, [] => by simp [adS]
  | .loc i :: rs, .val o :: as, [] => by simp [adS]
  | .val i :: rs, .bor o :: as, [] => by simp [adS]
  | .val i :: rs, .val o :: as, [] => by simp [adS]
  | .own i :: rs, .bor o :: as, [] => by simp [adS]
  | .own i :: rs, .val o :: as, [] => by simp [adS]
theorem inR_of {rs : List R} {as : List Ar} (sh : Sh e0 rs as) : ∀ {vs : List V} {bs : List Ar} {j : Nat}, RepRs K T0 T1 H1 σ rs vs → AtL K T0 T H as vs → ArBk K T' H' j as bs vs → (∀ a i, a ∈ adA as vs → T' a = some (.sl i) → U a = some .tmp) → Le T' H' U H' →
    InR K T0 U H' σ e0 rs bs (adS rs as vs) := by
  induction sh with
  | nil => intro vs bs j r a b h le; cases r; cases b; exact .nil
  | @lent i o rs as h0 _ ih =>
    intro vs bs j r a b h le
    cases r with
    | @cons _ v _ vs r1 rr =>
      cases a with
      | cons a1 aa =>
        obtain ⟨c, ec, n, t, _⟩ := a1
        subst ec
        cases b with
        | @cons _ _ b' _ _ bs _ b1 bb =>
          refine .lent h0 r1 ?_ (ih rr aa bb (fun a i ha => h a i (by simp [adA, ha])) le)
          cases b' with
          | val d =>
            obtain ⟨c', ec, t', r'⟩ := b1
            cases ec
            exact ⟨(le _ t').1, RepV.mono le _ _ r'⟩
          | bor o' =>
            obtain ⟨c', ec, t', r'⟩ := b1
            cases ec
            exact ⟨h _ _ (by simp [adA]) t', n, r'.mono le rfl⟩
  | @locd i d rs as h0 _ ih =>
    intro vs bs j r a b h le
    cases r with
    | cons r1 rr =>
      cases a with
      | cons a1 aa =>
        cases b with
        | cons b1 bb =>
          have := ih rr aa bb (fun a i ha => h a i (by simpa [adA] using ha)) le
          simp only [adS]
          refine .skip (fun k hk o => ?_) this
          cases hk
          rcases h0 with h0 | h0 <;> · rw [h0]; exact ⟨by simp, by simp⟩
  | @val d rs as _ ih =>
    intro vs bs j r a b h le
    cases r with
    | cons r1 rr =>
      cases a with
      | cons a1 aa =>
        cases b with
        | cons b1 bb =>
          have := ih rr aa bb (fun a i ha => h a i (by simpa [adA] using ha)) le
          simp only [adS]
          exact .skip (fun k hk => by cases hk) this
  | @own o rs as _ ih =>
    intro vs bs j r a b h le
    cases r with
    | @cons _ v _ vs r1 rr =>
      cases a with
      | cons a1 aa =>
        obtain ⟨c, ec, n, t, _⟩ := a1
        subst ec
        cases b with
        | cons b1 bb =>
          have := ih rr aa bb (fun a i ha => h a i (by simp [adA, ha])) le
          simp only [adS]
          exact .skip (fun k hk => by cases hk) this
theorem lentE_loc : ∀ {rs : List R} {e : Ev} {i : Nat}, i ∈ lentE rs e → R.loc i ∈ rs
  | [], _, _, h => by simp [lentE] at h
  | .val d :: rs, e, i, h => by simp only [lentE] at h; exact .tail _ (lentE_loc h)
  | .own d :: rs, e, i, h => by simp only [lentE] at h; exact .tail _ (lentE_loc h)
  | .loc j :: rs, e, i, h => by
    cases q : e[j]? with
    | none => simp only [lentE, q] at h; exact .tail _ (lentE_loc h)
    | some s =>
      cases s with
      | own o =>
        simp only [lentE, q, List.mem_cons] at h
        rcases h with h | h
        · rw [h]; exact .head _
        · exact .tail _ (lentE_loc h)
      | bor o =>
        simp only [lentE, q, List.mem_cons] at h
        rcases h with h | h
        · rw [h]; exact .head _
        · exact .tail _ (lentE_loc h)
      | _ => simp only [lentE, q] at h; exact .tail _ (lentE_loc h)
/-- what has become of an own object that was the first argument -/
def OwH (K : PySem.W.Frag) (T0 U : TM) (H : Hp) (rs : List R) (bs : List Ar) (vs : List V) : Prop := ∀ o rs', rs = .own o :: rs' → ∃ b bs' a vs', bs = b :: bs' ∧ vs = .ref a :: vs' ∧ InB K T0 U H a b
theorem lfnB {sp : DSp} {rs : List R} {vs : List V} {Q : VK} {q : R → List Ar → Ev → Prop} {x : WX'} (a1 : Af K T0 H0 env0 σ T H env σ) (rr : RepRs K T0 T H σ rs vs) (nd : (ownAd rs vs).Nodup)
    (w : outE rs env fun ars e1 => sp ars (fun r ars' => q r ars' (inE rs ars' env e1)) (fun y ars' => x y (inE rs ars' env e1)))
    (k : ∀ T' H' env' r v bs, Af K T0 H0 env0 σ T' H' env' σ → RepR K T0 T' H' σ r v → OwH K T0 T' H' rs bs vs → q r bs env' → Q v H') (xk : XOk K W T0 H0 env0 σ x) : spL K sp vs H Q (L2.WE W σ) := by
  obtain ⟨U1, env1, as, f1, E1, le1, kt1, at1, nd1, p, ll, l1, l2, w1, sh⟩ := out_ok a1.fr a1.ev rr nd (outE_sh (e0 := env) (fun _ _ e _ => e) w)
  have had : ∀ b ∈ adA as vs, U1 b = some .tmp := fun b hb => (at1.ad b hb).2
  have had0 : ∀ b ∈ adA as vs, T0 b ≠ some .tmp := fun b hb => (at1.ad b hb).1
  have leC : Le U1 H (lenT U1 0 as vs) H := fun b e => by
    have hb : b ∉ adA as vs := fun z => by have := had b z; rw [e] at this; cases this
    exact ⟨by rw [lenT_out hb]; exact bT_fz.mpr e, .inl rfl⟩
  have gC : Good (lenT U1 0 as vs) H := by
   refine ⟨fun b t e => ?_, E1.good.tabs.move (fun b ps e1 e2 => ?_) leC⟩
   rotate_left
   · have hb : b ∉ adA as vs := fun z => by have := had b z; rw [e1] at this; cases this
     exact ⟨by rw [lenT_out hb]; unfold bT; rw [e1], rfl⟩
   · skip
     by_cases hb : b ∈ adA as vs
     · exact ⟨(E1.good _ _ (had b hb)).1, fun _ => (E1.good _ _ (had b hb)).2 (by simp)⟩
     · rw [lenT_out hb] at e
       unfold bT at e
       cases q : U1 b with
       | none => rw [q] at e; cases e
       | some u =>
         obtain ⟨g1, g2⟩ := E1.good _ _ q
         rw [q] at e
         refine ⟨g1, fun n => g2 ?_⟩
         rintro rfl
         cases e; exact n rfl
  have nC : ∀ b, lenT U1 0 as vs b ≠ some .tmp := fun b => by
    by_cases hb : b ∈ adA as vs
    · obtain ⟨i, hi⟩ := lenT_in (T := U1) (j := 0) hb
      rw [hi]; simp
    · rw [lenT_out hb]; exact (bT_ne (i := 0)).2
  have back : ∀ {T' : TM} {H' : Hp} {bs : List Ar}, Fr (lenT U1 0 as vs) H T' H' → ArBk K T' H' 0 as bs vs →
      BackT U1 H (adA as vs) T' H' ∧ ∃ T3, Af K T0 H0 env0 σ T3 H' (inE rs bs env env1) σ ∧ Le (outT U1 T' (adA as vs)) H' T3 H' ∧ ∀ b, outT U1 T' (adA as vs) b = some .tmp → b ∉ adS rs as vs → T3 b = some .tmp := by
    intro T' H' bs f b
    have B : BackT U1 H (adA as vs) T' H' := ⟨E1.good, had, ⟨_, f, fun a ha => lenT_out ha⟩, b.lent⟩
    refine ⟨B, ?_⟩
    have R := inR_of (U := outT U1 T' (adA as vs)) sh rr at1 b (fun a i ha hi => B.lent ha hi) B.leIn
    obtain ⟨T3, q1, q2, q3, q4, q5, q6⟩ := in_ok (rs := rs) (bs := bs) (e := env1) ll (B.toFr f1 had0) (B.evs E1) R (nd1.sublist adS_sub) (fun i s h1 h2 => by
      by_cases hi : i ∈ lentE rs env
      · right
        refine ⟨lentE_loc hi, ?_⟩
        obtain ⟨_, o, h⟩ := l2 i hi
        rcases h with h | h
        · rw [h] at h1; cases h1; cases h2
        · exact ⟨o, h⟩
      · left
        exact ⟨s, by rw [l1 i hi]; exact h1, h2⟩)
    refine ⟨T3, ⟨q1, q2, ?_⟩, q3, q4⟩
    refine a1.kp.trans ⟨q5, fun i s h1 h2 => ⟨rfl, ?_⟩⟩
    obtain ⟨s', z1, z2⟩ := q6 i s h1 h2
    exact ⟨s', z1, z2⟩
  refine ⟨lenT U1 0 as vs, as, _, _, gC, nC, at1.args nd1 leC (fun b _ => rfl), w1, fun T' H' r bs v f b rf z => ?_, fun T' H' y bs c d f b rx z => ?_⟩
  · obtain ⟨B, T3, a3, le3, kt3⟩ := back f b
    refine k T3 H' _ r v bs a3 ?_ ?_ z
    · obtain ⟨z1, z2⟩ := B.res (σ := σ) f1 (fun a ha => lenT_out ha) f rf
      cases r with
      | val d => exact RepV.mono le3 d v z1
      | loc i => exact rf.elim
      | own o =>
        obtain ⟨a, ea, n, t, ro⟩ := z1
        exact ⟨a, ea, n, kt3 a t (fun hs => z2 o rfl a ea (adS_sub.subset hs)), ro.mono le3 rfl⟩
    · intro o rs' ers
      subst ers
      cases sh with
      | @own _ _ as' sh' =>
        cases at1 with
        | @cons _ v _ vs' a1' at1' =>
          obtain ⟨c, ec, n, t, _⟩ := a1'
          subst ec
          have nd1' : c ∉ adA as' vs' ∧ (adA as' vs').Nodup := by simpa [adA] using nd1
          have hm : c ∈ adA (.bor o :: as') (V.ref c :: vs') := by simp [adA]
          cases b with
          | @cons _ _ b' _ _ bs' _ b1 bb =>
            refine ⟨b', bs', c, vs', rfl, rfl, ?_⟩
            have hns : c ∉ adS (.own o :: rs') (.bor o :: as') (V.ref c :: vs') := fun hs => by
              have : c ∈ adS rs' as' vs' := by simpa [adS] using hs
              exact nd1'.1 (adS_sub.subset this)
            cases b' with
            | val d =>
              obtain ⟨c', ec, t', r'⟩ := b1
              cases ec
              exact ⟨(le3 _ (B.leIn _ t').1).1, RepV.mono le3 _ _ (RepV.mono B.leIn _ _ r')⟩
            | bor o' =>
              obtain ⟨c', ec, t', r'⟩ := b1
              cases ec
              exact ⟨kt3 c (B.lent hm t') hns, n, (r'.mono B.leIn rfl).mono le3 rfl⟩
  · obtain ⟨B, T3, a3, le3, kt3⟩ := back f b
    exact xk T3 H' _ y c d a3 ((rx.mono B.leIn).mono le3) z
theorem lfn {sp : DSp} {rs : List R} {vs : List V} {Q : VK} {q : R → Ev → Prop} {x : WX'} (a1 : Af K T0 H0 env0 σ T H env σ) (rr : RepRs K T0 T H σ rs vs) (nd : (ownAd rs vs).Nodup)
    (w : outE rs env fun ars e1 => sp ars (fun r ars' => q r (inE rs ars' env e1)) (fun y ars' => x y (inE rs ars' env e1)))
    (k : ∀ T' H' env' r v, Af K T0 H0 env0 σ T' H' env' σ → RepR K T0 T' H' σ r v → q r env' → Q v H') (xk : XOk K W T0 H0 env0 σ x) : spL K sp vs H Q (L2.WE W σ) :=
  lfnB (q := fun r _ e => q r e) a1 rr nd w (fun T' H' env' r v bs a r' _ => k T' H' env' r v a r') xk
end
section
variable {X : Cx} {W : WX} {pos p apos : Pos} {k : Nat} {f C : Addr} {fd : FuncData} {ps : List Str} {sp : DSp} {x m : Str} {e o : Expr} {es : List Expr}
theorem run_fnG {pins : List (Addr × Obj)} {σ : L2.St} {H : Hp} {s : Shared} {Q : VK} {us : List Value} {vs : List V} {E : XK} {sp : Sp} {ds : List Value} {dvs : List V} (F : FnG X.prog X.w X.K X.mg X.base k f fd ps sp) (hr : Room k X.A) (hg : X.A.guards = some []) (hb : Binds X.K fd ps ds) (hd : Vals dvs ds) (hx : PassesAt (L2.CX X.prog X.w) X σ E)
    (I : Inv X pins σ H s) (r : Vals vs us) (h : sp (vs ++ dvs) H Q E) : wpAny (model X.prog X.w) X.A (call (.ref f) us) (EP X pins σ Q) X.xe s := by
  have r2 : Vals (vs ++ dvs) (us ++ ds) := r.append hd
  have hl : (us ++ ds).length = ps.length := by rw [← r2.length]; exact F.len _ _ _ _ h
  refine wpAny_call (codeAny_mono (F.run X.A X.stack s H ⟨us, []⟩ (us ++ ds) (vs ++ dvs) Q E hr hg I.env0 (hb s us I.kIn hl) r2 h) fun r s' hq => ?_)
  cases r with
  | error e => exact hx pins H s e s' I hq
  | ok fl =>
    cases fl with
    | ret u => exact I.after hq
    | next => exact False.elim hq
    | brk => exact False.elim hq
    | cont => exact False.elim hq
theorem dcallF {wa : WA} (F : FnG X.prog X.w X.K X.mg X.base k f fd ps (spL X.K sp)) (ck : Cal X W k) (hg : Gl X x) (hm : X.mg x = some (.ref f)) (hk : PySem.W.keepIn X.K (.ref f) = true) (hb : Binds X.K fd ps []) (ha : DA X W (e :: es) wa)
    (hdb : (x == ("__debug__" : Str)) = false := by decide) (he : starEach (e :: es) X.env = (false, eval e X.env) :: starEach es X.env := by rfl) (hpl : (backTo pos (starEach es X.env)).any (·.1) = false := by rfl) : DE X W (.Call (.Name x p) (e :: es) [] pos) (wFn sp wa) := by
  refine ⟨fun pins s σ H Q I h => ?_⟩
  obtain ⟨T, env, q, y, E, w, k', xk⟩ := h
  refine wpAny_Call_Name_kw (ld_glob I hg hm ?_ hdb)
  refine PySem.W.callWith_K (h₀ := X.base) I.ok.mod.kin hk (thn (ha.run pos pins s σ H (fun vs H1 => spL X.K sp vs H1 Q (L2.WE W σ)) I ?_) fun us s1 ⟨vs, H1, I1, r, q⟩ => ⟨I1.kIn, ?_⟩) he hpl
  · exact ⟨T, env, _, y, E, w, fun T1 H1 e1 rs vs a1 rr nd w1 => lfn a1 rr nd w1 k' xk, xk⟩
  · exact run_fnG F ck.room ck.gds hb .nil (passAt ck.tk σ) I1 r (by simpa using q)
/-- without arguments -/
theorem dcallF0 (F : FnG X.prog X.w X.K X.mg X.base k f fd ps (spL X.K sp)) (ck : Cal X W k) (hg : Gl X x) (hm : X.mg x = some (.ref f)) (hk : PySem.W.keepIn X.K (.ref f) = true) (hb : Binds X.K fd ps [])
    (hdb : (x == ("__debug__" : Str)) = false := by decide) : DE X W (.Call (.Name x p) [] [] pos) (wFn sp wNil) := by
  refine ⟨fun pins s σ H Q I h => ?_⟩
  obtain ⟨T, env, q, y, E, w, k', xk⟩ := h
  refine wpAny_Call_Name_kw (ld_glob I hg hm ?_ hdb)
  have := lfn (T0 := T) (H0 := H) (env0 := env) (T := T) (H := H) (env := env) (σ := σ) (rs := []) (vs := []) (Q := Q) (.refl E) .nil (by simp [ownAd]) w k' xk
  exact PySem.W.callWith_K0 I.kIn hk (run_fnG (us := []) F ck.room ck.gds hb .nil (passAt ck.tk σ) I .nil (by simpa using this))
end
end DL

end DlL
section DlM
set_option Elab.async false
set_option linter.all false
set_option maxRecDepth 100000
set_option maxHeartbeats 4000000
/-! DlM: what is never reached; parallel stores; isinstance; in; get; pop. -/
namespace DL
open PySem PySem.Spec PyProof.Rows L2
variable [TabEnv]
section
variable {X : Cx} {W : WX} {pos apos cpos p : Pos} {e o a b c f : Expr} {es : List Expr} {wa wb wc we wo : WE} {u : WA} {st : Stmt} {sts : List Stmt}
theorem dno : DE X W e (fun _ _ _ => False) := ⟨fun pins s σ H Q I h => by obtain ⟨_, _, _, _, _, z, _⟩ := h; exact z.elim⟩
theorem dtno : DT X W e (fun _ _ _ => False) := ⟨fun pins s σ H Q I h => by obtain ⟨_, _, _, _, _, z, _⟩ := h; exact z.elim⟩
theorem sno : DS X W st (fun _ _ => False) := ⟨fun pins s σ H D I h => by obtain ⟨_, _, _, _, z, _⟩ := h; exact z.elim⟩
theorem ssno : DSs X W sts (fun _ _ => False) := ⟨fun pins s σ H D I h => by obtain ⟨_, _, _, _, z, _⟩ := h; exact z.elim⟩

/-! ### a, b = x, y -/
def wPar (is : List Nat) (u : WA) : WS := fun env P => u env (fun rs e => bnds is rs e P.nx) P.ex
theorem bnds_len : ∀ {is : List Nat} {rs : List R} {env : Ev} {k : Ev → Prop}, bnds is rs env k → rs.length = is.length
  | [], [], _, _, _ => rfl
  | [], _ :: _, _, _, h => h.elim
  | _ :: _, [], _, _, h => h.elim
  | i :: is, r :: rs, env, k, h => by
    obtain ⟨e, h⟩ := bnd_some (k := fun e => bnds is rs e k) h
    simp [bnds_len h]
theorem RepRs.length {K : PySem.W.Frag} {T0 T : TM} {H : Hp} {σ : L2.St} {rs : List R} {vs : List V} (h : RepRs K T0 T H σ rs vs) : rs.length = vs.length := by
  induction h with
  | nil => rfl
  | cons _ _ ih => simp [ih]
theorem spar {i j : Nat} {x y : Str} {px py pt : Pos} {kt k2 pt2} (hc : X.calm = true) (hN : X.N.Nodup) (ha : DA X W [a, b] u) (hi : X.N[i]? = some x := by rfl) (hj : X.N[j]? = some y := by rfl) (hij : i ≠ j := by decide)
    (hx : X.env.scope.names.lookup x = some .local := by rfl) (hy : X.env.scope.names.lookup y = some .local := by rfl)
    (hw : swappedStores [.Tuple [.Name x px, .Name y py] kt pt] (.Tuple [a, b] k2 pt2) X.env = pure (some [x, y]) := by rfl)
    (hs : swapsWithSole [.Tuple [.Name x px, .Name y py] kt pt] (.Tuple [a, b] k2 pt2) pos.line X.env = pure false := by rfl) :
    DS X W (.Assign [.Tuple [.Name x px, .Name y py] kt pt] (.Tuple [a, b] k2 pt2) pos) (wPar [i, j] u) := by
  refine PS.le (ps_par hc hN hi hj hij hx hy ha hw hs) fun F σ H h => ?_
  obtain ⟨T, env, P, E, q, k⟩ := h
  refine ⟨T, env, _, _, E, q, fun T1 H1 e1 rs vs a1 rr nd q1 => ?_, k.ex⟩
  have l := bnds_len q1
  rw [rr.length] at l
  obtain ⟨T2, e2, a2, q2⟩ := bnds_ok a1 rr nd q1
  match vs, l, a2 with
  | [v, w], _, a2 => exact ⟨v, w, rfl, k.nx T2 H1 e2 _ a2 q2⟩
theorem spar3 {i j l : Nat} {x y z : Str} {px py pz pt : Pos} {kt k2 pt2} (hc : X.calm = true) (hN : X.N.Nodup) (ha : DA X W [a, b, c] u) (hi : X.N[i]? = some x := by rfl) (hj : X.N[j]? = some y := by rfl) (hl : X.N[l]? = some z := by rfl) (hij : i ≠ j := by decide) (hil : i ≠ l := by decide) (hjl : j ≠ l := by decide)
    (hx : X.env.scope.names.lookup x = some .local := by rfl) (hy : X.env.scope.names.lookup y = some .local := by rfl) (hz : X.env.scope.names.lookup z = some .local := by rfl)
    (hw : swappedStores [.Tuple [.Name x px, .Name y py, .Name z pz] kt pt] (.Tuple [a, b, c] k2 pt2) X.env = pure (some [x, y, z]) := by rfl)
    (hs : swapsWithSole [.Tuple [.Name x px, .Name y py, .Name z pz] kt pt] (.Tuple [a, b, c] k2 pt2) pos.line X.env = pure false := by rfl) :
    DS X W (.Assign [.Tuple [.Name x px, .Name y py, .Name z pz] kt pt] (.Tuple [a, b, c] k2 pt2) pos) (wPar [i, j, l] u) := by
  refine PS.le (ps_par3 hc hN hi hj hl hij hil hjl hx hy hz ha hw hs) fun F σ H h => ?_
  obtain ⟨T, env, P, E, q, k⟩ := h
  refine ⟨T, env, _, _, E, q, fun T1 H1 e1 rs vs a1 rr nd q1 => ?_, k.ex⟩
  have l := bnds_len q1
  rw [rr.length] at l
  obtain ⟨T2, e2, a2, q2⟩ := bnds_ok a1 rr nd q1
  match vs, l, a2 with
  | [v, w, t], _, a2 => exact ⟨v, w, t, rfl, k.nx T2 H1 e2 _ a2 q2⟩

/-! ### isinstance -/
structure InsT (K : PySem.W.Frag) (C : Addr) : Prop where
  cl : Cls K C
  ha : PySem.W.findIn K (.ref C) "__class__" = some (some (.builtin "object.__class__"))
  hn : PySem.W.specialIn K (.builtin "object.__class__") "__get__" = some (some (.builtin "getset_descriptor.__get__"))
  ht : PySem.W.takesIn K (.builtin "object.__class__") = some true
  hm : PySem.W.mroIn K C (.type "object") = some true
/-- the type of data -/
def D.typ (K : PySem.W.Frag) : D → (Value → Prop) → Prop
  | .non, k => k (.type "NoneType")
  | .bl _, k => k (.type "bool")
  | .int _, k => k (.type "int")
  | .str _, k => k (.type "str")
  | .tup _, k => k (.type "tuple")
  | .lst _, k => k (.type "list")
  | .dk _ _, k => k (.type "dict")
  | .ins C _ _, k => InsT K C ∧ k (.ref C)
  | _, _ => False
def D.cls : D → Option Value
  | .ty n => some (.type n)
  | .ref C => some (.ref C)
  | _ => none
def D.clss : List D → Option (List Value)
  | [] => some []
  | d :: ds => match d.cls, D.clss ds with
    | some k, some ks => some (k :: ks)
    | _, _ => none
def gIsi (K : PySem.W.Frag) (d c : D) (q : R → Prop) : Prop := d.typ K fun t => match c with
  | .tup cs => ∃ us, D.clss cs = some us ∧ ∃ r, PySem.W.kitAny K t us = some r ∧ q (.val (.bl r))
  | _ => ∃ u, c.cls = some u ∧ ∃ r, PySem.W.kitOne K t u = some r ∧ q (.val (.bl r))
theorem typ_ok {K : PySem.W.Frag} {T : TM} {H : Hp} {d : D} {v : V} {k : Value → Prop} (h : View K T H d v) (q : d.typ K k) : ∃ t, TyX K H v t ∧ k t := by
  cases d <;> first | exact q.elim | skip
  · cases h.non; exact ⟨_, .base .non, q⟩
  · cases h.bl; exact ⟨_, .base (.bl _), q⟩
  · cases h.int; exact ⟨_, .base (.int _), q⟩
  · cases h.str; exact ⟨_, .base (.str _), q⟩
  · obtain ⟨a, ys, rfl, s, _⟩ := h.tup; exact ⟨_, .base (.tup s.2), q⟩
  · obtain ⟨a, ys, rfl, s, _⟩ := h.lst; exact ⟨_, .base (.lst s), q⟩
  · obtain ⟨a, kvs, rfl, s, _⟩ := h
    rcases s with s | ⟨o, s⟩
    · exact ⟨_, .base (.dK s), q⟩
    · exact ⟨_, .fDict s, q⟩
  · obtain ⟨a, dx, fs, rfl, s, _⟩ := h
    obtain ⟨i, q⟩ := q
    exact ⟨_, .base (.ins s i.cl i.ha i.hn i.ht i.hm), q⟩
theorem cls_ok {K : PySem.W.Frag} {T : TM} {H : Hp} {d : D} {v : V} {u : Value} (h : View K T H d v) (e : d.cls = some u) : ClsV v u := by
  cases d <;> simp [D.cls] at e <;> subst e
  · cases h.ref; exact .own _
  · cases h.ty; exact .ty _
theorem clss_ok {K : PySem.W.Frag} {T : TM} {H : Hp} : ∀ {ds : List D} {vs : List V} {us : List Value}, RepL K T H ds vs → D.clss ds = some us → Paired ClsV vs us
  | [], vs, us, h, e => by simp only [RepL] at h; subst h; simp [D.clss] at e; subst e; exact .nil
  | d :: ds, vs, us, h, e => by
    obtain ⟨x, r, rfl, h1, h2⟩ := h.cons_inv
    unfold D.clss at e
    cases e1 : d.cls with
    | none => rw [e1] at e; cases e
    | some k =>
      cases e2 : D.clss ds with
      | none => rw [e1, e2] at e; cases e
      | some ks =>
        rw [e1, e2] at e
        cases e
        exact .cons (cls_ok (View.of h1) e1) (clss_ok h2 e2)
theorem cIsi : CallD X (.builtin "isinstance") (g2 (gIsi X.K)) := CallD.of2 (call_isi.or call_isiT) fun T H σ d c v v' Q q g hv hc hg k => by
  obtain ⟨t, ty, hg⟩ := typ_ok hv hg
  have fin : ∀ r, (q (.val (.bl r)) → Q (.bl r) H) := fun r z => k T H _ _ (Gr.refl g) (by show RepV _ _ _ _ _; simp [RepV]) z
  have one : (∃ u, c.cls = some u ∧ ∃ r, PySem.W.kitOne X.K t u = some r ∧ q (.val (.bl r))) → rIsi X.K [v, v'] H Q := by
    rintro ⟨u, e, r, hk, z⟩
    exact ⟨v, v', t, u, r, rfl, cls_ok hc e, ty, hk, fin r z⟩
  cases c with
  | tup cs =>
    obtain ⟨us, e, r, hk, z⟩ := hg
    obtain ⟨a, ys, rfl, s, rl⟩ := hc.tup
    exact .inr ⟨v, a, ys, t, us, r, rfl, s.2, clss_ok rl e, ty, hk, fin r z⟩
  | _ => exact .inl (one hg)

/-! ### in, not in: dicts -/
def gInD (neg : Bool) (a b : D) (q : R → Prop) : Prop := dget b a fun o => q (.val (.bl (if neg then !o.isSome else o.isSome)))
theorem some_iff {r : Option D} {o : Option V} {P : D → V → Prop} (h1 : ∀ x, r = some x → ∃ z, o = some z ∧ P x z) (h2 : r = none → o = none) : o.isSome = r.isSome := by
  cases r with
  | none => rw [h2 rfl]; rfl
  | some x => obtain ⟨z, e, _⟩ := h1 x rfl; rw [e]; rfl
theorem dinD (hu : X.A.units + 1 < cLine) (ha : DE X W a wa) (hb : DE X W b wb) (hm : behindInMarks .In b = false := by rfl) : DE X W (.Compare a [.In] [b] pos) (wBin (gInD false) wa wb) :=
  PE.le (pe_cmp (pc_din hu ha hb) hm) fun _ _ _ h => lop (r := fun y x H Q => ∃ a o, x = .ref a ∧ DGet H a y o ∧ Q (.bl o.isSome) H) (fun T H σ da db va vb Q q g hva hvb hg k => by
    obtain ⟨a, o, r, ev, g1, q1, h1, h2⟩ := dget_rep hvb hva hg
    exact ⟨a, o, ev, g1, by rw [some_iff h1 h2]; exact k T H (.val (.bl r.isSome)) _ (Gr.refl g) (by show RepV _ _ _ _ _; simp [RepV]) (by simpa using q1)⟩) h
theorem dninD (hu : X.A.units + 1 < cLine) (ha : DE X W a wa) (hb : DE X W b wb) (hm : behindInMarks .NotIn b = false := by rfl) : DE X W (.Compare a [.NotIn] [b] pos) (wBin (gInD true) wa wb) :=
  PE.le (pe_cmp (pc_dnotin hu ha hb) hm) fun _ _ _ h => lop (r := fun y x H Q => ∃ a o, x = .ref a ∧ DGet H a y o ∧ Q (.bl (!o.isSome)) H) (fun T H σ da db va vb Q q g hva hvb hg k => by
    obtain ⟨a, o, r, ev, g1, q1, h1, h2⟩ := dget_rep hvb hva hg
    exact ⟨a, o, ev, g1, by rw [some_iff h1 h2]; exact k T H (.val (.bl (!r.isSome))) _ (Gr.refl g) (by show RepV _ _ _ _ _; simp [RepV]) (by simpa using q1)⟩) h
/-! ### d.get(k, x) -/
def D.isD : D → Prop
  | .dk _ _ => True
  | .dt _ _ => True
  | _ => False
theorem isd_ok {K : PySem.W.Frag} {T : TM} {H : Hp} {d : D} {v : V} (h : View K T H d v) (q : d.isD) : ∃ a, v = .ref a ∧ IsD H a := by
  cases d <;> first | exact q.elim | skip
  · obtain ⟨a, kvs, rfl, s, _⟩ := h; exact ⟨a, rfl, .inl ⟨_, s⟩⟩
  · obtain ⟨a, kvs, rfl, s, _⟩ := h; exact ⟨a, rfl, .inr ⟨_, s⟩⟩
def wGet (wo wk wd : WE) : WE := fun env q x => wo env (fun ro e1 => vw ro e1 D.isD ∧ wk e1 (fun rk e2 => wd e2 (fun rz e3 => vw ro e3 fun d => vw rk e3 fun kd => dget d kd fun o => match o with
  | some v => q (.val v) e3
  | none => q rz e3) x) x) x
theorem dgetm (hu : X.A.units + 1 < cLine) (ho : DE X W o wo) (hk : DE X W e we) (hd : DE X W f wa) (hbase : attributeBase o "get" X.env (eval o X.env) = eval o X.env := by rfl)
    (hfew : ((backTo cpos (starEach [e, f] X.env)).all (fun x => !x.1) && (backToKw cpos (keywordEach [] X.env)).all (fun x => x.1.isSome)
      && decide (([e, f] : List Expr).length + ([] : List Keyword).length + (if ([] : List Keyword).isEmpty then 0 else 1) < 30)) = true := by rfl) (hline : (apos.endLine == cpos.line) = true := by rfl)
    (htr : backTo cpos (starEach [e, f] X.env) = [(false, eval e X.env), (false, eval f X.env)] := by rfl) : DE X W (.Call (.Attribute o "get" apos) [e, f] [] cpos) (wGet wo we wa) := by
  refine PE.le (pe_dget2 hu ho hk hd ⟨hbase, hfew, hline, htr⟩) fun σ H Q h => ?_
  obtain ⟨T, env, q, x, E, w, k, xk⟩ := h
  refine ⟨T, env, _, x, E, w, fun T1 H1 e1 ro y a1 r1 w1 => ?_, xk⟩
  obtain ⟨w0, w1⟩ := w1
  obtain ⟨d0, hv0, z0⟩ := vw_view a1.ev r1 w0
  obtain ⟨a, rfl, isd⟩ := isd_ok hv0 z0
  refine ⟨a, rfl, isd, T1, e1, _, x, a1.ev, w1, fun T2 H2 e2 rk vk a2 r2 w2 => ?_, xk.after a1⟩
  refine ⟨T2, e2, _, x, a2.ev, w2, fun T3 H3 e3 rz vz a3 r3 w3 => ?_, (xk.after a1).after a2⟩
  obtain ⟨d, hvd, w4⟩ := vw_view a3.ev (r1.mono (a2.trans a3).fr) w3
  obtain ⟨kd, hvk, w5⟩ := vw_view a3.ev (r2.mono a3.fr) w4
  obtain ⟨a', o, r, ea, g, w6, h1, h2⟩ := dget_rep hvd hvk w5
  cases ea
  refine ⟨o, g, ?_⟩
  cases r with
  | some v =>
    obtain ⟨z, eo, rz'⟩ := h1 v rfl
    subst eo
    exact k T3 H3 e3 (.val v) z ((a1.trans a2).trans a3) rz' w6
  | none =>
    rw [h2 rfl]
    exact k T3 H3 e3 rz vz ((a1.trans a2).trans a3) (r3.pre (a1.trans a2).fr) w6
/-! ### xs.pop(i) -/
def wPopAt (wo wv : WE) : WE := fun env q x => wo env (fun ro e1 => isLstR ro e1 ∧ wv e1 (fun rv e2 => match ro, rv with
  | .loc k, .val (.int i) => ∃ j y, -(2 ^ 63) ≤ i ∧ i < 2 ^ 63 ∧ mutK e2 k (fun o q' => match o with | .lst ds => seqIndex? i ds.length = some j ∧ ds[j]? = some y ∧ q' (.lst (ds.eraseIdx j)) | _ => False) fun e3 => q (.val y) e3
  | _, _ => False) x) x
theorem RepL.eraseIdx {K : PySem.W.Frag} {T : TM} {H : Hp} {ds : List D} {vs : List V} (h : RepL K T H ds vs) (j : Nat) : RepL K T H (ds.eraseIdx j) (vs.eraseIdx j) := by
  rw [List.eraseIdx_eq_take_drop_succ, List.eraseIdx_eq_take_drop_succ]
  exact (h.take j).append (h.drop (j + 1))
theorem dpopat (ho : DE X W o wo) (hv : DE X W e we) (hbase : attributeBase o "pop" X.env (eval o X.env) = eval o X.env := by rfl)
    (hfew : ((backTo cpos (starEach [e] X.env)).all (fun x => !x.1) && (backToKw cpos (keywordEach [] X.env)).all (fun x => x.1.isSome)
      && decide (([e] : List Expr).length + ([] : List Keyword).length + (if ([] : List Keyword).isEmpty then 0 else 1) < 30)) = true := by rfl)
    (hline : (apos.endLine == cpos.line) = true := by rfl) (hs : starEach [e] X.env = (false, eval e X.env) :: starEach [] X.env := by rfl) (hplain : (backTo cpos (starEach [] X.env)).any (·.1) = false := by rfl) :
    DE X W (.Call (.Attribute o "pop" apos) [e] [] cpos) (wPopAt wo we) := by
  refine PE.le (pe_bm PySem.F.plainAttrs_list PySem.F.slot_list_pop PySem.F.type_list_pop mt_popAt ho (pa_cons hv pa_nil hs) hbase hfew hline hs hplain) fun σ H Q h => ?_
  obtain ⟨T, env, q, x, E, w, k, xk⟩ := h
  refine ⟨T, env, _, x, E, w, fun T1 H1 e1 ro y a1 r1 w1 => ⟨lst_ty a1.ev r1 w1.1, T1, e1, _, x, a1.ev, w1.2, fun T2 H2 e2 rv v a2 r2 w2 => ?_, xk.after a1⟩, xk⟩
  cases ro <;> first | exact w2.elim | skip
  rename_i kk
  cases rv <;> first | exact w2.elim | skip
  rename_i dv
  cases dv <;> first | exact w2.elim | skip
  rename_i i
  obtain ⟨j, yd, b1, b2, w3⟩ := w2
  have a4 := a1.trans a2
  obtain ⟨a, ob, rfl, t, ro, mk, w6, done⟩ := mut_ok a4.ev (show σ[kk]? = some (some y) from r1) w3
  cases ob <;> first | exact w6.elim | skip
  rename_i ds
  obtain ⟨xs, hx, r⟩ := ro
  obtain ⟨hi, hj, w7⟩ := w6
  obtain ⟨vy, hvy, ry⟩ := r.get hj
  have ev : v = .int i := by have r2 : RepV _ _ _ _ _ := r2; simpa only [RepV] using r2
  have le : ∀ {ho : HO}, Le T2 H2 T2 (upd H2 a ho) := fun {ho} => Le.sl t
  refine ⟨a, xs, i, j, vy, rfl, by rw [ev], hx, b1, b2, by rw [← r.length]; exact hi, hvy, ?_⟩
  exact k _ _ _ (.val yd) vy (a4.trans (done (.lst (ds.eraseIdx j)) _ ⟨_, upd_same, (r.mono le).eraseIdx j⟩)) (ry.mono le) w7
end
end DL

end DlM
section DlN
set_option Elab.async false
set_option linter.all false
set_option maxRecDepth 100000
set_option maxHeartbeats 4000000
/-! DlN: loops and comprehensions over dicts. -/
namespace DL
open PySem PySem.Spec PyProof.Rows L2
variable [TabEnv]
def kD : Key → D
  | .inl i => .int i
  | .inr x => .str x
def tD (k : List Key) : D := .tup (k.map kD)
/-- the keys of a dict, as data -/
def keysD (d : D) (k : List D → Prop) : Prop := match d with
  | .dk ks _ => k (ks.map kD)
  | .dt ks _ => k (ks.map tD)
  | _ => False
def wForK (i : Nat) (g : WG) (b : WS) : WS := fun env P => wTake i env (fun r e => match r with
  | .val d => keysD d fun ds => forD (fun _ => True) g b ds e { P with ex := fun _ _ => False }
  | _ => False) (fun _ _ => False)
def wLcK (i : Nat) (g : WG) (t : WT) (w : WE) (vs : List Nat) : WE := fun env q x => wTake i env (fun r e => match r with
  | .val d => keysD d fun ds => lcD (fun _ => True) g t w vs ds [] e fun acc e' => q (.own (.lst acc)) e'
  | _ => False) (fun _ _ => False)
section
variable {K : PySem.W.Frag} {W : WX} {T T0 T' T1 T2 : TM} {H H0 H' H1 H2 : Hp} {env env0 env' env2 : Ev} {σ σ0 σ' σ2 : L2.St} {P : Po} {F : Ends}
theorem fz_tup {a : Addr} {xs : List V} (g : Good T H) (h : H a = some (.tup xs)) : ∃ T', Gr T H T' H ∧ TupF T' H a xs := by
  cases e : T a with
  | some t =>
    have : t = .fz := Classical.byContradiction fun n => (g a t e).2 n xs h
    subst this
    exact ⟨T, Gr.refl g, e, h⟩
  | none =>
    have ne : ∀ b u, T b = some u → b ≠ a := fun b u q z => by rw [z, e] at q; cases q
    refine ⟨tag T a (some .fz), ⟨⟨fun b u q _ => ⟨by rw [tag_ne (ne b u q)]; exact q, rfl⟩, fun b q => ?_, ⟨fun b u q => ?_, g.tabs.move (fun b ps e1 e2 => ⟨by rw [tag_ne fun z => by rw [z, h] at e2; cases e2]; exact e1, rfl⟩) fun b q => ⟨by rw [tag_ne (ne b _ q)]; exact q, .inl rfl⟩⟩⟩, fun j b q => ⟨by rw [tag_ne (ne b _ q)]; exact q, rfl⟩⟩, tag_same, h⟩
    · by_cases hb : b = a
      · subst hb; rw [tag_same] at q; cases q
      · rwa [tag_ne hb] at q
    · by_cases hb : b = a
      · subst hb; rw [tag_same] at q; cases q
        exact ⟨by rw [h]; simp, fun n => absurd rfl n⟩
      · rw [tag_ne hb] at q; exact g b u q
theorem rep_kD {k : Key} : RepV K T H (kD k) (kV k) := by
  cases k <;> simp [kD, kV, RepV]
theorem rep_kDs : ∀ {k : List Key}, RepL K T H (k.map kD) (k.map kV)
  | [] => .nil
  | _ :: _ => .cons rep_kD rep_kDs
theorem takeV {i : Nat} {q : R → Ev → Prop} {x : WX'} (E : EvOk K T H env σ) (w : wTake i env q x) : ∃ T' env' d v, Af K T H env σ T' H env' σ ∧ σ[i]? = some (some v) ∧ RepV K T' H d v ∧ q (.val d) env' := by
  unfold wTake at w
  cases e : env[i]? with
  | none => rw [e] at w; exact w.elim
  | some s =>
    have z := E.ok i s e
    rw [e] at w
    cases s with
    | un => exact w.elim
    | val d => obtain ⟨v, e', r⟩ := z; exact ⟨T, env, d, v, Af.refl E, e', r, w⟩
    | bfz d => obtain ⟨v, e', _, r⟩ := z; exact ⟨T, env, d, _, Af.refl E, e', r, w⟩
    | own o =>
      obtain ⟨a, e', t, r⟩ := z
      have le : Le T H (tag T a (some .fz)) H := fun b e => by
        have hb : b ≠ a := fun z => by subst z; rw [t] at e; cases e
        exact ⟨by rw [tag_ne hb]; exact e, .inl rfl⟩
      have rv : RepV K (tag T a (some .fz)) H o.toD (.ref a) := RepO.frozen (r.mono le rfl) tag_same
      obtain ⟨E', _⟩ := E.turn (s := .val o.toD) (t := some .fz) t ⟨_, e', rv⟩
      exact ⟨_, _, _, _, ⟨Fr.turn E.good t (by simp), E', Keep.setN fun s hs => by rw [e] at hs; cases hs; rfl⟩, e', rv, w⟩
    | bor o =>
      obtain ⟨a, e', t, r⟩ := z
      have le : Le T H (tag T a (some .fz)) H := fun b e => by
        have hb : b ≠ a := fun z => by subst z; rw [t] at e; cases e
        exact ⟨by rw [tag_ne hb]; exact e, .inl rfl⟩
      have rv : RepV K (tag T a (some .fz)) H o.toD (.ref a) := RepO.frozen (r.mono le rfl) tag_same
      obtain ⟨E', _⟩ := E.turn (s := .bfz o.toD) (t := some .fz) t ⟨_, e', tag_same, rv⟩
      exact ⟨_, _, _, _, ⟨Fr.turn E.good t (by simp), E', Keep.setB rfl⟩, e', rv, w⟩
/-- a lock that is put on, taken off -/
theorem Le.lock {a : Addr} {od : Obj} {u : HO} (hd : isDict u = true) (h : H a = some u) : Le T H T (upd H a (.frz od u)) := fun b e => ⟨e, by
  by_cases hb : b = a
  · subst hb; exact .inr ⟨od, u, hd, .inl ⟨h, upd_same⟩⟩
  · exact .inl (upd_ne hb)⟩
theorem EvOk.lock {a : Addr} {od : Obj} {u : HO} (hd : isDict u = true) (t : T a = some .fz) (h : H a = some u) (E : EvOk K T H env σ) : EvOk K T (upd H a (.frz od u)) env σ :=
  E.mono (Le.lock hd h) ⟨fun b v e => by
    by_cases hb : b = a
    · subst hb; rw [t] at e; cases e; rw [upd_same]; exact ⟨by simp, fun n => absurd rfl n⟩
    · rw [upd_ne hb]; exact E.good b v e, E.good.tabs.putF t (Le.lock hd h)⟩ fun j b e => ⟨e, upd_ne fun z => by rw [z, t] at e; cases e⟩
theorem Le.unlock {a : Addr} {od : Obj} {u : HO} (hd : isDict u = true) (h : H a = some (.frz od u)) : Le T H T (upd H a u) := fun b e => ⟨e, by
  by_cases hb : b = a
  · subst hb; exact .inr ⟨od, u, hd, .inr ⟨h, upd_same⟩⟩
  · exact .inl (upd_ne hb)⟩
theorem Af.unlock {a : Addr} {od : Obj} {u : HO} (hd : isDict u = true) (t : T a = some .fz) (h : H a = some u) (A : Af K T (upd H a (.frz od u)) env σ T' H' env' σ') :
    H' a = some (.frz od u) ∧ Af K T H env σ T' (upd H' a u) env' σ' := by
  obtain ⟨t', h'⟩ := A.fr.fz t
  rw [upd_same] at h'
  have gd : Good T' (upd H' a u) := ⟨fun b v e => by
    by_cases hb : b = a
    · subst hb; rw [t'] at e; cases e; rw [upd_same]; exact ⟨by simp, fun n => absurd rfl n⟩
    · rw [upd_ne hb]; exact A.ev.good b v e, A.ev.good.tabs.putF t' (Le.unlock hd h')⟩
  refine ⟨h', ⟨fun b v e n => ?_, A.fr.noff, gd⟩, A.ev.mono (Le.unlock hd h') gd fun j b e => ⟨e, upd_ne fun z => by rw [z, t'] at e; cases e⟩, A.kp⟩
  obtain ⟨e1, h1⟩ := A.fr.keep b v e n
  refine ⟨e1, ?_⟩
  by_cases hb : b = a
  · subst hb; rw [upd_same, h]
  · rw [upd_ne hb, h1, upd_ne hb]
theorem RepR.unlock {a : Addr} {od : Obj} {u : HO} {r : R} {v : V} (hd : isDict u = true) (t : T a = some .fz) (h : H a = some (.frz od u)) (q : RepR K T0 T H σ r v) : RepR K T0 T (upd H a u) σ r v := by
  cases r with
  | val d => exact RepV.mono (Le.unlock hd h) d v q
  | loc i => exact q
  | own o =>
    obtain ⟨c, ec, n, tc, ro⟩ := q
    have hc : c ≠ a := fun z => by rw [z, t] at tc; cases tc
    exact ⟨c, ec, n, tc, ro.mono (Le.unlock hd h) (upd_ne hc)⟩
/-- the keys of a locked dict -/
theorem keys_it {d : D} {v : V} {k : List D → Prop} (g : Good T H) (r : RepV K T H d v) (q : keysD d k) : ∃ a u ds, v = .ref a ∧ T a = some .fz ∧ isDict u = true ∧ Mut (some u) ∧ (H a = some u ∨ ∃ o, H a = some (.frz o u)) ∧ k ds ∧
    ∀ o HL, HL a = some (.frz o u) → (∃ J, (∀ env σ, ItOk K T HL env σ J ds [] (fun _ => True)) ∧ ((∃ kvs, u = .dK kvs ∧ J = Itk a o kvs) ∨ ∃ kvs, u = .dT kvs ∧ J = Itkt a o kvs)) := by
  cases d <;> first | exact q.elim | skip
  · rename_i ks vs
    simp only [RepV] at r
    obtain ⟨a, kvs, ev, t, s, hk, rl⟩ := r
    refine ⟨a, .dK kvs, _, ev, t, rfl, trivial, s, q, fun o HL hL => ⟨Itk a o kvs, fun env σ T' H' env' σ' f E _ _ i => ?_, .inl ⟨kvs, rfl, rfl⟩⟩⟩
    have hH : H' a = some (.frz o (.dK kvs)) := (f.fz t).2.trans hL
    refine ⟨fun hi => ⟨hH, by rw [← hk] at hi; simpa using hi⟩, fun d hd => ?_⟩
    rw [← hk, List.map_map, List.getElem?_map, Option.map_eq_some_iff] at hd
    obtain ⟨p, hp, rfl⟩ := hd
    refine ⟨⟨hH, (List.getElem?_eq_some_iff.mp hp).1⟩, fun x H2 y => ?_⟩
    obtain ⟨rfl, k', v', e, rfl⟩ := y
    rw [hp] at e; cases e
    exact ⟨T', Gr.refl E.good, rep_kD⟩
  · rename_i ks vs
    simp only [RepV] at r
    obtain ⟨a, kvs, ev, t, s, hk, rl⟩ := r
    refine ⟨a, .dT kvs, _, ev, t, rfl, trivial, s, q, fun o HL hL => ⟨Itkt a o kvs, fun env σ T' H' env' σ' f E _ _ i => ?_, .inr ⟨kvs, rfl, rfl⟩⟩⟩
    have hH : H' a = some (.frz o (.dT kvs)) := (f.fz t).2.trans hL
    refine ⟨fun hi => ⟨hH, by rw [← hk] at hi; simpa using hi⟩, fun d hd => ?_⟩
    rw [← hk, List.map_map, List.getElem?_map, Option.map_eq_some_iff] at hd
    obtain ⟨p, hp, rfl⟩ := hd
    refine ⟨⟨hH, (List.getElem?_eq_some_iff.mp hp).1⟩, fun x H2 y => ?_⟩
    obtain ⟨rfl, k', v', b, e, rfl, hb⟩ := y
    rw [hp] at e; cases e
    obtain ⟨T2, g2, tf⟩ := fz_tup E.good hb
    exact ⟨T2, g2, by show RepV _ _ _ (.tup _) _; simp only [RepV]; exact ⟨b, _, rfl, tf, rep_kDs⟩⟩
theorem lforK {i : Nat} {g : WG} {b : WS} (h : LS K W (wForK i g b) F σ H) : tLock (tFor (iKeys (tVar i)) (LG K anyR g) (LS K W b)) F σ H ∨ tFor (iKeys (tVar i)) (LG K anyR g) (LS K W b) F σ H := by
  obtain ⟨T, env, P, E, q, k⟩ := h
  obtain ⟨T1, e1, d, v, a1, hv, rv, q1⟩ := takeV E q
  obtain ⟨a, u, ds, rfl, ta, du, mu, hl, q2, it⟩ := keys_it a1.ev.good rv q1
  have k1 := k.after a1
  have allB0 : ∀ e, allB [] e := fun e i hi => by simp at hi
  rcases hl with hl | ⟨o, hl⟩
  · refine .inl ⟨a, u, hl, mu, fun od => ?_⟩
    obtain ⟨J, io, hJ⟩ := it od (upd H a (.frz od u)) upd_same
    refine ⟨_, hv, a, od, rfl, ?_⟩
    have z := lfor_at (F := ⟨fun σ' H' => H' a = some (.frz od u) ∧ F.nx σ' (upd H' a u), fun v H' => H' a = some (.frz od u) ∧ F.rt v (upd H' a u), fun σ' H' => H' a = some (.frz od u) ∧ F.bk σ' (upd H' a u), fun σ' H' => H' a = some (.frz od u) ∧ F.ct σ' (upd H' a u)⟩) (W := W)
      (a1.ev.lock du ta hl (od := od)) (io e1 σ) (allB0 e1) q2 ⟨fun T6 H6 e6 s6 a6 q6 => ?_, fun T6 H6 e6 s6 r v a6 rr q6 => ?_, fun _ _ _ _ _ _ _ _ _ z => z.elim, fun T6 H6 e6 s6 a6 q6 => ?_, fun T6 H6 e6 s6 a6 q6 => ?_⟩
    · rcases hJ with ⟨kvs, rfl, rfl⟩ | ⟨kvs, rfl, rfl⟩
      · exact .inl ⟨kvs, upd_same, z⟩
      · exact .inr ⟨kvs, upd_same, z⟩
    · obtain ⟨h1, h2⟩ := a6.unlock du ta hl
      exact ⟨h1, k1.nx T6 _ e6 s6 h2 q6⟩
    · obtain ⟨h1, h2⟩ := a6.unlock du ta hl
      exact ⟨h1, k1.rt T6 _ e6 s6 r v h2 (rr.unlock du (a6.fr.fz ta).1 h1) q6⟩
    · obtain ⟨h1, h2⟩ := a6.unlock du ta hl
      exact ⟨h1, k1.bk T6 _ e6 s6 h2 q6⟩
    · obtain ⟨h1, h2⟩ := a6.unlock du ta hl
      exact ⟨h1, k1.ct T6 _ e6 s6 h2 q6⟩
  · refine .inr ?_
    obtain ⟨J, io, hJ⟩ := it o H hl
    refine ⟨_, hv, a, o, rfl, ?_⟩
    have z := lfor_at (F := F) (W := W) a1.ev (io e1 σ) (allB0 e1) q2 ⟨k1.nx, k1.rt, fun _ _ _ _ _ _ _ _ _ z => z.elim, k1.bk, k1.ct⟩
    rcases hJ with ⟨kvs, rfl, rfl⟩ | ⟨kvs, rfl, rfl⟩
    · exact .inl ⟨kvs, hl, z⟩
    · exact .inr ⟨kvs, hl, z⟩
theorem llcK {i : Nat} {g : WG} {t : WT} {w : WE} {vs : List Nat} {W0 : WX} {Q : VK} (h : LE K W (wLcK i g t w vs) σ H Q) :
    tLockE (tLc (iKeys (tVar i)) (LG K (wpR vs) g) (LT K W0 t) (LE K W0 w) vs) σ H Q ∨ tLc (iKeys (tVar i)) (LG K (wpR vs) g) (LT K W0 t) (LE K W0 w) vs σ H Q := by
  obtain ⟨T, env, q, x, E, q0, k, xk⟩ := h
  obtain ⟨T1, e1, d, v, a1, hv, rv, q1⟩ := takeV E q0
  obtain ⟨a, u, ds, rfl, ta, du, mu, hl, q2, it⟩ := keys_it a1.ev.good rv q1
  rcases hl with hl | ⟨o, hl⟩
  · refine .inl ⟨a, u, hl, mu, fun od => ?_⟩
    obtain ⟨J, io, hJ⟩ := it od (upd H a (.frz od u)) upd_same
    refine ⟨_, hv, a, od, rfl, ?_⟩
    have z := llc_at (W0 := W0) (Q := fun v H' => H' a = some (.frz od u) ∧ Q v (upd H' a u)) (a1.ev.lock du ta hl (od := od)) (io e1 σ) q2 fun T6 H6 e6 r v a6 rr q6 => ?_
    · rcases hJ with ⟨kvs, rfl, rfl⟩ | ⟨kvs, rfl, rfl⟩
      · exact .inl ⟨kvs, upd_same, z⟩
      · exact .inr ⟨kvs, upd_same, z⟩
    · obtain ⟨h1, h2⟩ := a6.unlock du ta hl
      exact ⟨h1, k T6 _ e6 r v (a1.trans h2) ((rr.unlock du (a6.fr.fz ta).1 h1).pre a1.fr) q6⟩
  · refine .inr ?_
    obtain ⟨J, io, hJ⟩ := it o H hl
    refine ⟨_, hv, a, o, rfl, ?_⟩
    have z := llc_at (W0 := W0) (Q := Q) a1.ev (io e1 σ) q2 fun T6 H6 e6 r v a6 rr q6 => k T6 H6 e6 r v (a1.trans a6) (rr.pre a1.fr) q6
    rcases hJ with ⟨kvs, rfl, rfl⟩ | ⟨kvs, rfl, rfl⟩
    · exact .inl ⟨kvs, hl, z⟩
    · exact .inr ⟨kvs, hl, z⟩
end
section
variable {X : Cx} {W W0 : WX} {pos p apos cpos py spos : Pos} {e o a b c f tg : Expr} {es ifs : List Expr} {body : List Stmt} {g : WG} {wt : WT} {w : WE} {wb : WS} {x y : Str}
theorem psor {st : Stmt} {t t' : TS} (h : PS X st t) (h' : PS X st t') : PS X st (fun D σ H => t D σ H ∨ t' D σ H) := ⟨fun pins s σ H D I q => q.elim (h.run pins s σ H D I) (h'.run pins s σ H D I)⟩
theorem peor {t t' : TE} (h : PE X e t) (h' : PE X e t') : PE X e (fun σ H Q => t σ H Q ∨ t' σ H Q) := ⟨fun pins s σ H Q I q => q.elim (h.run pins s σ H Q I) (h'.run pins s σ H Q I)⟩
theorem sforK (i : Nat) (hp : PassesOwn (model X.prog X.w) X.A X.env X.xe) (hc : X.calm = true) (hg : DG X anyR tg g) (hb : DSs X W body wb) (hN : X.N[i]? = some x := by rfl) (hv : Vis X.env.scope x := by first | exact Or.inl rfl | exact Or.inr (Or.inl rfl) | exact Or.inr (Or.inr rfl))
    (hd : (x == ("__debug__" : Str)) = false := by decide) (hcd : (x == ("__classdict__" : Str)) = false := by decide) : DS X W (.For tg (.Name x p) body [] pos) (wForK i g wb) := by
  have h0 := ps_for hp hc (pi_keys (tg := tg) (pe_var (pos := p) hN hv hd hcd)) hg hb (pos := pos) (fun _ => rfl)
  exact PS.le (psor (ps_lock h0) h0) fun _ _ _ h => lforK h
theorem dlcK (i : Nat) {scope : Scope} {own : List (Str × Nat)} (hc : X.calm = true) (hN : X.N.Nodup) (ok : BlkOk X.N X.env.scope scope own)
    (hg : ∀ (s : Shared) (H : Hp) (C : Addr) (cl : List (Str × Addr)) (fp : List Addr), DG (X.blk s H scope (compEnvC scope cl C X.env) fp) (wpR (own.map (·.2))) tg g)
    (ht : ∀ (s : Shared) (H : Hp) (C : Addr) (cl : List (Str × Addr)) (fp : List Addr), DTs (X.blk s H scope (compEnvC scope cl C X.env) fp) W0 ifs wt)
    (he : ∀ (s : Shared) (H : Hp) (C : Addr) (cl : List (Str × Addr)) (fp : List Addr), DE (X.blk s H scope (compEnvC scope cl C X.env) fp) W0 e w)
    (hi : X.N[i]? = some x := by rfl) (hv : Vis X.env.scope x := by first | exact Or.inl rfl | exact Or.inr (Or.inl rfl) | exact Or.inr (Or.inr rfl))
    (hd : (x == ("__debug__" : Str)) = false := by decide) (hcd : (x == ("__classdict__" : Str)) = false := by decide) : DE X W (.ListComp e [⟨tg, .Name x p, ifs, 0⟩] scope pos) (wLcK i g wt w (own.map (·.2))) := by
  have h0 := pe_lc (pos := pos) (g := LG X.K (wpR (own.map (·.2))) g) (tt := LT X.K W0 wt) (te := LE X.K W0 w) hc hN (pi_keys (tg := tg) (pe_var (pos := p) hi hv hd hcd)) ok hg ht he (fun _ => rfl)
  exact PE.le (peor (pe_lock h0) h0) fun _ _ _ h => llcK h
end
end DL

end DlN
section DlO
set_option Elab.async false
set_option linter.all false
set_option maxRecDepth 100000
set_option maxHeartbeats 4000000
/-! DlO: own classes: made, their methods, their operators. -/
namespace DL
open PySem PySem.Spec PyProof.Rows L2
variable [TabEnv]
def callG (sp : DSp) (rs : List R) (e : Ev) (q : R → Ev → Prop) (x : WX') : Prop := outE rs e fun ars e1 => sp ars (fun r ars' => q r (inE rs ars' e e1)) (fun y ars' => x y (inE rs ars' e e1))
def wMake (C : Addr) (sp : DSp) (u : WA) : WE := fun env q x => u env (fun rs e => outE (.own (.ins C []) :: rs) e fun ars e1 => sp ars (fun r ars' => match r, ars' with
  | .val .non, .bor o :: _ => q (.own o) (inE (.own (.ins C []) :: rs) ars' e e1)
  | .val .non, .val d :: _ => q (.val d) (inE (.own (.ins C []) :: rs) ars' e e1)
  | _, _ => False) (fun y ars' => x y (inE (.own (.ins C []) :: rs) ars' e e1))) x
def isIns (C : Addr) (r : R) (e : Ev) : Prop := vw r e fun d => match d with | .ins C' _ _ => C' = C | _ => False
def hasM (C : Addr) (m : Str) (r : R) (e : Ev) : Prop := vw r e fun d => match d with | .ins C' ns _ => C' = C ∧ m ∉ ns | _ => False
def wMeth (C : Addr) (m : Str) (sp : DSp) (wo : WE) (u : WA) : WE := fun env q x => wo env (fun r e => hasM C m r e ∧ u e (fun rs e2 => callG sp (r :: rs) e2 q x) x) x
def wOp2 (C : Addr) (sp : DSp) (wa wb : WE) : WE := fun env q x => wa env (fun ra e1 => wb e1 (fun rb e2 => isIns C ra e2 ∧ isIns C rb e2 ∧ callG sp [ra, rb] e2 q x) x) x
def wOp1 (C : Addr) (sp : DSp) (wa : WE) : WE := fun env q x => wa env (fun ra e1 => isIns C ra e1 ∧ callG sp [ra] e1 q x) x
section
variable {K : PySem.W.Frag} {W : WX} {T T0 T' T1 T2 : TM} {H H0 H' H1 H2 : Hp} {env env0 env' env2 : Ev} {σ σ0 σ' σ2 : L2.St}
theorem isIns_ok {C : Addr} {r : R} {v : V} (E : EvOk K T H env σ) (h : RepR K T0 T H σ r v) (q : isIns C r env) : ∃ a dx fs, v = .ref a ∧ H a = some (.ins C dx fs) := by
  obtain ⟨d, hv, q⟩ := vw_view E h q
  cases d <;> first | exact q.elim | skip
  subst q
  obtain ⟨a, dx, fs, rfl, s, _⟩ := hv
  exact ⟨a, dx, fs, rfl, s⟩
theorem look_none {α β : Type} [BEq α] [LawfulBEq α] {m : α} : ∀ {fs : List (α × β)}, m ∉ fs.map (·.1) → fs.lookup m = none
  | [], _ => rfl
  | p :: r, h => by
    have h : ¬ m = p.1 ∧ m ∉ r.map (·.1) := by simpa using h
    rw [List.lookup_cons]
    have : (m == p.1) = false := by simpa using h.1
    rw [this]
    exact look_none h.2
theorem hasM_ok {C : Addr} {m : Str} {r : R} {v : V} (E : EvOk K T H env σ) (h : RepR K T0 T H σ r v) (q : hasM C m r env) : ∃ a dx fs, v = .ref a ∧ H a = some (.ins C dx fs) ∧ fs.lookup m = none := by
  obtain ⟨d, hv, q⟩ := vw_view E h q
  cases d <;> first | exact q.elim | skip
  obtain ⟨q, hm⟩ := q
  subst q
  obtain ⟨a, dx, fs, rfl, s, hk, _⟩ := hv
  subst hk
  exact ⟨a, dx, fs, rfl, s, look_none hm⟩
theorem RepRs.one {r : R} {v : V} (h : RepR K T0 T H σ r v) : RepRs K T0 T H σ [r] [v] := .cons h .nil
theorem own_nd {r : R} {v : V} {rs : List R} {vs : List V} (f : Fr T0 H0 T H) (h1 : RepR K T0 T H σ r v) (h2 : RepRs K T T1 H1 σ rs vs) (nd : (ownAd rs vs).Nodup) : (ownAd (r :: rs) (v :: vs)).Nodup := by
  cases r with
  | val d => simpa [ownAd] using nd
  | loc i => simpa [ownAd] using nd
  | own o =>
    obtain ⟨a, rfl, n, t, _⟩ := h1
    simp only [ownAd, List.nodup_cons]
    exact ⟨fun z => (ownAd_tmp h2 a z).1 t, nd⟩
end
section
variable {X : Cx} {W : WX} {pos p apos : Pos} {k : Nat} {f C : Addr} {fd : FuncData} {ps : List Str} {sp : DSp} {x m : Str} {e o a b : Expr} {es : List Expr} {wa wb wo : WE} {u : WA}
theorem run_makeG {pins : List (Addr × Obj)} {σ : L2.St} {H : Hp} {s : Shared} {Q : VK} {us : List Value} {vs : List V} {E : XK} {sp : Sp} (M : Mk X.K C f) (F : FnG X.prog X.w X.K X.mg X.base k f fd ps sp) (hr : Room (k + 1) X.A) (hg : X.A.guards = some []) (hb : Binds X.K fd ps [])
    (hx : PassesAt (L2.CX X.prog X.w) X σ E) (I : Inv X pins σ H s) (r : Vals vs us)
    (h : ∀ x dx, H x = none → H dx = none → dx ≠ x → sp (.ref x :: vs) (upd (upd H dx (.own x)) x (.ins C dx [])) (fun v H2 => v = .non ∧ Q (.ref x) H2) E) :
    wpAny (model X.prog X.w) X.A (call (.ref C) us) (EP X pins σ Q) X.xe s := by
  have hq := h _ _ (I.hok.fresh (Nat.le_succ _)) (I.hok.fresh (Nat.le_refl _)) (Nat.ne_of_lt (Nat.lt_succ_self s.heap.objs.size))
  have J := Inv.made (C := C) I
  have r2 : Vals (V.ref (s.heap.objs.size + 1) :: vs) (Value.ref (s.heap.objs.size + 1) :: us) := Paired.cons rfl r
  have hl : ((Value.ref (s.heap.objs.size + 1) :: us) ++ []).length = ps.length := by
    rw [List.append_nil, ← r2.length]
    exact F.len _ _ _ _ hq
  have bd := hb _ (Value.ref (s.heap.objs.size + 1) :: us) J.kIn hl
  rw [List.append_nil] at bd
  apply wpAny_call
  apply make_map (f := f) I.kIn M.makes M.init (beq_iff_eq.mp M.fn)
  apply codeAny_mono (F.run _ X.stack _ _ ⟨Value.ref (s.heap.objs.size + 1) :: us, []⟩ (Value.ref (s.heap.objs.size + 1) :: us) _ _ E (hr.make C us []) (by exact hg) (J.env0.make C us []) bd r2 hq)
  intro r s' hq'
  cases r with
  | error e => exact hx pins _ _ e s' J hq'
  | ok fl =>
    cases fl with
    | ret u =>
      obtain ⟨v, H', I3, rv, ev, q3⟩ := J.after hq'
      subst ev
      exact ⟨rv, ⟨V.ref (s.heap.objs.size + 1), H', I3, rfl, q3⟩⟩
    | next => exact False.elim hq'
    | brk => exact False.elim hq'
    | cont => exact False.elim hq'
theorem lmake {C : Addr} {T : TM} {H : Hp} {env : Ev} {σ : L2.St} {rs : List R} {vs : List V} {Q : VK} {q : R → Ev → Prop} {y : WX'} {T0 : TM} {H0 : Hp} {env0 : Ev} (a1 : Af X.K T0 H0 env0 σ T H env σ) (rr : RepRs X.K T0 T H σ rs vs) (nd : (ownAd rs vs).Nodup)
    (w : outE (.own (.ins C []) :: rs) env fun ars e1 => sp ars (fun r ars' => match r, ars' with
      | .val .non, .bor o :: _ => q (.own o) (inE (.own (.ins C []) :: rs) ars' env e1)
      | .val .non, .val d :: _ => q (.val d) (inE (.own (.ins C []) :: rs) ars' env e1)
      | _, _ => False) (fun z ars' => y z (inE (.own (.ins C []) :: rs) ars' env e1)))
    (k' : ∀ T' H' env' r v, Af X.K T0 H0 env0 σ T' H' env' σ → RepR X.K T0 T' H' σ r v → q r env' → Q v H') (xk : XOk X.K W T0 H0 env0 σ y) :
    ∀ x dx, H x = none → H dx = none → dx ≠ x → spL X.K sp (.ref x :: vs) (upd (upd H dx (.own x)) x (.ins C dx [])) (fun v H2 => v = .non ∧ Q (.ref x) H2) (L2.WE W σ) := by
  intro x dx h1 h2 hne
  have n1 : T x = none := a1.ev.good.none h1
  have g1 := Gr.alloc (o := .own x) (t := none) a1.ev.good h2 (by simp) (.inr fun _ z => by cases z)
  have hx1 : upd H dx (.own x) x = none := by rw [upd_ne (Ne.symm hne)]; exact h1
  have g2 := Gr.alloc (o := .ins C dx []) (t := some .tmp) g1.fr.good hx1 (by simp) (.inr fun _ z => by cases z)
  have g := g1.trans g2
  have a2 := a1.grow g
  have n0 : T0 x ≠ some .tmp := fun z => by have := (a1.fr.tmp z).1; rw [n1] at this; cases this
  refine lfnB (q := fun r ars' e => match r, ars' with
      | .val .non, .bor o :: _ => q (.own o) e
      | .val .non, .val d :: _ => q (.val d) e
      | _, _ => False) (rs := .own (.ins C []) :: rs) (vs := .ref x :: vs) a2 (.cons ⟨x, rfl, n0, tag_same, dx, [], upd_same, rfl, .nil⟩ (rr.mono g.fr)) ?_ ?_ ?_ xk
  · simp only [ownAd, List.nodup_cons]
    exact ⟨fun z => (by have := (ownAd_tmp rr x z).2; rw [n1] at this; cases this), nd⟩
  · refine outE_mono (fun as e1 z => ?_) w
    exact z
  · intro T' H' env' r v bs a r' oh z
    obtain ⟨b, bs', c, vs', rfl, ev, ib⟩ := oh _ _ rfl
    cases ev
    cases r <;> first | exact z.elim | skip
    rename_i d
    cases d <;> first | exact z.elim | skip
    have ev : v = .non := by have r' : RepV _ _ _ _ _ := r'; simpa only [RepV] using r'
    refine ⟨ev, ?_⟩
    cases b with
    | bor o' => exact k' T' H' env' (.own o') _ a ⟨x, rfl, ib.2.1, ib.1, ib.2.2⟩ z
    | val d => exact k' T' H' env' (.val d) _ a ib.2 z
theorem dmake (M : Mk X.K C f) (F : FnG X.prog X.w X.K X.mg X.base k f fd ps (spL X.K sp)) (ck : Cal X W (k + 1)) (hg : Gl X x) (hm : X.mg x = some (.ref C)) (hb : Binds X.K fd ps []) (ha : DA X W (e :: es) u)
    (hdb : (x == ("__debug__" : Str)) = false := by decide) (he : starEach (e :: es) X.env = (false, eval e X.env) :: starEach es X.env := by rfl) (hpl : (backTo pos (starEach es X.env)).any (·.1) = false := by rfl) : DE X W (.Call (.Name x p) (e :: es) [] pos) (wMake C sp u) := by
  refine ⟨fun pins s σ H Q I h => ?_⟩
  obtain ⟨T, env, q, y, E, w, k', xk⟩ := h
  refine wpAny_Call_Name_kw (ld_glob I hg hm ?_ hdb)
  refine PySem.W.callWith_K (h₀ := X.base) I.ok.mod.kin M.kp (thn (ha.run pos pins s σ H (fun vs H1 => ∀ x dx, H1 x = none → H1 dx = none → dx ≠ x → spL X.K sp (.ref x :: vs) (upd (upd H1 dx (.own x)) x (.ins C dx [])) (fun v H2 => v = .non ∧ Q (.ref x) H2) (L2.WE W σ)) I ?_) fun us s1 ⟨vs, H1, I1, r, q⟩ => ⟨I1.kIn, ?_⟩) he hpl
  · exact ⟨T, env, _, y, E, w, fun T1 H1 e1 rs vs a1 rr nd w1 => lmake a1 rr nd w1 k' xk, xk⟩
  · exact run_makeG M F ck.room ck.gds hb (passAt ck.tk σ) I1 r q
theorem dmake0 (M : Mk X.K C f) (F : FnG X.prog X.w X.K X.mg X.base k f fd ps (spL X.K sp)) (ck : Cal X W (k + 1)) (hg : Gl X x) (hm : X.mg x = some (.ref C)) (hb : Binds X.K fd ps [])
    (hdb : (x == ("__debug__" : Str)) = false := by decide) : DE X W (.Call (.Name x p) [] [] pos) (wMake C sp wNil) := by
  refine ⟨fun pins s σ H Q I h => ?_⟩
  obtain ⟨T, env, q, y, E, w, k', xk⟩ := h
  refine wpAny_Call_Name_kw (ld_glob I hg hm ?_ hdb)
  exact PySem.W.callWith_K0 I.kIn M.kp (run_makeG (us := []) M F ck.room ck.gds hb (passAt ck.tk σ) I .nil (lmake (T0 := T) (H0 := H) (env0 := env) (.refl E) .nil (by simp [ownAd]) w k' xk))
theorem dmeth {pl : Sem Bool} (c : Cls X.K C) (hm : Meth X.K C m f) (F : FnG X.prog X.w X.K X.mg X.base k f fd ps (spL X.K sp)) (ck : Cal X W k) (hb : Binds X.K fd ps []) (he : DE X W o wo) (ha : DA X W (e :: es) u)
    (hst : starEach (e :: es) X.env = (false, eval e X.env) :: starEach es X.env := by rfl) (hpl : (backTo pos (starEach es X.env)).any (·.1) = false := by rfl)
    (ht : eval (.Call (.Attribute o m apos) (e :: es) [] pos) X.env = (do
      let ov ← eval o X.env
      standAt apos.atName
      let (f, first) ← holding [ov] (getMethod ov m pl)
      callWith pos f first (backTo pos (starEach (e :: es) X.env)) (backToKw pos (keywordEach [] X.env))) := by rfl) : DE X W (.Call (.Attribute o m apos) (e :: es) [] pos) (wMeth C m sp wo u) := by
  refine ⟨fun pins s σ H Q I h => ?_⟩
  obtain ⟨T, env, q, y, E, w, k', xk⟩ := h
  refine PySem.W.methodCall_KW (pl := pl) (thn (he.run pins s σ H (fun x H1 => ∃ a dx fs, x = .ref a ∧ H1 a = some (.ins C dx fs) ∧ fs.lookup m = none ∧ (LA X.K W u) σ H1 fun vs H2 => spL X.K sp (x :: vs) H2 Q (L2.WE W σ)) I ?_) fun uo s1 ⟨x, H1, I1, rx, a, dx, fs, ex, ea, l, q⟩ => ?_) ht
  · refine ⟨T, env, _, y, E, w, fun T1 H1 e1 r v a1 r1 w1 => ?_, xk⟩
    obtain ⟨a, dx, fs, rfl, ha, hl⟩ := hasM_ok a1.ev r1 w1.1
    refine ⟨a, dx, fs, rfl, ha, hl, T1, e1, _, y, a1.ev, w1.2, fun T2 H2 e2 rs vs a2 rr nd w2 => ?_, xk.after a1⟩
    exact lfn (a1.trans a2) (.cons (r1.mono a2.fr) (rr.pre a1.fr)) (own_nd a1.fr r1 rr nd) w2 k' xk
  · subst ex
    obtain rfl : uo = Value.ref a := rx
    refine getmeth_ok I1 ea c hm l ?_
    refine PySem.W.callWith_K (first := [.ref a]) (h₀ := X.base) I1.ok.mod.kin hm.kp (thn (ha.run pos pins s1 σ H1 _ I1 q) fun us s2 ⟨vs, H2, I2, r, q2⟩ => ⟨I2.kIn, ?_⟩) hst hpl
    exact run_fnG (us := .ref a :: us) (vs := .ref a :: vs) F ck.room ck.gds hb .nil (passAt ck.tk σ) I2 (.cons rfl r) (by simpa using q2)
theorem dmeth0 {pl : Sem Bool} (c : Cls X.K C) (hm : Meth X.K C m f) (F : FnG X.prog X.w X.K X.mg X.base k f fd ps (spL X.K sp)) (ck : Cal X W k) (hb : Binds X.K fd ps []) (he : DE X W o wo)
    (ht : eval (.Call (.Attribute o m apos) [] [] pos) X.env = (do
      let ov ← eval o X.env
      standAt apos.atName
      let (f, first) ← holding [ov] (getMethod ov m pl)
      callWith pos f first (backTo pos (starEach [] X.env)) (backToKw pos (keywordEach [] X.env))) := by rfl) : DE X W (.Call (.Attribute o m apos) [] [] pos) (wMeth C m sp wo wNil) := by
  refine ⟨fun pins s σ H Q I h => ?_⟩
  obtain ⟨T, env, q, y, E, w, k', xk⟩ := h
  refine PySem.W.methodCall_KW (pl := pl) (thn (he.run pins s σ H (fun x H1 => ∃ a dx fs, x = .ref a ∧ H1 a = some (.ins C dx fs) ∧ fs.lookup m = none ∧ spL X.K sp [x] H1 Q (L2.WE W σ)) I ?_) fun uo s1 ⟨x, H1, I1, rx, a, dx, fs, ex, ea, l, q⟩ => ?_) ht
  · refine ⟨T, env, _, y, E, w, fun T1 H1 e1 r v a1 r1 w1 => ?_, xk⟩
    obtain ⟨a, dx, fs, rfl, ha, hl⟩ := hasM_ok a1.ev r1 w1.1
    exact ⟨a, dx, fs, rfl, ha, hl, lfn a1 (.one r1) (own_nd a1.fr r1 (T1 := T1) (H1 := H1) .nil (by simp [ownAd])) w1.2 k' xk⟩
  · subst ex
    obtain rfl : uo = Value.ref a := rx
    refine getmeth_ok I1 ea c hm l ?_
    exact PySem.W.callWith_K0 (first := [.ref a]) I1.kIn hm.kp (run_fnG (us := [.ref a]) (vs := [.ref a]) F ck.room ck.gds hb .nil (passAt ck.tk σ) I1 (.cons rfl .nil) (by simpa using q))
/-! ### operators -/
theorem two_args {T : TM} {H : Hp} {σ : L2.St} {env : Ev} {Q : VK} {q : R → Ev → Prop} {y : WX'} (E : EvOk X.K T H env σ) (w : wOp2 C sp wa wb env q y)
    (k' : ∀ T' H' env' r v, Af X.K T H env σ T' H' env' σ → RepR X.K T T' H' σ r v → q r env' → Q v H') (xk : XOk X.K W T H env σ y) :
    (LE X.K W wa) σ H fun x H1 => (LE X.K W wb) σ H1 fun z H2 => ∃ a b dx dz fs gs, x = .ref a ∧ z = .ref b ∧ H2 a = some (.ins C dx fs) ∧ H2 b = some (.ins C dz gs) ∧ spL X.K sp [x, z] H2 Q (L2.WE W σ) := by
  refine ⟨T, env, _, y, E, w, fun T1 H1 e1 r v a1 r1 w1 => ?_, xk⟩
  refine ⟨T1, e1, _, y, a1.ev, w1, fun T2 H2 e2 r2 v2 a2 rr w2 => ?_, xk.after a1⟩
  obtain ⟨i1, i2, w3⟩ := w2
  obtain ⟨a, dx, fs, ea, ha⟩ := isIns_ok a2.ev (r1.mono a2.fr) i1
  obtain ⟨b, dz, gs, eb, hb⟩ := isIns_ok a2.ev rr i2
  exact ⟨a, b, dx, dz, fs, gs, ea, eb, ha, hb, lfn (a1.trans a2) (.cons (r1.mono a2.fr) (.one (rr.pre a1.fr))) (own_nd a1.fr r1 (.one rr) (own_nd a2.fr rr (T1 := T2) (H1 := H2) .nil (by simp [ownAd]))) w3 k' xk⟩
theorem dop2 {op : Operator} (hc : PySem.W.selfFirst X.K C = true) (hs : PySem.W.findIn X.K (.ref C) (PySem.dunder op.info.2) = some (some (.ref f))) (hf : PySem.W.isFn X.K (.ref f) = true) (F : FnG X.prog X.w X.K X.mg X.base k f fd ps (spL X.K sp)) (ck : Cal X W k) (hb : Binds X.K fd ps [])
    (ha : DE X W a wa) (hb' : DE X W b wb) : DE X W (.BinOp a op b pos) (wOp2 C sp wa wb) := by
  refine ⟨fun pins s σ H Q I h => ?_⟩
  obtain ⟨T, env, q, y, E, w, k', xk⟩ := h
  refine wpAny_BinOp (binT ha hb' I (two_args E w k' xk) fun v u s2 x z H2 I2 rx ry h => ?_)
  obtain ⟨a, b, dx, dz, fs, gs, rfl, rfl, hHa, hHb, q2⟩ := h
  cases (show v = Value.ref a from rx)
  cases (show u = Value.ref b from ry)
  obtain ⟨mA, O, _⟩ := ins_get I2.hok hHa
  obtain ⟨od, J, _⟩ := O.look
  obtain ⟨mB, O', _⟩ := ins_get I2.hok hHb
  obtain ⟨od', J', _⟩ := O'.look
  obtain ⟨mm, hF⟩ := I2.fr
  refine PySem.W.binop_K hF I2.ok.mod.kin J J'.type hc hs hf ?_
  refine wpAny_mono (run_fnG (us := [.ref a, .ref b]) (vs := [.ref a, .ref b]) F ck.room ck.gds hb .nil (passAt ck.tk σ) I2 (.cons rfl (.cons rfl .nil)) (by simpa using q2)) (fun w s' z => ?_) fun _ _ x => x
  obtain ⟨z', H', I', rz, qz⟩ := z
  exact SlX.cmpback rz ⟨z', H', I', rz, qz⟩
theorem dop1 (hs : PySem.W.findIn X.K (.ref C) "__neg__" = some (some (.ref f))) (hf : PySem.W.isFn X.K (.ref f) = true) (F : FnG X.prog X.w X.K X.mg X.base k f fd ps (spL X.K sp)) (ck : Cal X W k) (hb : Binds X.K fd ps [])
    (ha : DE X W a wa) : DE X W (.UnaryOp .USub a pos) (wOp1 C sp wa) := by
  refine ⟨fun pins s σ H Q I h => ?_⟩
  obtain ⟨T, env, q, y, E, w, k', xk⟩ := h
  refine UnaryOp_ (thn (ha.run pins s σ H (fun x H1 => ∃ a dx fs, x = .ref a ∧ H1 a = some (.ins C dx fs) ∧ spL X.K sp [x] H1 Q (L2.WE W σ)) I ?_) fun v s1 ⟨x, H1, I1, r1, a, dx, fs, ex, hHa, q1⟩ => ?_)
  · refine ⟨T, env, _, y, E, w, fun T1 H1 e1 r v a1 r1 w1 => ?_, xk⟩
    obtain ⟨a, dx, fs, ea, ha⟩ := isIns_ok a1.ev r1 w1.1
    exact ⟨a, dx, fs, ea, ha, lfn a1 (.one r1) (own_nd a1.fr r1 (T1 := T1) (H1 := H1) .nil (by simp [ownAd])) w1.2 k' xk⟩
  · subst ex
    cases (show v = Value.ref a from r1)
    obtain ⟨mA, O, _⟩ := ins_get I1.hok hHa
    obtain ⟨od, J, _⟩ := O.look
    obtain ⟨mm, hF⟩ := I1.fr
    refine PySem.W.ksp_neg hF I1.ok.mod.kin J hs hf ?_
    exact run_fnG (us := [.ref a]) (vs := [.ref a]) F ck.room ck.gds hb .nil (passAt ck.tk σ) I1 (.cons rfl .nil) (by simpa using q1)
/-- ==, != by an own __eq__: two of the class -/
theorem dopEq (hs : PySem.W.findIn X.K (.ref C) "__eq__" = some (some (.ref f))) (hf : PySem.W.isFn X.K (.ref f) = true) (hn : PySem.W.notFirst X.K C (.ref C) = true) (F : FnG X.prog X.w X.K X.mg X.base k f fd ps (spL X.K sp)) (ck : Cal X W k) (hb : Binds X.K fd ps [])
    (ha : DE X W a wa) (hb' : DE X W b wb) (hm : behindInMarks .Eq b = false := by first | exact nobehind _ (by decide) (by decide) | rfl) : DE X W (.Compare a [.Eq] [b] pos) (wOp2 C sp wa wb) := by
  refine ⟨fun pins s σ H Q I h => ?_⟩
  obtain ⟨T, env, q, y, E, w, k', xk⟩ := h
  refine (pe_cmp (t := fun σ0 H0 Q0 => σ0 = σ ∧ H0 = H ∧ Q0 = Q) ⟨fun pins' s' σ0 H0 Q0 I' h0 => ?_⟩ hm).run pins s σ H Q I ⟨rfl, rfl, rfl⟩
  obtain ⟨rfl, rfl, rfl⟩ := h0
  refine binT ha hb' I' (two_args E w k' xk) fun v u s2 x z H2 I2 rx ry h => ?_
  obtain ⟨a, b, dx, dz, fs, gs, rfl, rfl, hHa, hHb, q2⟩ := h
  cases (show v = Value.ref a from rx)
  cases (show u = Value.ref b from ry)
  obtain ⟨mA, O, _⟩ := ins_get I2.hok hHa
  obtain ⟨od, J, _⟩ := O.look
  obtain ⟨mB, O', _⟩ := ins_get I2.hok hHb
  obtain ⟨od', J', _⟩ := O'.look
  obtain ⟨mm, hF⟩ := I2.fr
  refine PySem.W.cmp_K (op := .Eq) (tb := .ref C) ck.room.units0 hF I2.ok.mod.kin J J'.type hn hs hf ?_
  refine wpAny_mono (run_fnG (us := [.ref a, .ref b]) (vs := [.ref a, .ref b]) F ck.room ck.gds hb .nil (passAt ck.tk _) I2 (.cons rfl (.cons rfl .nil)) (by simpa using q2)) (fun w s' z => ?_) fun _ _ x => x
  obtain ⟨z', H', I', rz, qz⟩ := z
  exact SlX.cmpback rz ⟨z', H', I', rz, qz⟩
end
end DL

end DlO
section DlP
set_option Elab.async false
set_option linter.all false
set_option maxRecDepth 100000
set_option maxHeartbeats 4000000
/-! DlP: dicts with tuple keys: list(d.items()), dict(pairs). -/
namespace DT
open PySem PySem.W PySem.Calls PyProof.Rows PyProof.V PySem.Spec
section
variable {prog : Program} {w : World} {A : Around} {E : Value → Shared → Prop} {s : Shared} {r d : Addr} {es : Array DictEntry} {ep : Nat}
theorem initI {R : Result → Shared → Prop} (hh : A.handled = none) (hv : s.heap.IsItemsView r d) (hm : Raw s.heap d es ep) (S : Addr) (hSr : S ≠ r) (hSd : d ≠ S) (hS : s.heap.get? S = some { cls := .type "list", data := .seq #[] })
    (hR : ∀ h' tk acc c as, (∀ b o, b ≠ S → s.heap.get? b = some o → h'.get? b = some o) → h'.get? S = some { cls := .type "list", dict := none, data := .seq acc c, slots := #[] } → as.length = es.size → Made es S h' as →
      acc.toList = as.map Value.ref → R (.ok (.ret .none)) { s with heap := h', toks := tk }) (hn : es.size ≤ sizeLine) :
    wpAny (model prog w) A.in1 (Builtin.«list.__init__» ⟨[.ref S, .ref r], []⟩)
      (fun fin s' => match fin with | .done f => R (.ok f) s' | .again c' => c'.quiet = true ∧ codeAny (model prog w) A c' R s') (fun e s' => R (.error e) s') s := by
  have other : ∀ b o, b ≠ S → s.heap.get? b = some o → (s.heap.update S (Obj.mapSeq (fun _ => (#[] : Array Value)))).get? b = some o := fun b o hb e =>
    Eq.trans (Heap.get?_update_other _ _ (Ne.symm hb)) e
  have emptied := Heap.get?_update_self (Obj.mapSeq (fun _ => (#[] : Array Value))) hS rfl
  show wpAny _ _ (Builtin.List.listItems (.ref S) >>= fun old => Builtin.List.listUpdate (.ref S) (fun _ => #[]) >>= fun _ => letGo old.toList.reverse >>= fun _ => Builtin.List.listExtendWith (.ref S) (.ref r) .none) _ _ s
  apply wpAny_bind
  unfold Builtin.List.listItems
  apply wpAny_bind
  apply wpAny_seqItems hS rfl
  apply wpAny_pure
  apply wpAny_bind (m := updateSeq S (fun _ => #[]))
  apply wpAny_updateSeq hS rfl
  apply wpAny_bind
  apply wpAny_letGo
  apply extI (es := es) (ep := ep) hh (let ⟨o, ho, x⟩ := hv; ⟨o, other r o hSr.symm ho, x⟩) (hm.at' fun o e => other d o hSd e) S hSr hSd .none _ emptied _ hn
  intro h' tk acc c as hk hS' hl hG hacc
  exact hR h' tk acc c as (fun b o hb e => hk b o hb (other b o hb e)) hS' hl (hG.low (Nat.le_of_lt (Heap.lt_size emptied))) hacc
theorem listI {Q : Value → Shared → Prop} (hh : A.handled = none) (hv : s.heap.IsItemsView r d) (hm : Raw s.heap d es ep) (hn : es.size ≤ sizeLine)
    (hQ : ∀ h' tk acc c as, (∀ b o, s.heap.get? b = some o → h'.get? b = some o) → h'.get? s.heap.objs.size = some { cls := .type "list", dict := none, data := .seq acc c, slots := #[] } → as.length = es.size → Made es s.heap.objs.size h' as →
      acc.toList = as.map Value.ref → Q (.ref s.heap.objs.size) { s with heap := h', toks := tk }) :
    wpAny (model prog w) A (call (.type "list") [.ref r]) Q E s := by
  apply callType_codes (Q₁ := fun obj s₁ => obj = .ref s.heap.objs.size ∧ s₁ = { s with heap := s.heap.push { cls := .type "list", data := .seq #[] } }) PySem.F.called_list (PySem.F.typeCall_list_1 _) PySem.F.entry_list_init (code_list_new _ ⟨rfl, rfl⟩)
  rintro obj s₁ ⟨rfl, rfl⟩
  have hS : (s.heap.push { cls := .type "list", data := .seq #[] }).get? s.heap.objs.size = some { cls := .type "list", data := .seq #[] } := Heap.get?_push_size _ rfl
  have hr : r < s.heap.objs.size := let ⟨_, ho, _⟩ := hv; Heap.lt_size ho
  refine ⟨⟨_, hS, rfl⟩, PySem.F.args_list_init_2 _ _, ?_⟩
  apply initI (es := es) (ep := ep) (A := A.in1) hh (let ⟨o, ho, x⟩ := hv; ⟨o, Heap.get?_push_of_some _ ho, x⟩) (hm.push _) _ (Nat.ne_of_gt hr) (Nat.ne_of_lt hm.lt) hS _ hn
  intro h' tk acc c as hk hS' hl hG hacc
  exact ⟨rfl, hQ h' tk acc c as (fun b o e => hk b o (Nat.ne_of_lt (Heap.lt_size e)) (Heap.get?_push_of_some _ e)) hS' hl hG hacc⟩
end
end DT
namespace DL
open PySem PySem.Spec PyProof.Rows L2 L2.DX
variable [TabEnv]
section
variable {X : Cx}
/-- d.items() of a dict with tuple keys, locked or not -/
theorem mt_itemsR : MtR X "dict.items" (fun x xs H Q => ∃ (a : Addr) (kvs : List (List L2.Key × V)), x = .ref a ∧ xs = [] ∧ Rd H a (.dT kvs) ∧ ∀ p, H p = none → Q (.ref p) (upd H p (itemsO p a))) := by
  intro pins s σ H x xs v us Q I rx rxs h
  obtain ⟨a, kvs, rfl, rfl, ha, q⟩ := h
  cases rx
  cases rxs
  obtain ⟨z, hd, xs', rel, o, es, ep, ho, hx, hdat, _⟩ := dt_rd I.hok ha
  apply DT.callItems (es := es) (ep := ep) hd ⟨o, ho, hx, hdat⟩
  have hf : H s.heap.objs.size = none := I.hok.fresh (Nat.le_refl _)
  exact ⟨.ref s.heap.objs.size, upd H s.heap.objs.size (itemsO s.heap.objs.size a), I.laid (t' := s.toks) (fun b u e => Heap.get?_push_of_some _ e) (Nat.le_refl _) (itemsO_ok (Heap.get?_push_size _ rfl)), rfl, q _ hf⟩
theorem pget' {α β : Type} {F : α → β → Prop} : ∀ {l₁ : List α} {l₂ : List β} {j : Nat} {x : β}, Paired F l₁ l₂ → l₂[j]? = some x → ∃ y, l₁[j]? = some y ∧ F y x
  | _, _, _, _, .nil, e => by simp at e
  | _, _, 0, _, .cons h _, e => ⟨_, rfl, by simp at e; subst e; exact h⟩
  | _, _, j + 1, _, .cons _ t, e => by
    obtain ⟨y, h1, h2⟩ := pget' (j := j) t (by simpa using e)
    exact ⟨y, by simpa using h1, h2⟩
theorem paired_of {α β : Type} {F : α → β → Prop} : ∀ {l₁ : List α} {l₂ : List β}, l₁.length = l₂.length → (∀ (j : Nat) x y, l₁[j]? = some x → l₂[j]? = some y → F x y) → Paired F l₁ l₂
  | [], [], _, _ => .nil
  | [], _ :: _, h, _ => by simp at h
  | _ :: _, [], h, _ => by simp at h
  | a :: as, b :: bs, h, k => .cons (k 0 a b rfl rfl) (paired_of (by simpa using h) fun j x y e1 e2 => k (j + 1) x y (by simpa using e1) (by simpa using e2))
theorem call_listIt (hc : X.calm = true) : CallR X (.type "list") (fun xs H Q => ∃ (p a : Addr) (kvs : List (List L2.Key × V)), xs = [.ref p] ∧ H p = some (itemsO p a) ∧ Rd H a (.dT kvs) ∧
    ∀ (H' : Hp) (l : Addr) (ts : List Addr), (∀ b o, H b = some o → H' b = some o) → H l = none → (∀ t ∈ ts, H t = none) → l ∉ ts → H' l = some (.lst (ts.map V.ref)) →
      Paired (fun (t : Addr) (kv : List L2.Key × V) => ∃ q, H' t = some (.tup [.ref q, kv.2]) ∧ H' q = some (.tup (kv.1.map kV))) ts kvs → Q (.ref l) H') := by
  intro pins s σ H xs us Q I r h
  obtain ⟨p, a, kvs, rfl, hp, ha, q⟩ := h
  obtain rfl := Vals.ref1 r
  have view : s.heap.IsItemsView p a := (show ObjOk X.prog X.w H s.heap p (itemsO p a) from I.hok p _ hp).1
  obtain ⟨z, hd, xs', rel, o, es, ep, ho, hx, hdat, hes, his, hn⟩ := dt_rd I.hok ha
  have l1 : kvs.length = xs'.length := Paired.length rel
  have l2 : es.size = xs'.length := size_of_entries hes
  apply DT.listI (es := es) (ep := ep) (I.ok.hd hc) view ⟨o, ho, hx, hdat⟩ (by omega)
  intro h' tk acc c as hk hS hl hG hacc
  have nd : as.Nodup := List.Pairwise.imp (fun h => Nat.ne_of_lt h) hG.rise
  have hnew : H s.heap.objs.size = none := I.hok.fresh (Nat.le_refl _)
  have new : ∀ t ∈ as, H t = none := fun t ht => I.hok.fresh (Nat.le_of_lt (hG.above t ht))
  have hSn : s.heap.objs.size ∉ as := fun z => Nat.lt_irrefl _ (hG.above _ z)
  have pr : ∀ (j : Nat) (b : Addr), as[j]? = some b → ∃ (kv : List L2.Key × V) (kq : Addr) (u : Value), kvs[j]? = some kv ∧ H kq = some (.tup (kv.1.map kV)) ∧ RelV kv.2 u ∧ h'.get? b = some { cls := .type "tuple", data := .seq #[Value.ref kq, u] } := by
    intro j b hj
    obtain ⟨en, he, hg⟩ := hG.pairs j b hj
    rw [entry_at hes j] at he
    cases hxj : xs'[j]? with
    | none => rw [hxj] at he; cases he
    | some x =>
      rw [hxj] at he
      have een : entryOfKey (tupleKind (mixKind X.prog X.w)) x = en := Option.some.inj he
      obtain ⟨e0, he0, r1, r2, r3⟩ := pget' rel hxj
      refine ⟨e0, x.2.1, x.2.2, he0, r2, r3, ?_⟩
      rw [hg, ← een]
      rfl
  have I1 : Inv X pins σ (upd H s.heap.objs.size (.lst (as.map V.ref))) { s with heap := h', toks := tk } :=
    I.laid (t' := tk) hk (Nat.le_refl _) (show ObjOk X.prog X.w _ _ _ (.lst (as.map V.ref)) from ⟨by rw [List.length_map]; omega, acc.toList, c, by rw [hacc]; exact LiI.vals_refs as, by rw [Array.toArray_toList]; exact hS⟩)
  obtain ⟨H2, I2, kp, tk2⟩ := takeT (P := fun a vs => ∃ (j : Nat) (kv : List L2.Key × V) (kq : Addr), as[j]? = some a ∧ kvs[j]? = some kv ∧ H kq = some (.tup (kv.1.map kV)) ∧ vs = [.ref kq, kv.2]) I as _ I1 nd fun t ht => by
    refine ⟨Nat.le_of_lt (hG.above t ht), by rw [upd_ne (fun z => hSn (by rw [← z]; exact ht))]; exact new t ht, ?_⟩
    obtain ⟨j, hj⟩ := List.mem_iff_getElem?.mp ht
    obtain ⟨kv, kq, u, e1, e2, e3, e4⟩ := pr j t hj
    exact ⟨[.ref kq, kv.2], ⟨j, kv, kq, hj, e1, e2, rfl⟩, fun H2 => ⟨by show 2 ≤ sizeLine; decide, [Value.ref kq, u], .cons rfl (.cons e3 .nil), ⟨_, e4, rfl, _, rfl⟩⟩⟩
  have keep : ∀ b o, H b = some o → H2 b = some o := fun b o e => kp b o (by rw [upd_ne (ne_of_none e hnew)]; exact e)
  refine ⟨.ref s.heap.objs.size, H2, I2, rfl, q H2 _ as keep hnew new hSn (kp _ _ upd_same) (paired_of (by omega) fun j t kv e1 e2 => ?_)⟩
  obtain ⟨vs, ⟨j', kv', kq, f1, f2, f3, rfl⟩, g⟩ := tk2 t (List.mem_of_getElem? e1)
  have hjj : j' = j := by
    have h1 := List.getElem?_eq_some_iff.mp f1
    have h2 := List.getElem?_eq_some_iff.mp e1
    obtain ⟨b1, c1⟩ := h1
    obtain ⟨b2, c2⟩ := h2
    have ri := List.pairwise_iff_getElem.mp hG.rise
    rcases Nat.lt_trichotomy j' j with h | h | h
    · have := ri _ _ b1 b2 h; rw [c1, c2] at this; exact absurd this (Nat.lt_irrefl _)
    · exact h
    · have := ri _ _ b2 b1 h; rw [c1, c2] at this; exact absurd this (Nat.lt_irrefl _)
  subst hjj
  rw [e2] at f2
  cases f2
  exact ⟨kq, g, keep _ _ f3⟩
end
/-! ### dict(pairs), the keys tuples -/
section
variable {prog : Program} {w : World} {A : Around} {E : Value → Shared → Prop}
def mergedH (acc rest : List (List Key × Addr × Value)) : List (List Key × Addr × Value) := match rest with
  | [] => acc
  | q :: rest => mergedH (storedH acc q.1 q.2.1 q.2.2) rest
/-- another object changes: the dict stands -/
theorem dh_keep {h h' : Heap} {S I : Addr} {xs : List (List Key × Addr × Value)} (hm : h.DictOfH (tupleKind (mixKind prog w)) S xs) (hSI : S ≠ I) (hI : ∀ o, h.get? I = some o → o.cls ≠ .type "tuple") (k : ∀ b o, b ≠ I → h.get? b = some o → h'.get? b = some o) :
    h'.DictOfH (tupleKind (mixKind prog w)) S xs := by
  obtain ⟨o, es, ep, ho, hx, hd, he, hi, hn⟩ := hm
  refine ⟨o, es, ep, k _ _ hSI ho, hx, hd, he, fun x hx => ?_, hn⟩
  obtain ⟨ob, its, n, h1, h2, h3, h4⟩ := (show IsTupleKey (mixKind prog w) h x.1 x.2.1 from hi x hx)
  exact ⟨ob, its, n, k _ _ (fun z => hI ob (by rw [← z]; exact h1) h2) h1, h2, h3, h4⟩
theorem storedH_len (xs : List (List Key × Addr × Value)) (k : List Key) (a : Addr) (v : Value) : (storedH xs k a v).length ≤ xs.length + 1 := by
  cases h : atKey xs k with
  | none => rw [storedH_new h]; simp
  | some p => rw [storedH_old h]; simp
theorem upd_loopT {R : Result → Shared → Prop} {S I l : Addr} {items : Array Value} {res : Value} (hh : A.handled = none) (hu : A.units + 1 < cLine) (hlI : l ≠ I) (hSI : S ≠ I) (hSl : S ≠ l) :
    ∀ (rest : List (List Key × Addr × Value)) (i : Nat) (acc : List (List Key × Addr × Value)) (ix : Int) (t : Tok) (s : Shared), items.size = i + rest.length → acc.length + rest.length ≤ sizeLine →
      (∀ (j : Nat) (q : List Key × Addr × Value), rest[j]? = some q → ∃ b : Addr, items[i + j]? = some (.ref b) ∧ b ≠ S ∧ b ≠ I ∧ q.2.1 ≠ S ∧ q.2.1 ≠ I ∧ IsTup s.heap b #[.ref q.2.1, q.2.2] ∧ IsTupleKey (mixKind prog w) s.heap q.1 q.2.1) →
      s.heap.IsListIter I l i → s.heap.IsList l items → s.heap.DictOfH (tupleKind (mixKind prog w)) S acc →
      (∀ h' tk, h'.DictOfH (tupleKind (mixKind prog w)) S (mergedH acc rest) → (∀ b o, b ≠ S → b ≠ I → s.heap.get? b = some o → h'.get? b = some o) → R (.ok (.ret res)) { s with heap := h', toks := tk }) →
      codeAny (model prog w) A (.builtin "dict.update.loop" ⟨[.ref S, .ref I, .int ix t, res], []⟩) R s
  | [], i, acc, ix, t, s, hsz, hln, ht, hit, hl, hm, hR => by
    apply codeAny_builtin ud_entry
    rw [Around.under_plainId ud_plain _]
    have hIc : ∀ o, s.heap.get? I = some o → o.cls ≠ .type "tuple" := fun o e => by
      obtain ⟨o', e', c', _⟩ := hit
      rw [e] at e'; cases e'; rw [c']; decide
    show wpAny _ A.in1 (pyNext (.ref I) >>= _) _ _ s
    apply wpAny_bind
    apply wpAny_pyNext_list_end (A := A.in1) hh hit hl (by first | exact Array.getElem?_eq_none (Nat.le_of_eq hsz) | (simp at hsz; simp; omega))
    intro h' he
    show wpAny _ A.in1 (Builtin.Dict.addKeywords S [] >>= _) _ _ _
    refine wpAny_bind (wpAny_pure (wpAny_pure ?_))
    exact hR h' s.toks (dh_keep hm hSI hIc he) fun b o _ hb e => he b o hb e
  | q :: rest, i, acc, ix, t, s, hsz, hln, ht, hit, hl, hm, hR => by
    obtain ⟨b, hb, hbS, hbI, hqS, hqI, htup, hk⟩ := ht 0 q rfl
    rw [List.length_cons] at hsz hln
    have hIc : ∀ o, s.heap.get? I = some o → o.cls ≠ .type "tuple" := fun o e => by
      obtain ⟨o', e', c', _⟩ := hit
      rw [e] at e'; cases e'; rw [c']; decide
    have keyI : ∀ {ks : List Key} {a : Addr} {h h' : Heap}, IsTupleKey (mixKind prog w) h ks a → (∀ o, h.get? a = some o → h'.get? a = some o) → IsTupleKey (mixKind prog w) h' ks a := by
      rintro ks a h h' ⟨ob, its, n, h1, h2⟩ k
      exact ⟨ob, its, n, k _ h1, h2⟩
    apply codeAny_builtin ud_entry
    rw [Around.under_plainId ud_plain _]
    show wpAny _ A.in1 (pyNext (.ref I) >>= _) _ _ s
    refine wpAny_bind (wpAny_pyNext_list_item (x := .ref b) hit hl (by simpa using hb) fun h1 hit1 hs1 => ?_)
    have ht1 : IsTup h1 b #[.ref q.2.1, q.2.2] := htup.extBut hs1.extBut hbI
    have hl1 : h1.IsList l items := hl.extBut hs1.extBut hlI
    have hm1 : h1.DictOfH (tupleKind (mixKind prog w)) S acc := dh_keep hm hSI hIc hs1.extBut
    have hk1 : IsTupleKey (mixKind prog w) h1 q.1 q.2.1 := keyI hk fun o e => hs1.extBut _ o hqI e
    obtain ⟨o, ho, hc, n, hd⟩ := id ht1
    show wpAny _ A.in1 (holding [Value.ref b] _ >>= _) _ _ _
    refine wpAny_bind (wpAny_holding (wpAny_bind (wpAny_tryCatch ?_)))
    unfold Builtin.Dict.pairItems
    refine wpAny_bind (wpAny_typeOf (T := "tuple") ⟨o, ho, hc⟩ ?_)
    rw [if_pos (by first | decide | rfl | simp)]
    refine wpAny_bind (wpAny_seqItems ho hd (wpAny_pure ?_))
    show wpAny _ A.in1 (holding [.ref q.2.1, q.2.2] (dictSet S (.ref q.2.1) q.2.2)) _ _ _
    refine wpAny_holding (wpAny_dictSet_heap (knd := tupleKind (mixKind prog w)) (k := q.1) (show A.in1.units < cLine from hu) hk1 hm1 (fun h2 hm2 hs2 => ?_) (by omega))
    refine wpAny_pure ⟨plainId_quiet ud_plain _, upd_loopT (items := items) hh hu hlI hSI hSl rest (i + 1) (storedH acc q.1 q.2.1 q.2.2) (ix + 1) 0 _ (show items.size = i + 1 + rest.length by omega) ?_ (fun j q' e => ?_) ?_ ?_ hm2 fun h' tk hd' k => ?_⟩
    · have z := storedH_len acc q.1 q.2.1 q.2.2
      omega
    · obtain ⟨b', hb', hbS', hbI', hqS', hqI', htup', hk'⟩ := ht (j + 1) q' (by simpa using e)
      refine ⟨b', ?_, hbS', hbI', hqS', hqI', (htup'.extBut hs1.extBut hbI').extBut hs2.extBut hbS', keyI hk' fun o e => hs2.extBut _ o hqS' (hs1.extBut _ o hqI' e)⟩
      rw [show i + 1 + j = i + (j + 1) by omega]
      exact hb'
    · exact hit1.at fun o' e => hs2.extBut I o' (Ne.symm hSI) e
    · exact hl1.extBut hs2.extBut (Ne.symm hSl)
    · exact hR h' tk hd' fun c oc h3 h4 e => k c oc h3 h4 (hs2.extBut c oc h3 (hs1.extBut c oc h4 e))
theorem call_dict_pairsT {s : Shared} {l : Addr} {ol : Obj} {items : Array Value} {n : Nat} {prs : List (List Key × Addr × Value)} {Q : Value → Shared → Prop} (hh : A.handled = none) (hu : A.units + 2 < cLine) (hl : s.heap.get? l = some ol) (hc : ol.cls = .type "list") (hd : ol.dict = none)
    (hdat : ol.data = .seq items n) (hsz : items.size = prs.length) (hln : prs.length ≤ sizeLine)
    (ht : ∀ (j : Nat) (q : List Key × Addr × Value), prs[j]? = some q → ∃ b : Addr, items[j]? = some (.ref b) ∧ IsTup s.heap b #[.ref q.2.1, q.2.2] ∧ IsTupleKey (mixKind prog w) s.heap q.1 q.2.1)
    (h : ∀ h' tk, h'.DictOfH (tupleKind (mixKind prog w)) s.heap.objs.size (mergedH [] prs) → (∀ b o, s.heap.get? b = some o → h'.get? b = some o) → Q (.ref s.heap.objs.size) { s with heap := h', toks := tk }) :
    wpAny (model prog w) A (call (.type "dict") [.ref l]) Q E s := by
  apply callType_codes (Q₁ := fun obj s₁ => obj = .ref s.heap.objs.size ∧ s₁ = { s with heap := s.heap.push { cls := .type "dict", data := .dict #[] } }) PySem.F.kt_called_dict (PySem.F.kt_typeCall_dict_1 _) PySem.F.entry_dict_init (kt_code_dict_new _ ⟨rfl, rfl⟩)
  rintro obj s₁ ⟨rfl, rfl⟩
  have hnew : (s.heap.push { cls := .type "dict", data := .dict #[] }).DictOfH (tupleKind (mixKind prog w)) s.heap.objs.size [] := Heap.DictOfH.new s.heap
  have k0 : ∀ b o, s.heap.get? b = some o → (s.heap.push { cls := .type "dict", data := .dict #[] }).get? b = some o := fun b o e => Heap.get?_push_of_some _ e
  have ty : ({ s with heap := s.heap.push { cls := .type "dict", data := .dict #[] } } : Shared).TypeIs (.ref s.heap.objs.size) "dict" := ⟨_, Heap.get?_push_size _ rfl, rfl⟩
  refine ⟨ty, PySem.F.args_dict_init_2 _ _, ?_⟩
  unfold Builtin.«dict.__init__»
  apply wpAny_bind
  unfold Builtin.Dict.selfAndRest
  apply wpAny_bind
  apply wpAny_notOrdered_dict ty
  show wpAny _ _ (pure (s.heap.objs.size, [Value.ref l])) _ _ _
  apply wpAny_pure
  show wpAny _ _ (Builtin.Dict.updateFrom "dict.__init__" s.heap.objs.size (.ref l) [] .none) _ _ _
  unfold Builtin.Dict.updateFrom
  refine wpAny_bind (wpAny_typeOf (T := "list") ⟨ol, k0 _ _ hl, hc⟩ ?_)
  rw [if_pos (by first | decide | rfl | simp)]
  refine wpAny_bind (miss_list (k0 _ _ hl) hc hdat hd hh fun h1 tk1 hk1 => ?_)
  rw [if_pos (show (none : Option Value).isNone = true from rfl)]
  refine wpAny_bind (wpAny_rule ?_)
  have hl1 : h1.IsList l items := ⟨ol, hk1 _ _ (k0 _ _ hl), hc, n, hdat⟩
  have hS1 : s.heap.objs.size < h1.objs.size := by
    have e : (s.heap.push { cls := .type "dict", data := .dict #[] }).get? s.heap.objs.size = some { cls := .type "dict", data := .dict #[] } := Heap.get?_push_size _ rfl
    exact Heap.lt_size (hk1 _ _ e)
  refine wpAny_bind (wpAny_pyIter_list hl1 ?_)
  have k2 : ∀ b o, h1.get? b = some o → (h1.push { cls := .type "list_iterator", data := .fields #[.ref l, .int 0 0] }).get? b = some o := fun b o e => Heap.get?_push_of_some _ e
  have hlt : l < s.heap.objs.size := Heap.lt_size hl
  have all : ∀ b o, s.heap.get? b = some o → (h1.push { cls := .type "list_iterator", data := .fields #[.ref l, .int 0 0] }).get? b = some o := fun b o e => k2 _ _ (hk1 _ _ (k0 _ _ e))
  have key := upd_loopT (prog := prog) (w := w) (A := A.in1) (R := wants (fun r s₂ => r = .none ∧ Q (.ref s.heap.objs.size) s₂) E) (S := s.heap.objs.size) (I := h1.objs.size) (l := l) (items := items) (res := Value.none) hh (show A.units + 1 + 1 < cLine by omega)
    (Nat.ne_of_lt (Nat.lt_trans hlt hS1)) (Nat.ne_of_lt hS1) (Nat.ne_of_gt hlt) prs 0 [] 0 0
    { s with heap := h1.push { cls := .type "list_iterator", data := .fields #[.ref l, .int 0 0] }, toks := tk1 } (by rw [hsz, Nat.zero_add]) (by rw [List.length_nil, Nat.zero_add]; exact hln)
    (fun j q e => by
      obtain ⟨b, e1, e2, e3⟩ := ht j q e
      have hb : b < s.heap.objs.size := e2.lt
      obtain ⟨ob, its, m, g1, g2⟩ := e3
      have hq : q.2.1 < s.heap.objs.size := Heap.lt_size g1
      exact ⟨b, by rw [Nat.zero_add]; exact e1, Nat.ne_of_lt hb, Nat.ne_of_lt (Nat.lt_trans hb hS1), Nat.ne_of_lt hq, Nat.ne_of_lt (Nat.lt_trans hq hS1), e2.keeps fun c o z => all _ _ z, ⟨ob, its, m, all _ _ g1, g2⟩⟩)
    ⟨_, Heap.get?_push_size _ rfl, rfl, rfl⟩ (hl1.at fun o e => k2 _ _ e)
    (by
      obtain ⟨o, es, ep, ho, hx, hd, he, hi, hn⟩ := hnew
      exact ⟨o, es, ep, k2 _ _ (hk1 _ _ ho), hx, hd, he, (fun x hx => by simp at hx), hn⟩)
    (fun h' tk hd' k => ⟨rfl, h h' tk hd' fun b o e => k b o (Nat.ne_of_lt (Heap.lt_size e)) (Nat.ne_of_lt (Nat.lt_trans (Heap.lt_size e) hS1)) (all _ _ e)⟩)
  first
    | exact wpAny_pure ⟨plainId_quiet ud_plain _, key⟩
    | exact wpAny_bind (wpAny_pure (wpAny_pure ⟨plainId_quiet ud_plain _, key⟩))
end
section
variable {X : Cx}
def mergeT (acc rest : List (List Key × V)) : List (List Key × V) := match rest with
  | [] => acc
  | q :: rest => mergeT (putK acc q.1 q.2) rest
theorem KT.merge {H : Hp} : ∀ {rest : List (List Key × V)} {prs : List (List Key × Addr × Value)} {acc : List (List Key × V)} {xs : List (List Key × Addr × Value)}, KT H rest prs → KT H acc xs → KT H (mergeT acc rest) (mergedH xs prs)
  | _, _, acc, xs, .nil, h => h
  | (k, v) :: rest, (k', b, u) :: prs, acc, xs, .cons r t, h => by
    obtain ⟨r1, r2, r3⟩ := r
    have r1 : k = k' := r1
    subst r1
    exact KT.merge (rest := rest) (prs := prs) (acc := putK acc k v) (xs := storedH xs k b u) t (h.put k r2 r3)
theorem mergeT_len : ∀ {rest acc : List (List Key × V)}, (mergeT acc rest).length ≤ acc.length + rest.length
  | [], acc => by simp [mergeT]
  | q :: rest, acc => by
    have h1 := mergeT_len (rest := rest) (acc := putK acc q.1 q.2)
    have h2 := length_putK acc q.1 q.2
    simp only [mergeT, List.length_cons]
    omega
theorem pairs_ofT {pins : List (Addr × Obj)} {σ : L2.St} {H : Hp} {s : Shared} (I : Inv X pins σ H s) : ∀ {ps : List Addr} {kvs : List (List Key × V)}, Paired (fun p kv => ∃ b, SqT X.K H p [.ref b, kv.2] ∧ H b = some (.tup (kv.1.map kV))) ps kvs →
    ∃ prs : List (List Key × Addr × Value), KT H kvs prs ∧ prs.length = ps.length ∧ ∀ (j : Nat) (q : List Key × Addr × Value), prs[j]? = some q → ∃ b : Addr, ps[j]? = some b ∧ IsTup s.heap b #[.ref q.2.1, q.2.2] ∧ IsTupleKey (mixKind X.prog X.w) s.heap q.1 q.2.1
  | _, _, .nil => ⟨[], .nil, rfl, fun j q e => by simp at e⟩
  | _, _, .cons (a := p) (b := kv) h t => by
    obtain ⟨prs, r, hl, hp⟩ := pairs_ofT I t
    obtain ⟨b, h1, h2⟩ := h
    obtain ⟨its, rv, ht, _⟩ := I.tuple h1
    obtain ⟨u, y, ei, ru, ry⟩ := vals2 rv
    subst ei
    cases (show u = Value.ref b from ru)
    refine ⟨(kv.1, b, y) :: prs, .cons ⟨rfl, h2, ry⟩ r, by simp [hl], fun j q e => ?_⟩
    cases j with
    | zero =>
      have e' : (kv.1, b, y) = q := Option.some.inj e
      subst e'
      exact ⟨p, rfl, ht, key_of I.hok h2⟩
    | succ j =>
      obtain ⟨b, e1, e2, e3⟩ := hp j q (by simpa using e)
      exact ⟨b, by simpa using e1, e2, e3⟩
theorem call_dictT (hcalm : X.calm = true) (hu : X.A.units + 2 < cLine) : CallR X (.type "dict") (fun xs H Q => ∃ (a : Addr) (ps : List Addr) (kvs : List (List Key × V)), xs = [.ref a] ∧ SqL X.K H a (ps.map V.ref) ∧ Paired (fun p kv => ∃ b, SqT X.K H p [.ref b, kv.2] ∧ H b = some (.tup (kv.1.map kV))) ps kvs ∧
    ∀ p, H p = none → Q (.ref p) (upd H p (.dT (mergeT [] kvs)))) := by
  intro pins s σ H xs us Q I r q
  obtain ⟨a, ps, kvs, rfl, hq, hp, q⟩ := q
  obtain rfl := Vals.ref1 r
  obtain ⟨its, rv, pl, hz⟩ := I.list hq
  have ei := refs_at rv
  subst ei
  rw [List.length_map] at hz
  obtain ⟨prs, rel, hl, hpr⟩ := pairs_ofT I hp
  obtain ⟨o, n, ho, hc, hd, hdat⟩ := pl
  apply call_dict_pairsT (prs := prs) (I.ok.hd hcalm) hu ho hc hd hdat (by simp [hl]) (by rw [hl]; exact hz)
  · intro j q' e
    obtain ⟨b, e1, e2, e3⟩ := hpr j q' e
    exact ⟨b, by simp [e1], e2, e3⟩
  · intro h' tk hd' k
    have hm : (s.heap.objs.size == sysModules) = false := beq_eq_false_iff_ne.mpr (Nat.ne_of_gt I.big)
    have hlen : (mergeT [] kvs).length ≤ sizeLine := by
      have h1 := mergeT_len (rest := kvs) (acc := [])
      have h2 : kvs.length = prs.length := Paired.length rel
      simp at h1
      omega
    have hf : H s.heap.objs.size = none := I.hok.fresh (Nat.le_refl _)
    obtain ⟨o, es, ep, h1, h2, h3, h4, _, h5⟩ := hd'
    refine ⟨.ref s.heap.objs.size, upd H s.heap.objs.size (.dT (mergeT [] kvs)), I.laid (t' := tk) k (Nat.le_refl _) ⟨hlen, hm, mergedH [] prs, (KT.merge rel .nil).keeps fun b ys e => ?_, o, es, ep, h1, h2, h3, h4, h5⟩, rfl, q _ hf⟩
    rw [upd_ne (ne_of_none e hf)]
    exact e
end
end DL

end DlP
section DlQ
set_option Elab.async false
set_option linter.all false
set_option maxRecDepth 100000
set_option maxHeartbeats 4000000
/-! DlQ: dicts by data: displays, list(d), list(d.items()), dict(pairs). -/
namespace DL
open PySem PySem.Spec PyProof.Rows L2 L2.DX
variable [TabEnv]
def mergeD {κ : Type} [DecidableEq κ] (acc rest : List (κ × D)) : List (κ × D) := rest.foldl (fun a kv => putD a kv.1 kv.2) acc
section
variable {κ : Type} [DecidableEq κ] {K : PySem.W.Frag} {T T' : TM} {H : Hp}
/-- a list of pairs, its values data -/
structure RepP (K : PySem.W.Frag) (T : TM) (H : Hp) (ds : List (κ × D)) (zs : List (κ × V)) : Prop where
  ks : zs.map (·.1) = ds.map (·.1)
  vs : RepL K T H (ds.map (·.2)) (zs.map (·.2))
theorem RepP.nil : RepP (κ := κ) K T H [] [] := ⟨rfl, .nil⟩
theorem RepP.put {ds : List (κ × D)} {zs : List (κ × V)} {k : κ} {d : D} {v : V} (h : RepP K T H ds zs) (r : RepV K T H d v) : RepP K T H (putD ds k d) (putK zs k v) := by
  rw [putK_put]
  exact ⟨putD_keys d v k ds zs h.ks, put_rep r h.ks h.vs⟩
theorem RepP.mono {H' : Hp} {ds : List (κ × D)} {zs : List (κ × V)} (le : Le T H T' H') (h : RepP K T H ds zs) : RepP K T' H' ds zs := ⟨h.ks, h.vs.mono le⟩
theorem RepP.snoc {ds : List (κ × D)} {zs : List (κ × V)} {k : κ} {d : D} {v : V} (h : RepP K T H ds zs) (r : RepV K T H d v) : RepP K T H (ds ++ [(k, d)]) (zs ++ [(k, v)]) := by
  refine ⟨by simp [h.ks], ?_⟩
  rw [List.map_append, List.map_append]
  exact h.vs.append (.cons r .nil)
theorem RepP.merge : ∀ {rs : List (κ × D)} {ws : List (κ × V)} {ds : List (κ × D)} {zs : List (κ × V)}, RepP K T H rs ws → RepP K T H ds zs → RepP K T H (mergeD ds rs) (ws.foldl (fun a kv => putK a kv.1 kv.2) zs)
  | [], ws, ds, zs, h, h' => by
    have : ws = [] := by simpa using h.ks
    subst this
    exact h'
  | (k, d) :: rs, [], ds, zs, h, h' => by have := h.ks; simp at this
  | (k, d) :: rs, (k', v) :: ws, ds, zs, h, h' => by
    have hk := h.ks
    simp only [List.map_cons, List.cons.injEq] at hk
    obtain ⟨hk1, hk2⟩ := hk
    subst hk1
    obtain ⟨x, r, e, r1, r2⟩ := h.vs.cons_inv
    simp only [List.map_cons, List.cons.injEq] at e
    obtain ⟨e1, e2⟩ := e
    subst e1 e2
    exact RepP.merge (rs := rs) (ws := ws) ⟨hk2, r2⟩ (h'.put r1)
end
theorem mergeT_fold : ∀ (rest acc : List (List Key × V)), mergeT acc rest = rest.foldl (fun a kv => putK a kv.1 kv.2) acc
  | [], _ => rfl
  | q :: rest, acc => mergeT_fold rest _
/-! ### {} and {k: v, ..} -/
def wNewD : WE := fun env q _ => q (.own (.dk [])) env ∨ q (.own (.dt [])) env
def wDisp (ps : List (Key × WE)) (acc : List (Key × D)) : WE := fun env q x => match ps with
  | [] => acc.length ≤ 15 ∧ q (.own (.dk (mergeD [] acc))) env
  | (k, w) :: ps => w env (fun r e => dv r fun d => wDisp ps (acc ++ [(k, d)]) e q x) x
section
variable {X : Cx} {W : WX} {pos p apos cpos : Pos} {e o : Expr} {we : WE}
theorem dnew : DE X W (.Dict [] [] pos) wNewD := by
  refine PE.le (peor pe_dnewK pe_dnewT) fun σ H Q h => ?_
  obtain ⟨T, env, q, x, E, w, k, xk⟩ := h
  rcases w with w | w
  · refine .inl fun p hp => k _ _ env (.own (.dk [])) _ ((Af.refl E).grow (Gr.alloc (t := some .tmp) E.good hp (by simp) (.inr fun _ z => by cases z))) ⟨p, rfl, by rw [E.good.none hp]; simp, tag_same, [], upd_same, rfl, .nil⟩ w
  · refine .inr fun p hp => k _ _ env (.own (.dt [])) _ ((Af.refl E).grow (Gr.alloc (t := some .tmp) E.good hp (by simp) (.inr fun _ z => by cases z))) ⟨p, rfl, by rw [E.good.none hp]; simp, tag_same, [], upd_same, rfl, .nil⟩ w
/-- what a display holds -/
inductive DPs (X : Cx) (W : WX) : List (Option Expr) → List Expr → List (Key × WE) → Prop
  | nil : DPs X W [] [] []
  | cons {x : Str} {j : Nat} {p : Pos} {v : Expr} {w : WE} {ks vs ps} : DE X W v w → DPs X W ks vs ps → DPs X W (some (.Constant (.str x) j p) :: ks) (v :: vs) ((.inr x, w) :: ps)
def trsOf (K : PySem.W.Frag) (W : WX) (ps : List (Key × WE)) : List (TE × TE) := ps.map fun p => (tC (kV p.1), LE K W p.2)
theorem DPs.pps {ks : List (Option Expr)} {vs : List Expr} {ps : List (Key × WE)} (h : DPs X W ks vs ps) : PPs X pos ks vs (trsOf X.K W ps) := by
  induction h with
  | nil => exact pps_nil
  | cons h _ ih => exact pps_cons pe_str h ih
theorem ldisp {K : PySem.W.Frag} {T0 : TM} {H0 : Hp} {env0 : Ev} {σ : L2.St} {Q : VK} {q : R → Ev → Prop} {x : WX'} {p : Addr} (hp0 : T0 p = none) (xk : XOk K W T0 H0 env0 σ x) (k : ∀ T' H' env' r v, Af K T0 H0 env0 σ T' H' env' σ → RepR K T0 T' H' σ r v → q r env' → Q v H') :
    ∀ {ps : List (Key × WE)} {acc : List (Key × D)} {zs : List (Key × V)} {T : TM} {H : Hp} {env : Ev}, Af K T0 H0 env0 σ T H env σ → T p = some .tmp → H p = some (.dK []) → RepP K T H acc zs → wDisp ps acc env q x →
      tPairs (trsOf K W ps) σ H fun ps' H2 => H2 p = some (.dK []) ∧ ∃ kvs : List (Key × V), zs.map (fun kv => (kV kv.1, kv.2)) ++ ps' = kvs.map (fun kv => (kV kv.1, kv.2)) ∧ kvs.length ≤ 15 ∧ Q (.ref p) (upd H2 p (.dK (mergeK [] kvs)))
  | [], acc, zs, T, H, env, a, tp, hp, rp, w => by
    obtain ⟨w1, w2⟩ := w
    refine ⟨hp, zs, by simp, ?_, ?_⟩
    · have h := congrArg List.length rp.ks
      rw [List.length_map, List.length_map] at h
      omega
    · obtain ⟨E', le⟩ := a.ev.bump (o := .dK (mergeK [] zs)) tp fun _ z => by cases z
      have n0 : T0 p ≠ some .tmp := by rw [hp0]; simp
      refine k T _ env (.own (.dk (mergeD [] acc))) _ ⟨a.fr.bump E'.good tp n0, E', a.kp⟩ ⟨p, rfl, n0, tp, mergeK [] zs, upd_same, ?_⟩ w2
      have z := (rp.merge (ds := []) (zs := []) .nil).mono le
      exact ⟨z.ks, z.vs⟩
  | (kk, wv) :: ps, acc, zs, T, H, env, a, tp, hp, rp, w => by
    refine ⟨T, env, _, x, a.ev, w, fun T1 H1 e1 r v a1 r1 q1 => ?_, xk.after a⟩
    have t1 := a1.fr.tmp tp
    have a2 := a.trans a1
    obtain ⟨T2, d, f2, E2, le2, kt2, _, rv, q2⟩ : ∃ T2 d, Fr T0 H0 T2 H1 ∧ EvOk K T2 H1 e1 σ ∧ Le T1 H1 T2 H1 ∧ T2 p = some .tmp ∧ True ∧ RepV K T2 H1 d v ∧ wDisp ps (acc ++ [(kk, d)]) e1 q x := by
      cases r with
      | val d => exact ⟨T1, d, a2.fr, a1.ev, fun _ e => ⟨e, .inl rfl⟩, t1.1, trivial, r1, q1⟩
      | loc i => exact q1.elim
      | own o =>
        obtain ⟨c, ec, n, t, ro⟩ := r1
        subst ec
        have hc : p ≠ c := fun z => n (by rw [← z]; exact tp)
        have n0 : T0 c ≠ some .tmp := fun z => n (a.fr.tmp z).1
        exact ⟨tag T1 c (some .fz), o.toD, a2.fr.retag t n0 (by simp), a1.ev.retag t, Le.retag t, by rw [tag_ne hc]; exact t1.1, trivial, RepO.frozen (ro.mono (Le.retag t) rfl) tag_same, q1⟩
    have z := ldisp hp0 xk k (ps := ps) (acc := acc ++ [(kk, d)]) (zs := zs ++ [(kk, v)]) ⟨f2, E2, a2.kp⟩ kt2 (t1.2.trans hp) (((rp.mono a1.fr.le).mono le2).snoc rv) q2
    show tPairs (trsOf K W ps) σ H1 _
    simpa [List.append_assoc] using z
theorem ddisp {ks : List (Option Expr)} {vs : List Expr} {ps : List (Key × WE)} (h : DPs X W ks vs ps) (hall : ks.all (·.isSome) = true := by rfl) (hl : ks.length = vs.length := by rfl) (h0 : ks ≠ [] := by simp) (h15 : ks.length ≤ 15 := by decide) : DE X W (.Dict ks vs pos) (wDisp ps []) := by
  refine PE.le (pe_disp h.pps hall hl h0 h15) fun σ H Q h => ?_
  obtain ⟨T, env, q, x, E, w, k, xk⟩ := h
  intro p hp
  have g := Gr.alloc (o := .dK []) (t := some .tmp) E.good hp (by simp) (.inr fun _ z => by cases z)
  have z := ldisp (E.good.none hp) xk k ((Af.refl E).grow g) tag_same upd_same (.nil) w
  simpa using z
/-! ### list(d), list(d.items()), dict(pairs) -/
theorem fz_tups {K : PySem.W.Frag} : ∀ {kvs : List (List Key × V)} {bs : List Addr} {T : TM} {H : Hp}, Good T H → Paired (fun (p : List Key × V) (b : Addr) => H b = some (.tup (p.1.map kV))) kvs bs → ∃ T', Gr T H T' H ∧ RepL K T' H (kvs.map fun p => tD p.1) (bs.map V.ref)
  | _, _, T, H, g, .nil => ⟨T, Gr.refl g, .nil⟩
  | _, _, T, H, g, .cons (a := p) (b := b) h t => by
    obtain ⟨T1, g1, tf⟩ := fz_tup g h
    obtain ⟨T2, g2, r⟩ := fz_tups (K := K) g1.fr.good t
    refine ⟨T2, g1.trans g2, .cons ?_ r⟩
    show RepV _ _ _ (.tup _) _
    simp only [RepV]
    exact ⟨b, _, rfl, tf.mono g2.fr.le, rep_kDs⟩
def gListX (d : D) (q : R → Prop) : Prop := match d with
  | .lst xs => q (.own (.lst xs))
  | .tup xs => q (.own (.lst xs))
  | .fix xs => q (.own (.lst xs))
  | .dk ks _ => q (.own (.lst (ks.map kD)))
  | .dt ks _ => q (.own (.lst (ks.map tD)))
  | _ => False
theorem cListX (hc : X.calm = true) : CallD X (.type "list") (g1 gListX) := CallD.of1 ((call_list_of.or (call_listD hc)).or (call_list_dT hc)) fun T H σ d v Q q g hv hg k => by
  cases d <;> first | exact hg.elim | skip
  · obtain ⟨a, ys, rfl, s, r⟩ := hv.tup
    exact .inl (.inl ⟨_, ys, rfl, .inr s.sq, fun p hp => k _ _ _ _ (Gr.new g hp) (new_lst g hp r) hg⟩)
  · obtain ⟨a, ys, rfl, s, r⟩ := hv.lst
    exact .inl (.inl ⟨_, ys, rfl, .inl (SqL.of s), fun p hp => k _ _ _ _ (Gr.new g hp) (new_lst g hp r) hg⟩)
  · obtain ⟨a, ys, rfl, s, r⟩ := hv.fix
    exact .inl (.inl ⟨_, ys, rfl, .inl s.sq, fun p hp => k _ _ _ _ (Gr.new g hp) (new_lst g hp r) hg⟩)
  · rename_i ks vs
    obtain ⟨a, kvs, rfl, s, hk, r⟩ := hv
    refine .inl (.inr ⟨a, kvs, rfl, s, fun p hp => k _ _ (.own (.lst (ks.map kD))) _ (Gr.new g hp) (new_lst g hp ?_) hg⟩)
    rw [← hk, List.map_map]
    have : ∀ l : List (Key × V), RepL X.K T H (l.map (kD ∘ fun x => x.1)) (l.map fun kv => kV kv.1) := fun l => by
      induction l with
      | nil => exact .nil
      | cons p l ih => exact .cons rep_kD ih
    exact this kvs
  · rename_i ks vs
    obtain ⟨a, kvs, rfl, s, hk, r⟩ := hv
    refine .inr ⟨a, kvs, rfl, s, fun p bs hp hb => ?_⟩
    obtain ⟨T1, g1, r1⟩ := fz_tups (K := X.K) g hb
    have hg' : q (.own (.lst (kvs.map fun p => tD p.1))) := by
      have hg : q (.own (.lst (ks.map tD))) := hg
      rw [← hk, List.map_map] at hg
      exact hg
    exact k _ _ (.own (.lst (kvs.map fun p => tD p.1))) _ (g1.trans (Gr.new g1.fr.good hp)) ((new_lst g1.fr.good hp r1).pre g1.fr) hg'
def itmD (k : List Key) (v : D) : D := .tup [tD k, v]
def wItems (we : WE) : WE := fun env q x => we env (fun r e => vw r e fun d => match d with
  | .dt ks vs => q (.own (.lst (List.zipWith itmD ks vs))) e
  | _ => False) x
theorem pe_itemsT {te : TE} (he : PE X e te) (hbase : attributeBase e "items" X.env (eval e X.env) = eval e X.env := by rfl) (hline : (apos.endLine == cpos.line) = true := by rfl) :
    PE X (.Call (.Attribute e "items" apos) [] [] cpos) (fun σ H Q => te σ H fun x H1 => ∃ (a : Addr) (kvs : List (List Key × V)), x = .ref a ∧ Rd H1 a (.dT kvs) ∧ ∀ p, H1 p = none → Q (.ref p) (upd H1 p (itemsO p a))) := by
  refine ⟨fun pins s σ H Q I h => ?_⟩
  refine wpAny_Call_method (T := "dict") (id := "dict.items") hbase rfl hline F.plainAttrs_dict F.slot_dict_items F.type_dict_items (thn (he.run pins s σ H _ I h) fun u s1 ⟨x, H1, I1, rx, a, kvs, ex, hd, q⟩ => ?_)
  subst ex
  obtain rfl : u = Value.ref a := rx
  obtain ⟨t1, t2, _⟩ := isD_at I1 (.inr ⟨kvs, hd⟩)
  refine ⟨t1, t2, ?_⟩
  exact Calls.callWith_builtin rfl (PySem.evalArgs_none (mt_itemsR pins s1 σ H1 (.ref a) [] (.ref a) [] Q I1 rfl .nil ⟨a, kvs, rfl, rfl, hd, q⟩))
theorem Gr.ext {T : TM} {H H' : Hp} (g : Good T H) (k : ∀ b o, H b = some o → H' b = some o) : Gr T H T H' := by
  have same : ∀ b t, T b = some t → H' b = H b := fun b t e => by
    cases h : H b with
    | none => exact absurd h (g b t e).1
    | some o => exact k b o h
  exact ⟨⟨fun b t e _ => ⟨e, same b t e⟩, fun _ e => e, ⟨fun b t e => by rw [same b t e]; exact g b t e, g.tabs.move (fun b ps e1 e2 => ⟨e1, by rw [e2]; exact k _ _ e2⟩) fun b e => ⟨e, .inl (same b _ e)⟩⟩⟩, fun j b e => ⟨e, same b _ e⟩⟩
theorem Gr.mark {T : TM} {H : Hp} {a : Addr} (g : Good T H) (t : T a = none) (h : H a ≠ none) (n : ∀ xs, H a ≠ some (.tup xs)) (n2 : ∀ xs, H a ≠ some (.tbl xs)) : Gr T H (tag T a (some .tmp)) H := by
  have ne : ∀ b u, T b = some u → b ≠ a := fun b u q z => by rw [z, t] at q; cases q
  refine ⟨⟨fun b u q _ => ⟨by rw [tag_ne (ne b u q)]; exact q, rfl⟩, fun b q => ?_, ⟨fun b u q => ?_, g.tabs.move (fun b ps e1 e2 => ⟨by rw [tag_ne fun z => n2 ps (by rw [← z]; exact e2)]; exact e1, rfl⟩) fun b q => ⟨by rw [tag_ne (ne b _ q)]; exact q, .inl rfl⟩⟩⟩, fun j b q => ⟨by rw [tag_ne (ne b _ q)]; exact q, rfl⟩⟩
  · by_cases hb : b = a
    · subst hb; rw [tag_same] at q; cases q
    · rwa [tag_ne hb] at q
  · by_cases hb : b = a
    · subst hb; exact ⟨h, fun _ => n⟩
    · rw [tag_ne hb] at q; exact g b u q
theorem fz_pairs {K : PySem.W.Frag} {H : Hp} {kvs : List (List Key × V)} {ts : List Addr} (pr : Paired (fun (t : Addr) (kv : List L2.Key × V) => ∃ q, H t = some (.tup [.ref q, kv.2]) ∧ H q = some (.tup (kv.1.map kV))) ts kvs) :
    ∀ {vs : List D} {T : TM}, Good T H → RepL K T H vs (kvs.map (·.2)) → ∃ T', Gr T H T' H ∧ RepL K T' H (List.zipWith itmD (kvs.map (·.1)) vs) (ts.map V.ref) := by
  induction pr with
  | nil => intro vs T g r; exact ⟨T, Gr.refl g, by simpa using (RepL.nil (K := K) (T := T) (H := H))⟩
  | @cons b p ts kvs h t ih =>
    intro vs T g r
    cases vs with
    | nil => simp [RepL] at r
    | cons v vs =>
      obtain ⟨q, h1, h2⟩ := h
      obtain ⟨x, xs, e, r1, r2⟩ := r.cons_inv
      simp only [List.map_cons, List.cons.injEq] at e
      obtain ⟨e1, e2⟩ := e
      obtain ⟨T1, g1, t1⟩ := fz_tup g h2
      obtain ⟨T2, g2, t2⟩ := fz_tup g1.fr.good h1
      have le2 := (g1.trans g2).fr.le
      obtain ⟨T3, g3, r3⟩ := ih (vs := vs) g2.fr.good (by rw [e2]; exact r2.mono le2)
      refine ⟨T3, (g1.trans g2).trans g3, .cons ?_ r3⟩
      show RepV _ _ _ (.tup _) _
      simp only [RepV]
      refine ⟨b, _, rfl, t2.mono g3.fr.le, .cons ?_ (.cons ?_ .nil)⟩
      · show RepV _ _ _ (.tup _) _
        simp only [RepV]
        exact ⟨q, _, rfl, (t1.mono g2.fr.le).mono g3.fr.le, rep_kDs⟩
      · rw [e1]; exact RepV.mono g3.fr.le _ _ (RepV.mono le2 _ _ r1)
theorem ditems (hc : X.calm = true) (he : DE X W e we) (hm : X.mg "list" = none) (hg : Gl X "list" := by rfl) (hv : bootBuiltins "list" = some (.type "list") := by decide +kernel) (hbase : attributeBase e "items" X.env (eval e X.env) = eval e X.env := by rfl) (hline : (apos.endLine == cpos.line) = true := by rfl)
    (hs : starEach [.Call (.Attribute e "items" apos) [] [] cpos] X.env = (false, eval (.Call (.Attribute e "items" apos) [] [] cpos) X.env) :: starEach [] X.env := by rfl) (hpl : (backTo pos (starEach [] X.env)).any (·.1) = false := by rfl) :
    DE X W (.Call (.Name "list" p) [.Call (.Attribute e "items" apos) [] [] cpos] [] pos) (wItems we) := by
  refine PE.le (pe_callTy (call_listIt hc) hg hm hv (pa_cons (pe_itemsT he hbase hline) pa_nil hs) (by decide) (by decide) hs hpl) fun σ H Q h => ?_
  obtain ⟨T, env, q, x, E, w, k, xk⟩ := h
  refine ⟨T, env, _, x, E, w, fun T1 H1 e1 r v a1 r1 w1 => ?_, xk⟩
  obtain ⟨d, hv, w2⟩ := vw_view a1.ev r1 w1
  cases d <;> first | exact w2.elim | skip
  rename_i ks vs
  obtain ⟨a, kvs, rfl, s, hk, rl⟩ := hv
  refine ⟨a, kvs, rfl, s, fun p hp => ?_⟩
  have g1 := Gr.alloc (o := itemsO p a) (t := none) a1.ev.good hp (by simp) (.inr fun _ z => by cases z)
  have hne : a ≠ p := fun z => by
    rcases s with s | ⟨o, s⟩ <;> · rw [z, hp] at s; cases s
  have s2 : Rd (upd H1 p (itemsO p a)) a (.dT kvs) := s.imp (fun z => by rw [upd_ne hne]; exact z) fun ⟨o, z⟩ => ⟨o, by rw [upd_ne hne]; exact z⟩
  refine ⟨p, a, kvs, rfl, upd_same, s2, fun H' l ts kp hl hts hln hlst pr => ?_⟩
  have g2 := Gr.ext g1.fr.good kp
  have tl : tag T1 p none l = none := g1.fr.good.none hl
  have g3 := Gr.mark g2.fr.good tl (by rw [hlst]; simp) (by rw [hlst]; intro _ z; cases z) (by rw [hlst]; intro _ z; cases z)
  have g123 := (g1.trans g2).trans g3
  obtain ⟨T4, g4, r4⟩ := fz_pairs (K := X.K) pr g3.fr.good (rl.mono g123.fr.le)
  rw [hk] at r4
  have ga := g123.trans g4
  refine k T4 H' e1 (.own (.lst (List.zipWith itmD ks vs))) (.ref l) (a1.grow ga) ⟨l, rfl, fun z => ?_, (g4.fr.tmp tag_same).1, _, hlst, r4⟩ w2
  have h1 := (a1.fr.tmp z).1
  by_cases hlp : l = p
  · subst hlp; rw [a1.ev.good.none hp] at h1; cases h1
  · rw [tag_ne hlp] at tl; rw [tl] at h1; cases h1
/-! dict(pairs) -/
def pairsK : List D → Option (List (Key × D))
  | [] => some []
  | .tup [k, v] :: ds => match k.key, pairsK ds with
    | some k, some r => some ((k, v) :: r)
    | _, _ => none
  | _ => none
def pairsT : List D → Option (List (List Key × D))
  | [] => some []
  | .tup [.tup k, v] :: ds => match D.keys k, pairsT ds with
    | some k, some r => some ((k, v) :: r)
    | _, _ => none
  | _ => none
def gDictC (d : D) (q : R → Prop) : Prop := match d with
  | .lst ds => (∃ kvs, pairsK ds = some kvs ∧ q (.own (.dk (mergeD [] kvs)))) ∨ ∃ kvs, pairsT ds = some kvs ∧ q (.own (.dt (mergeD [] kvs)))
  | _ => False
theorem pairsK_rep {K : PySem.W.Frag} {T : TM} {H : Hp} : ∀ {ds : List D} {xs : List V} {kvs : List (Key × D)}, RepL K T H ds xs → pairsK ds = some kvs → ∃ ps zs, xs = ps.map V.ref ∧ RepP K T H kvs zs ∧ Paired (fun p (kv : Key × V) => SqT K H p [kV kv.1, kv.2]) ps zs
  | [], xs, kvs, h, e => by
    simp only [RepL] at h; subst h
    simp [pairsK] at e; subst e
    exact ⟨[], [], rfl, .nil, .nil⟩
  | d :: ds, xs, kvs, h, e => by
    obtain ⟨x, r, rfl, h1, h2⟩ := h.cons_inv
    unfold pairsK at e
    split at e
    · rename_i heq; cases heq
    · rename_i k v ds' heq
      cases heq
      cases e1 : k.key with
      | none => rw [e1] at e; cases e
      | some kk =>
        cases e2 : pairsK ds with
        | none => rw [e1, e2] at e; cases e
        | some r' =>
          rw [e1, e2] at e
          cases e
          obtain ⟨ps, zs, rfl, rp, pr⟩ := pairsK_rep h2 e2
          obtain ⟨a, ys, rfl, s, rl⟩ := (View.of h1).tup
          obtain ⟨x1, y1, rfl, q1, q2⟩ := rl.cons_inv
          obtain ⟨x2, y2, rfl, q3, q4⟩ := q2.cons_inv
          simp only [RepL] at q4; subst q4
          cases key_rep (View.of q1) e1
          refine ⟨a :: ps, (kk, x2) :: zs, rfl, ⟨by simp [rp.ks], .cons q3 rp.vs⟩, .cons s.sq pr⟩
    · cases e
theorem pairsT_rep {K : PySem.W.Frag} {T : TM} {H : Hp} : ∀ {ds : List D} {xs : List V} {kvs : List (List Key × D)}, RepL K T H ds xs → pairsT ds = some kvs → ∃ ps zs, xs = ps.map V.ref ∧ RepP K T H kvs zs ∧ Paired (fun p (kv : List Key × V) => ∃ b, SqT K H p [.ref b, kv.2] ∧ H b = some (.tup (kv.1.map kV))) ps zs
  | [], xs, kvs, h, e => by
    simp only [RepL] at h; subst h
    simp [pairsT] at e; subst e
    exact ⟨[], [], rfl, .nil, .nil⟩
  | d :: ds, xs, kvs, h, e => by
    obtain ⟨x, r, rfl, h1, h2⟩ := h.cons_inv
    unfold pairsT at e
    split at e
    · rename_i heq; cases heq
    · rename_i k v ds' heq
      cases heq
      cases e1 : D.keys k with
      | none => rw [e1] at e; cases e
      | some kk =>
        cases e2 : pairsT ds with
        | none => rw [e1, e2] at e; cases e
        | some r' =>
          rw [e1, e2] at e
          cases e
          obtain ⟨ps, zs, rfl, rp, pr⟩ := pairsT_rep h2 e2
          obtain ⟨a, ys, rfl, s, rl⟩ := (View.of h1).tup
          obtain ⟨x1, y1, rfl, q1, q2⟩ := rl.cons_inv
          obtain ⟨x2, y2, rfl, q3, q4⟩ := q2.cons_inv
          simp only [RepL] at q4; subst q4
          obtain ⟨b, zs1, rfl, tb, rb⟩ := (View.of q1).tup
          cases keys_rep rb e1
          refine ⟨a :: ps, (kk, x2) :: zs, rfl, ⟨by simp [rp.ks], .cons q3 rp.vs⟩, .cons ⟨b, s.sq, tb.2⟩ pr⟩
    · cases e
theorem cDictC (hc : X.calm = true) (hu : X.A.units + 2 < cLine) : CallD X (.type "dict") (g1 gDictC) := CallD.of1 ((call_dictP hc).or (call_dictT hc hu)) fun T H σ d v Q q g hv hg k => by
  cases d <;> first | exact hg.elim | skip
  obtain ⟨a, ys, rfl, s, r⟩ := hv.lst
  rcases hg with ⟨kvs, e, hg⟩ | ⟨kvs, e, hg⟩
  · obtain ⟨ps, zs, rfl, rp, pr⟩ := pairsK_rep r e
    refine .inl ⟨a, ps, zs, rfl, SqL.of s, pr, fun p hp => ?_⟩
    have gn := Gr.alloc (o := .dK (mergeK [] zs)) (t := some .tmp) g hp (by simp) (.inr fun _ z => by cases z)
    have z := (rp.mono gn.fr.le).merge (ds := []) (zs := []) .nil
    exact k _ _ (.own (.dk (mergeD [] kvs))) _ gn ⟨p, rfl, by rw [g.none hp]; simp, tag_same, _, upd_same, z.ks, z.vs⟩ hg
  · obtain ⟨ps, zs, rfl, rp, pr⟩ := pairsT_rep r e
    refine .inr ⟨a, ps, zs, rfl, SqL.of s, pr, fun p hp => ?_⟩
    have gn := Gr.alloc (o := .dT (mergeT [] zs)) (t := some .tmp) g hp (by simp) (.inr fun _ z => by cases z)
    have z := (rp.mono gn.fr.le).merge (ds := []) (zs := []) .nil
    rw [← mergeT_fold] at z
    exact k _ _ (.own (.dt (mergeD [] kvs))) _ gn ⟨p, rfl, by rw [g.none hp]; simp, tag_same, _, upd_same, z.ks, z.vs⟩ hg
end
end DL

end DlQ
section DlR
set_option Elab.async false
set_option linter.all false
set_option maxRecDepth 100000
set_option maxHeartbeats 4000000
/-! DlR: sorted of lists of tuples of ints, of ints, of dicts with such keys. -/
namespace PyProof.Rows.G
open PySem PySem.W
section
variable {prog : Program} {w : World} {A : Around} {E : Value → Shared → Prop} {s : Shared}
theorem pair_same {vs : List Value} {p : Keyed} (h : p ∈ vs.zip vs) : p.1 = p.2 := by
  obtain ⟨i, hi⟩ := List.mem_iff_getElem?.mp h
  obtain ⟨h1, h2⟩ := List.getElem?_zip_eq_some.mp hi
  rw [h1] at h2
  exact Option.some.inj h2
theorem sort_raw {shape : Nat → Bool} {src : Addr} {vs : List Value} {Q : Value → Shared → Prop} (hcol : ∀ {R : List Value → Shared → Prop}, (∀ (h' : Heap) (tk : Nat), (∀ b o, s.heap.get? b = some o → h'.get? b = some o) → R vs { s with heap := h', toks := tk }) → wpAny (model prog w) A.in1 (collect (.ref src)) R E s)
    (ht : 2 ≤ vs.length → ∃ fs, TupsOf s.heap shape vs fs) (hk : ∀ v, v ∈ vs → ∃ l, tupKeyC s.heap shape v = some l) (hL : vs.length ≤ sizeLine)
    (h : ∀ (h' h'' : Heap) (tk : Nat) (out : List Value) (n : Nat), (∀ b o, s.heap.get? b = some o → h'.get? b = some o) → (∀ b o, h'.get? b = some o → h''.get? b = some o) → h''.get? h'.objs.size = some (seqObj "list" out.toArray n) → out.Perm vs →
      out.Pairwise (fun u v => ∀ a b, tupKeyC s.heap shape u = some a → tupKeyC s.heap shape v = some b → lexLt itemOrd b a = false) → Q (.ref h'.objs.size) { s with heap := h'', toks := tk }) :
    wpAny (model prog w) A (call (.builtin "sorted") [.ref src]) Q E s := by
  apply Calls.call_function_entry kind_sorted plain_sorted entry_sorted (args_sorted1 _)
  unfold Builtin.«sorted»
  refine wpAny_bind (m := checkCount "sorted" 1 1 _) (wpAny_pure ?_)
  refine wpAny_bind (hcol fun h' tk kp => ?_)
  refine wpAny_bind (wpAny_newList ?_ hL)
  have hoL : (h'.push (seqObj "list" vs.toArray 0)).get? h'.objs.size = some (seqObj "list" vs.toArray 0) := Heap.get?_push_size _ rfl
  have kpush : ∀ b o, s.heap.get? b = some o → (h'.push (seqObj "list" vs.toArray 0)).get? b = some o := fun b o e => Heap.get?_push_of_some _ (kp b o e)
  have k0 : KeepsTups s.heap (h'.push (seqObj "list" vs.toArray 0)) := fun b o e _ => kpush b o e
  have k6 := k0.trans (keeps_sort6 (vs := vs) hoL)
  show wpAny _ _ _ _ _ { s with heap := h'.push (seqObj "list" vs.toArray 0), toks := tk }
  refine wpAny_bind (wpAny_holding (wpAny_call_entry slot_list_sort ⟨_, hoL, rfl⟩ entry_list_sort (list_sort_treeG (s := { s with heap := h'.push (seqObj "list" vs.toArray 0), toks := tk }) (κ := tupKindC s.heap shape) (kd := tuples' true) hoL (tupKeys hk)
    (tupC_ltAt (s := { s with heap := sortHeap6 (h'.push (seqObj "list" vs.toArray 0)) h'.objs.size vs, toks := tk }) true k6) (fun h2 _ hq => ?_) hL fun st' a1 a2 a3 => ⟨_, rfl, ?_⟩) (args_list_sort _)))
  · obtain ⟨fs, hfs⟩ := ht h2
    exact tup_kind (s := { s with heap := sortHeap6 (h'.push (seqObj "list" vs.toArray 0)) h'.objs.size vs, toks := tk }) (by rw [TupsOf.length hfs]; omega) (TupsOf.keep k6 hfs) hq
  · obtain ⟨n, hn⟩ := sortedHeap_at (vs := vs) (out := (arrOf st').map (·.2)) hoL
    have pm : (arrOf st').toList.Perm (vs.zip vs) := by rw [← pairsOf_toList]; exact Array.Perm.toList a1
    have same : ∀ p ∈ (arrOf st').toList, p.1 = p.2 := fun p hp => pair_same (pm.mem_iff.mp hp)
    refine wpAny_pure ⟨_, rfl, h h' _ tk ((arrOf st').toList.map (·.2)) n kp (fun b o e => ?_) (by rw [hn, ← Array.toList_map, Array.toArray_toList]) ?_ ?_⟩
    · have hb : b < h'.objs.size := Heap.lt_size e
      rw [sortedHeap_old (Nat.ne_of_lt hb) (by rw [size_push']; exact Nat.lt_succ_of_lt hb)]
      exact Heap.get?_push_of_some _ e
    · have z := pm.map (·.2)
      rwa [List.map_snd_zip (Nat.le_refl _)] at z
    · rw [List.pairwise_iff_getElem]
      intro i j hi hj hij a b ha hb
      rw [List.length_map, Array.length_toList] at hi hj
      have hs : (arrOf st').size = (pairsOf vs).size := a1.size_eq
      have z := a2 i j (Nat.le_of_lt hij) (by omega)
      have key : ∀ (k : Nat) (hk : k < (arrOf st').size) (l : List (Int ⊕ List Nat)), tupKeyC s.heap shape ((arrOf st').toList[k]'(by simpa using hk)).2 = some l → KK (tupKindC s.heap shape) (arrOf st') k = l := by
        intro k hk l hl
        unfold KK
        rw [Array.getElem?_eq_getElem hk]
        have e := same ((arrOf st')[k]) (by simp)
        have hl' : tupKeyC s.heap shape (arrOf st')[k].2 = some l := by simpa using hl
        show ((tupKindC s.heap shape).keyOf (arrOf st')[k].1).getD _ = l
        rw [e]
        show (tupKeyC s.heap shape (arrOf st')[k].2).getD _ = l
        rw [hl']
        rfl
      rw [key i hi a (by simpa using ha), key j hj b (by simpa using hb)] at z
      exact z
end
end PyProof.Rows.G

namespace DL
open PySem PySem.Spec PyProof.Rows L2 L2.DX PyProof.Rows.G
variable [TabEnv]
/-- tuples of ints, from the left -/
def ltI : List Int → List Int → Bool
  | [], [] => false
  | [], _ :: _ => true
  | _ :: _, [] => false
  | x :: r, y :: t => decide (x < y) || (!decide (y < x) && ltI r t)
theorem ltI_lex : ∀ a b : List Int, lexLt itemOrd (a.map Sum.inl) (b.map Sum.inl) = ltI a b
  | [], [] => rfl
  | [], _ :: _ => rfl
  | _ :: _, [] => rfl
  | x :: r, y :: t => by
    show (itemLt (.inl x) (.inl y) || (!itemLt (.inl y) (.inl x) && lexLt itemOrd (r.map Sum.inl) (t.map Sum.inl))) = _
    rw [ltI_lex r t]
    rfl
def tupI (ns : List Int) : D := .tup (ns.map .int)
def noS : Nat → Bool := fun _ => false
theorem items_ints : ∀ {ns : List Int} {us : List Value} (i : Nat), Vals (ns.map V.int) us → tupItems noS i us = some (ns.map Sum.inl)
  | [], us, i, h => by cases h; rfl
  | n :: ns, us, i, h => by
    cases h with
    | cons r t =>
      obtain ⟨tk, rfl⟩ := r
      simp only [tupItems, noS, Bool.false_eq_true, if_false]
      rw [items_ints (i + 1) t]
      rfl
section
variable {X : Cx} {pins : List (Addr × Obj)} {σ : L2.St} {H : Hp} {s : Shared}
theorem tup_key (I : Inv X pins σ H s) {t : Addr} {ns : List Int} (h : H t = some (.tup (ns.map V.int))) : tupKeyC s.heap noS (.ref t) = some (ns.map Sum.inl) := by
  obtain ⟨_, its, rv, o, ho, hc, n, hd⟩ := (show ObjOk X.prog X.w H s.heap t (.tup (ns.map V.int)) from I.hok t _ h)
  unfold tupKeyC
  have h1 : isTupObj s.heap (.ref t) = true := by simp [isTupObj, ho, hc]
  rw [if_pos h1]
  show tupKey s.heap noS (.ref t) = _
  simp only [tupKey, ho, hd]
  exact items_ints 0 rv
theorem tup_of (I : Inv X pins σ H s) {t : Addr} {ns : List Int} (h : H t = some (.tup (ns.map V.int))) (hne : ns ≠ []) : ∃ f, TupOf s.heap noS (.ref t) f := by
  obtain ⟨_, its, rv, o, ho, hc, n, hd⟩ := (show ObjOk X.prog X.w H s.heap t (.tup (ns.map V.int)) from I.hok t _ h)
  cases ns with
  | nil => exact absurd rfl hne
  | cons m ns =>
    cases rv with
    | cons r rr =>
      obtain ⟨tk, rfl⟩ := r
      exact ⟨_, t, o, _, n, rfl, ho, hc, hd, rfl, fun _ => ⟨m, tk, rfl⟩, fun z => by simp [noS] at z⟩
theorem tups_of (I : Inv X pins σ H s) : ∀ {ts : List Addr} {nss : List (List Int)}, Paired (fun (t : Addr) (ns : List Int) => H t = some (.tup (ns.map V.int))) ts nss → (∀ ns ∈ nss, ns ≠ []) → ∃ fs, TupsOf s.heap noS (ts.map Value.ref) fs
  | _, _, .nil, _ => ⟨[], .nil⟩
  | _, _, .cons h t, hn => by
    obtain ⟨f, hf⟩ := tup_of I h (hn _ (.head _))
    obtain ⟨fs, hfs⟩ := tups_of I t fun ns hm => hn ns (.tail _ hm)
    exact ⟨f :: fs, .cons hf hfs⟩
/-- sorted of what collects to tuples of ints -/
theorem sorted_core {src : Addr} {Q : VK} {ts : List Addr} {nss : List (List Int)} (I : Inv X pins σ H s) (pr : Paired (fun (t : Addr) (ns : List Int) => H t = some (.tup (ns.map V.int))) ts nss) (hne : 2 ≤ nss.length → ∀ ns ∈ nss, ns ≠ []) (hL : ts.length ≤ sizeLine)
    (hcol : ∀ {R : List Value → Shared → Prop}, (∀ (h' : Heap) (tk : Nat), (∀ b o, s.heap.get? b = some o → h'.get? b = some o) → R (ts.map Value.ref) { s with heap := h', toks := tk }) → wpAny (model X.prog X.w) X.A.in1 (collect (.ref src)) R X.xe s)
    (q : ∀ (us : List Addr) (mss : List (List Int)) p, mss.Perm nss → mss.Pairwise (fun a b => ltI b a = false) → Paired (fun (t : Addr) (ns : List Int) => H t = some (.tup (ns.map V.int))) us mss → H p = none → Q (.ref p) (upd H p (.lst (us.map V.ref)))) :
    wpAny (model X.prog X.w) X.A (call (.builtin "sorted") [.ref src]) (EP X pins σ Q) X.xe s := by
  have hl : ts.length = nss.length := Paired.length pr
  have at_ : ∀ v ∈ ts.map Value.ref, ∃ (t : Addr) (ns : List Int), v = .ref t ∧ H t = some (.tup (ns.map V.int)) := fun v hv => by
    obtain ⟨t, ht, rfl⟩ := List.mem_map.mp hv
    obtain ⟨j, ns, _, _, e⟩ := LiI.paired_ix pr ht
    exact ⟨t, ns, rfl, e⟩
  refine sort_raw (shape := noS) (vs := ts.map Value.ref) hcol (fun h2 => tups_of I pr (hne (by rw [List.length_map] at h2; omega))) (fun v hv => ?_) (by rw [List.length_map]; exact hL) fun h' h'' tk out n kp kp2 hB hp hs => ?_
  · obtain ⟨t, ns, rfl, e⟩ := at_ v hv
    exact ⟨_, tup_key I e⟩
  · have I1 : Inv X pins σ H { s with heap := h', toks := tk } := I.kept kp
    -- what the result's items are
    have key : ∀ {zs : List Value}, (∀ v ∈ zs, ∃ (t : Addr) (ns : List Int), v = Value.ref t ∧ H t = some (.tup (ns.map V.int))) → ∃ us mss, zs = us.map Value.ref ∧ Paired (fun (t : Addr) (ns : List Int) => H t = some (.tup (ns.map V.int))) us mss := by
      intro zs
      induction zs with
      | nil => exact fun _ => ⟨[], [], rfl, .nil⟩
      | cons v zs ih =>
        intro h
        obtain ⟨t, ns, rfl, e⟩ := h v (.head _)
        obtain ⟨us, mss, rfl, p⟩ := ih fun v hv => h v (.tail _ hv)
        exact ⟨t :: us, ns :: mss, rfl, .cons e p⟩
    obtain ⟨us, mss, rfl, pu⟩ := key fun v hv => at_ v (hp.mem_iff.mp hv)
    let f : Value → List Int := fun v => ((tupKeyC s.heap noS v).getD []).map fun z => match z with | .inl i => i | .inr _ => 0
    have hf : ∀ {t : Addr} {ns : List Int}, H t = some (.tup (ns.map V.int)) → f (.ref t) = ns := fun {t ns} e => by
      show ((tupKeyC s.heap noS (.ref t)).getD []).map _ = ns
      rw [tup_key I e]
      rw [Option.getD_some, List.map_map]
      exact List.map_id ns
    have map_f : ∀ {us : List Addr} {mss : List (List Int)}, Paired (fun (t : Addr) (ns : List Int) => H t = some (.tup (ns.map V.int))) us mss → (us.map Value.ref).map f = mss := fun {us mss} p => by
      induction p with
      | nil => rfl
      | cons h _ ih => simp only [List.map_cons]; rw [hf h]; simpa using ih
    have hperm : mss.Perm nss := by
      rw [← map_f pu, ← map_f pr]
      exact hp.map f
    have hsort : mss.Pairwise (fun a b => ltI b a = false) := by
      rw [← map_f pu, List.pairwise_map]
      refine List.Pairwise.imp_of_mem (fun {u v} hu hv h => ?_) hs
      obtain ⟨t, ht, rfl⟩ := List.mem_map.mp hu
      obtain ⟨t2, ht2, rfl⟩ := List.mem_map.mp hv
      obtain ⟨_, ns, _, _, e⟩ := LiI.paired_ix pu ht
      obtain ⟨_, ns2, _, _, e2⟩ := LiI.paired_ix pu ht2
      rw [hf e, hf e2, ← ltI_lex]
      exact h _ _ (tup_key I e) (tup_key I e2)
    have hlu : us.length ≤ sizeLine := by
      have := hp.length_eq
      rw [List.length_map, List.length_map] at this
      omega
    exact ⟨.ref h'.objs.size, upd H h'.objs.size (.lst (us.map V.ref)), I1.laid (t' := tk) kp2 (Nat.le_refl _) ⟨by rw [List.length_map]; exact hlu, us.map Value.ref, n, LiI.vals_refs us, hB⟩, rfl, q us mss _ hperm hsort pu (I1.hok.fresh (Nat.le_refl _))⟩
def rSortTL (K : PySem.W.Frag) : List V → Hp → VK → Prop := fun vs H Q => ∃ (a : Addr) (ts : List Addr) (nss : List (List Int)), vs = [V.ref a] ∧ SqL K H a (ts.map V.ref) ∧ Paired (fun (t : Addr) (ns : List Int) => H t = some (.tup (ns.map V.int))) ts nss ∧ (2 ≤ nss.length → ∀ ns ∈ nss, ns ≠ []) ∧
  ∀ (us : List Addr) (mss : List (List Int)) p, mss.Perm nss → mss.Pairwise (fun a b => ltI b a = false) → Paired (fun (t : Addr) (ns : List Int) => H t = some (.tup (ns.map V.int))) us mss → H p = none → Q (.ref p) (upd H p (.lst (us.map V.ref)))
theorem cr_sortTL : CallR X (.builtin "sorted") (rSortTL X.K) := by
  intro pins s σ H vs us Q I r h
  obtain ⟨a, ts, nss, rfl, hs, pr, hne, q⟩ := h
  obtain ⟨its, rv, pl, hz⟩ := I.list hs
  rw [Vals.ref1 r]
  have ei := refs_at rv
  subst ei
  rw [List.length_map] at hz
  refine sorted_core I pr hne hz (fun {R} k => ?_) q
  refine collect_list (vs := ts.map Value.ref) pl.isList (k _ _ fun b o e => ?_) (by rw [List.length_map]; exact hz)
  exact (Heap.get?_update_other _ _ (Nat.ne_of_gt (Heap.lt_size e))).trans (Heap.get?_push_of_some _ e)
def rSortTD : List V → Hp → VK → Prop := fun vs H Q => ∃ (a : Addr) (kvs : List (List Key × V)) (nss : List (List Int)), vs = [V.ref a] ∧ Rd H a (.dT kvs) ∧ kvs.map (·.1) = nss.map (List.map Sum.inl) ∧ (2 ≤ nss.length → ∀ ns ∈ nss, ns ≠ []) ∧
  ∀ (us : List Addr) (mss : List (List Int)) p, mss.Perm nss → mss.Pairwise (fun a b => ltI b a = false) → Paired (fun (t : Addr) (ns : List Int) => H t = some (.tup (ns.map V.int))) us mss → H p = none → Q (.ref p) (upd H p (.lst (us.map V.ref)))
theorem cr_sortTD (hc : X.calm = true) : CallR X (.builtin "sorted") rSortTD := by
  intro pins s σ H vs us Q I r h
  obtain ⟨a, kvs, nss, rfl, hd, hk, hne, q⟩ := h
  rw [Vals.ref1 r]
  obtain ⟨z, hs, ks, pr, o, es, ep, ho, hx, hdt, he, hn⟩ := (show ObjOk X.prog X.w H s.heap a (.dT kvs) from hd.ok I.hok)
  have l1 : es.size = ks.length := size_of_entries he
  have l2 : kvs.length = ks.length := Paired.length pr
  have lk : kvs.length = nss.length := by have := congrArg List.length hk; simpa using this
  have pt : Paired (fun (t : Addr) (ns : List Int) => H t = some (.tup (ns.map V.int))) (ks.map fun x => x.2.1) nss := paired_of (by simp; omega) fun j t ns e1 e2 => by
    rw [List.getElem?_map, Option.map_eq_some_iff] at e1
    obtain ⟨x, e1, rfl⟩ := e1
    obtain ⟨p, hp, h1, h2, _⟩ := pget' pr e1
    have : (kvs.map (·.1))[j]? = some p.1 := by rw [List.getElem?_map, hp]; rfl
    rw [hk, List.getElem?_map, e2] at this
    have hp1 : ns.map Sum.inl = p.1 := Option.some.inj this
    rw [h2, ← hp1, List.map_map]
    rfl
  refine sorted_core I pt hne (by rw [List.length_map]; omega) (fun {R} k => ?_) q
  refine PySem.W.kdu_collect (A := X.A.in1) (kdl_raw hs hx hdt) (I.ok.hd hc) ho (by omega) fun h' tk acc hk' hacc => ?_
  have ea : acc.toList = (ks.map fun x => x.2.1).map Value.ref := by
    refine List.ext_getElem? fun j => ?_
    rw [List.getElem?_map, List.getElem?_map]
    cases hj : acc.toList[j]? with
    | none =>
      have h1 := List.getElem?_eq_none_iff.mp hj
      rw [Array.length_toList, hacc.1] at h1
      rw [List.getElem?_eq_none (by omega)]
      rfl
    | some v =>
      obtain ⟨en, hen, hv⟩ := hacc.2 j v (by rw [← Array.getElem?_toList]; exact hj)
      have qe := entry_at he j
      rw [hen] at qe
      cases hb : ks[j]? with
      | none => rw [hb] at qe; cases qe
      | some b =>
        rw [hb] at qe
        have e2 : en = entryOfKey (tupleKind (mixKind X.prog X.w)) b := Option.some.inj qe
        rw [hv, e2]
        rfl
  rw [ea]
  exact k h' tk hk'
/-! by data -/
def tupsI : List D → Option (List (List Int))
  | [] => some []
  | .tup ds :: r => match D.keys ds, tupsI r with
    | some ks, some t => if ks.all (fun k => match k with | .inl _ => true | .inr _ => false) then some ((ks.map fun k => match k with | .inl i => i | .inr _ => 0) :: t) else none
    | _, _ => none
  | _ => none
end
section
variable {X : Cx} {K : PySem.W.Frag} {T : TM} {H : Hp}
theorem rep_tupI {ns : List Int} {v : V} (h : RepV K T H (tupI ns) v) : ∃ t, v = .ref t ∧ T t = some .fz ∧ H t = some (.tup (ns.map V.int)) := by
  obtain ⟨a, ys, rfl, s, r⟩ := (View.of h).tup
  have : ∀ {ns : List Int} {ys : List V}, RepL K T H (ns.map D.int) ys → ys = ns.map V.int := fun {ns} => by
    induction ns with
    | nil => intro ys h; simpa [RepL] using h
    | cons n ns ih =>
      intro ys h
      obtain ⟨x, r, rfl, h1, h2⟩ := h.cons_inv
      rw [ih h2]
      have h1 : x = .int n := by simpa only [RepV] using h1
      rw [h1]; rfl
  rw [this r] at s
  exact ⟨a, rfl, s.1, s.2⟩
theorem rep_tupIs : ∀ {nss : List (List Int)} {ys : List V}, RepL K T H (nss.map tupI) ys → ∃ ts, ys = ts.map V.ref ∧ Paired (fun (t : Addr) (ns : List Int) => H t = some (.tup (ns.map V.int))) ts nss
  | [], ys, h => by simp only [List.map_nil, RepL] at h; subst h; exact ⟨[], rfl, .nil⟩
  | ns :: nss, ys, h => by
    obtain ⟨x, r, rfl, h1, h2⟩ := h.cons_inv
    obtain ⟨t, rfl, _, h3⟩ := rep_tupI h1
    obtain ⟨ts, rfl, p⟩ := rep_tupIs h2
    exact ⟨t :: ts, rfl, .cons h3 p⟩
theorem fz_tupIs (K : PySem.W.Frag) : ∀ {ts : List Addr} {nss : List (List Int)} {T : TM}, Good T H → Paired (fun (t : Addr) (ns : List Int) => H t = some (.tup (ns.map V.int))) ts nss → ∃ T', Gr T H T' H ∧ RepL K T' H (nss.map tupI) (ts.map V.ref)
  | _, _, T, g, .nil => ⟨T, Gr.refl g, .nil⟩
  | _, _, T, g, .cons (b := ns) h t => by
    obtain ⟨T1, g1, tf⟩ := fz_tup g h
    obtain ⟨T2, g2, r⟩ := fz_tupIs K g1.fr.good t
    refine ⟨T2, g1.trans g2, .cons ?_ r⟩
    show RepV _ _ _ (.tup _) _
    simp only [RepV]
    have : ∀ ns : List Int, RepL K T2 H (ns.map D.int) (ns.map V.int) := fun ns => by
      induction ns with
      | nil => exact .nil
      | cons n ns ih => exact .cons (by show RepV _ _ _ _ _; simp [RepV]) ih
    exact ⟨_, _, rfl, tf.mono g2.fr.le, this ns⟩
/-- sorted(xs): tuples of ints, in a list or the keys of a dict; ints in a list -/
def gSorted (d : D) (q : R → Prop) : Prop := match d with
  | .lst ds => (∃ nss : List (List Int), ds = nss.map tupI ∧ (2 ≤ nss.length → ∀ ns ∈ nss, ns ≠ []) ∧ ∀ mss : List (List Int), mss.Perm nss → mss.Pairwise (fun a b => ltI b a = false) → q (.own (.lst (mss.map tupI)))) ∨
    ∃ ns : List Int, ds = ns.map .int ∧ ∀ ms : List Int, ms.Perm ns → ms.Pairwise (· ≤ ·) → q (.own (.lst (ms.map .int)))
  | .dt ks _ => ∃ nss : List (List Int), ks = nss.map (List.map Sum.inl) ∧ (2 ≤ nss.length → ∀ ns ∈ nss, ns ≠ []) ∧ ∀ mss : List (List Int), mss.Perm nss → mss.Pairwise (fun a b => ltI b a = false) → q (.own (.lst (mss.map tupI)))
  | _ => False
theorem rep_ints {ns : List Int} {ys : List V} (h : RepL K T H (ns.map D.int) ys) : ys = ns.map V.int := by
  induction ns generalizing ys with
  | nil => simpa [RepL] using h
  | cons n ns ih =>
    obtain ⟨x, r, rfl, h1, h2⟩ := h.cons_inv
    rw [ih h2]
    have h1 : x = .int n := by simpa only [RepV] using h1
    rw [h1]; rfl
theorem ints_rep : ∀ {ns : List Int}, RepL K T H (ns.map D.int) (ns.map V.int)
  | [] => .nil
  | n :: ns => .cons (by show RepV _ _ _ _ _; simp [RepV]) ints_rep
theorem cSorted (hc : X.calm = true) : CallD X (.builtin "sorted") (g1 gSorted) := CallD.of1 ((cr_sortTL.or (cr_sortTD hc)).or cr_sortedI) fun T H σ d v Q q g hv hg k => by
  have fin : ∀ (us : List Addr) (mss : List (List Int)) p, Paired (fun (t : Addr) (ns : List Int) => H t = some (.tup (ns.map V.int))) us mss → H p = none → q (.own (.lst (mss.map tupI))) → Q (.ref p) (upd H p (.lst (us.map V.ref))) := fun us mss p pu hp z => by
    obtain ⟨T1, g1, r1⟩ := fz_tupIs X.K g pu
    exact k _ _ (.own (.lst (mss.map tupI))) _ (g1.trans (Gr.new g1.fr.good hp)) ((new_lst g1.fr.good hp r1).pre g1.fr) z
  cases d <;> first | exact hg.elim | skip
  · obtain ⟨a, ys, rfl, s, r⟩ := hv.lst
    rcases hg with ⟨nss, rfl, hne, hq⟩ | ⟨ns, rfl, hq⟩
    · obtain ⟨ts, rfl, pr⟩ := rep_tupIs r
      exact .inl (.inl ⟨a, ts, nss, rfl, SqL.of s, pr, hne, fun us mss p h1 h2 pu hp => fin us mss p pu hp (hq mss h1 h2)⟩)
    · rw [rep_ints r] at s
      refine .inr ⟨a, ns, rfl, SqL.of s, fun ns' p h1 h2 hp => ?_⟩
      exact k _ _ (.own (.lst (ns'.map D.int))) _ (Gr.new g hp) (new_lst g hp ints_rep) (hq ns' h1 h2)
  · obtain ⟨a, kvs, rfl, s, hk, r⟩ := hv
    obtain ⟨nss, e, hne, hq⟩ := hg
    exact .inl (.inr ⟨a, kvs, nss, rfl, s, hk.trans e, hne, fun us mss p h1 h2 pu hp => fin us mss p pu hp (hq mss h1 h2)⟩)
end
end DL

end DlR
section DlS
set_option Elab.async false
set_option linter.all false
set_option maxRecDepth 100000
set_option maxHeartbeats 4000000
/-! DlS: zip of lists and tuples, mixed. (written by gen_zip.py) -/
namespace ZQ
open PySem
open PySem.Sem (wp)
def SeqIt (b : Bool) (h : Heap) (it l : Addr) (k : Nat) : Prop := if b = true then h.IsListIter it l k else h.IsTupleIter it l k
def SeqAt (b : Bool) (h : Heap) (l : Addr) (xs : Array Value) : Prop := if b = true then h.IsList l xs else h.IsTuple l xs
theorem SeqIt.at {b : Bool} {h h' : Heap} {a l : Addr} {i : Nat} (x : SeqIt b h a l i) (e : ∀ o, h.get? a = some o → h'.get? a = some o) : SeqIt b h' a l i := by
  cases b
  · exact Heap.IsTupleIter.at x e
  · exact Heap.IsListIter.at x e
theorem SeqIt.extBut {b : Bool} {h h' : Heap} {a c l : Addr} {i : Nat} (x : SeqIt b h a l i) (hs : Heap.ExtBut c h h') (hab : a ≠ c) : SeqIt b h' a l i := by
  cases b
  · exact Heap.IsTupleIter.extBut x hs hab
  · exact Heap.IsListIter.extBut x hs hab
theorem SeqAt.extBut {b : Bool} {h h' : Heap} {a c : Addr} {xs : Array Value} (x : SeqAt b h a xs) (hs : Heap.ExtBut c h h') (hab : a ≠ c) : SeqAt b h' a xs := by
  cases b
  · exact Heap.IsTuple.extBut x hs hab
  · exact Heap.IsList.extBut x hs hab
theorem SeqIt.obj {b : Bool} {h : Heap} {a l : Addr} {i : Nat} (x : SeqIt b h a l i) : ∃ o, h.get? a = some o ∧ ∀ v, o.data ≠ .cell v := by
  cases b
  · obtain ⟨o, e, _, d⟩ := (show h.IsTupleIter a l i from x)
    exact ⟨o, e, fun v q => by rw [d] at q; cases q⟩
  · obtain ⟨o, e, _, d⟩ := (show h.IsListIter a l i from x)
    exact ⟨o, e, fun v q => by rw [d] at q; cases q⟩
theorem SeqIt.lt {b : Bool} {h : Heap} {a l : Addr} {i : Nat} (x : SeqIt b h a l i) : a < h.objs.size := let ⟨_, e, _⟩ := x.obj; Heap.lt_size e
section
variable {prog : Program} {w : World} {A : Around} {E : Value → Shared → Prop} {s : Shared} {b1 b2 : Bool}
theorem nextOf_some {b : Bool} {it l : Addr} {i : Nat} {items} {x : Value} {Q : Value → Shared → Prop} (hit : SeqIt b s.heap it l i) (hl : SeqAt b s.heap l items) (hx : items[i]? = some x)
    (hQ : ∀ h', SeqIt b h' it l (i + 1) → Heap.SameBut it s.heap h' → Q x { s with heap := h' }) : wpAny (model prog w) A (Builtin.SmallTypes.nextOf (.ref it)) Q E s := by
  cases b
  · exact RZ.nextOf_tuple_item hit hl hx hQ
  · exact wpAny_nextOf_list_item hit hl hx hQ
theorem nextOf_none {b : Bool} {it l : Addr} {i : Nat} {items} {Q : Value → Shared → Prop} (hh : A.handled = none) (hit : SeqIt b s.heap it l i) (hl : SeqAt b s.heap l items) (hx : items[i]? = none)
    (hE : ∀ h' e, Heap.ExtBut it s.heap h' → (∃ o, h'.get? e = some o ∧ o.cls = .type "StopIteration") → E (.ref e) { s with heap := h' }) : wpAny (model prog w) A (Builtin.SmallTypes.nextOf (.ref it)) Q E s := by
  cases b
  · exact RZ.nextOf_tuple_end hh hit hl hx hE
  · exact wpAny_nextOf_list_end hh hit hl hx hE
theorem zq_next {z TI TO i1 i2 l1 l2 : Addr} {k1 k2 : Nat} {xs ys : Array Value} {x y a b : Value} {Q : Value → Shared → Prop} (D : ZipApart z TI TO i1 i2 l1 l2)
    (zz : IsZip s.heap z TI TO .none) (pTI : IsPair s.heap TI (.ref i1) (.ref i2)) (pTO : IsPair s.heap TO a b)
    (h1 : SeqIt b1 s.heap i1 l1 k1) (h2 : SeqIt b2 s.heap i2 l2 k2) (hl1 : SeqAt b1 s.heap l1 xs) (hl2 : SeqAt b2 s.heap l2 ys) (hx : xs[k1]? = some x) (hy : ys[k2]? = some y)
    (hQ : ∀ h', IsZip h' z TI TO (rawInt s.heap.objs.size) → IsPair h' TO x y → SeqIt b1 h' i1 l1 (k1 + 1) → SeqIt b2 h' i2 l2 (k2 + 1) → IsPair h' s.heap.objs.size x y → h'.objs.size = s.heap.objs.size + 1 →
      (∀ c o, c ≠ z → c ≠ TO → c ≠ i1 → c ≠ i2 → s.heap.get? c = some o → h'.get? c = some o) → Q (.ref s.heap.objs.size) { s with heap := h' }) :
    wpAny (model prog w) A (Builtin.«zip.__next__» ⟨[.ref z], []⟩) (fun fin s' => ∃ v, fin = .done (.ret v) ∧ Q v s') E s := by
  show wpAny _ _ (field (.ref z) 2 >>= _) _ _ _
  refine wpAny_bind <| (wpAny_field zz rfl (x := .bool false) rfl ?_)
  show wpAny _ _ (field (.ref z) 3 >>= _) _ _ _
  refine wpAny_bind <| (wpAny_field zz rfl (x := .ref TI) rfl ?_)
  refine wpAny_bind <| (wpAny_seqItems pTI rfl ?_)
  show wpAny _ _ (Builtin.SmallTypes.ownedTupleIsFree (.ref z) >>= _) _ _ _
  refine wpAny_bind ?_
  unfold Builtin.SmallTypes.ownedTupleIsFree
  refine wpAny_bind <| (wpAny_field zz rfl (x := .none) rfl (wpAny_pure ?_))
  simp only [if_true]
  refine wpAny_bind <| (wpAny_rule ?_)
  refine wpAny_bind <| (wpAny_field zz rfl (x := .ref TO) rfl ?_)
  refine wpAny_bind <| (wpAny_setField_rec zz (by simp) fun g₁ zz₁ ss₁ => ?_)
  replace zz₁ : IsZip g₁ z TI TO .ellipsis := zz₁
  refine wpAny_bind ?_
  simp only [List.zipIdx_cons, List.zipIdx_nil, List.forIn_cons, List.forIn_nil]

  refine wpAny_bind <| (wpAny_bind (wpAny_onRaise ?_))
  show wpAny _ _ (Builtin.SmallTypes.nextOf (.ref i1) >>= _) _ _ _
  refine wpAny_bind <| (nextOf_some (h1.extBut ss₁.extBut D.i1z) (hl1.extBut ss₁.extBut D.l1z) hx fun g₂ h1₂ ss₂ => wpAny_pure ?_)
  have pTO₂ : IsPair g₂ TO a b := ss₂.extBut _ _ D.TOi1 (ss₁.extBut _ _ D.TOz pTO)
  refine wpAny_bind <| (wpAny_seqItems pTO₂ rfl ?_)
  refine wpAny_bind <| (wpAny_updateSeq_pair pTO₂ fun g₃ pTO₃ ss₃ => ?_)
  replace pTO₃ : IsPair g₃ TO x b := pTO₃
  refine wpAny_bind <| (wpAny_letGo (wpAny_pure ?_))

  refine wpAny_bind <| (wpAny_bind (wpAny_onRaise ?_))
  show wpAny _ _ (Builtin.SmallTypes.nextOf (.ref i2) >>= _) _ _ _
  refine wpAny_bind <| (nextOf_some (((h2.extBut ss₁.extBut D.i2z).extBut ss₂.extBut D.i12.symm).extBut ss₃.extBut D.TOi2.symm)
    (((hl2.extBut ss₁.extBut D.l2z).extBut ss₂.extBut D.l2i1).extBut ss₃.extBut D.l2TO) hy fun g₄ h2₄ ss₄ => wpAny_pure ?_)
  have pTO₄ : IsPair g₄ TO x b := ss₄.extBut _ _ D.TOi2 pTO₃
  refine wpAny_bind <| (wpAny_seqItems pTO₄ rfl ?_)
  refine wpAny_bind <| (wpAny_updateSeq_pair pTO₄ fun g₅ pTO₅ ss₅ => ?_)
  replace pTO₅ : IsPair g₅ TO x y := pTO₅
  refine wpAny_bind <| (wpAny_letGo (wpAny_pure (wpAny_pure ?_)))

  refine wpAny_bind <| (wpAny_seqItems pTO₅ rfl ?_)
  refine wpAny_bind <| (wpAny_newTuple ?_)
  have ssz : g₅.objs.size = s.heap.objs.size := by rw [ss₅.1, ss₄.1, ss₃.1, ss₂.1, ss₁.1]
  have zz₅ : IsZip g₅ z TI TO .ellipsis := ss₅.extBut _ _ D.TOz.symm (ss₄.extBut _ _ D.i2z.symm (ss₃.extBut _ _ D.TOz.symm (ss₂.extBut _ _ D.i1z.symm zz₁)))
  have hk₅ : ∀ c o, c ≠ z → c ≠ TO → c ≠ i1 → c ≠ i2 → s.heap.get? c = some o → g₅.get? c = some o := fun c o c1 c2 c3 c4 e =>
    ss₅.extBut _ _ c2 (ss₄.extBut _ _ c4 (ss₃.extBut _ _ c2 (ss₂.extBut _ _ c3 (ss₁.extBut _ _ c1 e))))
  have h1₅ : SeqIt b1 g₅ i1 l1 (k1 + 1) := ((h1₂.extBut ss₃.extBut D.TOi1.symm).extBut ss₄.extBut D.i12).extBut ss₅.extBut D.TOi1.symm
  have h2₅ : SeqIt b2 g₅ i2 l2 (k2 + 1) := h2₄.extBut ss₅.extBut D.TOi2.symm
  have zzlt : z < g₅.objs.size := Heap.lt_size zz₅
  have pTOlt : TO < g₅.objs.size := Heap.lt_size pTO₅
  have hi1lt : i1 < g₅.objs.size := SeqIt.lt h1₅
  have hi2lt : i2 < g₅.objs.size := SeqIt.lt h2₅
  show wpAny _ _ (Builtin.SmallTypes.ownedTupleHandOut (.ref z) (.ref g₅.objs.size) >>= _) _ _ _
  refine wpAny_bind ?_
  unfold Builtin.SmallTypes.ownedTupleHandOut
  have zz₆ : IsZip (g₅.push { cls := .type "tuple", data := .seq #[x, y] }) z TI TO .ellipsis := Heap.get?_push_of_some _ zz₅
  refine wpAny_bind <| (wpAny_setField_rec zz₆ (by simp) fun g₇ zz₇ ss₇ => ?_)
  replace zz₇ : IsZip g₇ z TI TO (rawInt g₅.objs.size) := zz₇
  refine wpAny_setField_rec zz₇ (by simp) fun g₈ zz₈ ss₈ => ?_
  replace zz₈ : IsZip g₈ z TI TO (rawInt g₅.objs.size) := zz₈
  have up : ∀ c o, c ≠ z → g₅.get? c = some o → g₈.get? c = some o := fun c o c1 e => ss₈.extBut _ _ c1 (ss₇.extBut _ _ c1 (Heap.get?_push_of_some _ e))
  have hT₈ : IsPair g₈ g₅.objs.size x y := ss₈.extBut _ _ (Nat.ne_of_gt zzlt) (ss₇.extBut _ _ (Nat.ne_of_gt zzlt) (Heap.get?_push_size _ rfl))
  have zzz8 : g₈.objs.size = g₅.objs.size + 1 := by rw [ss₈.1, ss₇.1, Heap.size_push]
  rw [ssz] at zz₈ hT₈ zzz8
  refine wpAny_pure ⟨_, rfl, ?_⟩
  show Q (.ref g₅.objs.size) _
  rw [ssz]
  exact hQ g₈ zz₈ (up _ _ D.TOz pTO₅) (h1₅.at fun o e => up _ o D.i1z e) (h2₅.at fun o e => up _ o D.i2z e) hT₈ zzz8 fun c o c1 c2 c3 c4 e => up c o c1 (hk₅ c o c1 c2 c3 c4 e)

theorem zq_stop {z TI TO i1 i2 l1 l2 : Addr} {k1 k2 : Nat} {xs ys : Array Value} {a b : Value} {Q : Fin → Shared → Prop} (hh : A.handled = none) (D : ZipApart z TI TO i1 i2 l1 l2)
    (zz : IsZip s.heap z TI TO .none) (pTI : IsPair s.heap TI (.ref i1) (.ref i2)) (pTO : IsPair s.heap TO a b)
    (h1 : SeqIt b1 s.heap i1 l1 k1) (h2 : SeqIt b2 s.heap i2 l2 k2) (hl1 : SeqAt b1 s.heap l1 xs) (hl2 : SeqAt b2 s.heap l2 ys) (hend : xs[k1]? = none ∨ ys[k2]? = none)
    (hE : ∀ h' e, (∀ c o, c ≠ z → c ≠ TO → c ≠ i1 → c ≠ i2 → s.heap.get? c = some o → h'.get? c = some o) → (∃ o, h'.get? e = some o ∧ o.cls = .type "StopIteration") → E (.ref e) { s with heap := h' }) :
    wpAny (model prog w) A (Builtin.«zip.__next__» ⟨[.ref z], []⟩) Q E s := by
  show wpAny _ _ (field (.ref z) 2 >>= _) _ _ _
  refine wpAny_bind <| (wpAny_field zz rfl (x := .bool false) rfl ?_)
  show wpAny _ _ (field (.ref z) 3 >>= _) _ _ _
  refine wpAny_bind <| (wpAny_field zz rfl (x := .ref TI) rfl ?_)
  refine wpAny_bind <| (wpAny_seqItems pTI rfl ?_)
  show wpAny _ _ (Builtin.SmallTypes.ownedTupleIsFree (.ref z) >>= _) _ _ _
  refine wpAny_bind ?_
  unfold Builtin.SmallTypes.ownedTupleIsFree
  refine wpAny_bind <| (wpAny_field zz rfl (x := .none) rfl (wpAny_pure ?_))
  simp only [if_true]
  refine wpAny_bind <| (wpAny_rule ?_)
  refine wpAny_bind <| (wpAny_field zz rfl (x := .ref TO) rfl ?_)
  refine wpAny_bind <| (wpAny_setField_rec zz (by simp) fun g₁ zz₁ ss₁ => ?_)
  replace zz₁ : IsZip g₁ z TI TO .ellipsis := zz₁
  refine wpAny_bind ?_
  simp only [List.zipIdx_cons, List.zipIdx_nil, List.forIn_cons, List.forIn_nil]
  refine wpAny_bind <| (wpAny_bind (wpAny_onRaise ?_))
  show wpAny _ _ (Builtin.SmallTypes.nextOf (.ref i1) >>= _) _ _ _
  cases hx : xs[k1]? with
  | none =>
    refine wpAny_bind <| (nextOf_none hh (h1.extBut ss₁.extBut D.i1z) (hl1.extBut ss₁.extBut D.l1z) hx fun g₂ e ss₂ he => ?_)
    obtain ⟨oe, hoe, hce⟩ := he
    have zz₂ : IsZip g₂ z TI TO .ellipsis := ss₂ _ _ D.i1z.symm zz₁
    have hez : e ≠ z := fun x => by subst x; rw [zz₂] at hoe; cases hoe; simp at hce
    refine wpAny_setField_rec zz₂ (by simp) fun g₃ _ ss₃ => hE g₃ e (fun c o c1 _ c3 _ x => ss₃.extBut _ _ c1 (ss₂ _ _ c3 (ss₁.extBut _ _ c1 x))) ⟨oe, ss₃.extBut _ _ hez hoe, hce⟩
  | some x =>
    have hy : ys[k2]? = none := by rcases hend with h | h; rw [hx] at h; cases h; exact h
    refine wpAny_bind <| (nextOf_some (h1.extBut ss₁.extBut D.i1z) (hl1.extBut ss₁.extBut D.l1z) hx fun g₂ h1₂ ss₂ => wpAny_pure ?_)
    have pTO₂ : IsPair g₂ TO a b := ss₂.extBut _ _ D.TOi1 (ss₁.extBut _ _ D.TOz pTO)
    refine wpAny_bind <| (wpAny_seqItems pTO₂ rfl ?_)
    refine wpAny_bind <| (wpAny_updateSeq_pair pTO₂ fun g₃ pTO₃ ss₃ => ?_)
    refine wpAny_bind <| (wpAny_letGo (wpAny_pure ?_))
    refine wpAny_bind <| (wpAny_bind (wpAny_onRaise ?_))
    show wpAny _ _ (Builtin.SmallTypes.nextOf (.ref i2) >>= _) _ _ _
    refine wpAny_bind <| (nextOf_none hh (((h2.extBut ss₁.extBut D.i2z).extBut ss₂.extBut D.i12.symm).extBut ss₃.extBut D.TOi2.symm)
      (((hl2.extBut ss₁.extBut D.l2z).extBut ss₂.extBut D.l2i1).extBut ss₃.extBut D.l2TO) hy fun g₄ e ss₄ he => ?_)
    obtain ⟨oe, hoe, hce⟩ := he
    have zz₄ : IsZip g₄ z TI TO .ellipsis := ss₄ _ _ D.i2z.symm (ss₃.extBut _ _ D.TOz.symm (ss₂.extBut _ _ D.i1z.symm zz₁))
    have hez : e ≠ z := fun x => by subst x; rw [zz₄] at hoe; cases hoe; simp at hce
    refine wpAny_setField_rec zz₄ (by simp) fun g₅ _ ss₅ => hE g₅ e (fun c o c1 c2 c3 c4 x => ss₅.extBut _ _ c1 (ss₄ _ _ c4 (ss₃.extBut _ _ c2 (ss₂.extBut _ _ c3 (ss₁.extBut _ _ c1 x))))) ⟨oe, ss₅.extBut _ _ hez hoe, hce⟩

theorem zq_item {z TI TO i1 i2 l1 l2 : Addr} {k1 k2 : Nat} {xs ys : Array Value} {x y a b : Value} {Q : Option Value → Shared → Prop} (D : ZipApart z TI TO i1 i2 l1 l2)
    (zz : IsZip s.heap z TI TO .none) (pTI : IsPair s.heap TI (.ref i1) (.ref i2)) (pTO : IsPair s.heap TO a b)
    (h1 : SeqIt b1 s.heap i1 l1 k1) (h2 : SeqIt b2 s.heap i2 l2 k2) (hl1 : SeqAt b1 s.heap l1 xs) (hl2 : SeqAt b2 s.heap l2 ys) (hx : xs[k1]? = some x) (hy : ys[k2]? = some y)
    (hQ : ∀ h', IsZip h' z TI TO (rawInt s.heap.objs.size) → IsPair h' TO x y → SeqIt b1 h' i1 l1 (k1 + 1) → SeqIt b2 h' i2 l2 (k2 + 1) → IsPair h' s.heap.objs.size x y → h'.objs.size = s.heap.objs.size + 1 →
      (∀ c o, c ≠ z → c ≠ TO → c ≠ i1 → c ≠ i2 → s.heap.get? c = some o → h'.get? c = some o) → Q (some (.ref s.heap.objs.size)) { s with heap := h' }) :
    wpAny (model prog w) A (pyNext (.ref z)) Q E s := by
  have hT : s.TypeIs (.ref z) "zip" := ⟨_, zz, rfl⟩
  unfold pyNext
  exact wpAny_bind (wpAny_attempt (wpAny_callSpecial?_slot (name := Str.ofString "__next__") hT F.slot_zip_next
    (wpAny_call_entry F.slot_zip_next hT F.entry_zip_next
      (zq_next D zz pTI pTO h1 h2 hl1 hl2 hx hy fun h' a1 a2 a3 a4 a5 a6 a7 => wpAny_pure (hQ h' a1 a2 a3 a4 a5 a6 a7)) (F.args_zip_next_1 _))))

theorem zq_done {z TI TO i1 i2 l1 l2 : Addr} {k1 k2 : Nat} {xs ys : Array Value} {a b : Value} {Q : Option Value → Shared → Prop} (hh : A.handled = none) (D : ZipApart z TI TO i1 i2 l1 l2)
    (zz : IsZip s.heap z TI TO .none) (pTI : IsPair s.heap TI (.ref i1) (.ref i2)) (pTO : IsPair s.heap TO a b)
    (h1 : SeqIt b1 s.heap i1 l1 k1) (h2 : SeqIt b2 s.heap i2 l2 k2) (hl1 : SeqAt b1 s.heap l1 xs) (hl2 : SeqAt b2 s.heap l2 ys) (hend : xs[k1]? = none ∨ ys[k2]? = none)
    (hQ : ∀ h', (∀ c o, c ≠ z → c ≠ TO → c ≠ i1 → c ≠ i2 → s.heap.get? c = some o → h'.get? c = some o) → Q none { s with heap := h' }) : wpAny (model prog w) A (pyNext (.ref z)) Q E s := by
  have hT : s.TypeIs (.ref z) "zip" := ⟨_, zz, rfl⟩
  unfold pyNext
  refine wpAny_bind <| (wpAny_attempt (wpAny_callSpecial?_slot (name := Str.ofString "__next__") hT F.slot_zip_next
    (wpAny_call_entry F.slot_zip_next hT F.entry_zip_next (zq_stop hh D zz pTI pTO h1 h2 hl1 hl2 hend fun h' e hk he => ?_) (F.args_zip_next_1 _))))
  obtain ⟨o, ho, hc⟩ := he
  refine wpAny_bind <| (wpAny_isInstance (T := "StopIteration") (b := true) ⟨o, ho, hc⟩ isSubtype_stop ?_)
  exact wpAny_pure (hQ _ hk)
end


def itO (b : Bool) (l : Addr) : Obj := { cls := .type (if b = true then "list_iterator" else "tuple_iterator"), data := .fields #[.ref l, .int 0 0] }
abbrev zq1 (h : Heap) (b1 : Bool) (l1 : Addr) : Heap := h.push (itO b1 l1)
abbrev zq2 (h : Heap) (b1 b2 : Bool) (l1 l2 : Addr) : Heap := (zq1 h b1 l1).push (itO b2 l2)
abbrev zq3 (h : Heap) (b1 b2 : Bool) (l1 l2 : Addr) : Heap := (zq2 h b1 b2 l1 l2).push { cls := .type "tuple", data := .seq #[.ref h.objs.size, .ref (zq1 h b1 l1).objs.size] }
abbrev zq4 (h : Heap) (b1 b2 : Bool) (l1 l2 : Addr) : Heap := (zq3 h b1 b2 l1 l2).push { cls := .type "tuple", data := .seq #[.none, .none] }
abbrev zq5 (h : Heap) (b1 b2 : Bool) (l1 l2 : Addr) : Heap := (zq4 h b1 b2 l1 l2).push { cls := .type "zip", data := .fields #[.none, .bool false, .bool false, .ref (zq2 h b1 b2 l1 l2).objs.size, .ref (zq3 h b1 b2 l1 l2).objs.size] }
theorem SeqAt.push {b : Bool} {h : Heap} {l : Addr} {xs : Array Value} (x : SeqAt b h l xs) (o : Obj) : SeqAt b (h.push o) l xs := by
  cases b
  · exact Heap.IsTuple.push x o
  · exact Heap.IsList.push x o
theorem meets_zq (b1 b2 : Bool) (l1 l2 : Addr) (xs ys : Array Value) :
    Meets (Builtin.«zip.__new__» ⟨[.type "zip", .ref l1, .ref l2], []⟩) (fun _ R s => SeqAt b1 s.heap l1 xs ∧ SeqAt b2 s.heap l2 ys ∧
      R (.ok (.ret (.ref (zq4 s.heap b1 b2 l1 l2).objs.size))) { s with heap := zq5 s.heap b1 b2 l1 l2 }) :=
  .of_wp fun prog w A R s h => by
    obtain ⟨hp, g, d, tk, os⟩ := s
    obtain ⟨hl1, hl2, h⟩ := h
    have hsub := sub_zip
    cases b1 <;> cases b2
    · have hL1 : Heap.IsTuple (Shared.heap ⟨hp, g, d, tk, os⟩) l1 xs := hl1
      have hL2 : Heap.IsTuple (Shared.heap ⟨hp.push { cls := .type "tuple_iterator", data := .fields #[.ref l1, .int 0 0] }, g, d, tk, os⟩) l2 ys := Heap.IsTuple.push hl2 _
      wp_walk using wpAny_pyIter_tuple hL1, wpAny_pyIter_tuple hL2
      exact ⟨_, rfl, h⟩
    · have hL1 : Heap.IsTuple (Shared.heap ⟨hp, g, d, tk, os⟩) l1 xs := hl1
      have hL2 : Heap.IsList (Shared.heap ⟨hp.push { cls := .type "tuple_iterator", data := .fields #[.ref l1, .int 0 0] }, g, d, tk, os⟩) l2 ys := Heap.IsList.push hl2 _
      wp_walk using wpAny_pyIter_tuple hL1, wpAny_pyIter_list hL2
      exact ⟨_, rfl, h⟩
    · have hL1 : Heap.IsList (Shared.heap ⟨hp, g, d, tk, os⟩) l1 xs := hl1
      have hL2 : Heap.IsTuple (Shared.heap ⟨hp.push { cls := .type "list_iterator", data := .fields #[.ref l1, .int 0 0] }, g, d, tk, os⟩) l2 ys := Heap.IsTuple.push hl2 _
      wp_walk using wpAny_pyIter_list hL1, wpAny_pyIter_tuple hL2
      exact ⟨_, rfl, h⟩
    · have hL1 : Heap.IsList (Shared.heap ⟨hp, g, d, tk, os⟩) l1 xs := hl1
      have hL2 : Heap.IsList (Shared.heap ⟨hp.push { cls := .type "list_iterator", data := .fields #[.ref l1, .int 0 0] }, g, d, tk, os⟩) l2 ys := Heap.IsList.push hl2 _
      wp_walk using wpAny_pyIter_list hL1, wpAny_pyIter_list hL2
      exact ⟨_, rfl, h⟩
theorem itO_at {b : Bool} {h : Heap} {a l : Addr} (e : h.get? a = some (itO b l)) : SeqIt b h a l 0 := by
  cases b
  · exact (show h.IsTupleIter a l 0 from ⟨_, e, rfl, rfl⟩)
  · exact (show h.IsListIter a l 0 from ⟨_, e, rfl, rfl⟩)
section
variable {prog : Program} {w : World} {A : Around} {E : Value → Shared → Prop} {s : Shared} {b1 b2 : Bool}
theorem call_zq {l1 l2 : Addr} {xs ys : Array Value} {Q : Value → Shared → Prop} (hl1 : SeqAt b1 s.heap l1 xs) (hl2 : SeqAt b2 s.heap l2 ys)
    (h : ∀ h' : Heap, IsZip h' (s.heap.objs.size + 4) (s.heap.objs.size + 2) (s.heap.objs.size + 3) .none → IsPair h' (s.heap.objs.size + 2) (.ref s.heap.objs.size) (.ref (s.heap.objs.size + 1)) →
      IsPair h' (s.heap.objs.size + 3) .none .none → SeqIt b1 h' s.heap.objs.size l1 0 → SeqIt b2 h' (s.heap.objs.size + 1) l2 0 → h'.objs.size = s.heap.objs.size + 5 →
      (∀ c o, s.heap.get? c = some o → h'.get? c = some o) → Q (.ref (s.heap.objs.size + 4)) { s with heap := h' }) :
    wpAny (model prog w) A (call (.type "zip") [.ref l1, .ref l2]) Q E s := by
  apply callType_new F.called_zip (by decide) (F.typeCall_zip_2 _ _) (F.newCall_zip_2 _ _) (fun obj => F.args_object_init_3 obj _ _) F.entry_zip_new (meets_zq b1 b2 l1 l2 xs ys)
  refine ⟨hl1, hl2, ?_⟩
  have n1 : (zq1 s.heap b1 l1).objs.size = s.heap.objs.size + 1 := Heap.size_push ..
  have n2 : (zq2 s.heap b1 b2 l1 l2).objs.size = s.heap.objs.size + 2 := by rw [Heap.size_push, n1]
  have n3 : (zq3 s.heap b1 b2 l1 l2).objs.size = s.heap.objs.size + 3 := by rw [Heap.size_push, n2]
  have n4 : (zq4 s.heap b1 b2 l1 l2).objs.size = s.heap.objs.size + 4 := by rw [Heap.size_push, n3]
  have n5 : (zq5 s.heap b1 b2 l1 l2).objs.size = s.heap.objs.size + 5 := by rw [Heap.size_push, n4]
  have up1 : ∀ {c o}, (zq4 s.heap b1 b2 l1 l2).get? c = some o → (zq5 s.heap b1 b2 l1 l2).get? c = some o := fun e => Heap.get?_push_of_some _ e
  have up2 : ∀ {c o}, (zq3 s.heap b1 b2 l1 l2).get? c = some o → (zq5 s.heap b1 b2 l1 l2).get? c = some o := fun e => up1 (Heap.get?_push_of_some _ e)
  have up3 : ∀ {c o}, (zq2 s.heap b1 b2 l1 l2).get? c = some o → (zq5 s.heap b1 b2 l1 l2).get? c = some o := fun e => up2 (Heap.get?_push_of_some _ e)
  have up4 : ∀ {c o}, (zq1 s.heap b1 l1).get? c = some o → (zq5 s.heap b1 b2 l1 l2).get? c = some o := fun e => up3 (Heap.get?_push_of_some _ e)
  have k5 : (zq5 s.heap b1 b2 l1 l2).get? (zq4 s.heap b1 b2 l1 l2).objs.size = some _ := Heap.get?_push_size _ rfl
  have k4 : (zq5 s.heap b1 b2 l1 l2).get? (zq3 s.heap b1 b2 l1 l2).objs.size = some _ := up1 (Heap.get?_push_size _ rfl)
  have k3 : (zq5 s.heap b1 b2 l1 l2).get? (zq2 s.heap b1 b2 l1 l2).objs.size = some _ := up2 (Heap.get?_push_size _ rfl)
  have k2 : (zq5 s.heap b1 b2 l1 l2).get? (zq1 s.heap b1 l1).objs.size = some (itO b2 l2) := up3 (Heap.get?_push_size _ rfl)
  have k1 : (zq5 s.heap b1 b2 l1 l2).get? s.heap.objs.size = some (itO b1 l1) := up4 (Heap.get?_push_size _ rfl)
  show _ ∧ _
  rw [n2, n3, n4] at k5
  rw [n1, n2] at k3
  rw [n3] at k4
  rw [n1] at k2
  rw [n4]
  exact ⟨⟨_, k5, rfl⟩, h _ k5 k3 k4 (itO_at k1) (itO_at k2) n5 fun c o x => up4 (Heap.get?_push_of_some _ x)⟩
end
end ZQ
namespace DL
open PySem PySem.Spec PyProof.Rows L2 ZQ
variable [TabEnv]
def SqX (b : Bool) (K : PySem.W.Frag) (H : Hp) (a : Addr) (xs : List V) : Prop := if b = true then SqL K H a xs else SqT K H a xs
section
variable {X : Cx} {pins : List (Addr × Obj)} {σ : L2.St} {H : Hp} {s : Shared}
theorem sqx_at {b : Bool} {a : Addr} {xs : List V} (I : Inv X pins σ H s) (h : SqX b X.K H a xs) : ∃ its, Vals xs its ∧ SeqAt b s.heap a its.toArray ∧ a < s.heap.objs.size := by
  cases b
  · obtain ⟨its, rv, p, _⟩ := I.tuple h
    obtain ⟨o, ho, _⟩ := id p
    exact ⟨its, rv, (show s.heap.IsTuple a its.toArray from p), Heap.lt_size ho⟩
  · obtain ⟨its, rv, p, _⟩ := I.list h
    exact ⟨its, rv, p.isList, p.lt⟩
theorem sqx_inj {b : Bool} {a : Addr} {xs ys : List V} (I : Inv X pins σ H s) (h : SqX b X.K H a xs) (h' : SqX b X.K H a ys) : xs = ys := by
  cases b
  · exact I.tuple_inj h h'
  · exact I.list_inj h h'
end
def ItQ (K : PySem.W.Frag) (b1 b2 : Bool) (a b : Addr) : It where
  go := fun i H => ∃ (xs ys : List V) (x y : V), SqX b1 K H a xs ∧ SqX b2 K H b ys ∧ xs[i]? = some x ∧ ys[i]? = some y
  yld := fun i H v H' => ∃ T x y, v = .ref T ∧ H T = none ∧ H' = upd H T (.tup [x, y]) ∧ (∀ xs, SqX b1 K H a xs → xs[i]? = some x) ∧ ∀ ys, SqX b2 K H b ys → ys[i]? = some y
  stop := fun i H => ∃ xs ys : List V, SqX b1 K H a xs ∧ SqX b2 K H b ys ∧ (xs.length ≤ i ∨ ys.length ≤ i)
theorem turn_zq {P : Program} {w : World} {K : PySem.W.Frag} {b1 b2 : Bool} {elts : List Expr} {kk : Nat} {tpos : Pos} {a b z TI TO i1 i2 : Addr} (D : ZipApart z TI TO i1 i2 a b) :
    Turn P w K (.Tuple elts kk tpos) (ItQ K b1 b2 a b) [z, TI, TO, i1, i2] z (fun i h => IsZip h z TI TO .none ∧ IsPair h TI (.ref i1) (.ref i2) ∧ (∃ x y, IsPair h TO x y) ∧ SeqIt b1 h i1 a i ∧ SeqIt b2 h i2 b i) where
  mem := by simp
  obj := fun i h st c hc => by
    obtain ⟨hz, hTI, ⟨x, y, hTO⟩, g1, g2⟩ := st
    obtain ⟨o1, e1, d1⟩ := g1.obj
    obtain ⟨o2, e2, d2⟩ := g2.obj
    have e' : c = z ∨ c = TI ∨ c = TO ∨ c = i1 ∨ c = i2 := by simpa using hc
    rcases e' with rfl | rfl | rfl | rfl | rfl
    · exact ⟨_, hz, fun v q => nomatch q⟩
    · exact ⟨_, hTI, fun v q => nomatch q⟩
    · exact ⟨_, hTO, fun v q => nomatch q⟩
    · exact ⟨o1, e1, d1⟩
    · exact ⟨o2, e2, d2⟩
  keep := fun i h h' st k => by
    obtain ⟨hz, hTI, ⟨x, y, hTO⟩, g1, g2⟩ := st
    exact ⟨k z (by simp) _ hz, k TI (by simp) _ hTI, ⟨x, y, k TO (by simp) _ hTO⟩, g1.at fun o q => k i1 (by simp) o q, g2.at fun o q => k i2 (by simp) o q⟩
  item := by
    intro X hP hw hK hc i pins s σ H E I hf st hg
    subst hP hw hK
    obtain ⟨hz, hTI, ⟨x0, y0, hTO⟩, g1, g2⟩ := st
    obtain ⟨xs, ys, x, y, hqx, hqy, hx, hy⟩ := hg
    obtain ⟨its, rv, p, _⟩ := sqx_at I hqx
    obtain ⟨its2, rv2, p2, _⟩ := sqx_at I hqy
    obtain ⟨u, hu, ru⟩ := rv.get hx
    obtain ⟨u2, hu2, ru2⟩ := rv2.get hy
    have hzl : z < s.heap.objs.size := Heap.lt_size hz
    apply zq_item D hz hTI hTO g1 g2 p p2 (x := u) (y := u2) (by simpa using hu) (by simpa using hu2)
    intro h' z' TO' h1' h2' hT hsz hk
    refine ⟨_, rfl, wpAny_letOwnedTupleGo_zip (s := { s with heap := h' }) z' fun h'' z'' sb => ?_⟩
    have hT2 : h''.get? s.heap.objs.size = some { cls := .type "tuple", data := .seq #[u, u2] } := (sb.2 _ (Nat.ne_of_gt hzl)).trans hT
    have new : ObjOk X.prog X.w (upd H s.heap.objs.size (.tup [x, y])) h'' s.heap.objs.size (.tup [x, y]) := ⟨show 2 ≤ sizeLine by decide, [u, u2], Paired.cons ru (Paired.cons ru2 Paired.nil), _, hT2, rfl, _, rfl⟩
    have J : Inv X pins σ (upd H s.heap.objs.size (.tup [x, y])) { s with heap := h'' } := by
      apply I.turnedNew (t' := s.toks) (ch := [z, TI, TO, i1, i2]) _ hf (Nat.le_refl _) new
      intro c o hb q
      have hb' : c ≠ z ∧ c ≠ TI ∧ c ≠ TO ∧ c ≠ i1 ∧ c ≠ i2 := by simpa using hb
      exact (sb.2 c hb'.1).trans (hk c o hb'.1 hb'.2.2.1 hb'.2.2.2.1 hb'.2.2.2.2 q)
    refine ⟨.ref s.heap.objs.size, _, J, rfl, ⟨_, x, y, rfl, I.hok.fresh (Nat.le_refl _), rfl, fun l hl => by rw [sqx_inj I hl hqx]; exact hx, fun l hl => by rw [sqx_inj I hl hqy]; exact hy⟩, ⟨z'', ?_, ⟨u, u2, ?_⟩, ?_, ?_⟩, fun c hcm => ?_⟩
    · exact (sb.2 _ D.TIz).trans (hk _ _ D.TIz D.TITO D.TIi1 D.TIi2 hTI)
    · exact (sb.2 _ D.TOz).trans TO'
    · exact h1'.at fun o q => (sb.2 _ D.i1z).trans q
    · exact h2'.at fun o q => (sb.2 _ D.i2z).trans q
    · have hlt : c < s.heap.objs.size := by
        have e' : c = z ∨ c = TI ∨ c = TO ∨ c = i1 ∨ c = i2 := by simpa using hcm
        rcases e' with rfl | rfl | rfl | rfl | rfl
        · exact hzl
        · exact Heap.lt_size hTI
        · exact Heap.lt_size hTO
        · exact g1.lt
        · exact g2.lt
      rw [upd_ne (Nat.ne_of_lt hlt)]
      exact (hf c hcm).1
  done := by
    intro X hP hw hK hc i pins s σ H E I hf st hg
    subst hP hw hK
    obtain ⟨hz, hTI, ⟨x0, y0, hTO⟩, g1, g2⟩ := st
    obtain ⟨xs, ys, hqx, hqy, hend⟩ := hg
    obtain ⟨its, rv, p, _⟩ := sqx_at I hqx
    obtain ⟨its2, rv2, p2, _⟩ := sqx_at I hqy
    have l1 := rv.length
    have l2 := rv2.length
    have he : its.toArray[i]? = none ∨ its2.toArray[i]? = none := by
      rcases hend with q | q
      · left; simp; omega
      · right; simp; omega
    apply zq_done (I.ok.hd hc) D hz hTI hTO g1 g2 p p2 he
    intro h' hk
    refine ⟨rfl, I.turnedL (t' := s.toks) (ch := [z, TI, TO, i1, i2]) (fun c o hb q => ?_) hf⟩
    have hb' : c ≠ z ∧ c ≠ TI ∧ c ≠ TO ∧ c ≠ i1 ∧ c ≠ i2 := by simpa using hb
    exact hk c o hb'.1 hb'.2.2.1 hb'.2.2.2.1 hb'.2.2.2.2 q
  self := fun A i s Q E st h => wpAny_pyIter_zip st.1 h
def iZipQ (K : PySem.W.Frag) (ta : TA) : TI := fun σ H R => ta σ H fun vs H1 => ∃ b1 b2 a b xs ys, vs = [.ref a, .ref b] ∧ SqX b1 K H1 a xs ∧ SqX b2 K H1 b ys ∧ R (ItQ K b1 b2 a b) H1
theorem pi_zipQ {X : Cx} {e e2 : Expr} {ta : TA} {p pos tpos : Pos} {elts : List Expr} {kk : Nat} (hm : X.mg "zip" = none) (ha : PA X [e, e2] ta) (hg : Gl X "zip" := by rfl)
    (hs : starEach [e, e2] X.env = (false, eval e X.env) :: starEach [e2] X.env := by rfl) (hpl : (backTo pos (starEach [e2] X.env)).any (·.1) = false := by rfl) :
    PI X (.Tuple elts kk tpos) (.Call (.Name "zip" p) [e, e2] [] pos) (iZipQ X.K ta) := by
  constructor
  intro pins s σ H R I h
  refine Call_ (ld_blt I hg hm PyProof.Rows.boot_zip (PyProof.Rows.callWith_type1 (thn (ha.run pos pins s σ H _ I h) fun us s1 ⟨vs, H1, J, r1, q1⟩ => ?_) hs hpl))
  obtain ⟨b1, b2, a, b, xs, ys, rfl, hqx, hqy, q⟩ := q1
  obtain ⟨u1, u2, rfl, r, r'⟩ := vals2 r1
  cases (show u1 = Value.ref a from r)
  cases (show u2 = Value.ref b from r')
  obtain ⟨its, rv, p1, t1⟩ := sqx_at J hqx
  obtain ⟨its2, rv2, p2, t2⟩ := sqx_at J hqy
  apply call_zq p1 p2
  intro h' hz hTI hTO g1 g2 hsz hk
  apply wpAny_pyIter_zip hz
  refine ⟨s1.heap.objs.size + 4, [s1.heap.objs.size + 4, s1.heap.objs.size + 2, s1.heap.objs.size + 3, s1.heap.objs.size, s1.heap.objs.size + 1], _, _, H1, rfl, J.kept (t' := s1.toks) hk, turn_zq (PySem.W.ktu_apart s1.heap.objs.size a b t1 t2), ⟨hz, hTI, ⟨_, _, hTO⟩, g1, g2⟩, ?_, q⟩
  intro c hcm
  have hle : s1.heap.objs.size ≤ c := by
    have e' : c = s1.heap.objs.size + 4 ∨ c = s1.heap.objs.size + 2 ∨ c = s1.heap.objs.size + 3 ∨ c = s1.heap.objs.size ∨ c = s1.heap.objs.size + 1 := by simpa using hcm
    rcases e' with z | z | z | z | z <;> rw [z] <;> first | exact Nat.le_add_right _ _ | exact Nat.le_refl _
  exact J.fpOk hle (J.hok.fresh hle)
/-! by data -/
def seqD (d : D) (k : List D → Prop) : Prop := match d with
  | .lst xs => k xs
  | .tup xs => k xs
  | .fix xs => k xs
  | _ => False
def dvs2 (u : WA) (env : Ev) (k : List D → List D → Ev → Prop) (x : WX') : Prop := u env (fun rs e => match rs with
  | [.val a, .val b] => seqD a fun xs => seqD b fun ys => k xs ys e
  | [.own a, .val b] => seqD a.toD fun xs => seqD b fun ys => k xs ys e
  | [.val a, .own b] => seqD a fun xs => seqD b.toD fun ys => k xs ys e
  | [.own a, .own b] => seqD a.toD fun xs => seqD b.toD fun ys => k xs ys e
  | _ => False) x
def zipD (xs ys : List D) : List D := List.zipWith (fun a b => .tup [a, b]) xs ys
def wZip (u : WA) : WI := fun env q x => dvs2 u env (fun xs ys e => q (zipD xs ys) [] (fun _ => True) e) x
section
variable {K : PySem.W.Frag} {W : WX} {T T0 T' T1 : TM} {H H0 H' H1 : Hp} {env env0 : Ev} {σ σ0 : L2.St}
/-- a sequence that stands from now on -/
theorem seq_fix {d : D} {v : V} {k : List D → Prop} (h : RepV K T H d v) (q : seqD d k) : ∃ b a xs ds, v = .ref a ∧ k ds ∧ SqX b K H a xs ∧ ∀ T' H', Fr T H T' H' → ∃ ys, SqX b K H' a ys ∧ RepL K T' H' ds ys := by
  have later : ∀ {T' : TM} {H' : Hp}, Fr T H T' H' → RepV K T' H' d v := fun f => RepV.mono f.le d v h
  cases d <;> first | exact q.elim | skip
  · obtain ⟨a, ys, rfl, s, r⟩ := (View.of h).tup
    refine ⟨false, a, ys, _, rfl, q, s.sq, fun T' H' f => ?_⟩
    obtain ⟨a', ys', e, s', r'⟩ := (View.of (later f)).tup
    cases e
    exact ⟨ys', s'.sq, r'⟩
  · obtain ⟨a, ys, rfl, s, r⟩ := (View.of h).lst
    refine ⟨true, a, ys, _, rfl, q, SqL.of s, fun T' H' f => ?_⟩
    obtain ⟨a', ys', e, s', r'⟩ := (View.of (later f)).lst
    cases e
    exact ⟨ys', SqL.of s', r'⟩
  · obtain ⟨a, ys, rfl, s, r⟩ := (View.of h).fix
    refine ⟨true, a, ys, _, rfl, q, s.sq, fun T' H' f => ?_⟩
    obtain ⟨a', ys', e, s', r'⟩ := (View.of (later f)).fix
    cases e
    exact ⟨ys', s'.sq, r'⟩
theorem seq_fixO {o : Ob} {a : Addr} {k : List D → Prop} (t : T a = some .tmp) (h : RepO K T H o a) (q : seqD o.toD k) : ∃ b xs ds, k ds ∧ SqX b K H a xs ∧ ∀ T' H', Fr T H T' H' → ∃ ys, SqX b K H' a ys ∧ RepL K T' H' ds ys := by
  cases o <;> first | exact q.elim | skip
  rename_i ds
  obtain ⟨xs, s, r⟩ := h
  exact ⟨true, xs, ds, q, SqL.of s, fun T' H' f => ⟨xs, SqL.of ((f.tmp t).2.trans s), r.mono f.le⟩⟩
theorem zip_it {b1 b2 : Bool} {a b : Addr} {ds es : List D} (h1 : ∀ T' H', Fr T H T' H' → ∃ ys, SqX b1 K H' a ys ∧ RepL K T' H' ds ys) (h2 : ∀ T' H', Fr T H T' H' → ∃ ys, SqX b2 K H' b ys ∧ RepL K T' H' es ys) :
    ItOk K T H env σ (ItQ K b1 b2 a b) (zipD ds es) [] (fun _ => True) := by
  intro T' H' env' σ' f E _ _ i
  obtain ⟨xs, s1, r1⟩ := h1 T' H' f
  obtain ⟨ys, s2, r2⟩ := h2 T' H' f
  have l1 := r1.length
  have l2 := r2.length
  refine ⟨fun hi => ⟨xs, ys, s1, s2, ?_⟩, fun d hd => ?_⟩
  · unfold zipD at hi
    rw [List.length_zipWith] at hi
    omega
  · unfold zipD at hd
    rw [List.getElem?_zipWith_eq_some] at hd
    obtain ⟨x, y, e1, e2, rfl⟩ := hd
    obtain ⟨v1, g1, q1⟩ := r1.get e1
    obtain ⟨v2, g2, q2⟩ := r2.get e2
    refine ⟨⟨xs, ys, v1, v2, s1, s2, g1, g2⟩, fun z H2 hy => ?_⟩
    obtain ⟨p, x', y', rfl, hp, rfl, f1, f2⟩ := hy
    have := f1 xs s1
    rw [g1] at this; cases this
    have := f2 ys s2
    rw [g2] at this; cases this
    exact ⟨_, Gr.new (t := some .fz) E.good hp (by simp) (.inl rfl), new_tup (σ := σ') E.good hp (.cons q1 (.cons q2 .nil))⟩
theorem lzip {u : WA} {RR : It → Hp → Prop} (h : LI K W (wZip u) σ H RR) : iZipQ K (LA K W u) σ H RR := by
  obtain ⟨T, env, q, x, E, w, k, xk⟩ := h
  refine ⟨T, env, _, x, E, w, fun T1 H1 e1 rs vs a1 rr nd w1 => ?_, xk⟩
  have fin : ∀ {r1 r2 : R} {k2 : List D → List D → Prop} {v1 v2 : V}, RepR K T T1 H1 σ r1 v1 → RepR K T T1 H1 σ r2 v2 → True → True := fun _ _ => id
  have one : ∀ {r : DL.R} {v : V} {kk : List D → Prop}, RepR K T T1 H1 σ r v → (match r with | .val d => seqD d kk | .own o => seqD o.toD kk | .loc _ => False) → ∃ b a xs ds, v = .ref a ∧ kk ds ∧ SqX b K H1 a xs ∧ ∀ T' H', Fr T1 H1 T' H' → ∃ ys, SqX b K H' a ys ∧ RepL K T' H' ds ys := by
    intro r v kk h q
    cases r with
    | val d => exact seq_fix h q
    | loc i => exact q.elim
    | own o =>
      obtain ⟨a, rfl, n, t, ro⟩ := h
      obtain ⟨b, xs, ds, h1, h2, h3⟩ := seq_fixO t ro q
      exact ⟨b, a, xs, ds, rfl, h1, h2, h3⟩
  have both : ∀ {r1 r2 : DL.R} {v1 v2 : V}, RepR K T T1 H1 σ r1 v1 → RepR K T T1 H1 σ r2 v2 → (match r1 with
      | .val d => seqD d fun xs => (match r2 with | .val d => seqD d fun ys => q (zipD xs ys) [] (fun _ => True) e1 | .own o => seqD o.toD fun ys => q (zipD xs ys) [] (fun _ => True) e1 | .loc _ => False)
      | .own o => seqD o.toD fun xs => (match r2 with | .val d => seqD d fun ys => q (zipD xs ys) [] (fun _ => True) e1 | .own o => seqD o.toD fun ys => q (zipD xs ys) [] (fun _ => True) e1 | .loc _ => False)
      | .loc _ => False) → ∃ b1 b2 a b xs ys, [v1, v2] = [V.ref a, V.ref b] ∧ SqX b1 K H1 a xs ∧ SqX b2 K H1 b ys ∧ RR (ItQ K b1 b2 a b) H1 := by
    intro r1 r2 v1 v2 h1 h2 w
    obtain ⟨b1, a, xs, ds, rfl, w2, s1, g1⟩ := one h1 w
    obtain ⟨b2, b, ys, es, rfl, w3, s2, g2⟩ := one h2 w2
    exact ⟨b1, b2, a, b, xs, ys, rfl, s1, s2, k T1 H1 e1 _ _ [] _ a1 (zip_it g1 g2) w3⟩
  cases rr with
  | nil => exact w1.elim
  | @cons r1 v1 _ _ h1 rr =>
    cases rr with
    | nil => cases r1 <;> exact w1.elim
    | @cons r2 v2 _ _ h2 rr =>
      cases rr with
      | nil =>
        cases r1 <;> cases r2 <;> first | exact w1.elim | exact both h1 h2 w1
      | cons => cases r1 <;> cases r2 <;> exact w1.elim
end
theorem dzip {X : Cx} {W : WX} {e e2 : Expr} {u : WA} {p pos tpos : Pos} {elts : List Expr} {kk : Nat} (hm : X.mg "zip" = none) (ha : DA X W [e, e2] u) (hg : Gl X "zip" := by rfl)
    (hs : starEach [e, e2] X.env = (false, eval e X.env) :: starEach [e2] X.env := by rfl) (hpl : (backTo pos (starEach [e2] X.env)).any (·.1) = false := by rfl) :
    PI X (.Tuple elts kk tpos) (.Call (.Name "zip" p) [e, e2] [] pos) (LI X.K W (wZip u)) := PI.le (pi_zipQ hm ha hg hs hpl) fun _ _ _ h => lzip h
end DL

end DlS
section DlT
set_option Elab.async false
set_option linter.all false
set_option maxRecDepth 100000
set_option maxHeartbeats 4000000
/-! DlT: the law's end; str, int of texts. -/
namespace DL
open PySem PySem.Spec PyProof.Rows L2
variable [TabEnv]
section
variable {P : Program} {w : World} {K : PySem.W.Frag} {mg mb : Str → Option Value} {k : Nat} {fa a : Addr} {fd : FuncData} {x : Str} {sp : DSp} {s₁ : Shared} {vs : List Value} {ns : List Int}
/-- the law's promise at the script -/
def spScript (sp : DSp) (ns : List Int) : Prop := sp [.val (.fix (ns.map .int))] (fun r _ => r = .val (.bl true)) (fun _ _ => False)
def fzT (H : Hp) : TM := fun b => match H b with
  | none => none
  | some (.tbl _) => none
  | some _ => some .fz
theorem fzT_fz {H : Hp} {b : Addr} {t : Tag} (e : fzT H b = some t) : t = .fz ∧ H b ≠ none := by
  unfold fzT at e
  split at e
  · cases e
  · cases e
  · rename_i u n q
    cases e
    exact ⟨rfl, by rw [q]; simp⟩
theorem fzT_good {H : Hp} (hT : ∀ p ∈ TabEnv.ts, H p.1 = some (.tbl #[])) : Good (fzT H) H := ⟨fun b t e => by
  obtain ⟨rfl, h⟩ := fzT_fz e
  exact ⟨h, fun n => absurd rfl n⟩, fun p hp => by
  refine ⟨by unfold fzT; rw [hT p hp], #[], hT p hp, True.intro, fun pos cv hc => ?_⟩
  have z : codeAmong pos [] = some cv := hc
  simp [codeAmong] at z⟩
theorem fzT_tmp {H : Hp} (b : Addr) : fzT H b ≠ some .tmp := fun e => by cases (fzT_fz e).1
theorem script_rep {H : Hp} (hO : H a = none ∨ ∃ o xs, H a = some (.frz o (.lst xs))) (hS : SqL K H a (ns.map V.int)) : RepV K (fzT H) H (.fix (ns.map .int)) (.ref a) := by
  simp only [RepV]
  refine ⟨a, ns.map V.int, rfl, ?_, ?_⟩
  · rcases hS with (h | ⟨o, h⟩) | h
    · rcases hO with z | ⟨ob, xs, z⟩ <;> · rw [h] at z; cases z
    · exact .inl ⟨by unfold fzT; rw [h], o, h⟩
    · exact .inr (.inr h)
  · have : ∀ ns : List Int, RepL K (fzT H) H (ns.map D.int) (ns.map V.int) := fun ns => by
      induction ns with
      | nil => exact .nil
      | cons n ns ih => exact .cons (by simp [RepV]) ih
    exact this ns
theorem law_spL {H : Hp} (hT : ∀ p ∈ TabEnv.ts, H p.1 = some (.tbl #[])) (hO : H a = none ∨ ∃ o xs, H a = some (.frz o (.lst xs))) (hS : SqL K H a (ns.map V.int)) (h : spScript sp ns) : spL K sp [.ref a] H (fun v _ => v = .bl true) fun _ _ _ => False := by
  refine ⟨fzT H, [.val (.fix (ns.map .int))], _, _, fzT_good hT, fzT_tmp, .cons (script_rep hO hS) .nil, h, fun T' H' r as v f b rf z => ?_, fun T' H' e as c d f b rx z => z.elim⟩
  subst z
  have rf : RepV K T' H' (.bl true) v := rf
  simpa only [RepV] using rf
/-- the head tells of the tables ct (code object, table) -/
structure TabHd (hp : Heap) (K : PySem.W.Frag) (mg : Str → Option Value) (ct : List (Addr × Addr)) : Prop where
  empt : ∀ q ∈ ct, hp.get? q.2 = some { cls := .none, data := .fields #[] }
  outK : ∀ q ∈ ct, K.lookup q.2 = none
  code : ∀ q ∈ ct, PySem.W.CodeHd hp q.1 q.2
/-- the built-ins' module, as the head has it -/
def BmHd (hp : Heap) (mg : Str → Option Value) : Prop := ∃ (bm : Addr) (ob : Obj), mg "__builtins__" = some (.ref bm) ∧ bm ≠ builtinsNs ∧ hp.get? bm = some ob ∧ ob.cls = .type "module" ∧ ob.dict = some builtinsNs ∧ ob.data = .plain
/-- what of a heap stays when the tracked things are hidden -/
theorem stays_hid {hp : Heap} {H : Hp} {tb : List Addr} (hA : ∀ b, H b ≠ none → b = a ∨ b ∈ tb) (ha : ∃ n, hp.get? a = some { cls := .type "list", data := .seq vs.toArray n }) (hB : ∀ b ∈ tb, hp.get? b = some { cls := .none, data := .fields #[] })
    {b : Addr} {o : Obj} (e : hp.get? b = some o) (n1 : ∀ xs n, o.data ≠ .seq xs n) (n2 : o.data ≠ .fields #[]) : H b = none := Classical.byContradiction fun z => by
  obtain ⟨n, ha⟩ := ha
  rcases hA b z with q | q
  · subst q
    rw [ha] at e
    exact n1 _ _ (congrArg Obj.data (Option.some.inj e)).symm
  · rw [hB b q] at e
    exact n2 (congrArg Obj.data (Option.some.inj e)).symm
theorem tabB_hid {hp : Heap} {H : Hp} {c p : Addr} (keep : ∀ {b : Addr} {o : Obj}, hp.get? b = some o → (∀ xs n, o.data ≠ .seq xs n) → o.data ≠ .fields #[] → (hidT hp H).get? b = some o) (hns : hp.Ns mainGlobals mg) (bm : BmHd hp mg)
    (hp0 : hp.get? p = some { cls := .none, data := .fields #[] }) (C : PySem.W.CodeHd hp c p) : LamX.TabB (hidT hp H) mg c p := by
  obtain ⟨og, es, ep, eg, dg, _⟩ := hns
  constructor
  · obtain ⟨o, us, file, tf, flags, tg, inF, text, tt, e1, r1, r2, r3, r⟩ := C
    exact ⟨o, us, file, tf, flags, tg, inF, text, tt, keep e1 (fun xs n z => by rw [r2] at z; cases z) (fun z => by rw [r2] at z; cases z; simp at r3), r1, r2, r3, r⟩
  · obtain ⟨m, ob, b1, b2, b3, b4, b5, b6⟩ := bm
    refine ⟨m, ob, b1, b2, fun q => ?_, fun q => ?_, keep b3 (fun xs n z => by rw [b6] at z; cases z) (fun z => by rw [b6] at z; cases z), b4, b5, b6⟩
    · rw [q, eg] at b3
      cases b3
      rw [dg] at b6
      cases b6
    · rw [q, hp0] at b3
      cases b3
      cases b6
  · intro z
    rw [z, hp0] at eg
    cases eg
    cases dg
theorem law_callG {ct : List (Addr × Addr)} (hts : ∀ p ∈ TabEnv.ts, p.1 ∈ ct.map (·.2)) (TH : TabHd s₁.heap K mg ct) (bm : BmHd s₁.heap mg) (KX : K.In s₁.heap) (hns : s₁.heap.Ns mainGlobals mg) (hb : s₁.heap.Ns builtinsNs mb) (hbb : ∀ x : Str, x ≠ "__name__" → mb x = bootBuiltins x) (hlim : s₁.heap.NoLimit) (hg : s₁.gens = #[])
    (ha : s₁.heap.get? a = some { cls := .type "list", data := .seq vs.toArray }) (hi : IntsAre vs ns) (hl : ns.length ≤ sizeLine) (hr : Room k callerA)
    (F : ∀ base : Heap, K.In base → base.Ns mainGlobals mg → (∀ q ∈ ct, LamX.TabB base mg q.1 q.2) → FnG P w K mg base k fa fd [x] (spL K sp)) (hbind : ∀ (s : Shared) (u : Value), BindsTo s fd ⟨[u], []⟩ [(x, u)]) (h : spScript sp ns) :
    codeAny (model P w) callerA (.call (.ref fa) ⟨[.ref a], []⟩) (fun r s' => r = .ok (.ret (.bool true)) ∧ OldK s₁.heap s'.heap ∧ s'.os = s₁.os ∧ AllBare s'.gens) s₁ := by
  have rv := vals_ints hi
  have lenV := hi.length
  have emptT : ∀ b ∈ ct.map (·.2), s₁.heap.get? b = some { cls := .none, data := .fields #[] } := by
    intro b hb
    obtain ⟨q, hq, rfl⟩ := List.mem_map.mp hb
    exact TH.empt q hq
  have notA : a ∉ ct.map (·.2) := by
    intro z
    have q := emptT a z
    rw [ha] at q
    cases q
  have main : ∀ H : Hp, (∀ b ∈ ct.map (·.2), H b = some (.tbl #[])) → (H a = none ∨ ∃ o xs, H a = some (.frz o (.lst xs))) → SqL K H a (ns.map V.int) → HOk P w H s₁.heap → (∀ b, H b ≠ none → b = a ∨ b ∈ ct.map (·.2)) → (H a ≠ none → K.lookup a = none) →
      codeAny (model P w) callerA (.call (.ref fa) ⟨[.ref a], []⟩) (fun r s' => r = .ok (.ret (.bool true)) ∧ OldK s₁.heap s'.heap ∧ s'.os = s₁.os ∧ AllBare s'.gens) s₁ := by
    intro H hT hO hS hok hA hK
    have hid : ∀ {b : Addr} {o : Obj}, s₁.heap.get? b = some o → H b = none → (hidT s₁.heap H).get? b = some o := fun e n => hidT_get e n
    have up : ∀ {b : Addr} {o : Obj}, s₁.heap.get? b = some o → (∀ xs n, o.data ≠ .seq xs n) → o.data ≠ .fields #[] → (hidT s₁.heap H).get? b = some o := fun e n1 n2 => hid e (stays_hid hA ⟨_, ha⟩ emptT e n1 n2)
    have nsK : ∀ {b : Addr} {m : Str → Option Value}, s₁.heap.Ns b m → (hidT s₁.heap H).Ns b m := by
      rintro b m ⟨o, es, ep, e, d, r⟩
      exact ⟨o, es, ep, up e (fun xs n z => by rw [d] at z; cases z) (fun z => by rw [d] at z; cases z), d, r⟩
    have hKb : K.In (hidT s₁.heap H) := by
      intro b o e
      apply hid (KX b o e)
      cases q : H b with
      | none => rfl
      | some u =>
        rcases hA b (by rw [q]; simp) with e' | e'
        · rw [e'] at e q
          rw [hK (by rw [q]; simp)] at e
          cases e
        · obtain ⟨c, hc, ec⟩ := List.mem_map.mp e'
          have := TH.outK c hc
          rw [ec, e] at this
          cases this
    have nl : (hidT s₁.heap H).NoLimit := let ⟨mc, h1, h2⟩ := hlim; ⟨mc, nsK h1, h2⟩
    have hM : Mod K mg (hidT s₁.heap H) := ⟨hKb, nsK hns, ⟨mb, nsK hb, hbb⟩, nl⟩
    have e0 : Env0 P w K mg (hidT s₁.heap H) callerA [] s₁ H :=
      { frames := rfl, mod := hM, bs := fun b o e => of_hidT e, bsz := Nat.le_of_eq (hidT_size _ _), funs := trivial, frf := (fun b hb => absurd (show b ∈ ([] : List Addr) from hb) (by simp)), hok := hok, bare := AllBare.of_eq hg }
    have TB : ∀ q ∈ ct, LamX.TabB (hidT s₁.heap H) mg q.1 q.2 := fun q hq => tabB_hid up hns bm (TH.empt q hq) (TH.code q hq)
    apply codeAny_mono ((F _ hKb (nsK hns) TB).run callerA [] s₁ H ⟨[.ref a], []⟩ [.ref a] [.ref a] _ _ hr rfl e0 (hbind s₁ (.ref a)) (Paired.cons rfl Paired.nil) (law_spL (fun p hp => hT _ (hts p hp)) hO hS h))
    intro r s' hc
    match r, hc with
    | .error e, hc =>
      obtain ⟨_, _, _, _, _, _, _, _, _, _, _, _, z⟩ := hc
      exact z.elim
    | .ok .next, hc => exact False.elim hc
    | .ok .brk, hc => exact False.elim hc
    | .ok .cont, hc => exact False.elim hc
    | .ok (.ret u), hc =>
      obtain ⟨v, H', os, bare, un, hok', r', q⟩ := hc
      have q : v = .bl true := q
      rw [q] at r'
      obtain rfl : u = Value.bool true := r'
      have old : ∀ b o, b ∉ ct.map (·.2) → s₁.heap.get? b = some o → s'.heap.get? b = some o := by
        intro b o nb e
        cases q : H b with
        | none => exact un.keep b o e q (fun z => absurd (show b ∈ ([] : List Addr) from z) (by simp)) (by simp)
        | some u =>
          rcases hA b (by rw [q]; simp) with e1 | e1
          · subst e1
            rcases hO with z | ⟨ob, xs, z⟩
            · rw [q] at z; cases z
            · have e1 := (hok b _ z).1
              have e2 := (hok' b _ (un.frzs b ob _ z)).1
              rw [e1] at e
              rw [e2, ← e]
          · exact absurd e1 nb
      have more : ∀ q ∈ ct, ∃ xs : Array Value, s'.heap.get? q.2 = some { cls := .none, data := .fields xs } := by
        intro q hq
        obtain ⟨xs, z⟩ := un.tbls q.2 #[] (hT _ (List.mem_map.mpr ⟨q, hq, rfl⟩))
        exact ⟨_, hok' q.2 _ z⟩
      refine ⟨rfl, ⟨fun b o e => ?_, fun b o e => ?_⟩, os, bare⟩
      · by_cases hb : b ∈ ct.map (·.2)
        · obtain ⟨q, hq, rfl⟩ := List.mem_map.mp hb
          obtain ⟨xs, hx⟩ := more q hq
          have e0 := TH.empt q hq
          rw [e0] at e
          cases e
          exact .inr (.inl ⟨((TH.code q hq).tab e0).isCodeTable, rfl, #[], xs, rfl, by rw [hx, Array.empty_append]⟩)
        · exact .inl (old b o hb e)
      · by_cases hb : b ∈ ct.map (·.2)
        · obtain ⟨q, hq, rfl⟩ := List.mem_map.mp hb
          obtain ⟨xs, hx⟩ := more q hq
          exact ⟨_, hx⟩
        · exact ⟨o, old b o hb e⟩
  cases hk : K.lookup a with
  | some o =>
    have e := KX a o hk
    rw [ha] at e
    cases e
    let H : Hp := fun b => if b ∈ ct.map (·.2) then some (.tbl #[]) else none
    have inH : ∀ b, b ∈ ct.map (·.2) → H b = some (.tbl #[]) := fun b hb => if_pos hb
    have offH : ∀ b, b ∉ ct.map (·.2) → H b = none := fun b hb => if_neg hb
    refine main H inH (.inl (offH a notA)) (.inr ⟨_, vs.toArray, _, hk, rfl, rfl, rfl, by rw [List.size_toArray, lenV]; exact hl, by simpa using rv⟩) (fun b u z => ?_) (fun b z => .inr (Classical.byContradiction fun n => z (offH b n))) fun z => absurd (offH a notA) z
    by_cases hb : b ∈ ct.map (·.2)
    · rw [inH b hb] at z
      cases z
      exact emptT b hb
    · rw [offH b hb] at z
      cases z
  | none =>
    let H : Hp := fun b => if b = a then some (.frz { cls := .type "list", data := .seq vs.toArray } (.lst (ns.map V.int))) else if b ∈ ct.map (·.2) then some (.tbl #[]) else none
    have ata : H a = some (.frz { cls := .type "list", data := .seq vs.toArray } (.lst (ns.map V.int))) := if_pos rfl
    have inH : ∀ b, b ∈ ct.map (·.2) → H b = some (.tbl #[]) := fun b hb => by
      show (if b = a then _ else _) = _
      rw [if_neg (fun z => notA (by rw [← z]; exact hb)), if_pos hb]
    have offH : ∀ b, b ≠ a → b ∉ ct.map (·.2) → H b = none := fun b h1 h2 => by
      show (if b = a then _ else _) = _
      rw [if_neg h1, if_neg h2]
    refine main H inH (.inr ⟨_, _, ata⟩) (.inl (.inr ⟨_, ata⟩)) (fun b u z => ?_) (fun b z => ?_) fun _ => hk
    · by_cases hb : b = a
      · subst hb
        rw [ata] at z
        cases z
        exact ⟨ha, by rw [List.length_map]; exact hl, vs, _, rv, ha⟩
      · by_cases h2 : b ∈ ct.map (·.2)
        · rw [inH b h2] at z
          cases z
          exact emptT b h2
        · rw [offH b hb h2] at z; cases z
    · by_cases hb : b = a
      · exact .inl hb
      · exact .inr (Classical.byContradiction fun n => z (offH b hb n))
end
/-! ### str(n), int(text) -/
section
variable {X : Cx}
def gIntX (d : D) (q : R → Prop) : Prop := match d with
  | .int i => q (.val (.int i))
  | .bl b => q (.val (.int (if b then 1 else 0)))
  | .str a => ∃ n, PySem.intText? a = some n ∧ a.length ≤ 640 ∧ q (.val (.int n))
  | _ => False
theorem cIntX : CallD X (.type "int") (g1 gIntX) := CallD.of1 (call_int1.or call_int_str) fun T H σ d v Q q g hv hg k => by
  cases d <;> first | exact hg.elim | skip
  · cases hv.bl; exact .inl (.inr ⟨_, rfl, k T H _ _ (Gr.refl g) rep_int hg⟩)
  · cases hv.int; exact .inl (.inl ⟨_, rfl, k T H _ _ (Gr.refl g) rep_int hg⟩)
  · cases hv.str
    obtain ⟨n, e, hl, hq⟩ := hg
    exact .inr ⟨_, n, rfl, e, hl, k T H _ _ (Gr.refl g) rep_int hq⟩
def gStr (d : D) (q : R → Prop) : Prop := match d with
  | .int i => i.natAbs.log2 < 1920 ∧ q (.val (.str (toString i)))
  | _ => False
theorem cStr : CallD X (.type "str") (g1 gStr) := CallD.of1 call_str_int fun T H σ d v Q q g hv hg k => by
  cases d <;> first | exact hg.elim | skip
  cases hv.int
  exact ⟨_, rfl, hg.1, k T H (.val (.str _)) _ (Gr.refl g) (by show RepV _ _ _ _ _; simp [RepV]) hg.2⟩
/-- sum of a list of ints -/
def gSum (d : D) (q : R → Prop) : Prop := match d with
  | .lst ds => ∃ ns : List Int, ds = ns.map .int ∧ q (.val (.int ns.sum))
  | _ => False
theorem cSum (hc : X.calm = true) : CallD X (.builtin "sum") (g1 gSum) := CallD.of1 (cr_sum hc) fun T H σ d v Q q g hv hg k => by
  cases d <;> first | exact hg.elim | skip
  obtain ⟨ns, rfl, hq⟩ := hg
  obtain ⟨a, ys, rfl, s, r⟩ := hv.lst
  rw [rep_ints r] at s
  exact ⟨a, ns, rfl, SqL.of s, k T H _ _ (Gr.refl g) rep_int hq⟩
end
end DL

end DlT
section DlU
set_option Elab.async false
set_option linter.all false
set_option maxRecDepth 100000
/-! DlU: loops by induction; number facts. -/
namespace DL
open PySem
variable [TabEnv]
/-- a loop by what holds ahead of each turn (ds: what is still to come) -/
theorem forD_ind {gd : Ev → Prop} {g : WG} {b : WS} {P : Po} (I : List D → Ev → Prop) (hg : ∀ ds e, I ds e → gd e) (hn : ∀ e, I [] e → P.nx e)
    (hc : ∀ d ds e (k : Ev → Prop), I (d :: ds) e → (∀ e', I ds e' → k e') → g d e fun e1 => b e1 { nx := k, rt := P.rt, ex := P.ex, bk := P.nx, ct := k }) : ∀ {ds : List D} {e : Ev}, I ds e → forD gd g b ds e P
  | [], e, h => ⟨hg _ _ h, hn e h⟩
  | d :: ds, e, h => ⟨hg _ _ h, hc d ds e _ h fun e' h' => forD_ind I hg hn hc h'⟩
theorem lcD_ind {gd : Ev → Prop} {g : WG} {t : WT} {w : WE} {vs : List Nat} {k : List D → Ev → Prop} (I : List D → List D → Ev → Prop) (hg : ∀ ds acc e, I ds acc e → gd e) (hn : ∀ acc e, I [] acc e → k acc e)
    (hc : ∀ d ds acc e (kk : List D → Ev → Prop), I (d :: ds) acc e → (∀ acc' e', I ds acc' e' → kk acc' e') → plE vs e ∧ g d (unE vs e) fun e2 => t e2 (fun b e3 =>
      if b = true then w e3 (fun r e4 => dv r fun dd => acc.length < PySem.sizeLine ∧ kk (acc ++ [dd]) (reE vs e e4)) (fun _ _ => False)
      else kk acc (reE vs e e3)) (fun _ _ => False)) : ∀ {ds acc : List D} {e : Ev}, I ds acc e → lcD gd g t w vs ds acc e k
  | [], acc, e, h => ⟨hg _ _ _ h, hn _ _ h⟩
  | d :: ds, acc, e, h => by
    obtain ⟨h1, h2⟩ := hc d ds acc e (fun acc' e' => lcD gd g t w vs ds acc' e' k) h fun acc' e' h' => lcD_ind I hg hn hc h'
    exact ⟨hg _ _ _ h, h1, h2⟩
/-- a while loop by the number of turns to come -/
theorem whD_ind {c : WT} {b : WS} {P : Po} (I : Nat → Ev → Prop)
    (hc : ∀ m e (k : Ev → Prop), I m e → (∀ m', m = m' + 1 → ∀ e', I m' e' → k e') → c e (fun t e1 => if t = true then b e1 { nx := k, rt := P.rt, ex := P.ex, bk := P.nx, ct := k } else P.nx e1) P.ex) :
    ∀ {m : Nat} {e : Ev}, I m e → whD c b (m + 1) e P
  | 0, e, h => hc 0 e _ h fun m' q => nomatch q
  | m + 1, e, h => hc (m + 1) e _ h fun m' q e' h' => by
    cases q
    exact whD_ind I hc h'
theorem wWhile_ind {c : WT} {b : WS} {P : Po} {m : Nat} {e : Ev} (I : Nat → Ev → Prop) (h : I m e)
    (hc : ∀ m e (k : Ev → Prop), I m e → (∀ m', m = m' + 1 → ∀ e', I m' e' → k e') → c e (fun t e1 => if t = true then b e1 { nx := k, rt := P.rt, ex := P.ex, bk := P.nx, ct := k } else P.nx e1) P.ex) : wWhile c b e P :=
  ⟨m + 1, whD_ind I hc h⟩
/-! data that may be compared, equal just if it is the same -/
end DL
namespace DL
open PySem PySem.Spec PyProof.Rows L2
variable [TabEnv]
/-! the rules with what is found by computing at the end -/
section
variable {X : Cx} {W : WX} {pos p apos : Pos} {k : Nat} {f C : Addr} {fd : FuncData} {ps : List Str} {sp : DSp} {x m : Str} {e : Expr} {es : List Expr} {u : WA} {i : Int}
theorem ety {n : String} (hm : X.mg x = none) (hv : bootBuiltins x = some (.type n) := by decide +kernel) (hg : Gl X x := by rfl) (hn : x ≠ "__name__" := by decide) (hd : (x == ("__debug__" : Str)) = false := by decide) : DE X W (.Name x pos) (wC (.ty n)) := dty hg hm hv hn hd
theorem eglob {a : Addr} (hm : X.mg x = some (.ref a)) (hg : Gl X x := by rfl) (hd : (x == ("__debug__" : Str)) = false := by decide) : DE X W (.Name x pos) (wC (.ref a)) := dglob hg hm hd
theorem eglobI {t : Tok} (hm : X.mg x = some (.int i t)) (hg : Gl X x := by rfl) (hd : (x == ("__debug__" : Str)) = false := by decide) : DE X W (.Name x pos) (wC (.int i)) := dglobI hg hm hd
theorem ecallF (F : FnG X.prog X.w X.K X.mg X.base k f fd ps (spL X.K sp)) (ck : Cal X W k) (hm : X.mg x = some (.ref f)) (hk : PySem.W.keepIn X.K (.ref f) = true) (hb : Binds X.K fd ps []) (ha : DA X W (e :: es) u) (hg : Gl X x := by rfl)
    (hdb : (x == ("__debug__" : Str)) = false := by decide) (he : starEach (e :: es) X.env = (false, eval e X.env) :: starEach es X.env := by rfl) (hpl : (backTo pos (starEach es X.env)).any (·.1) = false := by rfl) : DE X W (.Call (.Name x p) (e :: es) [] pos) (wFn sp u) := dcallF F ck hg hm hk hb ha hdb he hpl
theorem ecallF0 (F : FnG X.prog X.w X.K X.mg X.base k f fd ps (spL X.K sp)) (ck : Cal X W k) (hm : X.mg x = some (.ref f)) (hk : PySem.W.keepIn X.K (.ref f) = true) (hb : Binds X.K fd ps []) (hg : Gl X x := by rfl)
    (hdb : (x == ("__debug__" : Str)) = false := by decide) : DE X W (.Call (.Name x p) [] [] pos) (wFn sp wNil) := dcallF0 F ck hg hm hk hb hdb
theorem emake (M : Mk X.K C f) (F : FnG X.prog X.w X.K X.mg X.base k f fd ps (spL X.K sp)) (ck : Cal X W (k + 1)) (hm : X.mg x = some (.ref C)) (hb : Binds X.K fd ps []) (ha : DA X W (e :: es) u) (hg : Gl X x := by rfl)
    (hdb : (x == ("__debug__" : Str)) = false := by decide) (he : starEach (e :: es) X.env = (false, eval e X.env) :: starEach es X.env := by rfl) (hpl : (backTo pos (starEach es X.env)).any (·.1) = false := by rfl) : DE X W (.Call (.Name x p) (e :: es) [] pos) (wMake C sp u) := dmake M F ck hg hm hb ha hdb he hpl
end
section
variable {X : Cx} {W : WX} {pos : Pos} {a b : Expr} {wa wb : WE}
theorem dtinD (hu : X.A.units + 1 < cLine) (ha : DE X W a wa) (hb : DE X W b wb) (hm : behindInMarks .In b = false := by rfl) : DT X W (.Compare a [.In] [b] pos) (wTst (wBin (gInD false) wa wb)) := by
  refine PT.le (pt_cmp (pc_din hu ha hb) hm) fun σ H Q h => ?_
  obtain z := ltst h
  refine lop (r := fun y x H Q => ∃ a o, x = .ref a ∧ DGet H a y o ∧ Q (.bl o.isSome) H) (W := W) (Q := fun x H' => ∃ k, x = .bl k ∧ Q k H') (fun T H σ da db va vb Q q g hva hvb hg k => ?_) z
  obtain ⟨a, o, r, ev, g1, q1, h1, h2⟩ := dget_rep hvb hva hg
  exact ⟨a, o, ev, g1, by rw [some_iff h1 h2]; exact k T H (.val (.bl r.isSome)) _ (Gr.refl g) (by show RepV _ _ _ _ _; simp [RepV]) (by simpa using q1)⟩
theorem dtninD (hu : X.A.units + 1 < cLine) (ha : DE X W a wa) (hb : DE X W b wb) (hm : behindInMarks .NotIn b = false := by rfl) : DT X W (.Compare a [.NotIn] [b] pos) (wTst (wBin (gInD true) wa wb)) := by
  refine PT.le (pt_cmp (pc_dnotin hu ha hb) hm) fun σ H Q h => ?_
  obtain z := ltst h
  refine lop (r := fun y x H Q => ∃ a o, x = .ref a ∧ DGet H a y o ∧ Q (.bl (!o.isSome)) H) (W := W) (Q := fun x H' => ∃ k, x = .bl k ∧ Q k H') (fun T H σ da db va vb Q q g hva hvb hg k => ?_) z
  obtain ⟨a, o, r, ev, g1, q1, h1, h2⟩ := dget_rep hvb hva hg
  exact ⟨a, o, ev, g1, by rw [some_iff h1 h2]; exact k T H (.val (.bl (!r.isSome))) _ (Gr.refl g) (by show RepV _ _ _ _ _; simp [RepV]) (by simpa using q1)⟩
end
def blkB (N : List Str) (sc scope : Scope) (own : List (Str × Nat)) : Bool :=
  (match scope.kind with | .function => true | _ => false) && scope.names.all (fun y => decide (scope.names.lookup y.1 = some y.2)) && own.all (fun p => decide (N[p.2]? = some p.1)) &&
  scope.names.all (fun y => !decide (y.2 = .free) || decide (sc.names.lookup y.1 = some .cell) || decide (sc.names.lookup y.1 = some .free)) &&
  scope.names.all (fun y => !(decide (y.2 = .local) || decide (y.2 = .cell)) || (own.map (·.1)).contains y.1 || !N.contains y.1)
theorem blk_of {N : List Str} {sc scope : Scope} {own : List (Str × Nat)} (h : blkB N sc scope own = true) : BlkOk N sc scope own := by
  unfold blkB at h
  simp only [Bool.and_eq_true, List.all_eq_true, decide_eq_true_eq, Bool.or_eq_true, Bool.not_eq_true', decide_eq_false_iff_not, Bool.not_eq_eq_eq_not, Bool.not_true] at h
  obtain ⟨⟨⟨⟨h1, h2⟩, h3⟩, h4⟩, h5⟩ := h
  refine ⟨?_, h2, h3, fun y hy e => ?_, fun y hy e => ?_⟩
  · cases q : scope.kind <;> rw [q] at h1 <;> first | rfl | cases h1
  · rcases h4 y hy with (z | z) | z
    · exact absurd e z
    · exact .inl z
    · exact .inr z
  · rcases h5 y hy with (z | z) | z
    · rcases e with e | e
      · simp [e] at z
      · simp [e] at z
    · exact .inl (by simpa using z)
    · exact .inr (by simpa using z)
end DL
namespace DL
open PySem PySem.Spec PyProof.Rows L2
/-- the end of a law whose lambdas fill the tables ts -/
theorem walkT {l : PySem.W.OpenLaw} {n k : Nat} {q : Program} {loose : List Str} {XP : (Str → Option Value) → Heap → Prop} {YP : World → Heap → Prop} {d : DefRec} {K : Params → PySem.W.Frag} {x : Str} (ts : List Addr)
    (hn : l.most = some n) (hn2 : n ≤ sizeLine) (hdf : d.params.defaults = []) (hr : Room k callerA) (hY : ∀ (w : World) (h : Heap), YP w h → (K w.params).In h) (hTs : ∀ (w : World) (h : Heap), YP w h → ∀ p ∈ ts, h.get? p = some { cls := .none, data := .fields #[] })
    (F : ∀ (w : World) (mg : Str → Option Value) (fa : Addr) (h : Heap), (K w.params).In h → h.Ns mainGlobals mg → mg d.name = some (.ref fa) →
      ∃ (E : TabEnv) (ct : List (Addr × Addr)) (fd : FuncData), (∀ p ∈ E.ts, p.1 ∈ ct.map (·.2)) ∧ (∀ p ∈ ct, p.2 ∈ ts ∧ (K w.params).lookup p.2 = none ∧ PySem.W.codeHdIn (K w.params) p.1 p.2 = true) ∧ (∀ (s : Shared) (u : Value), BindsTo s fd ⟨[u], []⟩ [(x, u)]) ∧
        ∃ sp : DSp, (∀ ns : List Int, ns.length ≤ n → spScript sp ns) ∧ ∀ base : Heap, (K w.params).In base → base.Ns mainGlobals mg → (∀ p ∈ ct, LamX.TabB base mg p.1 p.2) → FnG l.prog w (K w.params) mg base k fa fd [x] (@spL E (K w.params) sp)) :
    PySem.W.WalkO q loose XP YP l.row.toRowW d [] (fun f vs => PySem.call f vs) := by
  apply Att.attach_call hn hdf
  intro w s₀ s₁ mg mb fa o pm cd doc a vs ns G Y ho hd hcd hmg hobj hints hlen hg
  have KX := hY w _ Y
  obtain ⟨E, ct, fd, h1, h2, hb, sp, hs, hF⟩ := F w mg fa _ KX G.T.g hmg
  exact @law_callG E _ _ _ _ _ _ _ _ _ _ _ _ _ _ ct h1 ⟨fun p hp => hTs w _ Y _ (h2 p hp).1, fun p hp => (h2 p hp).2.1, fun p hp => PySem.W.codeHd_of_K KX (h2 p hp).2.2⟩ G.T.bmain KX G.T.g G.T.b G.T.builtins G.T.nolimit hg hobj hints (Nat.le_trans hlen hn2) hr hF hb (hs ns hlen)
/-- the law's end: its promise at every script -/
theorem walkX {l : PySem.W.OpenLaw} {n k : Nat} {q : Program} {loose : List Str} {XP : (Str → Option Value) → Heap → Prop} {YP : World → Heap → Prop} {d : DefRec} {K : Params → PySem.W.Frag} {x : Str}
    (hn : l.most = some n) (hn2 : n ≤ sizeLine) (hdf : d.params.defaults = []) (hr : Room k callerA) (hY : ∀ (w : World) (h : Heap), YP w h → (K w.params).In h)
    (F : ∀ (w : World) (mg : Str → Option Value) (fa : Addr) (h : Heap), (K w.params).In h → h.Ns mainGlobals mg → mg d.name = some (.ref fa) →
      ∃ fd : FuncData, (∀ (s : Shared) (u : Value), BindsTo s fd ⟨[u], []⟩ [(x, u)]) ∧ ∃ sp : DSp, (∀ ns : List Int, ns.length ≤ n → spScript sp ns) ∧
        ∀ base : Heap, (K w.params).In base → base.Ns mainGlobals mg → FnG l.prog w (K w.params) mg base k fa fd [x] (@spL ⟨[]⟩ (K w.params) sp)) : PySem.W.WalkO q loose XP YP l.row.toRowW d [] (fun f vs => PySem.call f vs) := by
  refine walkT (x := x) [] hn hn2 hdf hr hY (fun _ _ _ p hp => by cases hp) fun w mg fa h X G hm => ?_
  obtain ⟨fd, hb, sp, hs, hF⟩ := F w mg fa h X G hm
  refine ⟨⟨[]⟩, [], fd, fun p hp => ?_, fun p hp => ?_, hb, sp, hs, fun base h1 h2 _ => hF base h1 h2⟩
  · exact absurd hp (List.not_mem_nil (a := p))
  · exact absurd hp (List.not_mem_nil (a := p))
end DL

end DlU
section DlV
set_option Elab.async false
set_option linter.all false
set_option maxRecDepth 100000
set_option maxHeartbeats 4000000
/-! DlV: != by an own __eq__; a dict of one tuple key. -/
namespace DL
open PySem PySem.Spec PyProof.Rows L2
variable [TabEnv]
section
variable {prog : Program} {w : World} {A : Around} {E : Value → Shared → Prop} {s : Shared} {K : PySem.W.Frag} {x C f L : Addr} {h₀ : Heap} {mm : Str → Option Value} {ox : Obj} {od : Option Obj} {b tb : Value}
theorem ifB_ne {M : Model} {args : List Value} {Q : Option Value → Shared → Prop} (X : K.In s.heap) (I : PySem.W.InstAt s.heap x ox C od) (hs : PySem.W.findIn K (.ref C) "__ne__" = some (some (.builtin "object.__ne__")))
    (h : wpAny M A (call (.builtin "object.__ne__") (.ref x :: args)) (fun v => Q (some v)) E s) : wpAny M A (callSpecialIfBound? (.ref x) "__ne__" args) Q E s := by
  simp only [callSpecialIfBound?, bindSpecialIfBound?]
  refine wpAny_holding (wpAny_bind (wpAny_bind (wpAny_bind (I.type.here ((PySem.W.looks_findIn X hs).here ?_)))))
  refine wpAny_bind (wpAny_askSetting (wpAny_ite ?_))
  have fin : wpAny M A (call (.builtin "object.__ne__") ([.ref x] ++ args) >>= fun v => pure (some v)) Q E s := wpAny_bind (wpAny_mono h (fun v s' h' => wpAny_pure h') fun _ _ h' => h')
  split
  · exact wpAny_bind (wpAny_of_eq (F.cmp_object.ne.bind _) (wpAny_pure (by exact fin)))
  · exact wpAny_tryCatch (wpAny_bind (wpAny_of_eq (F.cmp_object.ne.bind _) (wpAny_pure (by exact fin))))
theorem ent_ne {Q : Fin → Shared → Prop} {b : Addr} (X : K.In s.heap) (I : PySem.W.InstAt s.heap x ox C od) (hu : A.units < cLine) (he : PySem.W.findIn K (.ref C) "__eq__" = some (some (.ref f))) (hf : PySem.W.isFn K (.ref f) = true)
    (hcall : wpAny (model prog w) A (call (.ref f) [.ref x, .ref b]) (fun v s' => ∃ t, v = .bool t ∧ Q (.done (.ret (.bool (!t)))) s') E s) :
    wpAny (model prog w) A (Builtin.«object.__ne__» ⟨[.ref x, .ref b], []⟩) Q E s := by
  unfold Builtin.«object.__ne__»
  repeat (first
    | with_reducible refine wpAny_cRoomFor hu ?_
    | (refine wpAny_bind (m := callSpecialIfBound? (.ref x) (Str.ofString "__eq__") [.ref b])
        (PySem.W.ifBound_K X I he hf (wpAny_mono hcall (fun r s' hr => by
          obtain ⟨b, rfl, hq⟩ := hr
          repeat (first | exact hq | exact wpAny_pure hq | exact wpAny_truthy_bool hq | (refine wpAny_bind (m := truthy (.bool _)) (wpAny_truthy_bool ?_)) | wp_step)) fun _ _ e => e)))
    | wp_step)
theorem cmpNe_K {Q : Value → Shared → Prop} {b : Addr} (hu : A.units + 1 < cLine) (X : K.In s.heap) (I : PySem.W.InstAt s.heap x ox C od) (hb : PySem.W.Looks (model prog w) s.heap (typeOf (.ref b)) tb) (hn : PySem.W.notFirst K C tb = true)
    (hm : PySem.W.mroIn K C (.type "object") = some true) (hs : PySem.W.findIn K (.ref C) "__ne__" = some (some (.builtin "object.__ne__"))) (he : PySem.W.findIn K (.ref C) "__eq__" = some (some (.ref f))) (hf : PySem.W.isFn K (.ref f) = true)
    (h : wpAny (model prog w) A.in1 (call (.ref f) [.ref x, .ref b]) (fun v s' => ∃ t, v = .bool t ∧ Q (.bool (!t)) s') E s) : wpAny (model prog w) A (richCompare .NotEq (.ref x) (.ref b)) Q E s := by
  have one : wpAny (model prog w) A (tryCompare (.ref x) "__ne__" (.ref b)) (fun r s' => ∃ v, r = some v ∧ Q v s') E s := by
    unfold tryCompare
    refine wpAny_bind (ifB_ne X I hs (wpAny_call (codeAny_call_builtin F.cmp_object.ne.plain F.cmpEntry_ne (PySem.W.check_slot F.cmpKind_ne F.cmpSplit_ne (I.type.andThen (PySem.W.looks_mroIn X hm)) (F.cmpArgs_ne _ _) (ent_ne X I ?_ he hf (wpAny_mono h (fun v s' hv => ?_) fun _ _ e => e))))))
    · exact hu
    · obtain ⟨t, rfl, hq⟩ := hv
      exact ⟨t, rfl, wpAny_pure ⟨_, rfl, hq⟩⟩
  unfold richCompare
  simp only [oneThing_ref]
  refine wpAny_holding (wpAny_bind (wpAny_cRoomFor (Nat.lt_of_succ_lt hu) ?_))
  refine wpAny_bind (I.type.here (wpAny_bind (hb.here ?_)))
  split
  · rename_i q
    have e : PySem.W.subIn K tb (.ref C) = some false := by
      rcases Bool.or_eq_true_iff.mp hn with e | e
      · rw [beq_iff_eq.mp e] at q; simp at q
      · exact beq_iff_eq.mp e
    refine wpAny_bind ((PySem.W.looks_subIn X e).here ?_)
    simp only [Bool.false_eq_true, if_false]
    refine wpAny_bind (wpAny_mono one (fun r s' z => ?_) fun _ _ e => e)
    obtain ⟨v, rfl, hq⟩ := z
    exact wpAny_pure hq
  · refine wpAny_bind (wpAny_pure ?_)
    simp only [Bool.false_eq_true, if_false]
    refine wpAny_bind (wpAny_mono one (fun r s' z => ?_) fun _ _ e => e)
    obtain ⟨v, rfl, hq⟩ := z
    exact wpAny_pure hq
end
def wOp2N (C : Addr) (sp : DSp) (wa wb : WE) : WE := fun env q x => wOp2 C sp wa wb env (fun r e => match r with
  | .val (.bl b) => q (.val (.bl (!b))) e
  | _ => False) x
section
variable {X : Cx} {W : WX} {pos p apos cpos : Pos} {k : Nat} {f C : Addr} {fd : FuncData} {ps : List Str} {sp : DSp} {a b : Expr} {wa wb : WE}
/-- !=, two of a class with an own __eq__ -/
theorem pcOpNe (hs : PySem.W.findIn X.K (.ref C) "__eq__" = some (some (.ref f))) (hne : PySem.W.findIn X.K (.ref C) "__ne__" = some (some (.builtin "object.__ne__"))) (hmo : PySem.W.mroIn X.K C (.type "object") = some true) (hf : PySem.W.isFn X.K (.ref f) = true) (hn : PySem.W.notFirst X.K C (.ref C) = true) (F : FnG X.prog X.w X.K X.mg X.base k f fd ps (spL X.K sp)) (ck : Cal X W (k + 1)) (hb : Binds X.K fd ps [])
    (ha : DE X W a wa) (hb' : DE X W b wb) : PC X .NotEq a b (LE X.K W (wOp2N C sp wa wb)) := by
  refine ⟨fun pins s σ0 H0 Q0 I' h => ?_⟩
  obtain ⟨T, env, q, y, E, w, k', xk⟩ := h
  refine binT ha hb' I' (two_args (Q := fun v H' => ∃ t, v = .bl t ∧ Q0 (.bl (!t)) H') E w (fun T' H' env' r v a' r' q' => ?_) xk) fun v u s2 x z H2 I2 rx ry h => ?_
  · cases r with
    | val d =>
      cases d with
      | bl t =>
        have rv : v = .bl t := by have r' : RepV _ _ _ _ _ := r'; simpa only [RepV] using r'
        exact ⟨t, rv, k' T' H' env' (.val (.bl (!t))) _ a' (by show RepV _ _ _ _ _; simp [RepV]) q'⟩
      | _ => exact q'.elim
    | _ => exact q'.elim
  · obtain ⟨a, b, dx, dz, fs, gs, rfl, rfl, hHa, hHb, q2⟩ := h
    cases (show v = Value.ref a from rx)
    cases (show u = Value.ref b from ry)
    obtain ⟨mA, O, _⟩ := ins_get I2.hok hHa
    obtain ⟨od, J, _⟩ := O.look
    obtain ⟨mB, O', _⟩ := ins_get I2.hok hHb
    obtain ⟨od', J', _⟩ := O'.look
    have hr : Room k X.A.in1 := Room.in1 ck.room
    have hg : X.A.in1.guards = some [] := ck.gds
    have hx := passAt (X := X) ck.tk σ0
    refine cmpNe_K (tb := .ref C) ck.hu I2.kIn J J'.type hn hmo hne hs hf ?_
    have r2 : Vals [V.ref a, V.ref b] [Value.ref a, Value.ref b] := .cons rfl (.cons rfl .nil)
    have hl : ([Value.ref a, Value.ref b] : List Value).length = ps.length := by rw [← r2.length]; exact F.len _ _ _ _ q2
    have bd := hb s2 [.ref a, .ref b] I2.kIn hl
    rw [List.append_nil] at bd
    refine wpAny_call (codeAny_mono (F.run X.A.in1 X.stack s2 H2 ⟨[.ref a, .ref b], []⟩ _ _ _ _ hr hg I2.env0.in1 bd r2 q2) fun r s' hq => ?_)
    cases r with
    | error e => exact hx pins H2 s2 e s' I2 hq
    | ok fl =>
      cases fl with
      | ret u =>
        obtain ⟨v, H', I3, rv, t, et, qz⟩ := I2.after hq
        subst et
        obtain rfl : u = Value.bool t := rv
        exact ⟨t, rfl, ⟨.bl (!t), H', I3, rfl, qz⟩⟩
      | next => exact False.elim hq
      | brk => exact False.elim hq
      | cont => exact False.elim hq
theorem dopNe (hs : PySem.W.findIn X.K (.ref C) "__eq__" = some (some (.ref f))) (hne : PySem.W.findIn X.K (.ref C) "__ne__" = some (some (.builtin "object.__ne__"))) (hmo : PySem.W.mroIn X.K C (.type "object") = some true) (hf : PySem.W.isFn X.K (.ref f) = true) (hn : PySem.W.notFirst X.K C (.ref C) = true) (F : FnG X.prog X.w X.K X.mg X.base k f fd ps (spL X.K sp)) (ck : Cal X W (k + 1)) (hb : Binds X.K fd ps [])
    (ha : DE X W a wa) (hb' : DE X W b wb) (hm : behindInMarks .NotEq b = false := by first | exact nobehind _ (by decide) (by decide) | rfl) : DE X W (.Compare a [.NotEq] [b] pos) (wOp2N C sp wa wb) := pe_cmp (pcOpNe hs hne hmo hf hn F ck hb ha hb') hm
theorem dtopNe (hs : PySem.W.findIn X.K (.ref C) "__eq__" = some (some (.ref f))) (hne : PySem.W.findIn X.K (.ref C) "__ne__" = some (some (.builtin "object.__ne__"))) (hmo : PySem.W.mroIn X.K C (.type "object") = some true) (hf : PySem.W.isFn X.K (.ref f) = true) (hn : PySem.W.notFirst X.K C (.ref C) = true) (F : FnG X.prog X.w X.K X.mg X.base k f fd ps (spL X.K sp)) (ck : Cal X W (k + 1)) (hb : Binds X.K fd ps [])
    (ha : DE X W a wa) (hb' : DE X W b wb) (hm : behindInMarks .NotEq b = false := by first | exact nobehind _ (by decide) (by decide) | rfl) : DT X W (.Compare a [.NotEq] [b] pos) (wTst (wOp2N C sp wa wb)) := PT.le (pt_cmp (pcOpNe hs hne hmo hf hn F ck hb ha hb') hm) fun σ H Q h => ltst h
/-- ==, as a test -/
theorem dtopEq (hs : PySem.W.findIn X.K (.ref C) "__eq__" = some (some (.ref f))) (hf : PySem.W.isFn X.K (.ref f) = true) (hn : PySem.W.notFirst X.K C (.ref C) = true) (F : FnG X.prog X.w X.K X.mg X.base k f fd ps (spL X.K sp)) (ck : Cal X W k) (hb : Binds X.K fd ps [])
    (ha : DE X W a wa) (hb' : DE X W b wb) (hm : behindInMarks .Eq b = false := by first | exact nobehind _ (by decide) (by decide) | rfl) : DT X W (.Compare a [.Eq] [b] pos) (wTst (wOp2 C sp wa wb)) := by
  refine PT.le (pt_cmp (t := LE X.K W (wOp2 C sp wa wb)) ⟨fun pins s σ0 H0 Q0 I' h => ?_⟩ hm) fun σ H Q h => ltst h
  obtain ⟨T, env, q, y, E, w, k', xk⟩ := h
  refine binT ha hb' I' (two_args E w k' xk) fun v u s2 x z H2 I2 rx ry h => ?_
  obtain ⟨a, b, dx, dz, fs, gs, rfl, rfl, hHa, hHb, q2⟩ := h
  cases (show v = Value.ref a from rx)
  cases (show u = Value.ref b from ry)
  obtain ⟨mA, O, _⟩ := ins_get I2.hok hHa
  obtain ⟨od, J, _⟩ := O.look
  obtain ⟨mB, O', _⟩ := ins_get I2.hok hHb
  obtain ⟨od', J', _⟩ := O'.look
  obtain ⟨mm, hF⟩ := I2.fr
  refine PySem.W.cmp_K (op := .Eq) (tb := .ref C) ck.room.units0 hF I2.ok.mod.kin J J'.type hn hs hf ?_
  refine wpAny_mono (run_fnG (us := [.ref a, .ref b]) (vs := [.ref a, .ref b]) F ck.room ck.gds hb .nil (passAt ck.tk _) I2 (.cons rfl (.cons rfl .nil)) (by simpa using q2)) (fun w s' z => ?_) fun _ _ x => x
  obtain ⟨z', H', I', rz, qz⟩ := z
  exact SlX.cmpback rz ⟨z', H', I', rz, qz⟩
end
end DL

end DlV
section DlX
set_option Elab.async false
set_option linter.all false
set_option maxRecDepth 100000
set_option maxHeartbeats 4000000
/-! DlX: {k: v} with a tuple key. -/
namespace DL
open PySem PySem.Spec PyProof.Rows L2
variable [TabEnv]
section
variable {X : Cx} {pos : Pos}
theorem pe_disp1 {k v : Expr} {tk tv : TE} (hu : X.A.units < cLine) (hk : PE X k tk) (hv : PE X v tv) : PE X (.Dict [some k] [v] pos) (fun σ H Q => ∀ p, H p = none → tk σ (upd H p (.dT [])) fun x H1 => tv σ H1 fun y H2 =>
    H2 p = some (.dT []) ∧ ∃ (kk : List Key) (b : Addr), x = .ref b ∧ H2 b = some (.tup (kk.map kV)) ∧ Q (.ref p) (upd H2 p (.dT [(kk, y)]))) := by
  refine ⟨fun pins s σ H Q I q => ?_⟩
  have hn := I.hok.fresh (Nat.le_refl s.heap.objs.size)
  have I1 := I.laid (a := s.heap.objs.size) (o := .dT []) (h' := s.heap.push { cls := .type "dict", data := .dict #[] }) (t' := s.toks) (fun _ _ q => Heap.get?_push_of_some _ q) (Nat.le_refl _) (dt_empty s.heap I.big)
  rw [arm_eval_Dict, zip_pairTrees [some k] [v] X.env pos rfl rfl, dictDisplay_pairs _ (by simp [pairTrees]) (by simp [pairTrees])]
  refine wpAny_bind (wpAny_standAt (wpAny_bind (wpAny_subDictH (knd := tupleKind (mixKind X.prog X.w)) (Q := fun d s' => wpAny (model X.prog X.w) X.A (pure (Value.ref d)) (EP X pins σ Q) X.xe s') hu (by simp [pairTrees]) ?_)))
  refine pairTrees_cons_walk (thn (hk.run pins _ σ _ _ I1 (q _ hn)) fun u s1 ⟨x, H1, I1, rx, q1⟩ => thn (hv.run pins s1 σ H1 _ I1 q1) fun w2 s2 ⟨y, H2, I2, ry, q2⟩ => pairTrees_nil_walk ?_)
  obtain ⟨e, kk, b, rfl, eb, q3⟩ := q2
  cases (show u = Value.ref b from rx)
  obtain ⟨z, hd, xs, rel, dd⟩ := dt_of I2.hok e
  cases rel
  refine ⟨[(kk, b, w2)], ⟨rfl, rfl, key_of I2.hok eb, trivial⟩, dd, fun h' tk dd' hs => wpAny_pure ?_⟩
  have he : ∃ q, h'.get? s.heap.objs.size = some q := let ⟨q, _, _, hq, _⟩ := dd'; ⟨q, hq⟩
  have hne : b ≠ s.heap.objs.size := fun z => by rw [z, e] at eb; cases eb
  refine ⟨.ref s.heap.objs.size, _, d_write I2 (by rw [e]; exact True.intro) hs he ?_, rfl, q3⟩
  obtain ⟨o, es, ep, h1, h2, h3, h4, _, h5⟩ := dd'
  exact ⟨(show 1 ≤ sizeLine by decide), hd, [(kk, b, w2)], .cons ⟨rfl, by rw [upd_ne hne]; exact eb, ry⟩ .nil, o, es, ep, h1, h2, h3, h4, h5⟩
end
def wDisp1 (wk wv : WE) : WE := fun env q x => wk env (fun rk e1 => wv e1 (fun rv e2 => match rk with
  | .val (.tup ds) => ∃ y, D.keys ds = some y ∧ dv rv fun d => q (.own (.dt [(y, d)])) e2
  | _ => False) x) x
section
variable {X : Cx} {W : WX} {pos : Pos} {k v : Expr} {wk wv : WE}
theorem ddisp1 (hu : X.A.units + 1 < cLine) (hk : DE X W k wk) (hv : DE X W v wv) : DE X W (.Dict [some k] [v] pos) (wDisp1 wk wv) := by
  refine PE.le (pe_disp1 (Nat.lt_of_succ_lt hu) hk hv) fun σ H Q h => ?_
  obtain ⟨T, env, q, x, E, w, k', xk⟩ := h
  intro p hp
  have g := Gr.alloc (o := .dT []) (t := some .tmp) E.good hp (by simp) (.inr fun _ z => by cases z)
  have a0 := (Af.refl E).grow g
  have hp0 : T p = none := E.good.none hp
  refine ⟨_, env, _, x, a0.ev, w, fun T1 H1 e1 rk u a1 r1 w1 => ⟨T1, e1, _, x, a1.ev, w1, fun T2 H2 e2 rv y a2 r2 w2 => ?_, (xk.after a0).after a1⟩, xk.after a0⟩
  cases rk <;> first | exact w2.elim | skip
  rename_i dk
  cases dk <;> first | exact w2.elim | skip
  rename_i ds
  obtain ⟨ks, ek, w3⟩ := w2
  have t1 := a1.fr.tmp (tag_same : tag T p (some .tmp) p = some .tmp)
  have t2 := a2.fr.tmp t1.1
  have r1' : RepV X.K T2 H2 (.tup ds) u := RepV.mono a2.fr.le _ _ r1
  obtain ⟨b, zs, rfl, s, rz⟩ := (View.of r1').tup
  cases keys_rep rz ek
  have a3 := (a0.trans a1).trans a2
  have tp1 : T1 p = some .tmp := t1.1
  have hp2 : H2 p = some (.dT []) := t2.2.trans (t1.2.trans upd_same)
  obtain ⟨T5, d, f5, E5, le5, tp5, rv5, w5⟩ : ∃ T5 d, Fr T H T5 H2 ∧ EvOk X.K T5 H2 e2 σ ∧ Le T2 H2 T5 H2 ∧ T5 p = some .tmp ∧ RepV X.K T5 H2 d y ∧ q (.own (.dt [(ks, d)])) e2 := by
    cases rv with
    | val d => exact ⟨T2, d, a3.fr, a3.ev, fun _ e => ⟨e, .inl rfl⟩, t2.1, r2, w3⟩
    | loc i => exact w3.elim
    | own o =>
      obtain ⟨c, ec, n, t, ro⟩ := r2
      subst ec
      have hc : p ≠ c := fun z => n (by rw [← z]; exact tp1)
      have n0 : T c ≠ some .tmp := fun z => n (((a0.trans a1).fr.tmp z).1)
      exact ⟨tag T2 c (some .fz), o.toD, a3.fr.retag t n0 (by simp), a3.ev.retag t, Le.retag t, by rw [tag_ne hc]; exact t2.1, RepO.frozen (ro.mono (Le.retag t) rfl) tag_same, w3⟩
  obtain ⟨E', le⟩ := E5.bump (o := .dT [(ks, y)]) tp5 fun _ z => by cases z
  have n0 : T p ≠ some .tmp := by rw [hp0]; simp
  refine ⟨hp2, ks, b, rfl, s.2, ?_⟩
  exact k' T5 _ e2 (.own (.dt [(ks, d)])) _ ⟨f5.bump E'.good tp5 n0, E', a3.kp⟩ ⟨p, rfl, n0, tp5, [(ks, y)], upd_same, rfl, .cons (RepV.mono le _ _ rv5) .nil⟩ w5
end
end DL
namespace DL
open PySem PySem.Spec PyProof.Rows L2
variable [TabEnv]
section
variable {X : Cx} {W : WX} {pos : Pos} {wa wb wc : WE} {a b c : Expr}
theorem lchain {r r' : R2} {g g' : D → D → (R → Prop) → Prop} {σ : L2.St} {H : Hp} {Q : VK}
    (hr : ∀ T H σ da db va vb (Q : VK) (q : R → Prop), Good T H → View X.K T H da va → View X.K T H db vb → g da db q → (∀ T' H' res v, Gr T H T' H' → RepR X.K T T' H' σ res v → q res → Q v H') → r va vb H Q)
    (hr' : ∀ T H σ da db va vb (Q : VK) (q : R → Prop), Good T H → View X.K T H da va → View X.K T H db vb → g' da db q → (∀ T' H' res v, Gr T H T' H' → RepR X.K T T' H' σ res v → q res → Q v H') → r' va vb H Q)
    (h : LE X.K W (wChain g g' wa wb wc) σ H Q) : tChain r r' (LE X.K W wa) (LE X.K W wb) (LE X.K W wc) σ H Q := by
  obtain ⟨T, env, q, x, E, w, k, xk⟩ := h
  refine ⟨T, env, _, x, E, w, fun T1 H1 e1 ra va a1 ra1 w1 => ?_, xk⟩
  refine ⟨T1, e1, _, x, a1.ev, w1, fun T2 H2 e2 rb vb a2 rb2 w2 => ?_, xk.after a1⟩
  obtain ⟨da, hva, w3⟩ := vw_view a2.ev (ra1.mono a2.fr) w2
  obtain ⟨db, hvb, w4⟩ := vw_view a2.ev rb2 w3
  refine hr T2 H2 σ da db va vb _ _ a2.ev.good hva hvb w4 fun T3 H3 res v g3 r3 q3 => ?_
  have a3 := (a1.trans a2).grow g3
  cases res with
  | val d =>
    cases d with
    | bl t =>
      have e : v = .bl t := by simpa only [RepR, RepV] using r3
      refine ⟨t, e, ?_⟩
      cases t with
      | false =>
        rw [if_neg (by simp)]
        exact k T3 H3 e2 (.val (.bl false)) _ a3 (by show RepV _ _ _ _ _; simp [RepV]) (by simpa using q3)
      | true =>
        rw [if_pos rfl]
        refine ⟨T3, e2, _, x, a3.ev, (by simpa using q3), fun T4 H4 e4 rc vc a4 rc4 w5 => ?_, xk.after a3⟩
        obtain ⟨db', hvb', w6⟩ := vw_view a4.ev (rb2.mono (g3.fr.trans a4.fr)) w5
        obtain ⟨dc, hvc, w7⟩ := vw_view a4.ev rc4 w6
        refine hr' T4 H4 σ db' dc vb vc Q _ a4.ev.good hvb' hvc w7 fun T5 H5 res5 v5 g5 r5 q5 => ?_
        exact k T5 H5 e4 res5 v5 ((a3.trans a4).grow g5) (r5.pre (a3.trans a4).fr) q5
    | _ => exact q3.elim
  | _ => exact q3.elim
/-- a op b op' c, as a test -/
theorem dtchain {op op' : CmpOp} {g g' : D → D → (R → Prop) → Prop} (ho : OpD X (compareOp op) g) (ho' : OpD X (compareOp op') g') (ha : DE X W a wa) (hb : DE X W b wb) (hc : DE X W c wc)
    (hm : lastMarks [op, op'] [b, c] = false := by with_unfolding_all rfl) : DT X W (.Compare a [op, op'] [b, c] pos) (wTst (wChain g g' wa wb wc)) := by
  obtain ⟨r, h1, h2⟩ := ho
  obtain ⟨r', h3, h4⟩ := ho'
  refine PT.le (pt_chain h1 h3 ha hb hc hm) fun σ H Q h => ?_
  exact lchain (W := W) (Q := fun x H' => ∃ k, x = .bl k ∧ Q k H') h2 h4 (ltst h)
theorem dchain {op op' : CmpOp} {g g' : D → D → (R → Prop) → Prop} (ho : OpD X (compareOp op) g) (ho' : OpD X (compareOp op') g') (ha : DE X W a wa) (hb : DE X W b wb) (hc : DE X W c wc)
    (hm : lastMarks [op, op'] [b, c] = false := by with_unfolding_all rfl) : DE X W (.Compare a [op, op'] [b, c] pos) (wChain g g' wa wb wc) := by
  obtain ⟨r, h1, h2⟩ := ho
  obtain ⟨r', h3, h4⟩ := ho'
  exact PE.le (pe_chain h1 h3 ha hb hc hm) fun σ H Q h => lchain h2 h4 h
end
end DL

end DlX
section DlY
set_option Elab.async false
set_option linter.all false
set_option maxRecDepth 100000
set_option maxHeartbeats 4000000
/-! DlY: several clauses 'except C as n'. -/
namespace DL
open PySem PySem.Spec PyProof.Rows L2
variable [TabEnv]
abbrev ClT := Addr → Value → Option Addr → TS
/-- the ends of a suite whose name in slot i goes -/
def goneE (i : Nat) (D : Ends) : Ends := { nx := fun τ K => D.nx (τ.set i none) K, rt := D.rt, bk := fun τ K => D.bk (τ.set i none) K, ct := fun τ K => D.ct (τ.set i none) K }
def wClauses (K : PySem.W.Frag) (Wout : WX) (D : Ends) (ls : List (Value × Nat × ClT)) : WX := match ls with
  | [] => Wout
  | l :: r => fun cls d σ H => ∃ t, PySem.W.exmOne K cls l.1 = some t ∧ (if t = true then ∀ a, H a = none → l.2.2 a cls d (goneE l.2.1 D) (σ.set l.2.1 (some (.ref a))) H else wClauses K Wout D r cls d σ H)
inductive Clauses (X : Cx) : List ExceptHandler → List (Value × Nat × ClT) → Prop
  | nil : Clauses X [] []
  | cons {x n : Str} {c : Value} {i : Nat} {ts : ClT} {b₀ : Stmt} {suite : List Stmt} {np cp : Pos} {es : List ExceptHandler} {ls : List (Value × Nat × ClT)} (hi : X.N[i]? = some n) (hl : X.env.kindOf n = some .local) (hc : Names X x c)
      (hsu : ∀ (a : Addr) (oe : Obj) (cls : Value) (d : Option Addr) (pn : List (Addr × Obj)), Zc cls d oe → (∃ vs, oe.data = .fields vs) → PSs (X.suite a ((a, oe) :: pn)) (b₀ :: suite) (ts a cls d)) (r : Clauses X es ls) :
      Clauses X (.ExceptHandler (some (.Name x np)) (some n) (b₀ :: suite) cp :: es) ((c, i, ts) :: ls)
section
variable {X : Cx} {body : List Stmt} {h₀ : ExceptHandler} {es : List ExceptHandler} {ls : List (Value × Nat × ClT)} {pos : Pos} {tb : WX → TS} {Wout : WX}
/-- an end of a body is an end of the whole -/
theorem ends_of {xe : Value → Shared → Prop} {pins : List (Addr × Obj)} {fl : Flow} {s1 : Shared} {D : Ends} (ok : X.Ok) (h : SP (X.tr (X.pn ++ pins) xe) [] D fl s1) : SP X pins D fl s1 := by
  cases fl with
  | ret u =>
    obtain ⟨v, τ, K, J, r, q⟩ := h
    exact ⟨v, τ, K, Inv.ofTry J ok, r, q⟩
  | next =>
    obtain ⟨τ, K, J, q⟩ := h
    exact ⟨τ, K, Inv.ofTry J ok, q⟩
  | brk =>
    obtain ⟨τ, K, J, q⟩ := h
    exact ⟨τ, K, Inv.ofTry J ok, q⟩
  | cont =>
    obtain ⟨τ, K, J, q⟩ := h
    exact ⟨τ, K, Inv.ofTry J ok, q⟩
theorem ps_clauses (hs : X.stack = X.env :: X.outer) (hf : X.env.frame = some X.env.locals) (hN : X.N.Nodup) (tk : Takes X Wout)
    (hb : ∀ (W : WX) (pn : List (Addr × Obj)) (xe : Value → Shared → Prop), Takes (X.tr pn xe) W → PassesOwn (model X.prog X.w) X.A X.env xe → PSs (X.tr pn xe) body (tb W)) (hh : Clauses X (h₀ :: es) ls) :
    PS X (.Try body (h₀ :: es) [] [] pos) (fun D σ H => tb (wClauses X.K Wout D ls) D σ H) := by
  refine ⟨fun pins s σ H D I h => wpAny_Try_except ?_⟩
  have ok := I.ok
  have frm : X.A.frames = some (X.env :: X.outer) := ok.frames.trans (by rw [hs])
  refine wpAny_mono ((hb (wClauses X.K Wout D ls) (X.pn ++ pins) (fun e u => wpAny (model X.prog X.w) X.A (noteFrame e X.env) (fun _ u => wpAny (model X.prog X.w) X.A (setFlight e none) (fun _ u =>
    wpAny (model X.prog X.w) X.A (handleBy e X.env (h₀ :: es)) (SP X pins D) X.xe u) X.xe u) X.xe u) (fun u s' xx => ?_) PassesOwn.looking).run [] s σ H D (I.toTry _) h) (fun fl s1 e => ?_) (fun _ _ e => e)
  · obtain ⟨a, B, sI, pins', τ, G, cls, d, rfl, J', nb, up, sky, na, os, ag, w⟩ := xx
    have J : Inv X pins τ G sI := J'.ofTry ok
    show wpAny (model X.prog X.w) X.A (noteFrame (.ref a) X.env) _ _ _
    refine Sky.land (B := B) (outer := X.outer) (Z := Zc cls d) Zc.steady frm hf (by rw [← hs]; exact sky) fun g3 fl3 up3 => ?_
    have Jn : Inv X pins τ G { s' with heap := g3 } := J.landed nb fl3.1 (up.trans up3) os ag
    obtain ⟨oe, vs, he, hz, hd⟩ := fl3.there
    have nfr : a ∉ frs (X.env :: X.outer) := fun m => by
      obtain ⟨_, o, eo, hn⟩ := fl3.2.2.1.mem m
      cases he.symm.trans eo
      exact hn _ hd
    have nL : a ≠ X.env.locals := fun z => nfr (List.mem_filterMap.mpr ⟨X.env, .head _, by rw [hf, z]⟩)
    have nF : a ∉ X.fs := fun m => by
      obtain ⟨e, h1, h2⟩ := List.mem_filterMap.mp m
      exact nfr (List.mem_filterMap.mpr ⟨e, .tail _ h1, h2⟩)
    have Sn := Jn.suite he hd na nL nF
    have go : ∀ {es' : List ExceptHandler} {ls' : List (Value × Nat × ClT)}, Clauses X es' ls' → wClauses X.K Wout D ls' cls d τ G → wpAny (model X.prog X.w) X.A (handleBy (.ref a) X.env es') (SP X pins D) X.xe { s' with heap := g3 } := by
      intro es' ls' hk
      induction hk with
      | nil =>
        intro w
        refine wpAny_handleBy_nil ?_
        obtain ⟨_, _, _, o2, v2, T, _, _, e2, _, d2, f2, _⟩ := id fl3
        unfold PySem.passOn
        refine wpAny_bind (wpAny_field e2 d2 f2 ?_)
        rw [if_neg (by simp)]
        have fin : wpAny (model X.prog X.w) X.A (setFlight (.ref a) X.env.frame) (fun _ u => wpAny (model X.prog X.w) X.A (throw (.ref a) : Sem Flow) (SP X pins D) X.xe u) X.xe { s' with heap := g3 } := by
          rw [hf]
          refine HandSPX.setFlight_upZ fl3 fun g4 h4 up4 => wpAny_throw (tk _ _ ⟨a, B, sI, pins, τ, G, cls, d, rfl, J, nb, (up.trans up3).trans up4, .inr (.inr ?_), na, os, ag, w⟩)
          rw [hs]
          exact h4
        first
          | exact wpAny_bind (wpAny_pure (wpAny_bind fin))
          | exact wpAny_bind fin
      | @cons x n c i ts b₀ suite np cp es2 ls2 hi hl hc hsu r ih =>
        intro w
        obtain ⟨t, ht, w⟩ := w
        refine wpAny_handleBy_cons (codeAny_handlers_test ?_) (fun q => by cases q)
        have LM := PySem.W.exm_one (M := model X.prog X.w) Jn.kIn (show PySem.W.Looks (model X.prog X.w) g3 (typeOf (.ref a)) cls from fun A Q E s k q => wpAny_typeOf_ref (k _ _ he) (by rw [hz.1]; exact q)) ht
        have test : ∀ {Q E : Value → Shared → Prop}, Q c { s' with heap := g3 } → wpAny (model X.prog X.w) (X.A.mark (some (.ref a))) (eval (.Name x np) X.env) Q E { s' with heap := g3 } := fun q => by
          obtain ⟨k1, k2, k3 | ⟨k3, k4, k5⟩⟩ := hc
          · exact ld_glob (X := X.suite a ((a, oe) :: (X.pn ++ pins))) Sn k1 k3 q k2
          · exact ld_blt (X := X.suite a ((a, oe) :: (X.pn ++ pins))) Sn k1 k3 k4 q k5 k2
        refine test (LM.here ?_)
        cases t with
        | false => exact ih (by simpa using w)
        | true =>
          refine codeAny_handlers_suite_as (HandSPX.lands_againZ fl3 fun g4 fl4 up4 => ?_)
          have Jm : Inv X pins τ G { s' with heap := g4 } := J.landed nb fl4.1 ((up.trans up3).trans up4) os ag
          obtain ⟨o4, v4, e4, z4, d4⟩ := fl4.there
          refine store_ok (X := X.suite a ((a, o4) :: (X.pn ++ pins))) (v := .ref a) (Jm.suite e4 d4 na nL nF) hN hi (.inl hl) rfl (fun s5 S5 => ?_) (.inr hl)
          have w : ∀ a, G a = none → ts a cls d (goneE i D) (τ.set i (some (.ref a))) G := by simpa using w
          refine wpAny_mono ((hsu a o4 cls d (X.pn ++ pins) z4 ⟨_, d4⟩).run [] s5 _ G _ S5 (w a na)) (fun fl s6 e => ?_) (fun _ _ z => z.elim)
          have away : ∀ {τ6 : L2.St} {G6 : Hp} {Q : Shared → Prop}, Inv (X.suite a ((a, o4) :: (X.pn ++ pins))) [] τ6 G6 s6 → (∀ s7, Inv X pins (τ6.set i none) G6 s7 → Q s7) →
              wpAny (model X.prog X.w) X.A (do bindName X.env n .none; unbindBehindTheSuite X.env n cp) (fun _ s7 => Q s7) X.xe s6 := fun S6 q => gone_ok (S6.unsuite ok) hN hi hl q
          cases fl with
          | ret u =>
            obtain ⟨v6, τ6, G6, S6, r6, q6⟩ := e
            exact away S6 fun s7 J7 => ⟨_, _, _, J7, r6, q6⟩
          | next =>
            obtain ⟨τ6, G6, S6, q6⟩ := e
            exact away S6 fun s7 J7 => ⟨_, _, J7, q6⟩
          | brk =>
            obtain ⟨τ6, G6, S6, q6⟩ := e
            exact away S6 fun s7 J7 => ⟨_, _, J7, q6⟩
          | cont =>
            obtain ⟨τ6, G6, S6, q6⟩ := e
            exact away S6 fun s7 J7 => ⟨_, _, J7, q6⟩
    exact go hh w
  · have z := ends_of ok e
    cases fl with
    | next => exact wpAny_execs_nil z
    | ret u => exact z
    | brk => exact z
    | cont => exact z
end
end DL

end DlY
section DlZ
set_option Elab.async false
set_option linter.all false
set_option maxRecDepth 100000
set_option maxHeartbeats 4000000
/-! DlZ: raise, try, the fields of a caught exception. -/
namespace DL
open PySem PySem.Spec PyProof.Rows L2
variable [TabEnv]
/-- a clause: its class, the slot of its name, its suite -/
structure ClD where
  c : Value
  i : Nat
  w : Addr → Value → Option Addr → WS
/-- a name goes -/
def goneS (i : Nat) (e : Ev) (k : Ev → Prop) : Prop := match e[i]? with
  | some (.bor _) => False
  | some (.bfz _) => False
  | _ => k (e.set i .un)
def freeS (i : Nat) (e : Ev) : Prop := match e[i]? with
  | some (.bor _) => False
  | some (.bfz _) => False
  | _ => True
def goneP (i : Nat) (P : Po) : Po := { nx := fun e => goneS i e P.nx, rt := P.rt, ex := fun _ _ => False, bk := fun e => goneS i e P.bk, ct := fun e => goneS i e P.ct }
/-- what the clauses make of an exception -/
def wH (K : PySem.W.Frag) (hs : List ClD) (P : Po) (x : Exn) (e : Ev) : Prop := match hs with
  | [] => P.ex x e
  | h :: r => ∃ t, PySem.W.exmOne K x.cls h.c = some t ∧ if t = true then freeS h.i e ∧ ∃ C, x.cls = .ref C ∧ x.fs ≠ [] ∧ ∀ a dd, h.w a (.ref C) (some dd) (e.set h.i (.val (.xn a dd C (x.fs.map (·.1)) (x.fs.map (·.2))))) (goneP h.i P) else wH K r P x e
def wTry (K : PySem.W.Frag) (wb : WS) (hs : List ClD) : WS := fun env P => wb env { P with ex := wH K hs P }
section
variable {K : PySem.W.Frag} {W : WX} {T T0 T' : TM} {H H0 H' : Hp} {env env0 : Ev} {σ σ0 : L2.St} {P : Po} {F : Ends}
theorem free_b {i : Nat} {e : Ev} (h : freeS i e) : ∀ s, e[i]? = some s → s.isB = false := fun s q => by
  unfold freeS at h
  rw [q] at h
  cases s <;> first | rfl | exact h.elim
theorem gone_b {i : Nat} {e : Ev} {k : Ev → Prop} (h : goneS i e k) : (∀ s, e[i]? = some s → s.isB = false) ∧ k (e.set i .un) := by
  unfold goneS at h
  cases q : e[i]? with
  | none => rw [q] at h; exact ⟨fun s z => (by cases z), h⟩
  | some s =>
    rw [q] at h
    cases s <;> first | exact h.elim | exact ⟨fun s z => (by cases z; rfl), h⟩
theorem af_gone {i : Nat} (a : Af K T0 H0 env0 σ0 T H env σ) (h : ∀ s, env[i]? = some s → s.isB = false) : Af K T0 H0 env0 σ0 T H (env.set i .un) (σ.set i none) := by
  refine ⟨a.fr, ⟨a.ev.good, by simpa using a.ev.len, fun j s e => ?_⟩, a.kp.trans (Keep.set h)⟩
  by_cases hj : i = j
  · subst hj
    by_cases hl : i < env.length
    · rw [List.getElem?_set_self hl] at e
      cases e
      trivial
    · rw [List.getElem?_eq_none (by simpa using hl)] at e
      cases e
  · rw [List.getElem?_set_ne hj] at e ⊢
    exact a.ev.ok j s e
theorem ks_gone {i : Nat} (k : KS K W T H env σ P F) {T1 : TM} {H1 : Hp} {env1 : Ev} {σ1 : L2.St} (a : Af K T H env σ T1 H1 env1 σ1) : KS K noW T1 H1 env1 σ1 (goneP i P) (goneE i F) where
  nx := fun T2 H2 e2 s2 b q => by
    obtain ⟨h1, h2⟩ := gone_b q
    exact k.nx _ _ _ _ (af_gone (a.trans b) h1) h2
  rt := fun T2 H2 e2 s2 r v b rr q => k.rt _ _ _ _ _ _ (a.trans b) (rr.pre a.fr) q
  exS := fun _ _ _ _ _ _ _ _ _ z => z.elim
  bk := fun T2 H2 e2 s2 b q => by
    obtain ⟨h1, h2⟩ := gone_b q
    exact k.bk _ _ _ _ (af_gone (a.trans b) h1) h2
  ct := fun T2 H2 e2 s2 b q => by
    obtain ⟨h1, h2⟩ := gone_b q
    exact k.ct _ _ _ _ (af_gone (a.trans b) h1) h2
theorem wh_ok (k : KS K W T H env σ P F) : ∀ (hs : List ClD), XOkS K (wClauses K W F (hs.map fun h => (h.c, h.i, fun a cls d => LS K noW (h.w a cls d)))) T H env σ (wH K hs P)
  | [] => k.exS
  | h :: r => by
    intro T1 H1 e1 s1 y cls d a rx w
    obtain ⟨t, ht, w⟩ := w
    have ec := rx.1
    refine ⟨t, by rw [ec]; exact ht, ?_⟩
    cases t with
    | false =>
      rw [if_neg (by simp)] at w ⊢
      exact wh_ok k r T1 H1 e1 s1 y cls d a rx w
    | true =>
      rw [if_pos rfl] at w ⊢
      obtain ⟨fr, C, eC, ne, w⟩ := w
      intro ad na
      obtain ⟨_, rd⟩ := rx
      cases d with
      | none => exact absurd rd ne
      | some dd =>
        obtain ⟨ys, td, hd, hk, rl⟩ := rd
        have hb := free_b fr
        have E' := a.ev.setVal (i := h.i) (d := .xn ad dd C (y.fs.map (·.1)) (y.fs.map (·.2))) (v := .ref ad) (by simp only [RepV]; exact ⟨trivial, td, ys, hd, hk, rl⟩)
        have a' : Af K T H env σ T1 H1 (e1.set h.i (.val (.xn ad dd C (y.fs.map (·.1)) (y.fs.map (·.2))))) (s1.set h.i (some (.ref ad))) := ⟨a.fr, E', a.kp.trans (Keep.set hb)⟩
        have ec2 : cls = .ref C := ec.trans eC
        subst ec2
        exact ⟨T1, _, _, E', w ad dd, ks_gone k a'⟩
end
inductive DCl (X : Cx) : List ExceptHandler → List ClD → Prop
  | nil : DCl X [] []
  | cons {x n : Str} {c : Value} {i : Nat} {w : Addr → Value → Option Addr → WS} {b₀ : Stmt} {suite : List Stmt} {np cp : Pos} {es : List ExceptHandler} {ls : List ClD} (hi : X.N[i]? = some n) (hl : X.env.kindOf n = some .local) (hc : Names X x c)
      (hsu : ∀ (a : Addr) (oe : Obj) (cls : Value) (d : Option Addr) (pn : List (Addr × Obj)), Zc cls d oe → (∃ vs, oe.data = .fields vs) → DSs (X.suite a ((a, oe) :: pn)) noW (b₀ :: suite) (w a cls d)) (r : DCl X es ls) :
      DCl X (.ExceptHandler (some (.Name x np)) (some n) (b₀ :: suite) cp :: es) (⟨c, i, w⟩ :: ls)
theorem DCl.to {X : Cx} {es : List ExceptHandler} {ls : List ClD} (h : DCl X es ls) : Clauses X es (ls.map fun h => (h.c, h.i, fun a cls d => LS X.K noW (h.w a cls d))) := by
  induction h with
  | nil => exact .nil
  | cons hi hl hc hsu _ ih => exact .cons hi hl hc hsu ih
theorem Cok.tr {X : Cx} {W W' : WX} {k : Nat} {pn : List (Addr × Obj)} {xe : Value → Shared → Prop} (c : Cok X W k) (tk : Takes (X.tr pn xe) W') (po : PassesOwn (model X.prog X.w) X.A X.env xe) : Cok (X.tr pn xe) W' k := ⟨⟨tk, c.calm, c.room, c.gds⟩, po, c.nd⟩
section
variable {X : Cx} {W : WX} {k : Nat} {body : List Stmt} {h₀ : ExceptHandler} {es : List ExceptHandler} {ls : List ClD} {pos : Pos} {wb : WS}
theorem dtry (ck : Cok X W k) (hs : X.stack = X.env :: X.outer) (hf : X.env.frame = some X.env.locals) (hb : ∀ (W' : WX) (pn : List (Addr × Obj)) (xe : Value → Shared → Prop), Cok (X.tr pn xe) W' k → DSs (X.tr pn xe) W' body wb) (hh : DCl X (h₀ :: es) ls) :
    DS X W (.Try body (h₀ :: es) [] [] pos) (wTry X.K wb ls) := by
  refine PS.le (ps_clauses (tb := fun W' => LS X.K W' wb) hs hf ck.nd ck.tk (fun W' pn xe tk po => hb W' pn xe (ck.tr tk po)) hh.to) fun F σ H h => ?_
  obtain ⟨T, env, P, E, w, k⟩ := h
  exact ⟨T, env, _, E, w, ⟨k.nx, k.rt, wh_ok k ls, k.bk, k.ct⟩⟩
end
/-- e.f, e the caught exception -/
def XfOk (K : PySem.W.Frag) (C : Addr) (f : Str) : Prop := XfC K C ∧ PySem.W.findIn K (.ref C) f = some none
def wXf (K : PySem.W.Frag) (a : Addr) (cls : Value) (d : Option Addr) (f : Str) (w : WE) : WE := fun env q x => w env (fun r e => match r with
  | .val (.xn a' dd C ns vs) => a' = a ∧ cls = .ref C ∧ d = some dd ∧ XfOk K C f ∧ ∃ y, lkD (ns.zip vs) f = some y ∧ q (.val y) e
  | _ => False) x
theorem dxf {X : Cx} {W : WX} {a : Addr} {oe : Obj} {cls : Value} {d : Option Addr} {pn : List (Addr × Obj)} {e : Expr} {we : WE} {pos : Pos} {f : Str} (hz : Zc cls d oe) (hf : ∃ vs, oe.data = .fields vs) (he : DE (X.suite a ((a, oe) :: pn)) W e we)
    (hb : attributeBase e f X.env (eval e X.env) = eval e X.env := by rfl) : DE (X.suite a ((a, oe) :: pn)) W (.Attribute e f pos) (wXf X.K a cls d f we) := by
  refine ⟨fun pins s σ H Q I h => ?_⟩
  obtain ⟨T, env, q, x, E, w, k, xk⟩ := h
  refine attr_of hb (thn (he.run pins s σ H (fun z H1 => ∃ (C dd : Addr) (fs : List (Str × V)) (v : V), z = .ref a ∧ cls = .ref C ∧ d = some dd ∧ XfOk X.K C f ∧ H1 dd = some (.xd fs) ∧ fs.lookup f = some v ∧ Q v H1) I ⟨T, env, _, x, E, w, fun T1 H1 e1 r v a1 r1 w1 => ?_, xk⟩) fun u s1 hh => ?_)
  · cases r <;> first | exact w1.elim | skip
    rename_i dx
    cases dx <;> first | exact w1.elim | skip
    rename_i a' dd C ns vs
    obtain ⟨rfl, ec, ed, ok, y, ly, q1⟩ := w1
    have r1 : RepV _ _ _ _ _ := r1
    simp only [RepV] at r1
    obtain ⟨rfl, td, fs, hd, hk, rl⟩ := r1
    obtain ⟨v, lv, rv⟩ := lookup_rep hk rl ly
    exact ⟨C, dd, fs, v, rfl, ec, ed, ok, hd, lv, k T1 H1 e1 (.val y) v a1 rv q1⟩
  · obtain ⟨x, H1, I1, rx, C, dd, fs, v, ex, ec, ed, ok, ea, l, q⟩ := hh
    subst ex
    obtain rfl : u = Value.ref a := rx
    subst ec
    subst ed
    obtain ⟨ha, _⟩ := I1.pin (a, oe) (List.mem_append_left _ List.mem_cons_self)
    obtain ⟨vs, hd⟩ := hf
    obtain ⟨mA, hns, hr⟩ := (show ObjOk X.prog X.w H1 s1.heap dd (.xd fs) from I1.hok dd _ ea)
    obtain ⟨od, ho, hl⟩ := lookIn_ns hns
    obtain ⟨u, hu, ru⟩ := RelO.some_of (v := v) (o := mA f) (by rw [← l]; exact hr f)
    have J : PySem.W.InstAt s1.heap a oe C (some od) := ⟨ha, hz.1, by unfold PySem.W.notCls; rw [hd] <;> rfl, by rw [hz.2]; exact ho⟩
    exact HandSPX.exc_get I1.kIn J ok.1.ga ok.1.gg ok.1.exC (PySem.W.findObj_own ok.1.hdC ok.2 rfl (by rw [hl, hu])) (handed_of ru) ⟨v, H1, I1.tok _, ru, q⟩
end DL

end DlZ
section Dx
set_option Elab.async false
set_option linter.all false
set_option maxRecDepth 100000
set_option maxHeartbeats 4000000
/-! Dx: raise C(..), C's __init__ putting its arguments into fields. -/
namespace DL
open PySem PySem.Spec PyProof.Rows L2
variable [TabEnv]
abbrev CXn : CXT := fun _ _ _ _ _ _ => False
/-- self.f = p; .. -/
inductive InitB (N : List Str) : List Stmt → List (Str × Nat) → Prop
  | nil : InitB N [] []
  | cons {y f : Str} {i : Nat} {p1 p2 p3 p4 : Pos} {r : List Stmt} {fs : List (Str × Nat)} (h : N[i]? = some y) (h1 : (y == ("__debug__" : Str)) = false) (h2 : (y == ("__classdict__" : Str)) = false) (t : InitB N r fs) :
      InitB N (.Assign [.Attribute (.Name "self" p1) f p2] (.Name y p3) p4 :: r) ((f, i) :: fs)
def tInits (K : PySem.W.Frag) : List (Str × Nat) → TS
  | [] => tNext
  | p :: r => tSeq (tOst K p.1 (tVar 0) (tVar p.2)) (tInits K r)
theorem inits_ok {X : Cx} (h0 : X.N[0]? = some ("self" : Str)) (v0 : Vis X.env.scope "self") (hv : ∀ (i : Nat) (y : Str), X.N[i]? = some y → Vis X.env.scope y) {b : List Stmt} {fs : List (Str × Nat)} (h : InitB X.N b fs)
    (hs : ∀ (y f : Str) (p1 p2 p3 p4 : Pos), swapsWith (.Name y p3) (some (.Attribute (.Name "self" p1) f p2)) p4.line X.env = pure false) : PSs X b (tInits X.K fs) := by
  induction h with
  | nil => exact pss_nil
  | cons hi h1 h2 _ ih => exact pss_cons (ps_ost (pe_var h0 v0) (pe_var hi (hv _ _ hi) h1 h2) (hs ..)) ih
/-- the fields behind the first one -/
theorem init_more {K : PySem.W.Frag} {C a d : Addr} (T : OexC K C) {H0 : Hp} {σ : L2.St} {D : Ends} (h0 : σ[0]? = some (some (.ref a))) (hda : d ≠ a) : ∀ {fs : List (Str × Nat)} {us : List V} {acc : List (Str × V)} {H : Hp}, (∀ f ∈ fs, PySem.W.findIn K (.ref C) f.1 = some none) →
    Paired (fun (p : Str × Nat) (v : V) => σ[p.2]? = some (some v)) fs us → H a = some (exo a C (some d)) → H d = some (exd d acc) → acc.length + fs.length ≤ 900 → (∀ b, b ≠ a → b ≠ d → H b = H0 b) →
    (∀ H' fin, H' a = some (exo a C (some d)) → H' d = some (exd d fin) → fin = ((fs.map (·.1)).zip us).reverse ++ acc → (∀ b, b ≠ a → b ≠ d → H' b = H0 b) → D.nx σ H') → tInits K fs D σ H := by
  intro fs
  induction fs with
  | nil =>
    intro us acc H hn hp ha hd hl hk q
    cases hp
    exact q H acc ha hd rfl hk
  | cons p fs ih =>
    intro us acc H hn hp ha hd hl hk q
    cases hp with
    | @cons _ v _ us hv hp =>
    rw [List.length_cons] at hl
    refine ⟨v, hv, .ref a, h0, a, C, rfl, T, hn p List.mem_cons_self, .inr ⟨d, acc, ha, hd, by omega, ?_⟩⟩
    refine ih (us := us) (acc := (p.1, v) :: acc) (H := upd H d (exd d ((p.1, v) :: acc))) (fun g hg => hn g (List.mem_cons_of_mem _ hg)) hp (by rw [upd_ne (Ne.symm hda)]; exact ha) upd_same (by rw [List.length_cons]; omega) (fun b b1 b2 => by rw [upd_ne b2]; exact hk b b1 b2) fun H' fin e1 e2 e3 e4 => q H' fin e1 e2 ?_ e4
    rw [e3]
    simp
theorem init_run {K : PySem.W.Frag} {C a : Addr} (T : OexC K C) {H0 : Hp} {σ : L2.St} {D : Ends} {p : Str × Nat} {fs : List (Str × Nat)} {v : V} {us : List V} (h0 : σ[0]? = some (some (.ref a))) (hn : ∀ f ∈ p :: fs, PySem.W.findIn K (.ref C) f.1 = some none)
    (hv : σ[p.2]? = some (some v)) (hp : Paired (fun (p : Str × Nat) (v : V) => σ[p.2]? = some (some v)) fs us) (ha : H0 a = some (exo a C none)) (hl : fs.length ≤ 800)
    (q : ∀ d H', H0 d = none → d ≠ a → H' a = some (exo a C (some d)) → H' d = some (exd d (((p :: fs).map (·.1)).zip (v :: us)).reverse) → (∀ b, b ≠ a → b ≠ d → H' b = H0 b) → D.nx σ H') : tInits K (p :: fs) D σ H0 := by
  refine ⟨v, hv, .ref a, h0, a, C, rfl, T, hn p List.mem_cons_self, .inl ⟨ha, fun d hd hda => ?_⟩⟩
  refine init_more T (d := d) (H0 := H0) h0 hda (acc := [(p.1, v)]) (fun g hg => hn g (List.mem_cons_of_mem _ hg)) hp upd_same (by rw [upd_ne hda]; exact upd_same) (by simp; omega) (fun b b1 b2 => by rw [upd_ne b1, upd_ne b2]) fun H' fin e1 e2 e3 e4 => q d H' hd hda e1 ?_ e4
  rw [e2, e3]
  simp
/-- what such an __init__ does -/
def spIn (K : PySem.W.Frag) (C : Addr) (fs : List Str) : Sp := fun vs H Q _ => ∃ (a : Addr) (us : List V), vs = .ref a :: us ∧ us.length = fs.length ∧ H a = some (exo a C none) ∧ ∀ d H', H d = none → d ≠ a → H' a = some (exo a C (some d)) → H' d = some (exd d (fs.zip us).reverse) → (∀ b, b ≠ a → b ≠ d → H' b = H b) → Q .non H'
end DL
namespace DL
open PySem PySem.Spec PyProof.Rows L2
variable [TabEnv]
theorem par_vis {N P : List Str} {sc : Scope} (S : FnScope N P sc) {x : Str} (h : x ∈ P) : Vis sc x := (S.par x h).elim .inl fun z => .inr (.inl z)
theorem zipIdx_pair : ∀ {names : List Str} {us : List V} {pre : List (Option V)}, names.length = us.length → Paired (fun (p : Str × Nat) (v : V) => (pre ++ us.map some)[p.2]? = some (some v)) (names.zipIdx pre.length) us
  | [], [], _, _ => .nil
  | [], _ :: _, _, h => by simp at h
  | _ :: _, [], _, h => by simp at h
  | n :: names, v :: us, pre, h => by
    refine .cons (by simp) ?_
    have := zipIdx_pair (names := names) (us := us) (pre := pre ++ [some v]) (by simpa using h)
    simpa using this
theorem excIn_ok {P : Program} {w : World} {K : PySem.W.Frag} {mg : Str → Option Value} {base : Heap} {x qual : Str} {st : Stmt} {f C : Addr} {fd : FuncData} {n : Str} {names ps : List Str} (F : L2.Fun K x qual st f fd) (S : FnScope ("self" :: ps) ("self" :: ps) (defScope st))
    (hb : InitB ("self" :: ps) (defBody st) ((n :: names).zipIdx 1)) (T : OexC K C) (hn : ∀ f ∈ n :: names, PySem.W.findIn K (.ref C) f = some none) (hl : (n :: names).length = ps.length) (hl2 : names.length ≤ 800) :
    FnOk P w K mg base L2.CX0 1 f fd ("self" :: ps) (spIn K C (n :: names)) := by
  refine F.ok S ?_ ?_
  · rintro vs H Q E ⟨a, us, rfl, e, _⟩
    simp only [List.length_cons] at e hl ⊢
    omega
  · rintro cdv A outer s H vs Q E hr ⟨a, us, rfl, e, ha, q⟩
    refine ⟨_, inits_ok rfl (par_vis S (by simp)) (fun i y hy => par_vis S (List.mem_of_getElem? hy)) hb (fun _ _ _ _ _ _ => rfl), ?_⟩
    have hs : L2.start (("self" : Str) :: ps) (.ref a :: us) = [some (V.ref a)] ++ us.map some := by
      have : ((("self" : Str) :: ps).length) - (V.ref a :: us).length = 0 := by
        simp only [List.length_cons] at e hl ⊢
        omega
      unfold L2.start
      rw [this]
      simp
    cases us with
    | nil => simp at e
    | cons v us =>
    rw [hs]
    have pr := zipIdx_pair (names := n :: names) (us := v :: us) (pre := [some (V.ref a)]) e.symm
    cases pr with
    | cons hv hp =>
    refine init_run T rfl (fun g hg => ?_) hv hp ha (by simpa using hl2) fun d H' h1 h2 h3 h4 h5 => q d H' h1 h2 h3 ?_ h5
    · have : g.1 ∈ ((n :: names).zipIdx 1).map (·.1) := List.mem_map.mpr ⟨g, hg, rfl⟩
      rw [List.zipIdx_map_fst] at this
      exact hn _ this
    · rw [h4]
      have : (((n, 1) :: names.zipIdx (1 + 1)).map (·.1)) = n :: names := by
        rw [List.map_cons, List.zipIdx_map_fst]
      rw [this]
end DL
namespace DL
open PySem PySem.Spec PyProof.Rows L2
variable [TabEnv]
def wRaise (C : Addr) (fs : List Str) (u : WA) : WS := fun env P => u env (fun rs e => dvs rs fun ds => ds.length = fs.length ∧ P.ex ⟨.ref C, (fs.zip ds).reverse⟩ e) P.ex
theorem RepL.rev {K : PySem.W.Frag} {T : TM} {H : Hp} : ∀ {ds : List D} {vs : List V}, RepL K T H ds vs → RepL K T H ds.reverse vs.reverse
  | [], vs, h => by
    simp only [RepL] at h
    subst h
    exact .nil
  | d :: ds, vs, h => by
    obtain ⟨x, r, rfl, h1, h2⟩ := h.cons_inv
    rw [List.reverse_cons, List.reverse_cons]
    exact (RepL.rev h2).append (.cons h1 .nil)
theorem zip_fst {α β : Type} {a : List α} {b : List β} (h : a.length = b.length) : ((a.zip b).reverse.map (·.1)) = a.reverse ∧ ((a.zip b).reverse.map (·.2)) = b.reverse := by
  obtain ⟨h1, h2⟩ := map_zip h
  rw [List.map_reverse, List.map_reverse, h1, h2]
  exact ⟨rfl, rfl⟩
section
variable {X : Cx} {W : WX} {k j : Nat} {x : Str} {C fI : Addr} {fd : FuncData} {ps fs : List Str} {e : Expr} {es : List Expr} {u : WA} {p pos rpos : Pos}
theorem draise (ck : Cal X W j) (T : OexC X.K C) (iC : PySem.W.findIn X.K (.ref C) "__init__" = some (some (.ref fI))) (tI : PySem.W.typeIn X.K (.ref fI) = some (.type "function")) (F1 : FnOk X.prog X.w X.K X.mg X.base L2.CX0 k fI fd ps (spIn X.K C fs)) (hk : k + 1 ≤ j) (hb : Binds X.K fd ps [])
    (hm : X.mg x = some (.ref C)) (ha : DA X W (e :: es) u) (hf : fs.length ≤ 1000) (hg : Gl X x := by rfl) (hdb : (x == ("__debug__" : Str)) = false := by decide) (he : starEach (e :: es) X.env = (false, eval e X.env) :: starEach es X.env := by rfl) (hpl : (backTo pos (starEach es X.env)).any (·.1) = false := by rfl) :
    DS X W (.Raise (some (.Call (.Name x p) (e :: es) [] pos)) none rpos) (wRaise C fs u) := by
  refine PS.le (L2.ps_raise ck.calm ck.tk (pmk_oex T iC tI F1 (ck.room.mono hk) hb .nil (fun _ _ _ _ _ _ _ h => h.elim) hg hm ha hdb he hpl)) fun F σ H h => ?_
  obtain ⟨T0, env, P, E, w, kk⟩ := h
  refine ⟨T0, env, _, _, E, w, fun T1 H1 e1 rs vs a1 rr nd w1 => ?_, kk.ex⟩
  obtain ⟨T2, ds, a2, r2, hd, q2⟩ := dvs_after a1 rr nd w1
  have lv : vs.length = fs.length := by rw [← r2.length]; exact hd
  refine ⟨by omega, fun a na => ⟨a, vs, by rw [List.append_nil], lv, upd_same, fun d H' h1 h2 h3 h4 h5 => ⟨rfl, d, (fs.zip vs).reverse, h3, h4, ?_, ?_⟩⟩⟩
  · rwa [upd_ne h2] at h1
  · have hd1 : H1 d = none := by rwa [upd_ne h2] at h1
    have eH : upd (del H' a) d (.xd (fs.zip vs).reverse) = upd H1 d (.xd (fs.zip vs).reverse) := by
      funext b
      by_cases hb1 : b = d
      · rw [hb1, upd_same, upd_same]
      · rw [upd_ne hb1, upd_ne hb1]
        by_cases hb2 : b = a
        · rw [hb2, del_same, na]
        · rw [del_ne hb2, h5 b hb2 hb1, upd_ne hb2]
    rw [eH]
    have g := Gr.alloc (o := .xd (fs.zip vs).reverse) (t := some .fz) a2.ev.good hd1 (by simp) (.inl rfl)
    obtain ⟨z1, z2⟩ := zip_fst (a := fs) (b := vs) lv.symm
    obtain ⟨y1, y2⟩ := zip_fst (a := fs) (b := ds) hd.symm
    refine kk.ex _ _ _ ⟨.ref C, (fs.zip ds).reverse⟩ _ _ (a2.grow g) ⟨rfl, (fs.zip vs).reverse, tag_same, upd_same, z1.trans y1.symm, ?_⟩ q2
    rw [z2]
    show RepL _ _ _ ((fs.zip ds).reverse.map (·.2)) _
    rw [y2]
    exact (RepL.rev r2).mono g.fr.le
end
end DL

end Dx
section Dr
set_option Elab.async false
set_option linter.all false
set_option maxRecDepth 100000
set_option maxHeartbeats 4000000
/-! Dr: repr of data. -/
namespace DL
open PySem PySem.Spec PyProof.Rows L2
variable [TabEnv]
mutual
theorem noDict_of {K : PySem.W.Frag} {H : Hp} : ∀ (p : PyData) (v : V), Dp K H v p → p.hasDict = false
  | .none, _, _ => by simp only [PyData.hasDict]
  | .bool _, _, _ => by simp only [PyData.hasDict]
  | .int _, _, _ => by simp only [PyData.hasDict]
  | .str _, _, _ => by simp only [PyData.hasDict]
  | .list ds, _, h => by
    cases h with
    | lst _ r => simp only [PyData.hasDict]; exact noDict_ofs ds _ r
  | .tuple ds, _, h => by
    cases h with
    | tup _ r => simp only [PyData.hasDict]; exact noDict_ofs ds _ r
  | .dict _, _, h => nomatch h
theorem noDict_ofs {K : PySem.W.Frag} {H : Hp} : ∀ (ps : List PyData) (vs : List V), DpAll K H vs ps → PyData.hasDictAll ps = false
  | [], _, _ => by simp only [PyData.hasDictAll]
  | p :: ps, _, h => by
    cases h with
    | cons h1 h2 => simp only [PyData.hasDictAll, noDict_of p _ h1, noDict_ofs ps _ h2, Bool.or_false]
end
theorem shown_leaf {x : V} {i : Int} : PyData.showable (.int i) = true → i.natAbs.log2 < 1920 := fun h => by simpa [PyData.showable] using h
/-- repr of a value that stands for data -/
theorem cr_repr {X : Cx} (hg : X.A.guards = some []) (hu : X.A.units + 64 < cLine) : CallR X (.builtin "repr") (fun xs H Q => ∃ x p, xs = [x] ∧ Dp X.K H x p ∧ p.showable = true ∧ p.depth ≤ 60 ∧ p.shown.length ≤ sizeLine ∧ Q (.str p.shown) H) := by
  intro pins s σ H xs us Q I r h
  obtain ⟨x, p, rfl, hd, hs, hp, hz, q⟩ := h
  obtain ⟨u, rfl, rx⟩ := vals1 r
  cases hd with
  | non =>
    cases (show u = Value.none from rx)
    rw [PyData.shown_none] at q
    exact PySem.P.repr_of_none ⟨.str _, H, I.tok _, ⟨_, rfl⟩, q⟩
  | bl b =>
    cases (show u = Value.bool b from rx)
    rw [PyData.shown_bool] at q
    exact PySem.P.repr_of_bool ⟨.str _, H, I.tok _, ⟨_, rfl⟩, q⟩
  | int i =>
    obtain ⟨t, rfl⟩ := (show ∃ t, u = Value.int i t from rx)
    rw [PyData.shown_int] at q
    exact PySem.P.repr_of_int (by simpa [PyData.showable] using hs) ⟨.str _, H, I.tok _, ⟨_, rfl⟩, q⟩
  | str y =>
    obtain ⟨t, rfl⟩ := (show ∃ t, u = Value.str y t from rx)
    rw [PyData.shown_str] at q hz
    exact PySem.P.repr_of_str ⟨.str _, H, I.tok _, ⟨_, rfl⟩, q⟩ hz
  | @lst a ys ds sq al =>
    cases (show u = Value.ref a from rx)
    have D : Dp X.K H (.ref a) (.list ds) := .lst sq al
    obtain ⟨as, rd⟩ := Dp.reads I (.list ds) (.ref a) (.ref a) D rfl
    exact repr_of_reads' rd hs (PyData.noDict_hsm (noDict_of _ _ D)) hg (by omega) (fun _ _ e => e) (fun h' v tk hk => ⟨.str _, H, I.kept hk, ⟨_, rfl⟩, q⟩) hz
  | @tup a ys ds sq al =>
    cases (show u = Value.ref a from rx)
    have D : Dp X.K H (.ref a) (.tuple ds) := .tup sq al
    obtain ⟨as, rd⟩ := Dp.reads I (.tuple ds) (.ref a) (.ref a) D rfl
    exact repr_of_reads' rd hs (PyData.noDict_hsm (noDict_of _ _ D)) hg (by omega) (fun _ _ e => e) (fun h' v tk hk => ⟨.str _, H, I.kept hk, ⟨_, rfl⟩, q⟩) hz
/-- repr of data -/
def gRepr (d : D) (q : R → Prop) : Prop := ∃ p, toP d = some p ∧ p.showable = true ∧ p.depth ≤ 60 ∧ p.shown.length ≤ sizeLine ∧ q (.val (.str p.shown))
theorem cRepr {X : Cx} (hg : X.A.guards = some []) (hu : X.A.units + 64 < cLine) : CallD X (.builtin "repr") (g1 gRepr) := CallD.of1 (cr_repr hg hu) fun T H σ d v Q q g hv hq k => by
  obtain ⟨p, e, h1, h2, h3, h4⟩ := hq
  exact ⟨v, p, rfl, Dp.of _ _ _ hv e, h1, h2, h3, k T H _ _ (Gr.refl g) rep_str h4⟩
end DL

end Dr
section Dm
set_option Elab.async false
set_option linter.all false
set_option maxRecDepth 100000
set_option maxHeartbeats 4000000
/-! Dm: a lambda without parameters, handed to a def that calls it in a try. -/
namespace DL
open PySem PySem.Spec PyProof.Rows L2
variable [TabEnv]
/-- the name of a lambda's code -/
abbrev lamQ (X : Cx) : Str := X.env.qual ++ "<lambda>"
/-- where the lambda's code object comes from: the table has it, or it is new -/
inductive LamNew (H H1 : Hp) (P c : Addr) (q : Str) (ps : Array Value) : Prop
  | old (h1 : H1 = H) (h2 : ∃ p, codeAmong p ps.toList = some (.ref c))
  | new (qs : Array Value) (h0 : H c = none) (h1 : H1 = upd (upd H P (.tbl qs)) c (LamX.CodeO c q)) (h2 : TriplesOk qs.toList) (h3 : ∀ (p : Pos) (cv : Value), codeAmong p qs.toList = some cv → codeAmong p ps.toList = some cv ∨ cv = .ref c)
theorem gr_lam {T : TM} {H H1 : Hp} {P c : Addr} {q : Str} {ps : Array Value} (g : Good T H) (hm : (P, q) ∈ TabEnv.ts) (hu : ∀ r, (P, r) ∈ TabEnv.ts → r = q) (hP : H P = some (.tbl ps)) (n : LamNew H H1 P c q ps) : ∃ T1, Gr T H T1 H1 ∧ T1 c = some .fz ∧ H1 c = some (LamX.CodeO c q) := by
  cases n with
  | old h1 h2 =>
    subst h1
    obtain ⟨_, ps', hP', _, old⟩ := g.tabs _ hm
    have ePs : ps' = ps := by
      have z := hP'.symm.trans hP
      injection z with z
      injection z
    subst ePs
    obtain ⟨p, hp⟩ := h2
    obtain ⟨b, b1, b2, b3⟩ := old p _ hp
    cases b1
    exact ⟨T, Gr.refl g, b2, b3⟩
  | new qs h0 h1 h2 h3 =>
    subst h1
    obtain ⟨tP, ps', hP', _, old⟩ := g.tabs _ hm
    have ePs : ps' = ps := by
      have z := hP'.symm.trans hP
      injection z with z
      injection z
    subst ePs
    have nc : T c = none := g.none h0
    have n1 : ∀ b u, T b = some u → b ≠ c := fun b u e z => by rw [z, nc] at e; cases e
    have n2 : ∀ b u, T b = some u → b ≠ P := fun b u e z => by rw [z, tP] at e; cases e
    have nPc : P ≠ c := fun z => by rw [z, h0] at hP; cases hP
    have at_ : ∀ b, b ≠ c → b ≠ P → upd (upd H P (.tbl qs)) c (LamX.CodeO c q) b = H b := fun b h1 h2 => by rw [upd_ne h1, upd_ne h2]
    refine ⟨tag T c (some .fz), ⟨⟨fun b u e _ => ⟨by rw [tag_ne (n1 b u e)]; exact e, at_ b (n1 b u e) (n2 b u e)⟩, fun b e => ?_, ⟨fun b u e => ?_, fun p hp => ?_⟩⟩, fun j b e => ⟨by rw [tag_ne (n1 b _ e)]; exact e, at_ b (n1 b _ e) (n2 b _ e)⟩⟩, tag_same, upd_same⟩
    · by_cases hb : b = c
      · rw [hb, tag_same] at e; cases e
      · rwa [tag_ne hb] at e
    · by_cases hb : b = c
      · subst hb
        rw [tag_same] at e
        cases e
        exact ⟨by rw [upd_same]; simp, fun n => absurd rfl n⟩
      · rw [tag_ne hb] at e
        rw [at_ b hb (n2 b u e)]
        exact g b u e
    · obtain ⟨P', r⟩ := p
      by_cases hb : P' = P
      · subst hb
        have er := hu r hp
        subst er
        refine ⟨by show tag _ _ _ P' = _; rw [tag_ne nPc]; exact tP, qs, by show upd _ _ _ P' = _; rw [upd_ne nPc, upd_same], h2, fun pos cv hc => ?_⟩
        rcases h3 pos cv hc with z | z
        · obtain ⟨b, b1, b2, b3⟩ := old pos cv z
          exact ⟨b, b1, by rw [tag_ne (n1 b _ b2)]; exact b2, by rw [at_ b (n1 b _ b2) (n2 b _ b2)]; exact b3⟩
        · exact ⟨c, z, tag_same, upd_same⟩
      · obtain ⟨t1, rs, t2, t3, t4⟩ := g.tabs _ hp
        have hc : P' ≠ c := fun z => by
          have t2 : H P' = _ := t2
          rw [z, h0] at t2; cases t2
        refine ⟨by show tag _ _ _ P' = _; rw [tag_ne hc]; exact t1, rs, by show upd _ _ _ P' = _; rw [at_ P' hc hb]; exact t2, t3, fun pos cv hq => ?_⟩
        obtain ⟨b, b1, b2, b3⟩ := t4 pos cv hq
        exact ⟨b, b1, by rw [tag_ne (n1 b _ b2)]; exact b2, by rw [at_ b (n1 b _ b2) (n2 b _ b2)]; exact b3⟩
section
variable {X : Cx} {pins : List (Addr × Obj)} {σ : L2.St} {H : Hp} {s : Shared}
/-- the lambda is made -/
theorem lam_mk {c P : Addr} {ps : Array Value} {params : Arguments} {body : Expr} {scope : Scope} {pos : Pos} {E : Value → Shared → Prop} {Q : Value → Shared → Prop} (I : Inv X pins σ H s) (TB : LamX.TabB X.base X.mg c P) (hcode : X.env.code = .ref c)
    (hP : H P = some (.tbl ps)) (tr : TriplesOk ps.toList) (known : ∀ (p : Pos) (cv : Value), codeAmong p ps.toList = some cv → ∃ c, cv = .ref c ∧ H c = some (LamX.CodeO c (lamQ X))) (dfl : defaultsOf params X.env = ([], [])) (fre : ∀ y ∈ scope.names, y.2 = .free → ∃ c, X.env.cells.lookup y.1 = some c)
    (k : ∀ (f c' : Addr) (pm ctv : Value) (H1 : Hp) (s' : Shared), Inv X pins σ H1 s' → LamNew H H1 P c' (lamQ X) ps → s'.heap.get? f = some (PySem.W.kla_obj "<lambda>" (lamQ X) params body scope (cloFrom X.env.cells scope.names []) pm c' ctv) → H1 f = none → f ∉ frs X.stack → Q (.ref f) s') :
    wpAny (model X.prog X.w) X.A (eval (.Lambda params body scope pos) X.env) Q E s := by
  have tabP : s.heap.get? P = some { cls := .none, data := .fields ps } := I.hok P _ hP
  have away : ∀ f, s.heap.objs.size ≤ f → f ∉ frs X.stack := by
    intro f hf z
    rcases List.mem_cons.mp (I.stkSub _ z) with e | e
    · have := I.lt
      rw [← e] at this
      exact Nat.lt_irrefl _ (Nat.lt_of_lt_of_le this hf)
    · exact I.nofs hf e
  refine PySem.W.kla_eval dfl ?_
  cases among : codeAmong pos ps.toList with
  | some cv =>
    obtain ⟨c', rfl, hc'⟩ := known pos cv among
    refine PySem.W.kla_makeFunctionHit (mg := X.mg) (c := c) (P := P) (ps := ps) (closure_ok fre) I.ok.glob (I.mod.glob.keeps I.bk) hcode (TB.code.keeps I.bk) tabP tr among (TB.bm.keeps I.bk) ?_
    intro ctv h' tk keep sz
    have J := I.kept (t' := tk) (h' := h'.push (PySem.W.kla_obj "<lambda>" (lamQ X) params body scope (cloFrom X.env.cells scope.names []) ((X.mg "__name__").getD .none) c' ctv)) fun b o e => Heap.get?_push_of_some _ (keep b o e)
    exact k _ c' _ ctv H _ J (.old rfl ⟨pos, among⟩) (Heap.get?_push_size _ rfl) (I.hok.fresh sz) (away _ sz)
  | none =>
    refine PySem.W.kla_makeFunction (mg := X.mg) (c := c) (P := P) (ps := ps) (closure_ok fre) I.ok.glob (I.mod.glob.keeps I.bk) hcode (TB.code.keeps I.bk) tabP tr among TB.gP (TB.bm.keeps I.bk) ?_
    intro c' ctv h' tk keep lo hi rec_ tab'
    obtain ⟨c2, oc, vs, t, ec, hoc, hd, hv⟩ := rec_
    obtain rfl : c' = c2 := by injection ec
    have sz : s.heap.objs.size ≤ h'.objs.size := Nat.le_trans lo (Nat.le_of_lt hi)
    have nH : ∀ b, s.heap.objs.size ≤ b → H b = none := fun b hb => I.hok.fresh hb
    have J := LamX.inv_table (t' := tk) (q := lamQ X) (more := #[rawInt pos.line, rawInt pos.col, .ref c']) (h' := h'.push (PySem.W.kla_obj "<lambda>" (lamQ X) params body scope (cloFrom X.env.cells scope.names []) ((X.mg "__name__").getD .none) c' ctv)) I hP
      (fun b o hb e => Heap.get?_push_of_some _ (keep b o hb e)) (Heap.get?_push_of_some _ tab') lo ⟨oc, vs, t, Heap.get?_push_of_some _ hoc, hd, hv⟩
    have eL : (ps ++ #[rawInt pos.line, rawInt pos.col, .ref c']).toList = ps.toList ++ [rawInt pos.line, rawInt pos.col, .ref c'] := by simp
    have far : h'.objs.size ≠ P := Nat.ne_of_gt (Nat.lt_of_lt_of_le (Heap.lt_size tabP) sz)
    refine k _ c' _ ctv _ _ J (.new _ (nH _ lo) rfl (by rw [eL]; exact PySem.TriplesOk_snoc _ _ _ _ tr) fun p cv hc => ?_) (Heap.get?_push_size _ rfl) ?_ (away _ sz)
    · rw [eL] at hc
      exact LamX.among_app _ tr hc
    · rw [upd_ne (Nat.ne_of_gt hi), upd_ne far]
      exact nH _ sz
end
/-- the context of the def that gets the lambda -/
abbrev gCx (X : Cx) (Ng : List Str) (qg : Str) (stg : Stmt) (g : Addr) (cdg : Value) (s : Shared) (H : Hp) : Cx := cxB X.prog X.w X.K X.mg X.base Ng qg stg g cdg X.A X.stack s H (fun _ _ _ => False)
section
variable {X : Cx} {pins : List (Addr × Obj)} {σ : L2.St} {H : Hp} {s : Shared} {Ng : List Str} {qg a : Str} {stg : Stmt} {g f c' : Addr} {cdg pm ctv : Value} {params : Arguments} {body : Expr} {scope : Scope} {k : Nat} {pn : List (Addr × Obj)} {xe : Value → Shared → Prop} {W : WX} {wb : WE} {p1 p2 : Pos}
/-- the lambda's body, in the def that calls it -/
theorem lam_act (I : Inv X pins σ H s) (L : LamX.LamS X.env.scope scope) (gds : X.A.guards = some []) (hf : s.heap.get? f = some (PySem.W.kla_obj "<lambda>" (lamQ X) params body scope (cloFrom X.env.cells scope.names []) pm c' ctv)) (hfn : H f = none) (hfr : f ∉ frs X.stack)
    (hbind : bindArgs (PySem.W.kla_fn "<lambda>" (lamQ X) params body scope (cloFrom X.env.cells scope.names []) pm (.ref c') ctv) ⟨[], []⟩ = pure []) (tk : Takes ((gCx X Ng qg stg g cdg s H).tr pn xe) W) (hr : Room (k + 1) (gCx X Ng qg stg g cdg s H).A)
    (hbody : ∀ (A : Around) (outer : List Env) (s : Shared) (H : Hp) (E : XK), Cal (LamX.lamCx X A outer s H E scope f c') (wxE E) k → DE (LamX.lamCx X A outer s H E scope f c') (wxE E) body wb)
    (hN : Ng[0]? = some a) (hv : Vis (defScope stg) a) (hd : (a == ("__debug__" : Str)) = false) (hcd : (a == ("__classdict__" : Str)) = false) :
    PE ((gCx X Ng qg stg g cdg s H).tr pn xe) (.Call (.Name a p1) [] [] p2) (fun σZ HZ Q => σZ[0]? = some (some (.ref f)) ∧ HZ c' = some (LamX.CodeO c' (lamQ X)) ∧ LE X.K (wxE fun c d H' => W c d σZ H') wb σ HZ Q) := by
  constructor
  intro pinsZ sZ σZ HZ Q IZ h
  obtain ⟨sl, code, act⟩ := h
  refine wpAny_Call_Name_kw (thn ((pe_var (pos := p1) (i := 0) hN hv hd hcd).run pinsZ sZ σZ HZ (fun v G => v = .ref f ∧ G = HZ) IZ ⟨.ref f, sl, rfl, rfl⟩) ?_)
  rintro u s1 ⟨v, G, I1, ru, rfl, rfl⟩
  obtain rfl : u = Value.ref f := ru
  have obj1 : s1.heap.get? f = some (PySem.W.kla_obj "<lambda>" (lamQ X) params body scope (cloFrom X.env.cells scope.names []) pm c' ctv) := I1.base.keep f _ hf hfn hfr fun z => nomatch (show f ∈ ([] : List Addr) from z)
  have un1 : Un (frs X.stack) [] H G s.heap s1.heap := I1.base
  obtain ⟨⟨oc, vs, t, hoc, hdc, hvc⟩, _⟩ := I1.hok c' _ code
  have run : codeAny (model X.prog X.w) (gCx X Ng qg stg g cdg s H).A (.call (.ref f) ⟨[], []⟩) (CR (L2.CX X.prog X.w) (gCx X Ng qg stg g cdg s H).stack X.prog X.w G s1 Q (fun c d H' => W c d σZ H')) s1 := by
    refine PySem.W.kla_callFunE hr.depth obj1 rfl L.co L.gen rfl ⟨c', oc, vs, t, rfl, hoc, hdc, hvc⟩ ?_
    rw [hbind]
    refine wpAny_pure (wpAny_newFunctionEnv (fun y hy => (L.own y hy).2) (fun y hy => absurd hy (by simp)) (fun h₁ hns hsb => ⟨I1.nolimit.fresh _ hsb, ?_⟩) L.kind)
    have kp : ∀ b o, s1.heap.get? b = some o → h₁.get? b = some o := fun b o e => hsb.extBut b o (Nat.ne_of_lt (Heap.lt_size e)) (Heap.get?_push_of_some _ e)
    have J := LamX.lam_start2 (tk := s1.toks + ([] : List (Str × Value)).length) (E := fun c d H' => W c d σZ H') (f := f) (c' := c') I L I1.env0 hr.hd un1 hns kp
    have cal : Cal (LamX.lamCx X (gCx X Ng qg stg g cdg s H).A (gCx X Ng qg stg g cdg s H).stack s1 G (fun c d H' => W c d σZ H') scope f c') (wxE fun c d H' => W c d σZ H') k := ⟨takes_of rfl rfl rfl rfl, rfl, hr.deeper _, gds⟩
    refine PySem.W.kla_codeExpr (wpAny_mono ((hbody _ _ s1 G _ cal).run [] _ _ G Q J act) (fun v s' hq => ?_) fun e s' hq => hq)
    obtain ⟨y, H', J', ry, q⟩ := hq
    exact ⟨y, H', J'.os, J'.bare, J'.base, J'.hok, ry, q⟩
  refine PySem.W.callWith_F0 ⟨_, _, _, _, obj1⟩ (wpAny_call (codeAny_mono run ?_))
  · intro r s' hq
    cases r with
    | error e => exact passAt tk σZ pinsZ G s1 e s' I1 hq
    | ok fl =>
      cases fl with
      | ret u => exact I1.after hq
      | next => exact False.elim hq
      | brk => exact False.elim hq
      | cont => exact False.elim hq
end
section
variable {K : PySem.W.Frag} {T T' : TM} {H H' : Hp}
theorem bT_good (g : Good T H) : Good (bT T) H := by
  refine ⟨fun b t e => ?_, g.tabs.move (fun b ps e1 e2 => ⟨by unfold bT; rw [e1], rfl⟩) fun b e => ⟨bT_fz.mpr e, .inl rfl⟩⟩
  unfold bT at e
  cases q : T b with
  | none => rw [q] at e; cases e
  | some u =>
    obtain ⟨g1, g2⟩ := g b u q
    rw [q] at e
    refine ⟨g1, fun n => g2 ?_⟩
    rintro rfl
    cases e
    exact n rfl
theorem bT_le : Le T H (bT T) H := fun _ e => ⟨bT_fz.mpr e, .inl rfl⟩
end
/-- what the def that got the lambda makes of it: q0 for its result, the caller's state e behind it -/
def lamPo (q : R → Ev → Prop) (e : Ev) : Po where
  nx := fun _ => False
  rt := fun r _ => (∀ i, r ≠ .loc i) ∧ q r e
  ex := fun _ _ => False
/-- x(lambda: ..), x: try: its argument(); except ..: ..; rest -/
def wLam (K : PySem.W.Frag) (wb : WE) (hs : List ClD) (wr : WS) (n : Nat) : WE := fun env q _ => wb env
  (fun _ e => ∀ f, wr (initE n [.val (.ref f)]) (lamPo q e))
  (fun y e => ∀ f, wH K hs { lamPo q e with nx := fun e2 => wr e2 (lamPo q e) } y (initE n [.val (.ref f)]))
section
variable {X : Cx} {W : WX} {Ng : List Str} {x qg a : Str} {stg : Stmt} {g c P : Addr} {fdg : FuncData} {params : Arguments} {body : Expr} {scope : Scope} {k : Nat} {wb : WE} {hs : List ClD} {wr : WS} {h₀ : ExceptHandler} {es : List ExceptHandler} {rest : List Stmt} {p p1 p2 p3 p4 pos lpos : Pos}
/-- the end of the def that got the lambda, over the caller's state -/
theorem lam_end {T T1 : TM} {H H1 : Hp} {env env1 e : Ev} {σ σZ : L2.St} {Q : VK} {q : R → Ev → Prop} (f0 : Fr T H T1 H1) (E1 : EvOk X.K T1 H1 env1 σ) (kp : Keep env σ env1 σ)
    (kq : ∀ T' H' env' r v, Af X.K T H env σ T' H' env' σ → RepR X.K T T' H' σ r v → q r env' → Q v H') : KS X.K (fun _ _ _ _ => False) (bT T1) H1 e σZ (lamPo q env1) { nx := fun _ H' => Q .non H', rt := Q } where
  nx := fun _ _ _ _ _ z => z.elim
  rt := fun T2 H2 e2 s2 r v a2 rr z => by
    have B : BackT T1 H1 [] T2 H2 := ⟨E1.good, fun b hb => absurd hb (List.not_mem_nil (a := b)), ⟨bT T1, a2.fr, fun _ _ => rfl⟩, fun b hb => absurd hb (List.not_mem_nil (a := b))⟩
    have rf : RepF X.K (bT T1) T2 H2 r v := by
      cases r with
      | val d => exact rr
      | loc i => exact absurd rfl (z.1 i)
      | own o =>
        obtain ⟨b, eb, n, t, ro⟩ := rr
        refine ⟨b, eb, fun h => ?_, t, ro⟩
        have := (a2.fr.off h).1
        rw [t] at this
        cases this
    exact kq _ H2 env1 r v ⟨B.toFr f0 (fun b hb => absurd hb (List.not_mem_nil (a := b))), B.evs E1, kp⟩ (B.res (σ := σ) f0 (fun _ _ => rfl) a2.fr rf).1 z.2
  exS := fun _ _ _ _ _ _ _ _ _ z => z.elim
  bk := fun _ _ _ _ _ z => z.elim
  ct := fun _ _ _ _ _ z => z.elim
theorem dlam (ck : Cal X W (k + 2)) (hm : X.mg x = some (.ref g)) (hk : PySem.W.keepIn X.K (.ref g) = true) (F : L2.Fun X.K x qg stg g fdg) (S : FnScope Ng [a] (defScope stg)) (hb : Binds X.K fdg [a] [])
    (hst : defBody stg = .Try [.Expr (.Call (.Name a p1) [] [] p2) p3] (h₀ :: es) [] [] p4 :: rest)
    (hh : ∀ (cdg : Value) (s : Shared) (H : Hp), Cok (gCx X Ng qg stg g cdg s H) (fun _ _ _ _ => False) (k + 1) → DCl (gCx X Ng qg stg g cdg s H) (h₀ :: es) hs)
    (hrest : ∀ (cdg : Value) (s : Shared) (H : Hp), Cok (gCx X Ng qg stg g cdg s H) (fun _ _ _ _ => False) (k + 1) → DSs (gCx X Ng qg stg g cdg s H) (fun _ _ _ _ => False) rest wr)
    (TB : LamX.TabB X.base X.mg c P) (hcode : X.env.code = .ref c) (hmT : (P, lamQ X) ∈ TabEnv.ts) (hu : ∀ r, (P, r) ∈ TabEnv.ts → r = lamQ X)
    (hbody : ∀ (A : Around) (outer : List Env) (s : Shared) (H : Hp) (E : XK) (f c' : Addr), Cal (LamX.lamCx X A outer s H E scope f c') (wxE E) k → DE (LamX.lamCx X A outer s H E scope f c') (wxE E) body wb)
    (L : LamX.LamS X.env.scope scope := by exact LamX.lamS_by (by decide +kernel)) (hN : Ng[0]? = some a := by rfl) (hv : Vis (defScope stg) a := by exact .inl rfl) (hpos : 1 ≤ Ng.length := by decide)
    (dfl : defaultsOf params X.env = ([], []) := by rfl) (hbind : ∀ (q : Str) (cl : List (Str × Addr)) (pm cv ctv : Value), bindArgs (PySem.W.kla_fn "<lambda>" q params body scope cl pm cv ctv) ⟨[], []⟩ = pure [] := by intros; rfl)
    (hsw : ∀ (cdg : Value) (s : Shared) (H : Hp), swapsWith (.Call (.Name a p1) [] [] p2) none p3.line (gCx X Ng qg stg g cdg s H).env = pure false := by intros; rfl)
    (hg : Gl X x := by rfl) (hdb : (x == ("__debug__" : Str)) = false := by decide) (hd : (a == ("__debug__" : Str)) = false := by decide) (hcd : (a == ("__classdict__" : Str)) = false := by decide) :
    DE X W (.Call (.Name x p) [.Lambda params body scope lpos] [] pos) (wLam X.K wb hs wr Ng.length) := by
  constructor
  intro pins s σ H Q I h
  obtain ⟨T, env, q, x0, E, w, kq, _⟩ := h
  obtain ⟨_, ps, hP, tr, known⟩ := E.good.tabs _ hmT
  refine wpAny_Call_Name_kw (ld_glob I hg hm ?_ hdb)
  refine PySem.W.callWith_K (h₀ := X.base) I.ok.mod.kin hk ?_ (by rfl) (by rfl)
  show wpAny _ _ (spliced ((false, eval (.Lambda params body scope lpos) X.env) :: backTo pos (starEach [] X.env))) _ _ s
  refine Calls.spliced_cons (lam_mk I TB hcode hP tr (fun pos cv hc => ?_) dfl (L.has I.ok) ?_)
  · obtain ⟨b, b1, _, b3⟩ := known pos cv hc
    exact ⟨b, b1, b3⟩
  intro f c' pm ctv H1 s' I1 ln hf hfn hfr
  refine Calls.spliced_nil ⟨I1.kIn, ?_⟩
  obtain ⟨T1, g1, tc', hc'⟩ := gr_lam E.good hmT hu hP ln
  have E1 := E.grow g1
  obtain ⟨oc, od, kV, doc, pm', an, cdg, ct, osl, rfl, lk, hcg⟩ := F.ex
  have run : codeAny (model X.prog X.w) X.A (.call (.ref g) ⟨[.ref f], []⟩) (CR (L2.CX X.prog X.w) X.stack X.prog X.w H1 s' Q (fun _ _ _ => False)) s' := by
    refine LamX.run_ofS (N := Ng) (ps := [a]) (us := [.ref f]) (vs := [.ref f]) lk hcg S ck.room I1.env0 (hb s' [.ref f] I1.kIn rfl) (.cons rfl .nil) rfl ?_
    intro hr'
    let Z : Cx := gCx X Ng qg stg g cdg s' H1
    have tkZ : Takes Z (fun _ _ _ _ => False) := takes_of (E := fun _ _ _ => False) rfl rfl rfl rfl
    have cok : Cok Z (fun _ _ _ _ => False) (k + 1) := ⟨⟨tkZ, rfl, hr', ck.gds⟩, passes_of rfl, S.nd⟩
    let D0 : Ends := { nx := fun _ H' => Q .non H', rt := Q }
    let σZ : L2.St := L2.start Ng [.ref f]
    have init : ∀ {T2 : TM} {H2 : Hp}, Good T2 H2 → EvOk X.K (bT T2) H2 (initE Ng.length [.val (.ref f)]) σZ := fun g2 => init_ok rfl hpos (bT_good g2) (.cons (by show RepV _ _ _ _ _; simp [RepV]) .nil)
    have try_ := ps_clauses (X := Z) (Wout := fun _ _ _ _ => False) (pos := p4) (body := [.Expr (.Call (.Name a p1) [] [] p2) p3]) (tb := fun W' => tDrop fun σ2 H2 Q => σ2[0]? = some (some (V.ref f)) ∧ H2 c' = some (LamX.CodeO c' (lamQ X)) ∧ LE X.K (wxE fun c d H' => W' c d σ2 H') wb σ H2 Q) rfl rfl S.nd tkZ
      (fun W' pn xe tk _ => pss_one (ps_expr (lam_act (p1 := p1) (p2 := p2) I1 L ck.gds hf hfn hfr (hbind _ _ _ _ _) tk hr' (fun A outer s H E cal => hbody A outer s H E f c' cal) hN hv hd hcd) (hsw cdg s' H1))) (hh cdg s' H1 cok).to
    refine ⟨_, by rw [hst]; exact pss_cons try_ (hrest cdg s' H1 cok), ?_⟩
    refine ⟨?_, hc', T1, env, _, _, E1, w, ?_, ?_⟩
    · show (L2.start Ng [V.ref f])[0]? = _
      unfold L2.start
      simp
    · intro T2 H2 env2 r v a2 _ z
      have fr := g1.fr.trans a2.fr
      exact ⟨bT T2, _, lamPo q env2, init a2.ev.good, z f, lam_end fr a2.ev a2.kp kq⟩
    · intro T2 H2 env2 y cl d a2 rx z
      have fr := g1.fr.trans a2.fr
      have En := init a2.ev.good
      have kr := lam_end (e := initE Ng.length [.val (.ref f)]) (σZ := σZ) fr a2.ev a2.kp kq
      have ks : KS X.K (fun _ _ _ _ => False) (bT T2) H2 (initE Ng.length [.val (.ref f)]) σZ { lamPo q env2 with nx := fun e2 => wr e2 (lamPo q env2) } { D0 with nx := fun σ3 H3 => LS X.K (fun _ _ _ _ => False) wr D0 σ3 H3 } :=
        ⟨fun T3 H3 e3 s3 a3 q3 => ⟨T3, e3, lamPo q env2, a3.ev, q3, kr.after a3⟩, kr.rt, kr.exS, fun _ _ _ _ _ z => z.elim, fun _ _ _ _ _ z => z.elim⟩
      exact wh_ok ks hs (bT T2) H2 _ σZ y cl d (Af.refl En) (rx.mono bT_le) (z f)
  refine wpAny_call (codeAny_mono run ?_)
  intro r s2 hq
  cases r with
  | error e => exact passAt (LamX.takes0 (X := X)) σ pins H1 s' e s2 I1 hq
  | ok fl =>
    cases fl with
    | ret u => exact I1.after hq
    | next => exact False.elim hq
    | brk => exact False.elim hq
    | cont => exact False.elim hq
end
/-! a def that does one thing ahead of its try -/
def plainS : Sl → Prop
  | .un => True
  | .val _ => True
  | _ => False
def plainV (e : Ev) : Prop := ∀ s ∈ e, plainS s
theorem EvOk.plain {K : PySem.W.Frag} {T T' : TM} {H H' : Hp} {e : Ev} {σ : L2.St} (E : EvOk K T H e σ) (p : plainV e) (g : Good T' H') (le : Le T H T' H') : EvOk K T' H' e σ :=
  ⟨g, E.len, fun i s h => by
    have ok := E.ok i s h
    have ps := p s (List.mem_of_getElem? h)
    cases s <;> first | trivial | exact ps.elim | skip
    obtain ⟨v, e1, r⟩ := ok
    exact ⟨v, e1, r.mono le⟩⟩
/-- x(lambda: ..), x: one thing; try: its argument(); except ..: ..; rest -/
def wLamP (K : PySem.W.Frag) (wp : WS) (wb : WE) (hs : List ClD) (wr : WS) (n : Nat) : WE := fun env q _ => ∀ f, wp (initE n [.val (.ref f)])
  { nx := fun ei => plainV ei ∧ ei[0]? = some (.val (.ref f)) ∧ wb env (fun _ e => wr ei (lamPo q e)) (fun y e => wH K hs { lamPo q e with nx := fun e2 => wr e2 (lamPo q e) } y ei), rt := fun _ _ => False, ex := fun _ _ => False }
section
variable {X : Cx} {W : WX} {Ng : List Str} {x qg a : Str} {stg : Stmt} {g c P : Addr} {fdg : FuncData} {params : Arguments} {body : Expr} {scope : Scope} {k : Nat} {wb : WE} {hs : List ClD} {wp wr : WS} {h₀ : ExceptHandler} {es : List ExceptHandler} {pre : Stmt} {rest : List Stmt} {p p1 p2 p3 p4 pos lpos : Pos}
theorem dlamP (ck : Cal X W (k + 2)) (hm : X.mg x = some (.ref g)) (hk : PySem.W.keepIn X.K (.ref g) = true) (F : L2.Fun X.K x qg stg g fdg) (S : FnScope Ng [a] (defScope stg)) (hb : Binds X.K fdg [a] [])
    (hst : defBody stg = pre :: .Try [.Expr (.Call (.Name a p1) [] [] p2) p3] (h₀ :: es) [] [] p4 :: rest)
    (hpre : ∀ (cdg : Value) (s : Shared) (H : Hp), Cok (gCx X Ng qg stg g cdg s H) (fun _ _ _ _ => False) (k + 1) → DS (gCx X Ng qg stg g cdg s H) (fun _ _ _ _ => False) pre wp)
    (hh : ∀ (cdg : Value) (s : Shared) (H : Hp), Cok (gCx X Ng qg stg g cdg s H) (fun _ _ _ _ => False) (k + 1) → DCl (gCx X Ng qg stg g cdg s H) (h₀ :: es) hs)
    (hrest : ∀ (cdg : Value) (s : Shared) (H : Hp), Cok (gCx X Ng qg stg g cdg s H) (fun _ _ _ _ => False) (k + 1) → DSs (gCx X Ng qg stg g cdg s H) (fun _ _ _ _ => False) rest wr)
    (TB : LamX.TabB X.base X.mg c P) (hcode : X.env.code = .ref c) (hmT : (P, lamQ X) ∈ TabEnv.ts) (hu : ∀ r, (P, r) ∈ TabEnv.ts → r = lamQ X)
    (hbody : ∀ (A : Around) (outer : List Env) (s : Shared) (H : Hp) (E : XK) (f c' : Addr), Cal (LamX.lamCx X A outer s H E scope f c') (wxE E) k → DE (LamX.lamCx X A outer s H E scope f c') (wxE E) body wb)
    (L : LamX.LamS X.env.scope scope := by exact LamX.lamS_by (by decide +kernel)) (hN : Ng[0]? = some a := by rfl) (hv : Vis (defScope stg) a := by exact .inl rfl) (hpos : 1 ≤ Ng.length := by decide)
    (dfl : defaultsOf params X.env = ([], []) := by rfl) (hbind : ∀ (q : Str) (cl : List (Str × Addr)) (pm cv ctv : Value), bindArgs (PySem.W.kla_fn "<lambda>" q params body scope cl pm cv ctv) ⟨[], []⟩ = pure [] := by intros; rfl)
    (hsw : ∀ (cdg : Value) (s : Shared) (H : Hp), swapsWith (.Call (.Name a p1) [] [] p2) none p3.line (gCx X Ng qg stg g cdg s H).env = pure false := by intros; rfl)
    (hg : Gl X x := by rfl) (hdb : (x == ("__debug__" : Str)) = false := by decide) (hd : (a == ("__debug__" : Str)) = false := by decide) (hcd : (a == ("__classdict__" : Str)) = false := by decide) :
    DE X W (.Call (.Name x p) [.Lambda params body scope lpos] [] pos) (wLamP X.K wp wb hs wr Ng.length) := by
  constructor
  intro pins s σ H Q I h
  obtain ⟨T, env, q, x0, E, w, kq, _⟩ := h
  obtain ⟨_, ps, hP, tr, known⟩ := E.good.tabs _ hmT
  refine wpAny_Call_Name_kw (ld_glob I hg hm ?_ hdb)
  refine PySem.W.callWith_K (h₀ := X.base) I.ok.mod.kin hk ?_ (by rfl) (by rfl)
  show wpAny _ _ (spliced ((false, eval (.Lambda params body scope lpos) X.env) :: backTo pos (starEach [] X.env))) _ _ s
  refine Calls.spliced_cons (lam_mk I TB hcode hP tr (fun pos cv hc => ?_) dfl (L.has I.ok) ?_)
  · obtain ⟨b, b1, _, b3⟩ := known pos cv hc
    exact ⟨b, b1, b3⟩
  intro f c' pm ctv H1 s' I1 ln hf hfn hfr
  refine Calls.spliced_nil ⟨I1.kIn, ?_⟩
  obtain ⟨T1, g1, tc', hc'⟩ := gr_lam E.good hmT hu hP ln
  have E1 := E.grow g1
  obtain ⟨oc, od, kV, doc, pm', an, cdg, ct, osl, rfl, lk, hcg⟩ := F.ex
  have run : codeAny (model X.prog X.w) X.A (.call (.ref g) ⟨[.ref f], []⟩) (CR (L2.CX X.prog X.w) X.stack X.prog X.w H1 s' Q (fun _ _ _ => False)) s' := by
    refine LamX.run_ofS (N := Ng) (ps := [a]) (us := [.ref f]) (vs := [.ref f]) lk hcg S ck.room I1.env0 (hb s' [.ref f] I1.kIn rfl) (.cons rfl .nil) rfl ?_
    intro hr'
    let Z : Cx := gCx X Ng qg stg g cdg s' H1
    have tkZ : Takes Z (fun _ _ _ _ => False) := takes_of (E := fun _ _ _ => False) rfl rfl rfl rfl
    have cok : Cok Z (fun _ _ _ _ => False) (k + 1) := ⟨⟨tkZ, rfl, hr', ck.gds⟩, passes_of rfl, S.nd⟩
    let D0 : Ends := { nx := fun _ H' => Q .non H', rt := Q }
    let σZ : L2.St := L2.start Ng [.ref f]
    have init : EvOk X.K (bT T1) H1 (initE Ng.length [.val (.ref f)]) σZ := init_ok rfl hpos (bT_good E1.good) (.cons (by show RepV _ _ _ _ _; simp [RepV]) .nil)
    have try_ := ps_clauses (X := Z) (Wout := fun _ _ _ _ => False) (pos := p4) (body := [.Expr (.Call (.Name a p1) [] [] p2) p3]) (tb := fun W' => tDrop fun σ2 H2 Q => σ2[0]? = some (some (V.ref f)) ∧ H2 c' = some (LamX.CodeO c' (lamQ X)) ∧ LE X.K (wxE fun c d H' => W' c d σ2 H') wb σ H2 Q) rfl rfl S.nd tkZ
      (fun W' pn xe tk _ => pss_one (ps_expr (lam_act (p1 := p1) (p2 := p2) I1 L ck.gds hf hfn hfr (hbind _ _ _ _ _) tk hr' (fun A outer s H E cal => hbody A outer s H E f c' cal) hN hv hd hcd) (hsw cdg s' H1))) (hh cdg s' H1 cok).to
    refine ⟨_, by rw [hst]; exact pss_cons (hpre cdg s' H1 cok) (pss_cons try_ (hrest cdg s' H1 cok)), ?_⟩
    refine ⟨bT T1, initE Ng.length [.val (.ref f)], _, init, w f, fun T2 H2 ei σ2 a2 z => ?_, fun _ _ _ _ _ _ _ _ z => z.elim, fun _ _ _ _ _ _ _ _ _ z => z.elim, fun _ _ _ _ _ z => z.elim, fun _ _ _ _ _ z => z.elim⟩
    obtain ⟨pl, i0, wB⟩ := z
    have B : BackT T1 H1 [] T2 H2 := ⟨E1.good, fun b hb => absurd hb (List.not_mem_nil (a := b)), ⟨bT T1, a2.fr, fun _ _ => rfl⟩, fun b hb => absurd hb (List.not_mem_nil (a := b))⟩
    have f3 : Fr T H (outT T1 T2 []) H2 := B.toFr g1.fr (fun b hb => absurd hb (List.not_mem_nil (a := b)))
    have E3 : EvOk X.K (outT T1 T2 []) H2 env σ := B.evs E1
    obtain ⟨v0, ev0, rv0⟩ := a2.ev.ok 0 _ i0
    have rv0 : v0 = .ref f := by simpa only [RepV] using rv0
    subst rv0
    refine ⟨ev0, ?_, outT T1 T2 [], env, _, _, E3, wB, ?_, ?_⟩
    · rw [(a2.fr.fz (bT_fz.mpr tc')).2]
      exact hc'
    · intro T4 H4 env4 r v a4 _ z
      have fr := f3.trans a4.fr
      exact ⟨bT T4, ei, lamPo q env4, a2.ev.plain pl (bT_good a4.ev.good) (fun b hb => by
          obtain ⟨h1, h2⟩ := B.leIn b hb
          obtain ⟨h3, h4⟩ := a4.fr.fz h1
          exact ⟨bT_fz.mpr h3, by rw [h4]; exact h2⟩), z, lam_end fr a4.ev a4.kp kq⟩
    · intro T4 H4 env4 y cl d a4 rx z
      have fr := f3.trans a4.fr
      have En : EvOk X.K (bT T4) H4 ei σ2 := a2.ev.plain pl (bT_good a4.ev.good) (fun b hb => by
          obtain ⟨h1, h2⟩ := B.leIn b hb
          obtain ⟨h3, h4⟩ := a4.fr.fz h1
          exact ⟨bT_fz.mpr h3, by rw [h4]; exact h2⟩)
      have kr := lam_end (e := ei) (σZ := σ2) fr a4.ev a4.kp kq
      have ks : KS X.K (fun _ _ _ _ => False) (bT T4) H4 ei σ2 { lamPo q env4 with nx := fun e2 => wr e2 (lamPo q env4) } { D0 with nx := fun σ3 H3 => LS X.K (fun _ _ _ _ => False) wr D0 σ3 H3 } :=
        ⟨fun T3 H3 e3 s3 a3 q3 => ⟨T3, e3, lamPo q env4, a3.ev, q3, kr.after a3⟩, kr.rt, kr.exS, fun _ _ _ _ _ z => z.elim, fun _ _ _ _ _ z => z.elim⟩
      exact wh_ok ks hs (bT T4) H4 _ σ2 y cl d (Af.refl En) (rx.mono bT_le) z
  refine wpAny_call (codeAny_mono run ?_)
  intro r s2 hq
  cases r with
  | error e => exact passAt (LamX.takes0 (X := X)) σ pins H1 s' e s2 I1 hq
  | ok fl =>
    cases fl with
    | ret u => exact I1.after hq
    | next => exact False.elim hq
    | brk => exact False.elim hq
    | cont => exact False.elim hq
end
end DL

end Dm
section Dn
set_option Elab.async false
set_option linter.all false
set_option maxRecDepth 100000
set_option maxHeartbeats 4000000
/-! Dn: all(list), == of an own class against what is none of it. -/
namespace DL
open PySem PySem.Spec PyProof.Rows L2
variable [TabEnv]
theorem rep_bls {K : PySem.W.Frag} {T : TM} {H : Hp} : ∀ {bs : List Bool} {vs : List V}, RepL K T H (bs.map .bl) vs → vs = bs.map V.bl
  | [], vs, h => by simpa only [List.map_nil, RepL] using h
  | b :: bs, vs, h => by
    obtain ⟨x, r, rfl, h1, h2⟩ := h.cons_inv
    have h1 : x = .bl b := by simpa only [RepV] using h1
    rw [h1, rep_bls h2]
    rfl
/-- all of a list of bools -/
def gAll (d : D) (q : R → Prop) : Prop := match d with
  | .lst ds => ∃ bs : List Bool, ds = bs.map .bl ∧ q (.val (.bl (bs.all id)))
  | _ => False
theorem cAll {X : Cx} (hc : X.calm = true) : CallD X (.builtin "all") (g1 gAll) := CallD.of1 (cr_all hc) fun T H σ d v Q q g hv hg k => by
  cases d <;> first | exact hg.elim | skip
  obtain ⟨bs, rfl, hq⟩ := hg
  obtain ⟨a, ys, rfl, s, r⟩ := hv.lst
  rw [rep_bls r] at s
  exact ⟨a, bs, rfl, SqL.of s, k T H _ _ (Gr.refl g) rep_bl hq⟩
/-- a value's built-in type -/
def D.tyn : D → Option String
  | .non => some "NoneType"
  | .bl _ => some "bool"
  | .int _ => some "int"
  | .str _ => some "str"
  | .tup _ => some "tuple"
  | _ => none
def tynR (ty : String) (r : R) (e : Ev) : Prop := vw r e fun d => d.tyn = some ty
def wOp2O (C : Addr) (ty : String) (sp : DSp) (wa wb : WE) : WE := fun env q x => wa env (fun ra e1 => wb e1 (fun rb e2 => isIns C ra e2 ∧ tynR ty rb e2 ∧ callG sp [ra, rb] e2 q x) x) x
section
variable {X : Cx} {W : WX} {pos p apos cpos : Pos} {k : Nat} {f C : Addr} {fd : FuncData} {ps : List Str} {sp : DSp} {a b : Expr} {wa wb : WE} {ty : String}
theorem tyn_looks {pins : List (Addr × Obj)} {σ : L2.St} {H : Hp} {s : Shared} {T : TM} {d : D} {v : V} {u : Value} (I : Inv X pins σ H s) (h : View X.K T H d v) (e : d.tyn = some ty) (r : RelV v u) : PySem.W.Looks (model X.prog X.w) s.heap (typeOf u) (.type ty) := by
  cases d <;> simp only [D.tyn, Option.some.injEq, reduceCtorEq] at e <;> subst e
  · cases h.non
    cases (show u = Value.none from r)
    exact .now
  · cases h.bl
    cases (show u = Value.bool _ from r)
    exact .now
  · cases h.int
    obtain ⟨t, rfl⟩ := (show ∃ t, u = Value.int _ t from r)
    exact .now
  · cases h.str
    obtain ⟨t, rfl⟩ := (show ∃ t, u = Value.str _ t from r)
    exact .now
  · obtain ⟨c, ys, rfl, s1, _⟩ := h.tup
    cases (show u = Value.ref c from r)
    obtain ⟨_, _, _, o, h1, h2, _⟩ := (show ObjOk X.prog X.w H s.heap c (.tup ys) from I.hok c _ s1.2)
    exact fun A Q E s k q => wpAny_typeOf_ref (k _ _ h1) (by rw [h2]; exact q)
/-- == of an own instance with what is none: C's __eq__ is asked -/
theorem pcOpEqO (hs : PySem.W.findIn X.K (.ref C) "__eq__" = some (some (.ref f))) (hf : PySem.W.isFn X.K (.ref f) = true) (hn : PySem.W.notFirst X.K C (.type ty) = true) (F : FnG X.prog X.w X.K X.mg X.base k f fd ps (spL X.K sp)) (ck : Cal X W k) (hb : Binds X.K fd ps [])
    (ha : DE X W a wa) (hb' : DE X W b wb) : PC X .Eq a b (LE X.K W (wOp2O C ty sp wa wb)) := by
  refine ⟨fun pins s σ0 H0 Q0 I' h => ?_⟩
  obtain ⟨T, env, q, y, E, w, k', xk⟩ := h
  have args : (LE X.K W wa) σ0 H0 fun x H1 => (LE X.K W wb) σ0 H1 fun z H2 => ∃ c dx fs, x = .ref c ∧ H2 c = some (.ins C dx fs) ∧ (∃ T2 d, View X.K T2 H2 d z ∧ d.tyn = some ty) ∧ spL X.K sp [x, z] H2 Q0 (L2.WE W σ0) := by
    refine ⟨T, env, _, y, E, w, fun T1 H1 e1 r v a1 r1 w1 => ?_, xk⟩
    refine ⟨T1, e1, _, y, a1.ev, w1, fun T2 H2 e2 r2 v2 a2 rr w2 => ?_, xk.after a1⟩
    obtain ⟨i1, i2, w3⟩ := w2
    obtain ⟨c, dx, fs, ea, hc⟩ := isIns_ok a2.ev (r1.mono a2.fr) i1
    obtain ⟨d, hv, ed⟩ := vw_view a2.ev rr i2
    exact ⟨c, dx, fs, ea, hc, ⟨T2, d, hv, ed⟩, lfn (a1.trans a2) (.cons (r1.mono a2.fr) (.one (rr.pre a1.fr))) (own_nd a1.fr r1 (.one rr) (own_nd a2.fr rr (T1 := T2) (H1 := H2) .nil (by simp [ownAd]))) w3 k' xk⟩
  refine binT ha hb' I' args fun v u s2 x z H2 I2 rx ry h => ?_
  obtain ⟨c, dx, fs, rfl, hc, ⟨T2, d, hv, ed⟩, q2⟩ := h
  cases (show v = Value.ref c from rx)
  obtain ⟨mA, O, _⟩ := ins_get I2.hok hc
  obtain ⟨od, J, _⟩ := O.look
  obtain ⟨mm, hF⟩ := I2.fr
  refine PySem.W.cmp_K (op := .Eq) (tb := .type ty) ck.room.units0 hF I2.ok.mod.kin J (tyn_looks I2 hv ed ry) hn hs hf ?_
  refine wpAny_mono (run_fnG (us := [.ref c, u]) (vs := [.ref c, z]) F ck.room ck.gds hb .nil (passAt ck.tk _) I2 (.cons rfl (.cons ry .nil)) (by simpa using q2)) (fun w s' z => ?_) fun _ _ x => x
  obtain ⟨z', H', I', rz, qz⟩ := z
  exact SlX.cmpback rz ⟨z', H', I', rz, qz⟩
theorem dopEqO (hs : PySem.W.findIn X.K (.ref C) "__eq__" = some (some (.ref f))) (hf : PySem.W.isFn X.K (.ref f) = true) (hn : PySem.W.notFirst X.K C (.type ty) = true) (F : FnG X.prog X.w X.K X.mg X.base k f fd ps (spL X.K sp)) (ck : Cal X W k) (hb : Binds X.K fd ps [])
    (ha : DE X W a wa) (hb' : DE X W b wb) (hm : behindInMarks .Eq b = false := by first | exact nobehind _ (by decide) (by decide) | rfl) : DE X W (.Compare a [.Eq] [b] pos) (wOp2O C ty sp wa wb) := pe_cmp (pcOpEqO hs hf hn F ck hb ha hb') hm
theorem dtopEqO (hs : PySem.W.findIn X.K (.ref C) "__eq__" = some (some (.ref f))) (hf : PySem.W.isFn X.K (.ref f) = true) (hn : PySem.W.notFirst X.K C (.type ty) = true) (F : FnG X.prog X.w X.K X.mg X.base k f fd ps (spL X.K sp)) (ck : Cal X W k) (hb : Binds X.K fd ps [])
    (ha : DE X W a wa) (hb' : DE X W b wb) (hm : behindInMarks .Eq b = false := by first | exact nobehind _ (by decide) (by decide) | rfl) : DT X W (.Compare a [.Eq] [b] pos) (wTst (wOp2O C ty sp wa wb)) := PT.le (pt_cmp (pcOpEqO hs hf hn F ck hb ha hb') hm) fun σ H Q h => ltst h
/-! ### & 1, >> 1 -/
def gOdd (a b : D) (q : R → Prop) : Prop := match a, b with
  | .int i, .int j => j = 1 ∧ 0 ≤ i ∧ q (.val (.int (i % 2)))
  | _, _ => False
theorem oOdd : OpD X (binaryOp .BitAnd) gOdd := by
  refine ⟨_, op_odd, fun T H σ da db va vb Q q g ha hb h k => ?_⟩
  cases da <;> cases db <;> first | exact h.elim | skip
  cases ha.int; cases hb.int
  obtain ⟨rfl, h0, h⟩ := h
  rename_i i
  refine ⟨i.toNat, by rw [Int.toNat_of_nonneg h0], rfl, ?_⟩
  have e : ((i.toNat % 2 : Nat) : Int) = i % 2 := by omega
  rw [e]
  exact k T H _ _ (Gr.refl g) rep_int h
end
end DL

end Dn
section Do
set_option Elab.async false
set_option linter.all false
set_option maxRecDepth 100000
set_option maxHeartbeats 4000000
/-! Do: a tuple times a number from 0 on. -/
namespace L2
open PySem PySem.Spec PyProof.Rows
theorem tupMul_one (l : Addr) (items : Array Value) (n : Nat) (dd : Option Addr) (sl : Array (Option Value)) (u : Tok) :
    Meets (Builtin.«tuple.__mul__» ⟨[.ref l, .int 1 u], []⟩) (fun _ R s => s.heap.get? l = some { cls := .type "tuple", dict := dd, data := .seq items n, slots := sl } ∧ R (.ok (.ret (Value.ref l))) s) :=
  .of_wp fun prog w A R s h => by
    obtain ⟨hp, g, d, tk, os⟩ := s
    obtain ⟨hl, h⟩ := h
    have f1 := AutoSeq1.idx_int
    wp_walk using wpAny_loadPart' hl
    exact ⟨_, rfl, h⟩
theorem tupMul_zero (l : Addr) (items : Array Value) (n : Nat) (dd : Option Addr) (sl : Array (Option Value)) (u : Tok) (hi : items.isEmpty = false) :
    Meets (Builtin.«tuple.__mul__» ⟨[.ref l, .int 0 u], []⟩) (fun _ R s => s.heap.get? l = some { cls := .type "tuple", dict := dd, data := .seq items n, slots := sl } ∧
      R (.ok (.ret (Value.ref s.heap.objs.size))) { s with heap := s.heap.push { cls := Value.type "tuple", data := Data.seq #[] } }) :=
  .of_wp fun prog w A R s h => by
    obtain ⟨hp, g, d, tk, os⟩ := s
    obtain ⟨hl, h⟩ := h
    have f1 := AutoSeq1.idx_int
    wp_walk using wpAny_loadPart' hl
    exact ⟨_, rfl, h⟩
section
variable {X : Cx}
def rMul1 (K : PySem.W.Frag) : R2 := fun x y H Q => ∃ l xs, x = .ref l ∧ y = .int 1 ∧ SqT K H l xs ∧ Q (.ref l) H
theorem op_mul1 : OpR X (binaryOp .Mult) (rMul1 X.K) := by
  intro pins s σ H x y v u Q I rx ry h
  obtain ⟨l, xs, rfl, rfl, hT, q⟩ := h
  cases rx
  obtain ⟨t, rfl⟩ := ry
  obtain ⟨its, r, ⟨⟨cls, dd, data, sl⟩, ho, hc, n, hd⟩, hs⟩ := I.tuple hT
  simp only at hc hd
  subst hc hd
  have tyT : s.TypeIs (.ref l) "tuple" := ⟨_, ho, rfl⟩
  have fin : EP X pins σ Q (.ref l) s := ⟨.ref l, H, I, rfl, q⟩
  exact wpAny_binaryOp_repeat_ref (T := "tuple") (U := "int") (by decide) tyT (fun s' => typeIs_int s' 1 t) noFill_tuple_mul F.fills_int_mul F.slot_int_rmul repeat_tuple F.slot_int_index.lookup
    (call_meets F.slot_int_rmul (typeIs_int s 1 t) F.entry_int_rmul (F.args_int_rmul_2 _ _) (int_rmul_tuple 1 t l _ n dd sl) ⟨ho, rfl, tyT, call_meets F.slot_tuple_mul tyT F.entry_tuple_mul (F.args_tuple_mul_2 _ _) (tupMul_one l _ n dd sl t) ⟨ho, fin⟩⟩)
def rMul0 (K : PySem.W.Frag) : R2 := fun x y H Q => ∃ l xs, x = .ref l ∧ y = .int 0 ∧ SqT K H l xs ∧ xs ≠ [] ∧ ∀ p, H p = none → Q (.ref p) (upd H p (.tup []))
theorem op_mul0 : OpR X (binaryOp .Mult) (rMul0 X.K) := by
  intro pins s σ H x y v u Q I rx ry h
  obtain ⟨l, xs, rfl, rfl, hT, hne, q⟩ := h
  cases rx
  obtain ⟨t, rfl⟩ := ry
  obtain ⟨its, r, ⟨⟨cls, dd, data, sl⟩, ho, hc, n, hd⟩, hs⟩ := I.tuple hT
  simp only at hc hd
  subst hc hd
  have tyT : s.TypeIs (.ref l) "tuple" := ⟨_, ho, rfl⟩
  have hi : its.toArray.isEmpty = false := by
    have hl : xs.length = its.length := r.length
    cases its with
    | cons a b => rfl
    | nil => exact absurd (List.eq_nil_of_length_eq_zero hl) hne
  have J : Inv X pins σ (upd H s.heap.objs.size (.tup [])) { s with heap := s.heap.push { cls := Value.type "tuple", data := Data.seq #[] } } :=
    I.laid (t' := s.toks) (o := .tup []) (fun b ob e => Heap.get?_push_of_some _ e) (Nat.le_refl _) ⟨Nat.zero_le _, [], .nil, IsTup.new _ _⟩
  have fin : EP X pins σ Q (.ref s.heap.objs.size) { s with heap := s.heap.push { cls := Value.type "tuple", data := Data.seq #[] } } := ⟨.ref _, _, J, rfl, q _ (I.hok.fresh (Nat.le_refl _))⟩
  exact wpAny_binaryOp_repeat_ref (T := "tuple") (U := "int") (by decide) tyT (fun s' => typeIs_int s' 0 t) noFill_tuple_mul F.fills_int_mul F.slot_int_rmul repeat_tuple F.slot_int_index.lookup
    (call_meets F.slot_int_rmul (typeIs_int s 0 t) F.entry_int_rmul (F.args_int_rmul_2 _ _) (int_rmul_tuple 0 t l _ n dd sl) ⟨ho, rfl, tyT, call_meets F.slot_tuple_mul tyT F.entry_tuple_mul (F.args_tuple_mul_2 _ _) (tupMul_zero l _ n dd sl t hi) ⟨ho, fin⟩⟩)
end
end L2
namespace DL
open PySem PySem.Spec PyProof.Rows L2
variable [TabEnv]
def gMulT (a b : D) (q : R → Prop) : Prop := match a, b with
  | .tup xs, .int k => xs ≠ [] ∧ 0 ≤ k ∧ k ≤ 1000 ∧ xs.length ≤ 1000 ∧ q (.val (.tup (List.replicate k.toNat xs).flatten))
  | _, _ => False
theorem RepL.ne {K : PySem.W.Frag} {T : TM} {H : Hp} {ds : List D} {vs : List V} (h : RepL K T H ds vs) (n : ds ≠ []) : vs ≠ [] := fun e => n (List.eq_nil_of_length_eq_zero (by rw [h.length, e]; rfl))
theorem oMulT {X : Cx} : OpD X (binaryOp .Mult) gMulT := by
  refine ⟨_, OpR.or (OpR.or op_mul1 op_mul0) op_repT, fun T H σ da db va vb Q q g ha hb h k => ?_⟩
  cases da <;> cases db <;> first | exact h.elim | skip
  obtain ⟨a, xs, rfl, s1, r1⟩ := ha.tup
  cases hb.int
  rename_i ds i
  obtain ⟨hn, h0, h1, hl, hq⟩ := h
  have hx := r1.ne hn
  have l1 := r1.length
  by_cases e1 : i = 1
  · subst e1
    have e : (List.replicate (1 : Int).toNat ds).flatten = ds := by simp
    rw [e] at hq
    exact .inl (.inl ⟨a, xs, rfl, rfl, s1.sq, k T H (.val (.tup ds)) _ (Gr.refl g) (by show RepV _ _ _ _ _; simpa only [View] using ha) hq⟩)
  · by_cases e0 : i = 0
    · subst e0
      exact .inl (.inr ⟨a, xs, rfl, rfl, s1.sq, hx, fun p hp => k _ _ _ _ (Gr.new g hp) (new_tup g hp .nil) (by simpa using hq)⟩)
    · exact .inr ⟨a, i, xs, rfl, rfl, s1.sq, hx, by omega, h1, by omega, fun p hp => k _ _ _ _ (Gr.new g hp) (new_tup g hp (r1.flat _)) hq⟩
omit [TabEnv] in
theorem code_of_tab {K : PySem.W.Frag} {x : Str} {c P fa : Addr} {cdv : Value} (ht : PySem.W.tabIn K x = some (c, P)) (hm : PySem.W.nsIn K mainGlobals x = some (some (.ref fa))) (hc : CodeAt K fa cdv) : cdv = .ref c := by
  obtain ⟨o, fd, lk, hd, rfl⟩ := hc
  unfold PySem.W.tabIn at ht
  rw [hm] at ht
  simp only at ht
  split at ht
  · rename_i hfo
    rw [lk] at hfo
    cases hfo
    cases hd
    split at ht
    · rename_i c2 hc2
      split at ht
      · split at ht
        · cases ht; exact hc2
        · cases ht
      · cases ht
    · cases ht
  · cases ht
/-- a def that makes lambdas: where its table is -/
def tabOk (K : PySem.W.Frag) (tsl : List Addr) (x : Str) : Bool := match PySem.W.tabIn K x with
  | some (c, P) => PySem.W.codeHdIn K c P && (K.lookup P).isNone && tsl.contains P
  | none => false
omit [TabEnv] in
theorem tabOk_of {K : PySem.W.Frag} {tsl : List Addr} {x : Str} (h : tabOk K tsl x = true) : ∃ c P, PySem.W.tabIn K x = some (c, P) ∧ PySem.W.codeHdIn K c P = true ∧ K.lookup P = none ∧ P ∈ tsl := by
  unfold tabOk at h
  split at h
  · rename_i c P e
    simp only [Bool.and_eq_true, Option.isNone_iff_eq_none, List.contains_iff_mem] at h
    exact ⟨c, P, e, h.1.1, h.1.2, h.2⟩
  · cases h
def tabNe (K : PySem.W.Frag) (x y : Str) : Bool := match PySem.W.tabIn K x, PySem.W.tabIn K y with
  | some (_, P), some (_, Q) => !(P == Q)
  | _, _ => false
omit [TabEnv] in
theorem tabNe_of {K : PySem.W.Frag} {x y : Str} {c P d Q : Addr} (h : tabNe K x y = true) (hx : PySem.W.tabIn K x = some (c, P)) (hy : PySem.W.tabIn K y = some (d, Q)) : P ≠ Q := by
  unfold tabNe at h
  rw [hx, hy] at h
  simpa using h
end DL

end Do
section Pa
set_option Elab.async false
set_option linter.all false
set_option maxRecDepth 100000
set_option maxHeartbeats 4000000
/-! Pa: whole numbers and ratios, what the defs about them promise. -/
namespace DL
open PySem
variable [TabEnv]
theorem mulOk {i j : Int} {a b : Nat} (hi : i.natAbs < 2 ^ a) (hj : j.natAbs < 2 ^ b) (h : a + b ≤ 134217728) : IntMulOk i j := by
  apply L2.CMulX.ok
  have h1 := PyProof.Rows.intBits_le hi
  have h2 := PyProof.Rows.intBits_le hj
  unfold L2.CMulX
  omega
theorem fdOk {i j : Int} (h0 : j ≠ 0) (hj : j.natAbs < 2 ^ 9000) : CFd i j :=
  ⟨h0, PyProof.noPylong_of_log2 ((Nat.log2_lt (by omega)).mpr hj)⟩
/-- the turns of Euclid's way -/
def euSteps (a b : Nat) : Nat := if h : b = 0 then 0 else euSteps b (a % b) + 1
termination_by b
decreasing_by exact Nat.mod_lt _ (Nat.pos_of_ne_zero h)
theorem euSteps_zero (a : Nat) : euSteps a 0 = 0 := by unfold euSteps; simp
theorem euSteps_pos {a b : Nat} (h : b ≠ 0) : euSteps a b = euSteps b (a % b) + 1 := by rw [euSteps]; simp [h]
def ratD (q : Rat) : D := .tup [.int q.num, .int q.den]
/-- numbers that are not too long -/
def Sm (q : Rat) : Prop := q.num.natAbs < 2 ^ 4000 ∧ q.den < 2 ^ 4000
def spGcd : DSp := fun args q _ => ∃ a b : Int, args = [.val (.int a), .val (.int b)] ∧ q (.val (.int (Int.gcd a b))) args
def spLowest : DSp := fun args q _ => ∃ a b : Int, args = [.val (.int a), .val (.int b)] ∧ b ≠ 0 ∧ b.natAbs < 2 ^ 9000 ∧ q (.val (ratD (Rat.divInt a b))) args
end DL
namespace DL
theorem iteB {b : Bool} {A B : Prop} (h1 : b = true → A) (h2 : b = false → B) : if b = true then A else B := by
  cases b
  · simpa using h2 rfl
  · simpa using h1 rfl
end DL
namespace DL
open PySem
variable [TabEnv]
theorem low_pos (a b g : Int) (hb : b ≠ 0) (hg : g = if b < 0 then -(Int.gcd a b : Int) else Int.gcd a b) : (.tup [.int (a.fdiv g), .int (b.fdiv g)] : D) = ratD (Rat.divInt a b) := by
  unfold ratD
  rw [Rat.num_divInt, Rat.den_divInt, if_neg hb, Int.gcd_comm b a]
  have hpos : 0 < (Int.gcd a b : Int) := by
    have := Int.gcd_pos_of_ne_zero_right a hb
    omega
  obtain ⟨a', ha'⟩ := Int.gcd_dvd_left a b
  obtain ⟨b', hb'⟩ := Int.gcd_dvd_right a b
  generalize hk : (Int.gcd a b : Int) = k at *
  have hkn : Int.gcd a b = k.natAbs := by omega
  rw [hkn]
  have hk0 : k ≠ 0 := by omega
  by_cases hn : b < 0
  · rw [if_pos hn] at hg
    subst hg
    have hb1 : b' < 0 := by
      rcases (show b' < 0 ∨ 0 ≤ b' by omega) with h | h
      · exact h
      · have := Int.mul_nonneg (Int.le_of_lt hpos) h
        omega
    have e1 : a.fdiv (-k) = -a' := by rw [ha', show k * a' = (-k) * (-a') by rw [Int.neg_mul_neg], Int.mul_fdiv_cancel_left _ (by omega)]
    have e2 : b.fdiv (-k) = -b' := by rw [hb', show k * b' = (-k) * (-b') by rw [Int.neg_mul_neg], Int.mul_fdiv_cancel_left _ (by omega)]
    have e3 : b.sign * a / k = -a' := by
      rw [Int.sign_eq_neg_one_of_neg hn, ha', show (-1) * (k * a') = k * (-a') by rw [Int.mul_neg]; omega, Int.mul_ediv_cancel_left _ hk0]
    have e4 : ((b.natAbs / k.natAbs : Nat) : Int) = -b' := by
      have : b.natAbs = k.natAbs * b'.natAbs := by rw [hb', Int.natAbs_mul]
      rw [this, Nat.mul_div_cancel_left _ (by omega)]
      omega
    rw [e1, e2, e3, e4]
  · rw [if_neg hn] at hg
    subst hg
    have hb1 : 0 < b' := by
      rcases (show 0 < b' ∨ b' ≤ 0 by omega) with h | h
      · exact h
      · have := Int.mul_nonneg (Int.le_of_lt hpos) (show 0 ≤ -b' by omega)
        rw [Int.mul_neg] at this
        omega
    have e1 : a.fdiv g = a' := by rw [ha', Int.mul_fdiv_cancel_left _ hk0]
    have e2 : b.fdiv g = b' := by rw [hb', Int.mul_fdiv_cancel_left _ hk0]
    have e3 : b.sign * a / g = a' := by
      rw [Int.sign_eq_one_of_pos (by omega), ha', Int.one_mul, Int.mul_ediv_cancel_left _ hk0]
    have e4 : ((b.natAbs / g.natAbs : Nat) : Int) = b' := by
      have : b.natAbs = g.natAbs * b'.natAbs := by rw [hb', Int.natAbs_mul]
      rw [this, Nat.mul_div_cancel_left _ (by omega)]
      omega
    rw [e1, e2, e3, e4]
theorem gcd_small {a b : Int} {n : Nat} (hb : b ≠ 0) (h : b.natAbs < 2 ^ n) : (Int.gcd a b : Int).natAbs < 2 ^ n := by
  have h1 : Int.gcd a b ≤ b.natAbs := Nat.le_of_dvd (by omega) (by rw [← Int.natAbs_natCast (Int.gcd a b)]; exact Int.natAbs_dvd_natAbs.mpr (Int.gcd_dvd_right a b))
  have : (Int.gcd a b : Int).natAbs = Int.gcd a b := by omega
  rw [this]
  omega
end DL
namespace DL
open PySem
variable [TabEnv]
theorem len1 {a : D} : [a].length ≤ sizeLine := show 1 ≤ sizeLine by decide
theorem len2 {a b : D} : [a, b].length ≤ sizeLine := show 2 ≤ sizeLine by decide
theorem len3 {a b c : D} : [a, b, c].length ≤ sizeLine := show 3 ≤ sizeLine by decide
theorem noloc {d : D} : ∀ i, R.val d ≠ .loc i := fun i z => nomatch z
theorem noloco {o : Ob} : ∀ i, R.own o ≠ .loc i := fun i z => nomatch z
/-! isinstance of plain data and built-in classes -/
/-- the name of the type of plain data -/
def tyN : D → Option String
  | .non => some "NoneType"
  | .bl _ => some "bool"
  | .int _ => some "int"
  | .str _ => some "str"
  | .tup _ => some "tuple"
  | .lst _ => some "list"
  | .dk _ _ => some "dict"
  | _ => none
theorem typ_ty {K : PySem.W.Frag} {d : D} {n : String} {k : Value → Prop} (h : tyN d = some n) (hk : k (.type n)) : d.typ K k := by
  cases d <;> simp [tyN] at h <;> subst h <;> exact hk
def tys : List String := ["NoneType", "bool", "int", "str", "tuple", "list", "dict"]
theorem tyN_mem {d : D} {n : String} (h : tyN d = some n) : n ∈ tys := by
  cases d <;> simp [tyN] at h <;> subst h <;> decide
theorem kit_int : ∀ n ∈ tys, L2.kitB n "int" = some (n == "int" || n == "bool") := by decide +kernel
theorem kit_bool : ∀ n ∈ tys, L2.kitB n "bool" = some (n == "bool") := by decide +kernel
theorem kit_tuple : ∀ n ∈ tys, L2.kitB n "tuple" = some (n == "tuple") := by decide +kernel
theorem kit_list : ∀ n ∈ tys, L2.kitB n "list" = some (n == "list") := by decide +kernel
theorem kit_str : ∀ n ∈ tys, L2.kitB n "str" = some (n == "str") := by decide +kernel
theorem isi_ty {K : PySem.W.Frag} {d : D} {n t : String} {b : Bool} {q : R → Prop} (h : tyN d = some n) (hb : L2.kitB n t = some b) (hq : q (.val (.bl b))) : gIsi K d (.ty t) q :=
  typ_ty h ⟨.type t, rfl, b, L2.kit_ty hb, hq⟩
/-- isinstance(d, (tuple, list)) -/
theorem isi_tl {K : PySem.W.Frag} {d : D} {n : String} {q : R → Prop} (h : tyN d = some n) (hq : q (.val (.bl (n == "tuple" || n == "list")))) : gIsi K d (.tup [.ty "tuple", .ty "list"]) q := by
  refine typ_ty h ⟨[.type "tuple", .type "list"], rfl, _, ?_, hq⟩
  have m := tyN_mem h
  refine L2.kitAny_cons (L2.kit_ty (kit_tuple n m)) (fun e => ?_) (fun e => by rw [e]; rfl)
  rw [e, Bool.false_or]
  exact L2.kitAny_cons (L2.kit_ty (kit_list n m)) (fun e2 => by rw [e2]; exact L2.kitAny_nil) (fun e2 => e2)
def isW : D → Bool
  | .int _ => true
  | _ => false
/-- is_whole -/
def spIsWhole : DSp := fun args q _ => ∃ d n, args = [.val d] ∧ tyN d = some n ∧ q (.val (.bl (isW d))) args
theorem isW_n {d : D} {n : String} (h : tyN d = some n) : isW d = ((n == "int" || n == "bool") && !(n == "bool")) := by
  cases d <;> simp [tyN] at h <;> subst h <;> rfl
end DL
namespace DL
open PySem
variable [TabEnv]
theorem eqv_int (i j : Int) : PyData.eqv (.int i) (.int j) = decide (i = j) := by
  first | rfl | (unfold PyData.eqv; rfl) | (simp [PyData.eqv]; done) | (unfold PyData.eqv; by_cases h : i = j <;> simp [h])
def isRt : D → Bool
  | .int _ => true
  | .tup [.int _, .int b] => decide (0 < b)
  | _ => false
/-- is_ratio -/
def spIsRatio : DSp := fun args q _ => ∃ d n, args = [.val d] ∧ tyN d = some n ∧ (∀ a b, d = .tup [a, b] → (∃ m, tyN a = some m) ∧ ∃ m, tyN b = some m) ∧ q (.val (.bl (isRt d))) args
/-- a ratio as it may be passed -/
inductive Pass : D → Rat → Prop
  | int (i : Int) : Pass (.int i) i
  | pair (a b : Int) (h : 0 < b) (hb : b.natAbs < 2 ^ 9000) : Pass (.tup [.int a, .int b]) (Rat.divInt a b)
theorem Pass.rt {d : D} {q : Rat} (h : Pass d q) : isRt d = true := by
  cases h with
  | int i => rfl
  | pair a b h => simp [isRt, h]
theorem Pass.ty {d : D} {q : Rat} (h : Pass d q) : (∃ n, tyN d = some n) ∧ ∀ a b, d = .tup [a, b] → (∃ m, tyN a = some m) ∧ ∃ m, tyN b = some m := by
  cases h with
  | int i => exact ⟨⟨_, rfl⟩, fun a b e => by cases e⟩
  | pair a b h => exact ⟨⟨_, rfl⟩, fun a b e => by cases e; exact ⟨⟨_, rfl⟩, _, rfl⟩⟩
/-- told, of a ratio -/
def spTold : DSp := fun args q _ => ∃ d w r, args = [.val d, .val w] ∧ Pass d r ∧ q (.val (ratD r)) args
def spPlus : DSp := fun args q _ => ∃ a b : Rat, args = [.val (ratD a), .val (ratD b)] ∧ Sm a ∧ Sm b ∧ q (.val (ratD (a + b))) args
def spMinus : DSp := fun args q _ => ∃ a b : Rat, args = [.val (ratD a), .val (ratD b)] ∧ Sm a ∧ Sm b ∧ q (.val (ratD (a - b))) args
def spTimes : DSp := fun args q _ => ∃ a b : Rat, args = [.val (ratD a), .val (ratD b)] ∧ Sm a ∧ Sm b ∧ q (.val (ratD (a * b))) args
def spPowerOf : DSp := fun args q _ => ∃ x n : Int, args = [.val (.int x), .val (.int n)] ∧ 0 ≤ n ∧ n ≤ 1000 ∧ x.natAbs < 2 ^ 4000 ∧ q (.val (.int (x ^ n.toNat))) args
theorem ratD_int (i : Int) : (.tup [.int i, .int 1] : D) = ratD (i : Rat) := by
  unfold ratD
  simp
theorem sm_den {a : Rat} (h : Sm a) : (a.den : Int) ≠ 0 := by
  have := a.den_pos
  omega
theorem pow_lt_mul {x y : Int} {a b c : Nat} (hx : x.natAbs < 2 ^ a) (hy : y.natAbs < 2 ^ b) (hc : a + b ≤ c) : (x * y).natAbs < 2 ^ c := by
  rw [Int.natAbs_mul]
  have h1 : x.natAbs * y.natAbs < 2 ^ a * 2 ^ b := Nat.mul_lt_mul'' hx hy
  rw [← Nat.pow_add] at h1
  exact Nat.lt_of_lt_of_le h1 (Nat.pow_le_pow_right (by decide) hc)
theorem sm_mul {a b : Rat} (ha : Sm a) (hb : Sm b) : IntMulOk a.num b.num ∧ IntMulOk (a.den : Int) (b.den : Int) ∧ IntMulOk a.num (b.den : Int) ∧ IntMulOk b.num (a.den : Int) ∧ ((a.den : Int) * (b.den : Int)) ≠ 0 ∧ ((a.den : Int) * (b.den : Int)).natAbs < 2 ^ 9000 := by
  have h1 := ha.1
  have h2 : (a.den : Int).natAbs < 2 ^ 4000 := ha.2
  have h3 := hb.1
  have h4 : (b.den : Int).natAbs < 2 ^ 4000 := hb.2
  exact ⟨mulOk h1 h3 (by decide), mulOk h2 h4 (by decide), mulOk h1 h4 (by decide), mulOk h3 h2 (by decide), Int.mul_ne_zero (sm_den ha) (sm_den hb), pow_lt_mul h2 h4 (by decide)⟩
theorem add_divInt (a b : Rat) : Rat.divInt (a.num * b.den + b.num * a.den) ((a.den : Int) * (b.den : Int)) = a + b := by
  rw [Rat.add_def', ← Int.natCast_mul, Rat.divInt_ofNat]
theorem sub_divInt (a b : Rat) : Rat.divInt (a.num * b.den - b.num * a.den) ((a.den : Int) * (b.den : Int)) = a - b := by
  have := add_divInt a (-b)
  rw [Rat.sub_eq_add_neg, ← this]
  simp [Int.neg_mul, Int.sub_eq_add_neg]
theorem mul_divInt (a b : Rat) : Rat.divInt (a.num * b.num) ((a.den : Int) * (b.den : Int)) = a * b := by
  rw [Rat.mul_def', ← Int.natCast_mul, Rat.divInt_ofNat]
theorem add_same {a b : Rat} (h : a.den = b.den) : Rat.divInt (a.num + b.num) (a.den : Int) = a + b := by
  rw [← add_divInt a b, ← h, ← Int.add_mul, Rat.divInt_mul_right]
  have := a.den_pos
  omega
end DL
namespace DL
open PySem
variable [TabEnv]
/-- a while loop by a number that falls -/
theorem wWhile_lt {c : WT} {b : WS} {P : Po} {m : Nat} {e : Ev} (I : Nat → Ev → Prop) (h : I m e)
    (hc : ∀ m e (k : Ev → Prop), I m e → (∀ m', m' < m → ∀ e', I m' e' → k e') → c e (fun t e1 => if t = true then b e1 { nx := k, rt := P.rt, ex := P.ex, bk := P.nx, ct := k } else P.nx e1) P.ex) : wWhile c b e P :=
  wWhile_ind (m := m) (fun m e => ∃ m0, m0 ≤ m ∧ I m0 e) ⟨m, Nat.le_refl m, h⟩ fun m e k ⟨m0, hm, hi⟩ hk => hc m0 e k hi fun m' lt e' hi' => hk (m - 1) (by omega) e' ⟨m', by omega, hi'⟩
theorem fd_nat (a b : Nat) : Int.fdiv (a : Int) (b : Int) = ((a / b : Nat) : Int) := by
  rw [Int.fdiv_eq_ediv_of_nonneg _ (by omega)]
  rfl
theorem fm_nat (a b : Nat) : Int.fmod (a : Int) (b : Int) = ((a % b : Nat) : Int) := by
  rw [Int.fmod_eq_emod_of_nonneg _ (by omega)]
  rfl
theorem pow_lt {z : Int} {a : Nat} (h : z.natAbs < 2 ^ a) (j : Nat) : (z ^ j).natAbs < 2 ^ (a * j + 1) := by
  rw [Int.natAbs_pow]
  have h1 : z.natAbs ^ j ≤ (2 ^ a) ^ j := Nat.pow_le_pow_left (by omega) j
  rw [← Nat.pow_mul] at h1
  exact Nat.lt_of_le_of_lt h1 (Nat.pow_lt_pow_right (by decide) (by omega))
end DL
namespace DL
open PySem
variable [TabEnv]
theorem isRt_ne {ds : List D} (h : ds.length ≠ 2) : isRt (.tup ds) = false := by
  match ds, h with
  | [], _ => rfl
  | [a], _ => cases a <;> rfl
  | [a, b], h => exact absurd rfl h
  | a :: b :: c :: r, _ => cases a <;> cases b <;> rfl
end DL

end Pa
section Pb
set_option Elab.async false
set_option linter.all false
set_option maxRecDepth 100000
set_option maxHeartbeats 4000000
set_option exponentiation.threshold 100000
/-! Pb: ratios that fit, lists of terms. -/
namespace DL
open PySem
variable [TabEnv]
/-- a ratio over D, of at most B -/
def Ft (D B : Nat) (q : Rat) : Prop := ∃ z : Int, q = Rat.divInt z D ∧ z.natAbs ≤ B * D
theorem divInt_den_dvd (z : Int) {D : Nat} (h : 0 < D) : (Rat.divInt z D).den ∣ D := by
  rw [Rat.den_divInt, if_neg (by omega), Int.natAbs_natCast]
  exact Nat.div_dvd_of_dvd (by simpa using Int.natAbs_dvd_natAbs.mpr (Int.gcd_dvd_left (D : Int) z))
theorem divInt_num_dvd (z : Int) {D : Nat} (h : 0 < D) : (Rat.divInt z D).num ∣ z := by
  rw [Rat.num_divInt, Int.sign_eq_one_of_pos (by omega), Int.one_mul]
  exact ⟨Int.gcd (D : Int) z, (Int.ediv_mul_cancel (Int.gcd_dvd_right (D : Int) z)).symm⟩
theorem Ft.num {D B : Nat} {q : Rat} (h0 : 0 < D) (h : Ft D B q) : q.num.natAbs ≤ B * D ∧ q.den ≤ D := by
  obtain ⟨z, rfl, hz⟩ := h
  refine ⟨?_, Nat.le_of_dvd h0 (divInt_den_dvd z h0)⟩
  by_cases z0 : z = 0
  · subst z0; simp
  · exact Nat.le_trans (Nat.le_of_dvd (by omega) (Int.natAbs_dvd_natAbs.mpr (divInt_num_dvd z h0))) hz
theorem Ft.sm {D B : Nat} {q : Rat} (h0 : 0 < D) (h : Ft D B q) (h1 : B * D < 2 ^ 4000) (h2 : D < 2 ^ 4000) : Sm q := by
  obtain ⟨a, b⟩ := h.num h0
  exact ⟨by omega, by omega⟩
theorem Ft.add {D B B' : Nat} {a b : Rat} (h0 : 0 < D) (ha : Ft D B a) (hb : Ft D B' b) : Ft D (B + B') (a + b) := by
  obtain ⟨z, rfl, hz⟩ := ha
  obtain ⟨y, rfl, hy⟩ := hb
  refine ⟨z + y, ?_, ?_⟩
  · have d0 : (D : Int) ≠ 0 := by omega
    rw [Rat.divInt_add_divInt _ _ d0 d0, ← Int.add_mul, Rat.divInt_mul_right d0]
  · rw [Nat.add_mul]; omega
theorem Ft.neg {D B : Nat} {a : Rat} (ha : Ft D B a) : Ft D B (-a) := by
  obtain ⟨z, rfl, hz⟩ := ha
  exact ⟨-z, by rw [Rat.neg_divInt], by omega⟩
theorem Ft.sub {D B B' : Nat} {a b : Rat} (h0 : 0 < D) (ha : Ft D B a) (hb : Ft D B' b) : Ft D (B + B') (a - b) := by
  rw [Rat.sub_eq_add_neg]
  exact ha.add h0 hb.neg
theorem Ft.mul {D B D' B' : Nat} {a b : Rat} (ha : Ft D B a) (hb : Ft D' B' b) : Ft (D * D') (B * B') (a * b) := by
  obtain ⟨z, rfl, hz⟩ := ha
  obtain ⟨y, rfl, hy⟩ := hb
  refine ⟨z * y, ?_, ?_⟩
  · rw [Rat.divInt_mul_divInt, Int.natCast_mul]
  · rw [Int.natAbs_mul]
    have := Nat.mul_le_mul hz hy
    calc z.natAbs * y.natAbs ≤ B * D * (B' * D') := this
      _ = B * B' * (D * D') := by ac_rfl
theorem Ft.mono {D B D' B' : Nat} {a : Rat} (h : Ft D B a) (h0 : 0 < D') (hd : D ∣ D') (hb : B ≤ B') : Ft D' B' a := by
  obtain ⟨z, rfl, hz⟩ := h
  obtain ⟨k, rfl⟩ := hd
  have k0 : k ≠ 0 := fun e => by subst e; simp at h0
  refine ⟨z * k, ?_, ?_⟩
  · rw [Int.natCast_mul, Rat.divInt_mul_right (by omega)]
  · rw [Int.natAbs_mul, Int.natAbs_natCast, ← Nat.mul_assoc]
    exact Nat.mul_le_mul_right k (Nat.le_trans hz (Nat.mul_le_mul_right D hb))
theorem Ft.pow {D B : Nat} {a : Rat} (ha : Ft D B a) : ∀ n : Nat, Ft (D ^ n) (B ^ n) (a ^ n)
  | 0 => ⟨1, by simp; rfl, by simp⟩
  | n + 1 => by
    rw [Rat.pow_succ, Nat.pow_succ, Nat.pow_succ]
    exact (ha.pow n).mul ha
theorem Ft.zero {D B : Nat} : Ft D B 0 := ⟨0, by simp, by simp⟩
theorem Ft.int {D B : Nat} {i : Int} (h0 : 0 < D) (h : i.natAbs ≤ B) : Ft D B i := by
  refine ⟨i * D, ?_, ?_⟩
  · have := Rat.divInt_mul_right (n := i) (d := 1) (a := (D : Int)) (by omega)
    rw [Int.one_mul] at this
    rw [this]
    exact (by have := Rat.num_divInt_den (i : Rat); simpa only [Rat.num_intCast, Rat.den_intCast, Int.natCast_one] using this.symm)
  · rw [Int.natAbs_mul, Int.natAbs_natCast]
    exact Nat.mul_le_mul_right D h
/-! lists of terms -/
abbrev TL := List (List Int × Rat)
/-- the sum of the ratios, each by the weight of its exponents -/
def evT (m : List Int → Rat) : TL → Rat
  | [] => 0
  | t :: l => t.2 * m t.1 + evT m l
def Same (l l' : TL) : Prop := ∀ m, evT m l = evT m l'
theorem evT_app (m : List Int → Rat) : ∀ a b : TL, evT m (a ++ b) = evT m a + evT m b
  | [], b => by simp [evT, Rat.zero_add]
  | t :: a, b => by
    simp only [List.cons_append, evT]
    rw [evT_app m a b, Rat.add_assoc]
theorem evT_perm {m : List Int → Rat} {a b : TL} (h : a.Perm b) : evT m a = evT m b := by
  induction h with
  | nil => rfl
  | cons x _ ih => simp only [evT, ih]
  | swap x y l => simp only [evT]; grind
  | trans _ _ i j => rw [i, j]
def keysT (l : TL) : List (List Int) := l.map (·.1)
structure NZ (l : TL) : Prop where
  nd : (keysT l).Nodup
  nz : ∀ t ∈ l, t.2 ≠ 0
def ind (e : List Int) (k : List Int) : Rat := if k = e then 1 else 0
theorem evT_ind_none {e : List Int} : ∀ {l : TL}, e ∉ keysT l → evT (ind e) l = 0
  | [], _ => rfl
  | t :: l, h => by
    have h1 : ¬ t.1 = e := fun z => h (by simp [keysT, z])
    have h2 : e ∉ keysT l := fun z => h (by simp only [keysT, List.map_cons, List.mem_cons]; exact .inr z)
    simp only [evT, ind, if_neg h1, evT_ind_none h2]
    grind
theorem evT_ind {e : List Int} {q : Rat} : ∀ {l : TL}, (keysT l).Nodup → (e, q) ∈ l → evT (ind e) l = q
  | t :: l, h, hm => by
    have hn : (keysT l).Nodup ∧ t.1 ∉ keysT l := by
      simp only [keysT, List.map_cons, List.nodup_cons] at h
      exact ⟨h.2, h.1⟩
    rcases List.mem_cons.mp hm with e1 | e1
    · subst e1
      have := evT_ind_none hn.2
      simp only [evT, ind, if_pos rfl]
      rw [show evT (ind e) l = 0 from this]
      grind
    · have h1 : ¬ t.1 = e := fun z => hn.2 (by rw [z]; exact List.mem_map.mpr ⟨_, e1, rfl⟩)
      simp only [evT, ind, if_neg h1]
      rw [show evT (ind e) l = q from evT_ind hn.1 e1]
      grind
theorem NZ.mem {l : TL} (h : NZ l) {e : List Int} {q : Rat} : (e, q) ∈ l ↔ q ≠ 0 ∧ evT (ind e) l = q := by
  refine ⟨fun z => ⟨h.nz _ z, evT_ind h.nd z⟩, fun ⟨q0, z⟩ => ?_⟩
  by_cases k : e ∈ keysT l
  · obtain ⟨t, ht, rfl⟩ := List.mem_map.mp k
    have := evT_ind (e := t.1) (q := t.2) h.nd ht
    rw [z] at this
    rw [this]
    exact ht
  · rw [evT_ind_none k] at z
    exact absurd z.symm q0
theorem nodup_of_keys {l : TL} (h : (keysT l).Nodup) : l.Nodup := by
  unfold keysT at h
  exact (List.pairwise_map.mp h).imp fun n e => n (by rw [e])
theorem NZ.perm {l l' : TL} (h : NZ l) (h' : NZ l') (s : Same l l') : l.Perm l' := by
  refine (List.perm_ext_iff_of_nodup (nodup_of_keys h.nd) (nodup_of_keys h'.nd)).mpr fun ⟨e, q⟩ => ?_
  rw [h.mem, h'.mem, s]
end DL
namespace DL
open PySem
variable [TabEnv]
/-! looking up and putting in -/
section
variable {κ κ' α β : Type} [DecidableEq κ] [DecidableEq κ']
theorem lkD_map {f : κ → κ'} {g : α → β} (hf : ∀ a b, f a = f b → a = b) (k : κ) : ∀ l : List (κ × α), lkD (l.map fun t => (f t.1, g t.2)) (f k) = (lkD l k).map g
  | [] => rfl
  | p :: r => by
    simp only [List.map_cons, lkD]
    by_cases h : p.1 = k
    · simp [h]
    · have : ¬ f p.1 = f k := fun z => h (hf _ _ z)
      rw [if_neg h, if_neg this, lkD_map hf k r]
theorem putD_map {f : κ → κ'} {g : α → β} (hf : ∀ a b, f a = f b → a = b) (k : κ) (v : α) : ∀ l : List (κ × α), putD (l.map fun t => (f t.1, g t.2)) (f k) (g v) = (putD l k v).map fun t => (f t.1, g t.2)
  | [] => rfl
  | p :: r => by
    simp only [List.map_cons, putD]
    by_cases h : p.1 = k
    · subst h
      simp only [if_true, List.map_cons, List.map_map, List.cons.injEq, true_and]
      refine List.map_congr_left fun t _ => ?_
      simp only [Function.comp]
      by_cases h2 : t.1 = p.1
      · simp [h2]
      · have : ¬ f t.1 = f p.1 := fun z => h2 (hf _ _ z)
        simp [h2, this]
    · have : ¬ f p.1 = f k := fun z => h (hf _ _ z)
      rw [if_neg h, if_neg this, putD_map hf k v r]
      rfl
theorem putD_new {k : κ} {v : α} : ∀ {l : List (κ × α)}, k ∉ l.map (·.1) → putD l k v = l ++ [(k, v)]
  | [], _ => rfl
  | p :: r, h => by
    simp only [List.map_cons, List.mem_cons, not_or] at h
    simp only [putD, if_neg (fun z => h.1 z.symm : ¬ p.1 = k), putD_new h.2, List.cons_append]
theorem putD_ks {k : κ} {v : α} : ∀ {l : List (κ × α)}, k ∈ l.map (·.1) → (putD l k v).map (·.1) = l.map (·.1)
  | p :: r, h => by
    simp only [putD]
    by_cases h1 : p.1 = k
    · rw [if_pos h1]
      simp only [List.map_cons, List.map_map, List.cons.injEq, true_and]
      refine List.map_congr_left fun t _ => ?_
      simp only [Function.comp]
      split <;> rename_i h2 <;> simp [h2]
    · rw [if_neg h1]
      simp only [List.map_cons, List.mem_cons] at h
      rcases h with h | h
      · exact absurd h.symm h1
      · simp only [List.map_cons, putD_ks h]
theorem lkD_none {k : κ} : ∀ {l : List (κ × α)}, k ∉ l.map (·.1) → lkD l k = none
  | [], _ => rfl
  | p :: r, h => by
    simp only [List.map_cons, List.mem_cons, not_or] at h
    simp only [lkD, if_neg (fun z => h.1 z.symm : ¬ p.1 = k), lkD_none h.2]
theorem lkD_some {k : κ} {v : α} : ∀ {l : List (κ × α)}, (l.map (·.1)).Nodup → (k, v) ∈ l → lkD l k = some v
  | p :: r, h, hm => by
    simp only [List.map_cons, List.nodup_cons] at h
    simp only [lkD]
    rcases List.mem_cons.mp hm with e | e
    · subst e; simp
    · have : ¬ p.1 = k := fun z => h.1 (by rw [z]; exact List.mem_map.mpr ⟨_, e, rfl⟩)
      rw [if_neg this, lkD_some h.2 e]
theorem lkD_mem {k : κ} {v : α} : ∀ {l : List (κ × α)}, lkD l k = some v → (k, v) ∈ l
  | p :: r, h => by
    simp only [lkD] at h
    by_cases e : p.1 = k
    · rw [if_pos e] at h
      cases h
      subst e
      exact List.mem_cons_self
    · rw [if_neg e] at h
      exact List.mem_cons_of_mem _ (lkD_mem h)
theorem zip_unz : ∀ l : List (κ × α), (l.map (·.1)).zip (l.map (·.2)) = l
  | [] => rfl
  | p :: r => by simp only [List.map_cons, List.zip_cons_cons, zip_unz r]
end
theorem rat_a (t r m e : Rat) : (t + r) * m + e = t * m + e + r * m := by grind
/-- a put of a sum -/
theorem evT_put {m : List Int → Rat} {k : List Int} {r : Rat} : ∀ {l : TL}, (keysT l).Nodup → evT m (putD l k ((lkD l k).getD 0 + r)) = evT m l + r * m k
  | [], _ => by simp only [putD, lkD, evT, Option.getD]; grind
  | t :: l, h => by
    have hn : (keysT l).Nodup ∧ t.1 ∉ keysT l := by
      simp only [keysT, List.map_cons, List.nodup_cons] at h
      exact ⟨h.2, h.1⟩
    simp only [putD, lkD]
    by_cases e : t.1 = k
    · subst e
      have : (l.map fun kv => if kv.1 = t.1 then (kv.1, (some t.2).getD 0 + r) else kv) = l := by
        conv => rhs; rw [← List.map_id l]
        refine List.map_congr_left fun u hu => ?_
        have : ¬ u.1 = t.1 := fun z => hn.2 (by rw [← z]; exact List.mem_map.mpr ⟨_, hu, rfl⟩)
        simp [this]
      simp only [if_true, evT, Option.getD]
      have this : (l.map fun kv => if kv.1 = t.1 then (kv.1, t.2 + r) else kv) = l := this
      rw [this]
      exact rat_a _ _ _ _
    · simp only [if_neg e, evT]
      rw [evT_put hn.1]
      grind
theorem nodup_put {k : List Int} {v : Rat} {l : TL} (h : (keysT l).Nodup) : (keysT (putD l k v)).Nodup := by
  unfold keysT at *
  by_cases hk : k ∈ l.map (·.1)
  · rw [putD_ks hk]; exact h
  · rw [putD_new hk, List.map_append, List.nodup_append]
    refine ⟨h, by simp, ?_⟩
    intro a ha b hb e
    simp only [List.map_cons, List.map_nil, List.mem_singleton] at hb
    subst hb; subst e
    exact hk ha
theorem evT_filter {m : List Int → Rat} {p : List Int × Rat → Bool} : ∀ {l : TL}, (∀ t ∈ l, p t = false → t.2 = 0) → evT m (l.filter p) = evT m l
  | [], _ => rfl
  | t :: l, h => by
    have ih := evT_filter (m := m) (p := p) (l := l) fun u hu => h u (List.mem_cons_of_mem _ hu)
    cases e : p t with
    | true => rw [List.filter_cons_of_pos e]; simp only [evT, ih]
    | false =>
      rw [List.filter_cons_of_neg (by simp [e])]
      simp only [evT, ih, h t List.mem_cons_self e]
      grind
/-- the sum of what stands at a key -/
theorem evT_ind_sum {e : List Int} {D B : Nat} (h0 : 0 < D) : ∀ {l : TL}, (∀ t ∈ l, Ft D B t.2) → Ft D (l.length * B) (evT (ind e) l)
  | [], _ => Ft.zero
  | t :: l, h => by
    have ih := evT_ind_sum (e := e) h0 fun u hu => h u (List.mem_cons_of_mem _ hu)
    have h1 : Ft D B (t.2 * ind e t.1) := by
      unfold ind
      split
      · rw [Rat.mul_one]; exact h t List.mem_cons_self
      · rw [Rat.mul_zero]; exact Ft.zero
    have := h1.add h0 ih
    rw [List.length_cons, Nat.succ_mul, Nat.add_comm]
    exact this
theorem NZ.keys_sub {l l' : TL} (h : NZ l) (s : Same l l') {e : List Int} (he : e ∈ keysT l) : e ∈ keysT l' := by
  obtain ⟨t, ht, rfl⟩ := List.mem_map.mp he
  refine Classical.byContradiction fun hn => ?_
  have h1 := evT_ind (e := t.1) (q := t.2) h.nd ht
  rw [s, evT_ind_none hn] at h1
  exact h.nz t ht h1.symm
theorem NZ.len {l l' : TL} (h : NZ l) (s : Same l l') : l.length ≤ l'.length := by
  have := List.Nodup.length_le_of_subset h.nd fun e he => h.keys_sub s he
  simpa [keysT] using this
theorem NZ.ft {l l' : TL} {D B : Nat} (h0 : 0 < D) (h : NZ l) (s : Same l l') (hf : ∀ t ∈ l', Ft D B t.2) : ∀ t ∈ l, Ft D (l'.length * B) t.2 := fun t ht => by
  have h1 := evT_ind (e := t.1) (q := t.2) h.nd ht
  rw [← h1, s]
  exact evT_ind_sum h0 hf
end DL

end Pb
section Pc
set_option Elab.async false
set_option linter.all false
set_option maxRecDepth 100000
set_option maxHeartbeats 4000000
set_option exponentiation.threshold 100000
/-! Pc: terms as data; what the defs about polynomials promise. -/
namespace DL
open PySem
variable [TabEnv]
open L2 (Key)
def Ar.rd : Ar → D
  | .val d => d
  | .bor o => o.toD
def termD (t : List Int × Rat) : D := .tup [tupI t.1, ratD t.2]
/-- a term as it may be passed -/
inductive PassT : D → List Int × Rat → Prop
  | mk {e : List Int} {d : D} {r : Rat} (h : Pass d r) : PassT (.tup [tupI e, d]) (e, r)
/-- a row of what may be passed -/
inductive Rows2 {α β : Type} (P : α → β → Prop) : List α → List β → Prop
  | nil : Rows2 P [] []
  | cons {a b as bs} : P a b → Rows2 P as bs → Rows2 P (a :: as) (b :: bs)
theorem Rows2.len {α β : Type} {P : α → β → Prop} {as : List α} {bs : List β} (h : Rows2 P as bs) : as.length = bs.length := by
  induction h with
  | nil => rfl
  | cons _ _ ih => simp [ih]
def dtT (l : TL) : List (List Key × D) := l.map fun t => (t.1.map Sum.inl, ratD t.2)
def dtD (l : TL) : D := (Ob.dt (dtT l)).toD
theorem inl_inj : ∀ a b : List Int, (a.map Sum.inl : List Key) = b.map Sum.inl → a = b := fun a b h => by
  have := congrArg (List.map fun k : Key => match k with | .inl i => i | .inr _ => 0) h
  simpa [Function.comp_def] using this
theorem keys_int : ∀ ns : List Int, D.keys (ns.map .int) = some (ns.map Sum.inl)
  | [] => rfl
  | n :: ns => by simp only [List.map_cons, D.keys, D.key, keys_int ns]
theorem lk_dt (l : TL) (k : List Int) : lkD (dtT l) (k.map Sum.inl) = (lkD l k).map ratD := lkD_map inl_inj k l
theorem put_dt (l : TL) (k : List Int) (r : Rat) : putD (dtT l) (k.map Sum.inl) (ratD r) = dtT (putD l k r) := putD_map inl_inj k r l
/-- looking up in a dict of terms -/
theorem dget_dt {l : TL} {k : List Int} {q : Option D → Prop} (h : q ((lkD l k).map ratD)) : dget (Ob.dt (dtT l)).toD (tupI k) q := by
  refine ⟨_, keys_int k, ?_⟩
  rw [zip_unz, lk_dt]
  exact h
def slF : Sl → Prop
  | .un => True
  | .val _ => True
  | _ => False
theorem bnd_f {i : Nat} {d : D} {e : Ev} {s : Sl} {k : Ev → Prop} (h : e[i]? = some s) (hs : slF s) (q : k (e.set i (.val d))) : bnd i (.val d) e k := by
  unfold bnd
  rw [h]
  cases s <;> first | exact hs.elim | exact q
theorem pl_f {s : Sl} (h : slF s) : s.plain = true := by
  cases s <;> first | exact h.elim | rfl
structure Canon (l : TL) : Prop where
  z : NZ l
  s : (keysT l).Pairwise fun a b => ltI b a = false
def Fits (D B : Nat) (l : TL) : Prop := ∀ t ∈ l, Ft D B t.2
theorem kit_tl {K : PySem.W.Frag} : ∀ n ∈ tys, PySem.W.kitAny K (.type n) [.type "tuple", .type "list"] = some (n == "tuple" || n == "list") := fun n m => by
  refine L2.kitAny_cons (L2.kit_ty (kit_tuple n m)) (fun e => ?_) (fun e => by rw [e]; rfl)
  rw [e, Bool.false_or]
  exact L2.kitAny_cons (L2.kit_ty (kit_list n m)) (fun e2 => by rw [e2]; exact L2.kitAny_nil) (fun e2 => e2)
/-! what the defs promise -/
def spPowered : DSp := fun args q _ => ∃ (r : Rat) (n : Nat), args = [.val (ratD r), .val (.int n)] ∧ n ≤ 1000 ∧ Sm r ∧ r.den ^ n < 2 ^ 9000 ∧ q (.val (ratD (r ^ n))) args
def spExps : DSp := fun args q _ => ∃ (e : List Int), args = [.val (tupI e), .val (.int e.length)] ∧ (∀ i ∈ e, 0 ≤ i) ∧ q (.val (.bl true)) args
def spIsTerm : DSp := fun args q _ => ∃ (d : D) (t : List Int × Rat), args = [.val d, .val (.int t.1.length)] ∧ PassT d t ∧ (∀ i ∈ t.1, 0 ≤ i) ∧ q (.val (.bl true)) args
def spToldPoint : DSp := fun args q _ => ∃ (ds : List D) (rs : List Rat) (d : D), args = [.val d, .val (.int rs.length)] ∧ (d = .lst ds ∨ d = .tup ds) ∧ Rows2 Pass ds rs ∧ rs.length < 100 ∧ q (.own (.lst (rs.map ratD))) args
def spMerged : DSp := fun args q _ => ∃ (a : Ar) (l : TL) (D B : Nat), args = [a] ∧ (a.rd = .lst (l.map termD) ∨ a.rd = .tup (l.map termD)) ∧ 0 < D ∧ Fits D B l ∧ l.length * B * D < 2 ^ 4000 ∧ D < 2 ^ 4000 ∧ l.length ≤ 100000 ∧ ((∃ t ∈ l, t.1 = []) → ∀ t ∈ l, t.1 = []) ∧ ∀ m, Canon m → Same m l → q (.val (.tup (m.map termD))) [.val a.rd]
end DL
namespace DL
open PySem
variable [TabEnv]
open L2 (Key)
/-- the terms at some keys, none with 0 -/
def sel (acc : TL) (ks : List (List Int)) : TL := (ks.map fun k => (k, (lkD acc k).getD 0)).filter fun t => decide (t.2 ≠ 0)
theorem sel_snoc (acc : TL) (k1 : List (List Int)) (k : List Int) : sel acc (k1 ++ [k]) = sel acc k1 ++ if (lkD acc k).getD 0 ≠ 0 then [(k, (lkD acc k).getD 0)] else [] := by
  unfold sel
  rw [List.map_append, List.filter_append]
  congr 1
  by_cases h : (lkD acc k).getD 0 = 0 <;> simp [h]
theorem sel_keys (acc : TL) (ks : List (List Int)) : (keysT (sel acc ks)).Sublist ks := by
  unfold keysT sel
  have h := (List.filter_sublist (l := ks.map fun k => (k, (lkD acc k).getD 0)) (p := fun t => decide (t.2 ≠ 0))).map (·.1)
  rw [List.map_map, show ((fun x : List Int × Rat => x.1) ∘ fun k => (k, (lkD acc k).getD 0)) = id from rfl, List.map_id] at h
  exact h
theorem evT_look {m : List Int → Rat} {acc : TL} (h : (keysT acc).Nodup) : evT m (acc.map fun t => (t.1, (lkD acc t.1).getD 0)) = evT m acc := by
  have : (acc.map fun t => (t.1, (lkD acc t.1).getD 0)) = acc := by
    conv => rhs; rw [← List.map_id acc]
    refine List.map_congr_left fun t ht => ?_
    rw [lkD_some (v := t.2) h ht]
    rfl
  rw [this]
theorem sel_same {acc : TL} {ks : List (List Int)} (h : (keysT acc).Nodup) (p : ks.Perm (keysT acc)) : Same (sel acc ks) acc := fun m => by
  unfold sel
  rw [evT_filter (fun t _ e => by simpa using e), evT_perm (p.map _)]
  unfold keysT
  rw [List.map_map]
  exact evT_look h
theorem sel_nz {acc : TL} {ks : List (List Int)} (h : ks.Nodup) : NZ (sel acc ks) := by
  refine ⟨h.sublist (sel_keys acc ks), fun t ht => ?_⟩
  unfold sel at ht
  simpa using (List.mem_filter.mp ht).2
theorem sel_canon {acc : TL} {ks : List (List Int)} (h : (keysT acc).Nodup) (p : ks.Perm (keysT acc)) (s : ks.Pairwise fun a b => ltI b a = false) : Canon (sel acc ks) :=
  ⟨sel_nz (p.symm.nodup h), s.sublist (sel_keys acc ks)⟩
theorem lk_key {acc : TL} {k : List Int} (h : k ∈ keysT acc) : ∃ v, lkD acc k = some v := by
  cases e : lkD acc k with
  | some v => exact ⟨v, rfl⟩
  | none =>
    obtain ⟨t, ht, rfl⟩ := List.mem_map.mp h
    have : ∀ {l : TL}, t ∈ l → lkD l t.1 ≠ none := fun {l} hl => by
      induction l with
      | nil => cases hl
      | cons u l ih =>
        simp only [lkD]
        by_cases hu : u.1 = t.1
        · simp [hu]
        · rw [if_neg hu]
          rcases List.mem_cons.mp hl with z | z
          · subst z; exact absurd rfl hu
          · exact ih z
    exact absurd e (this ht)
/-- what is gathered so far fits -/
theorem acc_ft {acc l1 : TL} {D B : Nat} (h0 : 0 < D) (h : (keysT acc).Nodup) (s : Same acc l1) (hf : Fits D B l1) {k : List Int} {v : Rat} (e : lkD acc k = some v) : Ft D (l1.length * B) v := by
  have h1 := evT_ind h (lkD_mem e)
  rw [← h1, s]
  exact evT_ind_sum h0 hf
theorem put_same {acc l1 : TL} {k : List Int} {r v : Rat} (h : (keysT acc).Nodup) (s : Same acc l1) (e : v = (lkD acc k).getD 0 + r) : Same (putD acc k v) (l1 ++ [(k, r)]) := fun m => by
  rw [e, evT_put h, evT_app, s]
  simp only [evT]
  rw [Rat.add_zero]
theorem put_sub {acc l1 : TL} {k : List Int} {r v : Rat} (h : ∀ x ∈ keysT acc, x ∈ keysT l1) : ∀ x ∈ keysT (putD acc k v), x ∈ keysT (l1 ++ [(k, r)]) := fun x hx => by
  have ha : keysT (l1 ++ [(k, r)]) = keysT l1 ++ [k] := by simp [keysT]
  rw [ha, List.mem_append]
  unfold keysT at hx
  by_cases hk : k ∈ acc.map (·.1)
  · rw [putD_ks hk] at hx
    exact .inl (h x hx)
  · rw [putD_new hk, List.map_append, List.mem_append] at hx
    rcases hx with hx | hx
    · exact .inl (h x hx)
    · exact .inr (by simpa using hx)
theorem dt_keys (l : TL) : (dtT l).map (·.1) = (keysT l).map (List.map Sum.inl) := by simp [dtT, keysT, Function.comp_def]
theorem one_key {acc l : TL} (h : (keysT acc).Nodup) (hs : ∀ x ∈ keysT acc, x ∈ keysT l) (he : (∃ t ∈ l, t.1 = []) → ∀ t ∈ l, t.1 = []) : 2 ≤ (keysT acc).length → ∀ ns ∈ keysT acc, ns ≠ [] := fun h2 ns hn e => by
  subst e
  obtain ⟨t, ht, te⟩ := List.mem_map.mp (hs _ hn)
  have all := he ⟨t, ht, te⟩
  have hall : ∀ x ∈ keysT acc, x = [] := fun x hx => by
    obtain ⟨u, hu, ue⟩ := List.mem_map.mp (hs _ hx)
    rw [← ue]
    exact all u hu
  match hk : keysT acc, h2, h, hall with
  | a :: b :: r, _, h, hall =>
    have ea := hall a List.mem_cons_self
    have eb := hall b (List.mem_cons_of_mem _ List.mem_cons_self)
    subst ea; subst eb
    simp at h
end DL
namespace DL
open PySem
variable [TabEnv]
open L2 (Key)
theorem ar_cases {a : Ar} {ds : List D} (h : a.rd = .lst ds ∨ a.rd = .tup ds) : (a = .val (.lst ds) ∨ a = .val (.tup ds)) ∨ a = .bor (.lst ds) := by
  cases a with
  | bor o =>
    cases o <;> simp [Ar.rd, Ob.toD] at h
    subst h
    exact .inr rfl
  | val d =>
    simp only [Ar.rd] at h
    rcases h with rfl | rfl
    · exact .inl (.inl rfl)
    · exact .inl (.inr rfl)
def polyO (C : Addr) (n : Nat) (m : TL) : Ob := .ins C [("size", .int n), ("terms", .tup (m.map termD))]
/-- the exponents are in order -/
def Exps (n : Nat) (l : TL) : Prop := ∀ t ∈ l, t.1.length = n ∧ ∀ i ∈ t.1, 0 ≤ i
/-- terms that may be gathered -/
structure Fine (D B : Nat) (l : TL) : Prop where
  d0 : 0 < D
  f : Fits D B l
  s1 : l.length * B * D < 2 ^ 4000
  s2 : D < 2 ^ 4000
  len : l.length ≤ 100000
def spInit (C : Addr) : DSp := fun args q _ => ∃ (a : Ar) (ds : List D) (l : TL) (n D B : Nat), args = [.bor (.ins C []), .val (.int n), a] ∧ (a.rd = .lst ds ∨ a.rd = .tup ds) ∧ Rows2 PassT ds l ∧ Exps n l ∧ Fine D B l ∧
  ∀ m, Canon m → Same m l → q (.val .non) [.bor (polyO C n m), .val (.int n), .val a.rd]
theorem Exps.none {n : Nat} {l : TL} (h : Exps n l) : (∃ t ∈ l, t.1 = []) → ∀ t ∈ l, t.1 = [] := fun ⟨t, ht, e⟩ u hu => by
  have h1 := (h t ht).1
  have h2 := (h u hu).1
  rw [e] at h1
  exact List.eq_nil_of_length_eq_zero (by rw [h2, ← h1]; rfl)
end DL
namespace DL
open PySem
variable [TabEnv]
open L2 (Key)
theorem ltI_anti : ∀ {a b : List Int}, ltI a b = false → ltI b a = false → a = b
  | [], [], _, _ => rfl
  | [], _ :: _, h, _ => by cases h
  | _ :: _, [], _, h => by cases h
  | x :: r, y :: t, h1, h2 => by
    simp only [ltI, Bool.or_eq_false_iff, Bool.and_eq_false_iff, decide_eq_false_iff_not, Bool.not_eq_false', decide_eq_true_eq] at h1 h2
    have e : x = y := by omega
    subst e
    rw [ltI_anti (a := r) (b := t) (h1.2.resolve_left (by omega)) (h2.2.resolve_left (by omega))]
theorem Canon.eq {a b : TL} (ha : Canon a) (hb : Canon b) (s : Same a b) : a = b := by
  have p := ha.z.perm hb.z s
  refine List.Perm.eq_of_pairwise (le := fun u v : List Int × Rat => ltI v.1 u.1 = false) ?_ (List.pairwise_map.mp ha.s) (List.pairwise_map.mp hb.s) p
  intro u v hu hv h1 h2
  have e : u.1 = v.1 := ltI_anti h2 h1
  obtain ⟨k, r⟩ := u
  obtain ⟨k2, r2⟩ := v
  have e : k = k2 := e
  subst e
  have h3 := evT_ind ha.z.nd hu
  have h4 := evT_ind ha.z.nd (p.symm.subset hv)
  rw [← h3, ← h4]
theorem pass_ratD {r : Rat} (h : r.den < 2 ^ 9000) : Pass (ratD r) r := by
  have := Pass.pair r.num r.den (by have := r.den_pos; omega) h
  rwa [Rat.num_divInt_den] at this
theorem rows_terms : ∀ {l : TL}, (∀ t ∈ l, t.2.den < 2 ^ 9000) → Rows2 PassT (l.map termD) l
  | [], _ => .nil
  | t :: l, h => .cons (.mk (pass_ratD (h t List.mem_cons_self))) (rows_terms fun u hu => h u (List.mem_cons_of_mem _ hu))
theorem Fine.den {D B : Nat} {l : TL} (h : Fine D B l) : ∀ t ∈ l, t.2.den < 2 ^ 9000 := fun t ht => by
  have h1 := (h.f t ht).num h.d0
  exact Nat.lt_of_le_of_lt h1.2 (Nat.lt_trans h.s2 (Nat.pow_lt_pow_right (by decide) (by decide)))
def negT (l : TL) : TL := l.map fun t => (t.1, -t.2)
theorem keys_neg (l : TL) : keysT (negT l) = keysT l := by simp [keysT, negT, Function.comp_def]
theorem Canon.neg {l : TL} (h : Canon l) : Canon (negT l) := by
  refine ⟨⟨by rw [keys_neg]; exact h.z.nd, fun t ht => ?_⟩, by rw [keys_neg]; exact h.s⟩
  obtain ⟨u, hu, rfl⟩ := List.mem_map.mp ht
  have := h.z.nz u hu
  exact fun e => this (by have e : -u.2 = 0 := e; grind)
theorem fits_neg {D B : Nat} {l : TL} (h : Fits D B l) : Fits D B (negT l) := fun t ht => by
  obtain ⟨u, hu, rfl⟩ := List.mem_map.mp ht
  exact (h u hu).neg
theorem fits_app {D B : Nat} {a b : TL} : Fits D B (a ++ b) ↔ Fits D B a ∧ Fits D B b :=
  ⟨fun h => ⟨fun t ht => h t (List.mem_append_left _ ht), fun t ht => h t (List.mem_append_right _ ht)⟩, fun h t ht => (List.mem_append.mp ht).elim (h.1 t) (h.2 t)⟩
theorem Exps.neg {n : Nat} {l : TL} (h : Exps n l) : Exps n (negT l) := fun t ht => by
  obtain ⟨u, hu, rfl⟩ := List.mem_map.mp ht
  exact h u hu
theorem Exps.app {n : Nat} {a b : TL} (ha : Exps n a) (hb : Exps n b) : Exps n (a ++ b) := fun t ht => (List.mem_append.mp ht).elim (ha t) (hb t)
theorem Fine.neg {D B : Nat} {l : TL} (h : Fine D B l) : Fine D B (negT l) := ⟨h.d0, fits_neg h.f, by simpa [negT] using h.s1, h.s2, by simpa [negT] using h.len⟩
theorem Fine.negR {D B : Nat} {a b : TL} (h : Fine D B (a ++ b)) : Fine D B (a ++ negT b) := ⟨h.d0, fits_app.mpr ⟨(fits_app.mp h.f).1, fits_neg (fits_app.mp h.f).2⟩, by simpa [negT] using h.s1, h.s2, by simpa [negT] using h.len⟩
theorem Fine.right {D B : Nat} {a b : TL} (h : Fine D B (a ++ b)) : Fine D B b := ⟨h.d0, (fits_app.mp h.f).2, Nat.lt_of_le_of_lt (Nat.mul_le_mul_right D (Nat.mul_le_mul_right B (by simp))) h.s1, h.s2, by have := h.len; simp at this; omega⟩
def polyD (C : Addr) (n : Nat) (l : TL) : D := (polyO C n l).toD
theorem ar_ins {a : Ar} {C : Addr} {n : Nat} {l : TL} (h : a.rd = polyD C n l) : a = .val (polyD C n l) ∨ a = .bor (polyO C n l) := by
  cases a with
  | val d => exact .inl (congrArg _ h)
  | bor o =>
    refine .inr (congrArg _ ?_)
    cases o <;> simp [Ar.rd, Ob.toD, polyD, polyO] at h
    rename_i C2 fs
    obtain ⟨rfl, h1, h2⟩ := h
    match fs, h1, h2 with
    | [(f1, v1), (f2, v2)], h1, h2 =>
      simp at h1 h2
      obtain ⟨rfl, rfl⟩ := h1
      obtain ⟨rfl, rfl⟩ := h2
      rfl
def spAdd (C : Addr) : DSp := fun args q _ => ∃ (a b : Ar) (n D B : Nat) (l1 l2 : TL), args = [a, b] ∧ a.rd = polyD C n l1 ∧ b.rd = polyD C n l2 ∧ Exps n l1 ∧ Exps n l2 ∧ Fine D B (l1 ++ l2) ∧
  ∀ m, Canon m → Same m (l1 ++ l2) → q (.own (polyO C n m)) [.val a.rd, .val b.rd]
def spNeg (C : Addr) : DSp := fun args q _ => ∃ (a : Ar) (n D B : Nat) (l : TL), args = [a] ∧ a.rd = polyD C n l ∧ Canon l ∧ Exps n l ∧ Fine D B l ∧ q (.own (polyO C n (negT l))) [.val a.rd]
def spSub (C : Addr) : DSp := fun args q _ => ∃ (a b : Ar) (n D B : Nat) (l1 l2 : TL), args = [a, b] ∧ a.rd = polyD C n l1 ∧ b.rd = polyD C n l2 ∧ Canon l2 ∧ Exps n l1 ∧ Exps n l2 ∧ Fine D B (l1 ++ l2) ∧
  ∀ m, Canon m → Same m (l1 ++ negT l2) → q (.own (polyO C n m)) [.val a.rd, .val b.rd]
end DL
namespace DL
open PySem
variable [TabEnv]
open L2 (Key)
def mulRow (s : List Int × Rat) (l : TL) : TL := l.map fun t => (List.zipWith (· + ·) s.1 t.1, s.2 * t.2)
def mulT : TL → TL → TL
  | [], _ => []
  | s :: l, l2 => mulRow s l2 ++ mulT l l2
theorem mulT_app (a b c : TL) : mulT (a ++ b) c = mulT a c ++ mulT b c := by
  induction a with
  | nil => rfl
  | cons s a ih => simp only [List.cons_append, mulT, ih, List.append_assoc]
theorem mulRow_app (s : List Int × Rat) (a b : TL) : mulRow s (a ++ b) = mulRow s a ++ mulRow s b := by simp [mulRow]
theorem mulT_len (a b : TL) : (mulT a b).length = a.length * b.length := by
  induction a with
  | nil => simp [mulT]
  | cons s a ih => simp [mulT, mulRow, ih, Nat.succ_mul, Nat.add_comm]
theorem zw_len {n : Nat} {a b : List Int} (ha : a.length = n) (hb : b.length = n) : (List.zipWith (· + ·) a b).length = n := by simp [ha, hb]
theorem zw_pos : ∀ {a b : List Int}, (∀ i ∈ a, 0 ≤ i) → (∀ i ∈ b, 0 ≤ i) → ∀ i ∈ List.zipWith (· + ·) a b, 0 ≤ i
  | [], _, _, _, i, h => by simp at h
  | _ :: _, [], _, _, i, h => by simp at h
  | x :: a, y :: b, ha, hb, i, h => by
    simp only [List.zipWith_cons_cons, List.mem_cons] at h
    rcases h with rfl | h
    · have := ha x List.mem_cons_self
      have := hb y List.mem_cons_self
      omega
    · exact zw_pos (fun j hj => ha j (List.mem_cons_of_mem _ hj)) (fun j hj => hb j (List.mem_cons_of_mem _ hj)) i h
theorem Exps.mul {n : Nat} {a b : TL} (ha : Exps n a) (hb : Exps n b) : Exps n (mulT a b) := by
  induction a with
  | nil => exact fun t ht => nomatch ht
  | cons s a ih =>
    refine Exps.app (fun t ht => ?_) (ih fun t ht => ha t (List.mem_cons_of_mem _ ht))
    obtain ⟨u, hu, rfl⟩ := List.mem_map.mp ht
    obtain ⟨p1, p2⟩ := ha s List.mem_cons_self
    obtain ⟨r1, r2⟩ := hb u hu
    exact ⟨zw_len p1 r1, zw_pos p2 r2⟩
theorem fits_mul {D B D' B' : Nat} {a b : TL} (ha : Fits D B a) (hb : Fits D' B' b) : Fits (D * D') (B * B') (mulT a b) := by
  induction a with
  | nil => exact fun t ht => nomatch ht
  | cons s a ih =>
    refine fits_app.mpr ⟨fun t ht => ?_, ih fun t ht => ha t (List.mem_cons_of_mem _ ht)⟩
    obtain ⟨u, hu, rfl⟩ := List.mem_map.mp ht
    exact (ha s List.mem_cons_self).mul (hb u hu)
def spMul (C : Addr) : DSp := fun args q _ => ∃ (a b : Ar) (n D B : Nat) (l1 l2 : TL), args = [a, b] ∧ a.rd = polyD C n l1 ∧ b.rd = polyD C n l2 ∧ Exps n l1 ∧ Exps n l2 ∧ n ≤ 100 ∧ (∀ t ∈ l1, Sm t.2) ∧ (∀ t ∈ l2, Sm t.2) ∧ Fine D B (mulT l1 l2) ∧
  ∀ m b', Canon m → Same m (mulT l1 l2) → (b' = .val b.rd ∨ b' = b) → q (.own (polyO C n m)) [.val a.rd, b']
end DL
namespace DL
open PySem
variable [TabEnv]
open L2 (Key)
theorem zipD_int : ∀ a b : List Int, zipD (a.map .int) (b.map .int) = (a.zip b).map fun p => .tup [.int p.1, .int p.2]
  | [], _ => by simp [zipD]
  | _ :: _, [] => by simp [zipD]
  | x :: a, y :: b => by
    have := zipD_int a b
    simp only [zipD, List.map_cons, List.zipWith_cons_cons, List.zip_cons_cons] at this ⊢
    rw [this]
theorem zip_sum (a b : List Int) : (a.zip b).map (fun p => (D.int (p.1 + p.2))) = (List.zipWith (· + ·) a b).map .int := by
  rw [List.zip_eq_zipWith, List.map_zipWith, List.map_zipWith]
end DL

end Pc
section Pd
set_option Elab.async false
set_option linter.all false
set_option maxRecDepth 100000
set_option maxHeartbeats 4000000
set_option exponentiation.threshold 100000
/-! Pd: the pen of the laws. -/
namespace DL
open PySem
variable [TabEnv]
open L2 (Key)
/-- a pen from which k more numbers may be drawn -/
def PenOk (k : Nat) (o : Ob) : Prop := ∃ (cs : List Int) (at_ dg ct fo : Int), o = .dk [(.inr "cells", .lst (cs.map .int)), (.inr "at", .int at_), (.inr "digits", .int dg), (.inr "count", .int ct), (.inr "fold", .int fo)] ∧
  0 ≤ at_ ∧ 0 ≤ dg ∧ 0 ≤ ct ∧ ct + k ≤ 2 ^ 40 ∧ 0 ≤ fo ∧ fo < 2 ^ 31
theorem PenOk.less {k k' : Nat} {o : Ob} (h : PenOk k o) (l : k' ≤ k) : PenOk k' o := by
  obtain ⟨cs, a, d, c, f, e, h1, h2, h3, h4, h5, h6⟩ := h
  exact ⟨cs, a, d, c, f, e, h1, h2, h3, by omega, h5, h6⟩
def spPen : DSp := fun args q _ => ∃ (ns : List Int), args = [.val (.fix (ns.map .int))] ∧ ns.length ≤ 63 ∧ ∀ o, PenOk (2 ^ 40) o → q (.own o) args
def spDraw : DSp := fun args q _ => ∃ (o : Ob) (m : Int) (k : Nat), args = [.bor o, .val (.int m)] ∧ PenOk (k + 1) o ∧ 0 < m ∧ m < 2 ^ 60 ∧ ∀ o' r, PenOk k o' → 0 ≤ r → r < m → q (.val (.int r)) [.bor o', .val (.int m)]
end DL

end Pd
section Pe
set_option Elab.async false
set_option linter.all false
set_option maxRecDepth 100000
set_option maxHeartbeats 4000000
set_option exponentiation.threshold 100000
/-! Pe: what the laws' own defs promise. -/
namespace DL
open PySem
variable [TabEnv]
open L2 (Key)
theorem euSteps_le : ∀ (n a b : Nat), b < 2 ^ n → euSteps a b ≤ 2 * n + 1
  | 0, a, b, h => by
    have : b = 0 := by simpa using h
    subst this
    rw [euSteps_zero]
    omega
  | n + 1, a, b, h => by
    by_cases hb : b = 0
    · subst hb
      rw [euSteps_zero]
      omega
    rw [euSteps_pos hb]
    by_cases hr : a % b = 0
    · rw [hr, euSteps_zero]
      omega
    rw [euSteps_pos hr]
    have lt : a % b < b := Nat.mod_lt _ (by omega)
    have lt2 : b % (a % b) < a % b := Nat.mod_lt _ (by omega)
    have dm := Nat.div_add_mod b (a % b)
    have dp : 1 ≤ b / (a % b) := (Nat.one_le_div_iff (by omega)).mpr (by omega)
    have := Nat.mul_le_mul_left (a % b) dp
    rw [Nat.pow_succ] at h
    have := euSteps_le n (a % b) (b % (a % b)) (by omega)
    omega
/-- a loop over a range, by the next index -/
theorem forR_ind {gd : Ev → Prop} {g : WG} {b : WS} {P : Po} {lo : Int} {n : Nat} (I : Nat → Ev → Prop) (hg : ∀ i e, I i e → gd e) (hn : ∀ e, I n e → P.nx e)
    (hc : ∀ i e (k : Ev → Prop), i < n → I i e → (∀ e', I (i + 1) e' → k e') → g (.int (lo + i)) e fun e1 => b e1 { nx := k, rt := P.rt, ex := P.ex, bk := P.nx, ct := k }) {e : Ev} (h : I 0 e) : forD gd g b (rngL lo n) e P := by
  refine forD_ind (fun ds e => ∃ i, i ≤ n ∧ ds = (rngL lo n).drop i ∧ I i e) (fun _ _ ⟨i, _, _, z⟩ => hg i _ z) ?_ ?_ ⟨0, Nat.zero_le _, by simp, h⟩
  · rintro e ⟨i, hi, e1, z⟩
    have : n ≤ i := by
      have := congrArg List.length e1
      simp [rngL] at this
      omega
    obtain rfl : i = n := by omega
    exact hn e z
  · rintro d ds e k ⟨i, hi, e1, z⟩ hk
    have hl : i < n := by
      have := congrArg List.length e1
      simp [rngL] at this
      omega
    have hd : (rngL lo n).drop i = .int (lo + i) :: (rngL lo n).drop (i + 1) := by
      rw [List.drop_eq_getElem_cons (by simpa [rngL] using hl)]
      simp [rngL]
    rw [hd] at e1
    cases e1
    exact hc i e k hl z fun e' h' => hk e' ⟨i + 1, hl, rfl, h'⟩
theorem lcR_ind {gd : Ev → Prop} {g : WG} {t : WT} {w : WE} {vs : List Nat} {k : List D → Ev → Prop} {lo : Int} {n : Nat} (I : Nat → List D → Ev → Prop) (hg : ∀ i acc e, I i acc e → gd e) (hn : ∀ acc e, I n acc e → k acc e)
    (hc : ∀ i acc e (kk : List D → Ev → Prop), i < n → I i acc e → (∀ acc' e', I (i + 1) acc' e' → kk acc' e') → plE vs e ∧ g (.int (lo + i)) (unE vs e) fun e2 => t e2 (fun b e3 =>
      if b = true then w e3 (fun r e4 => dv r fun dd => acc.length < PySem.sizeLine ∧ kk (acc ++ [dd]) (reE vs e e4)) (fun _ _ => False)
      else kk acc (reE vs e e3)) (fun _ _ => False)) {e : Ev} (h : I 0 [] e) : lcD gd g t w vs (rngL lo n) [] e k := by
  refine lcD_ind (fun ds acc e => ∃ i, i ≤ n ∧ ds = (rngL lo n).drop i ∧ I i acc e) (fun _ _ _ ⟨i, _, _, z⟩ => hg i _ _ z) ?_ ?_ ⟨0, Nat.zero_le _, by simp, h⟩
  · rintro acc e ⟨i, hi, e1, z⟩
    have : n ≤ i := by
      have := congrArg List.length e1
      simp [rngL] at this
      omega
    obtain rfl : i = n := by omega
    exact hn acc e z
  · rintro d ds acc e k ⟨i, hi, e1, z⟩ hk
    have hl : i < n := by
      have := congrArg List.length e1
      simp [rngL] at this
      omega
    have hd : (rngL lo n).drop i = .int (lo + i) :: (rngL lo n).drop (i + 1) := by
      rw [List.drop_eq_getElem_cons (by simpa [rngL] using hl)]
      simp [rngL]
    rw [hd] at e1
    cases e1
    exact hc i acc e k hl z fun acc' e' h' => hk acc' e' ⟨i + 1, hl, rfl, h'⟩
/-! texts of numbers, cut -/
theorem dv_lt : ∀ (cs : List Nat) (a : Nat), (∀ c ∈ cs, 48 ≤ c ∧ c ≤ 57) → cs.foldl (fun acc c => acc * 10 + (c - 48)) a < (a + 1) * 10 ^ cs.length
  | [], a, _ => by simp
  | c :: cs, a, h => by
    have hc := h c List.mem_cons_self
    have ih := dv_lt cs (a * 10 + (c - 48)) fun d hd => h d (List.mem_cons_of_mem _ hd)
    rw [List.foldl_cons, List.length_cons, Nat.pow_succ]
    refine Nat.lt_of_lt_of_le ih ?_
    rw [show (a + 1) * (10 ^ cs.length * 10) = ((a + 1) * 10) * 10 ^ cs.length by rw [Nat.mul_assoc, Nat.mul_comm (10 ^ _) 10]]
    exact Nat.mul_le_mul_right _ (by omega)
theorem sIx_neg {n f : Nat} (hf : 1 ≤ f) : HT.sIx n 0 (some (-(f : Int))) = n - f := by
  show (if (-(f : Int)) < 0 then ((-(f : Int)) + (n : Int)).toNat else min (-(f : Int)).toNat n) = n - f
  rw [if_pos (by omega)]
  omega
/-- int of the last figures of a number's text -/
theorem cut_num {n : Nat} {f : Nat} (hn : n < 10 ^ 600) (hf : 1 ≤ f) (s : Str) (hs : s = Str.ofString (toString ((n : Nat) : Int))) : ∃ z : Nat, intText? (L2.cutS s (some (-(f : Int))) none) = some (z : Int) ∧ (L2.cutS s (some (-(f : Int))) none).length ≤ 640 ∧
    z < 10 ^ f ∧ s.length ≤ sizeLine := by
  have et : s.cps.toList = _root_.TL.numL n := by
    rw [hs]
    exact _root_.TL.tl_num n
  have el : s.length = (_root_.TL.numL n).length := by
    rw [← et]
    simp [Str.length]
  have l1 := _root_.TL.numL_len (k := 600) (by decide) hn
  have dg := _root_.TL.numL_digits n
  have ne := _root_.TL.numL_ne n
  have e : (L2.cutS s (some (-(f : Int))) none).cps.toList = (_root_.TL.numL n).drop ((_root_.TL.numL n).length - f) := by
    unfold L2.cutS
    rw [et, el, sIx_neg hf, HT.sIx_none]
    rw [List.take_of_length_le (by rw [List.length_drop]; exact Nat.le_refl _)]
  have ll : (L2.cutS s (some (-(f : Int))) none).length = ((_root_.TL.numL n).drop ((_root_.TL.numL n).length - f)).length := by
    rw [← e]
    simp [Str.length]
  have l0 : 0 < (_root_.TL.numL n).length := List.length_pos_iff.mpr ne
  rw [List.length_drop] at ll
  have dd : ∀ c ∈ (_root_.TL.numL n).drop ((_root_.TL.numL n).length - f), 48 ≤ c ∧ c ≤ 57 := fun c hc => dg c (List.mem_of_mem_drop hc)
  refine ⟨NumText.digitsVal ((_root_.TL.numL n).drop ((_root_.TL.numL n).length - f)), ?_, by omega, ?_, by rw [el]; exact Nat.le_trans l1 (by decide)⟩
  · rw [← e]
    refine intText_digits (by rw [e]; exact dd) (by rw [e]; intro z; have := congrArg List.length z; rw [List.length_drop] at this; simp at this; omega) (by omega)
  · have := dv_lt _ 0 dd
    unfold NumText.digitsVal
    refine Nat.lt_of_lt_of_le this ?_
    rw [Nat.zero_add, Nat.one_mul, List.length_drop]
    exact Nat.pow_le_pow_right (by decide) (by omega)
/-! promises -/
def spLGcd : DSp := fun args q _ => ∃ a b : Int, args = [.val (.int a), .val (.int b)] ∧ b.natAbs < 2 ^ 9000 ∧ q (.val (.int (Int.gcd a b))) args
def spLQ : DSp := fun args q _ => ∃ a b : Int, args = [.val (.int a), .val (.int b)] ∧ b ≠ 0 ∧ b.natAbs < 2 ^ 9000 ∧ q (.val (ratD (Rat.divInt a b))) args
def spPick : DSp := fun args q _ => ∃ (o : Ob) (a : Ar) (ds : List D) (k : Nat), args = [.bor o, a] ∧ a.rd = .lst ds ∧ PenOk (k + 1) o ∧ ds ≠ [] ∧ ds.length < 2 ^ 40 ∧ ∀ o' d, PenOk k o' → d ∈ ds → q (.val d) [.bor o', .val a.rd]
def spBig : DSp := fun args q _ => ∃ (o : Ob) (f k : Nat), args = [.bor o, .val (.int f)] ∧ PenOk (k + 8) o ∧ 1 ≤ f ∧ f ≤ 20 ∧ ∀ o' (z : Nat), PenOk k o' → z < 10 ^ f → q (.val (.int z)) [.bor o', .val (.int f)]
/-- a ratio as the laws draw it -/
def Rt (f : Nat) (r : Rat) : Prop := ∃ z b : Int, r = Rat.divInt z b ∧ 1 ≤ b ∧ b ≤ 97 ∧ z.natAbs < 10 ^ f
/-- what all bottoms to 97 divide -/
def LC : Nat := 69720375229712477164533808935312303556800
theorem lc_dvd : ∀ b : Nat, b < 98 → 0 < b → b ∣ LC := fun b h h0 => by
  have : ∀ b ∈ List.range 98, b = 0 ∨ LC % b = 0 := by decide +kernel
  rcases this b (List.mem_range.mpr h) with z | z
  · omega
  · exact Nat.dvd_of_mod_eq_zero z
theorem lc_pos : 0 < LC := by decide
theorem Rt.ftn {f : Nat} {r : Rat} (h : Rt f r) : ∃ b : Nat, 1 ≤ b ∧ b ≤ 97 ∧ Ft b (10 ^ f) r := by
  obtain ⟨z, b, rfl, h1, h2, h3⟩ := h
  refine ⟨b.toNat, by omega, by omega, z, by rw [Int.toNat_of_nonneg (by omega)], ?_⟩
  exact Nat.le_trans (Nat.le_of_lt h3) (Nat.le_mul_of_pos_right _ (by omega))
theorem Rt.ft {f : Nat} {r : Rat} (h : Rt f r) : Ft LC (10 ^ f) r := by
  obtain ⟨b, h1, h2, h3⟩ := h.ftn
  exact h3.mono lc_pos (lc_dvd b (by omega) (by omega)) (Nat.le_refl _)
theorem Rt.den {f : Nat} {r : Rat} (h : Rt f r) : r.den ≤ 97 ∧ Ft r.den (10 ^ f) r := by
  obtain ⟨b, h1, h2, h3⟩ := h.ftn
  have h4 := h3.num (by omega)
  refine ⟨by omega, r.num, (Rat.num_divInt_den r).symm, ?_⟩
  obtain ⟨z, e, hz⟩ := h3
  have hd := divInt_den_dvd z (show 0 < b by omega)
  rw [← e] at hd
  obtain ⟨k, hk⟩ := hd
  have k0 : 0 < k := Nat.pos_of_ne_zero fun e => by subst e; omega
  have ez : z = r.num * k := by
    have e2 : Rat.divInt z b = Rat.divInt r.num r.den := by rw [← e, Rat.num_divInt_den]
    have hb : (b : Int) ≠ 0 := by omega
    have hr : (r.den : Int) ≠ 0 := by have := r.den_pos; omega
    have e3 := (Rat.divInt_eq_divInt_iff hb hr).mp e2
    rw [hk, Int.natCast_mul] at e3
    have : (r.den : Int) * z = (r.den : Int) * (r.num * k) := by rw [Int.mul_comm, e3]; ac_rfl
    exact Int.eq_of_mul_eq_mul_left hr this
  rw [ez, Int.natAbs_mul, Int.natAbs_natCast, hk, ← Nat.mul_assoc] at hz
  exact Nat.le_of_mul_le_mul_right hz k0
theorem Rt.sm {f : Nat} {r : Rat} (h : Rt f r) (hf : f ≤ 20) : Sm r := by
  refine h.ft.sm lc_pos ?_ (by decide)
  exact Nat.lt_of_le_of_lt (Nat.mul_le_mul_right LC (Nat.pow_le_pow_right (by decide) hf)) (by decide)
def spRatio : DSp := fun args q _ => ∃ (o : Ob) (f k : Nat), args = [.bor o, .val (.int f)] ∧ PenOk (k + 16) o ∧ 1 ≤ f ∧ f ≤ 20 ∧ ∀ o' r, PenOk k o' → Rt f r → q (.val (ratD r)) [.bor o', .val (.int f)]
def spPassed : DSp := fun args q _ => ∃ (o : Ob) (r : Rat) (k : Nat), args = [.bor o, .val (ratD r)] ∧ PenOk (k + 2) o ∧ Sm r ∧ ∀ o' d, PenOk k o' → Pass d r → q (.val d) [.bor o', .val (ratD r)]
def spPower : DSp := fun args q _ => ∃ (r : Rat) (n : Nat), args = [.val (ratD r), .val (.int n)] ∧ n ≤ 1000 ∧ Sm r ∧ q (.val (ratD (r ^ n))) args
def spPoint : DSp := fun args q _ => ∃ (o : Ob) (n k : Nat), args = [.bor o, .val (.int n), .val (.str "any")] ∧ PenOk (k + n * 32) o ∧ n ≤ 100 ∧ ∀ o' (rs : List Rat), PenOk k o' → rs.length = n → (∀ r ∈ rs, Rt 2 r) → q (.own (.lst (rs.map ratD))) [.bor o', .val (.int n), .val (.str "any")]
def spShuffled : DSp := fun args q _ => ∃ (o : Ob) (a : Ar) (ds : List D) (k : Nat), args = [.bor o, a] ∧ a.rd = .lst ds ∧ ds.length ≤ 1000 ∧ PenOk (k + ds.length) o ∧ ∀ o' ds', PenOk k o' → ds'.Perm ds → q (.own (.lst ds')) [.bor o', .val a.rd]
def spJoined : DSp := fun args q _ => ∃ (a : Ar) (l : TL) (D B : Nat), args = [a] ∧ a.rd = .lst (l.map termD) ∧ Fine D B l ∧ ∀ m, NZ m → Same m l → q (.own (.dt (dtT m))) [.val a.rd]
def spAdded : DSp := fun args q _ => ∃ (a b : Ar) (l1 l2 : TL) (D B : Nat), args = [a, b] ∧ a.rd = dtD l1 ∧ b.rd = dtD l2 ∧ Fine D B (l1 ++ l2) ∧ ∀ m, NZ m → Same m (l1 ++ l2) → q (.own (.dt (dtT m))) [.val a.rd, .val b.rd]
def scT (r : Rat) (l : TL) : TL := l.map fun t => (t.1, t.2 * r)
def spScaled : DSp := fun args q _ => ∃ (a : Ar) (l : TL) (r : Rat) (D B : Nat), args = [a, .val (ratD r)] ∧ a.rd = dtD l ∧ NZ l ∧ (∀ t ∈ l, Sm t.2) ∧ Sm r ∧ Fine D B (scT r l) ∧ ∀ m, NZ m → Same m (scT r l) → q (.own (.dt (dtT m))) [.val a.rd, .val (ratD r)]
def spMultiplied : DSp := fun args q _ => ∃ (a b : Ar) (l1 l2 : TL) (n D B : Nat), args = [a, b] ∧ a.rd = dtD l1 ∧ b.rd = dtD l2 ∧ NZ l1 ∧ NZ l2 ∧ Exps n l1 ∧ Exps n l2 ∧ n ≤ 100 ∧ (∀ t ∈ l1, Sm t.2) ∧ (∀ t ∈ l2, Sm t.2) ∧ Fine D B (mulT l1 l2) ∧
  ∀ m b', NZ m → Same m (mulT l1 l2) → (b' = .val b.rd ∨ b' = b) → q (.own (.dt (dtT m))) [.val a.rd, b']
def spLTerms : DSp := fun args q _ => ∃ (a : Ar) (l : TL) (n : Nat), args = [a] ∧ a.rd = dtD l ∧ NZ l ∧ Exps n l ∧ l.length ≤ 100000 ∧ ∀ c, Canon c → Same c l → q (.val (.tup (c.map termD))) [.val a.rd]
/-! the value at a point -/
def mono : List Rat → List Int → Rat
  | r :: rs, e :: es => r ^ e.toNat * mono rs es
  | _, _ => 1
/-- a point's sizes: powers up to k -/
def ptD (k : Nat) : List Rat → Nat
  | [] => 1
  | r :: rs => r.den ^ k * ptD k rs
/-- a polynomial's value can be worked out -/
structure ValOk (k D B H : Nat) (rs : List Rat) (l : TL) : Prop where
  d0 : 0 < D
  f : Fits D B l
  h1 : 1 ≤ H
  pt : ∀ r ∈ rs, Ft r.den H r
  sm : ∀ r ∈ rs, Sm r
  pw : ∀ r ∈ rs, H ^ k * r.den ^ k < 2 ^ 4000
  k1 : k ≤ 1000
  e : ∀ t ∈ l, t.1.length = rs.length ∧ ∀ i ∈ t.1, 0 ≤ i ∧ i ≤ k
  s1 : (l.length + 1) * (B * H ^ (k * rs.length)) * (D * ptD k rs) < 2 ^ 4000
  s2 : D * ptD k rs < 2 ^ 4000
  ln : rs.length < 100
def spLValue : DSp := fun args q _ => ∃ (a : Ar) (l : TL) (rs : List Rat) (k D B H : Nat), args = [a, .val (.lst (rs.map ratD))] ∧ a.rd = dtD l ∧ NZ l ∧ ValOk k D B H rs l ∧ q (.val (ratD (evT (mono rs) l))) [.val a.rd, .val (.lst (rs.map ratD))]
def spAt (C : Addr) : DSp := fun args q _ => ∃ (a : Ar) (d : D) (ds : List D) (rs : List Rat) (l : TL) (k D B H : Nat), args = [a, .val d] ∧ a.rd = polyD C rs.length l ∧ (d = .lst ds ∨ d = .tup ds) ∧ Rows2 Pass ds rs ∧ ValOk k D B H rs l ∧
  q (.val (ratD (evT (mono rs) l))) [.val a.rd, .val d]
/-- a polynomial as the laws draw it -/
structure Drawn (n e B len : Nat) (l : TL) : Prop where
  z : NZ l
  x : Exps n l
  le : ∀ t ∈ l, ∀ i ∈ t.1, i ≤ e
  f : Fits LC B l
  len : l.length ≤ len
def spPolyD : DSp := fun args q _ => ∃ (o : Ob) (n y e k : Nat), args = [.bor o, .val (.int n), .val (.int y), .val (.int e)] ∧ n ≤ 10 ∧ y ≤ 10 ∧ e ≤ 10 ∧ PenOk (k + 500) o ∧ ∀ o' l, PenOk k o' → Drawn n e (y * 10 ^ 20) y l → q (.own (.dt (dtT l))) [.bor o', .val (.int n), .val (.int y), .val (.int e)]
def spMade (C : Addr) : DSp := fun args q _ => ∃ (o : Ob) (a : Ar) (n k B : Nat) (l : TL), args = [.bor o, .val (.int n), a] ∧ a.rd = dtD l ∧ n ≤ 10 ∧ NZ l ∧ Exps n l ∧ Fits LC B l ∧ B ≤ 10 ^ 100 ∧ l.length ≤ 20 ∧ PenOk (k + 2000) o ∧
  ∀ o' m, PenOk k o' → Canon m → Same m l → q (.own (polyO C n m)) [.bor o', .val (.int n), .val a.rd]
def spPassedPoint : DSp := fun args q _ => ∃ (o : Ob) (rs : List Rat) (k : Nat), args = [.bor o, .val (.lst (rs.map ratD))] ∧ (∀ r ∈ rs, Sm r) ∧ rs.length < 100 ∧ PenOk (k + 2 * rs.length + 1) o ∧ ∀ o' ds d, PenOk k o' → (d = .lst ds ∨ d = .tup ds) → Rows2 Pass ds rs → q (.val d) [.bor o', .val (.lst (rs.map ratD))]
def spLaw : DSp := fun args q _ => ∃ ns : List Int, args = [.val (.fix (ns.map .int))] ∧ ns.length ≤ 63 ∧ q (.val (.bl true)) args
end DL
namespace DL
open PySem
variable [TabEnv]
open L2 (Key)
theorem ar_lst {a : Ar} {ds : List D} (h : a.rd = .lst ds) : a = .val (.lst ds) ∨ a = .bor (.lst ds) := by
  rcases ar_cases (.inl h) with (z | z) | z
  · exact .inl z
  · subst z
    cases h
  · exact .inr z
theorem map_fs_inj {α β : Type} : ∀ {a b : List (α × β)}, a.map (·.1) = b.map (·.1) → a.map (·.2) = b.map (·.2) → a = b
  | [], [], _, _ => rfl
  | [], _ :: _, h, _ => by cases h
  | _ :: _, [], h, _ => by cases h
  | (x, y) :: a, (u, v) :: b, h1, h2 => by
    simp only [List.map_cons, List.cons.injEq] at h1 h2
    rw [map_fs_inj h1.2 h2.2, h1.1, h2.1]
theorem ar_dt {a : Ar} {l : TL} (h : a.rd = dtD l) : a = .val (dtD l) ∨ a = .bor (.dt (dtT l)) := by
  cases a with
  | val d => exact .inl (congrArg _ h)
  | bor o =>
    refine .inr (congrArg _ ?_)
    cases o <;> simp [Ar.rd, Ob.toD, dtD] at h
    rename_i kvs
    have e := map_fs_inj h.1 h.2
    subst e
    rfl
theorem tD_int (e : List Int) : tD (e.map Sum.inl) = tupI e := by
  unfold tD tupI
  rw [List.map_map]
  rfl
theorem dt_tD (l : TL) : ((dtT l).map (·.1)).map tD = l.map fun t => tupI t.1 := by
  unfold dtT
  rw [List.map_map, List.map_map]
  exact List.map_congr_left fun t _ => tD_int t.1
theorem dt_tD2 (l : TL) : ((dtT l).map (·.1)).map tD = (keysT l).map tupI := by
  rw [dt_tD]
  unfold keysT
  rw [List.map_map]
  rfl
theorem items_dt : ∀ l : TL, List.zipWith itmD ((dtT l).map (·.1)) ((dtT l).map (·.2)) = l.map termD
  | [] => rfl
  | t :: l => by
    have := items_dt l
    simp only [dtT, List.map_cons, List.zipWith_cons_cons] at this ⊢
    rw [this]
    unfold itmD termD
    rw [tD_int]
theorem pairs_dt : ∀ l : TL, pairsT (l.map termD) = some (dtT l)
  | [] => rfl
  | t :: l => by
    have := pairs_dt l
    simp only [List.map_cons, termD, tupI, pairsT, keys_int] at this ⊢
    rw [this]
    rfl
theorem merge_nd {κ : Type} [DecidableEq κ] : ∀ (l acc : List (κ × D)), ((acc ++ l).map (·.1)).Nodup → mergeD acc l = acc ++ l
  | [], acc, _ => by simp [mergeD]
  | p :: l, acc, h => by
    have hn : p.1 ∉ acc.map (·.1) := fun z => by
      rw [List.map_append, List.nodup_append] at h
      exact h.2.2 _ z _ (by simp) rfl
    have := merge_nd l (acc ++ [p]) (by rw [List.append_assoc]; exact h)
    unfold mergeD at this ⊢
    rw [List.foldl_cons, putD_new hn, this, List.append_assoc]
    rfl
theorem merge_dt {l : TL} (h : (keysT l).Nodup) : mergeD [] (dtT l) = dtT l := by
  refine merge_nd (dtT l) [] ?_
  rw [List.nil_append, dt_keys]
  exact (List.pairwise_map.mpr (h.imp fun n e => n (inl_inj _ _ e)))
theorem rat0D : (.tup [.int 0, .int 1] : D) = ratD 0 := rfl
theorem sm0 : Sm 0 := ⟨by decide, by decide⟩
/-- what is found at a key of a dict of terms -/
theorem lk_zip {l : TL} {k : List Int} : lkD (((dtT l).map (·.1)).zip ((dtT l).map (·.2))) (k.map Sum.inl) = (lkD l k).map ratD := by
  rw [zip_unz, lk_dt]
theorem lk_at {l : TL} {t : List Int × Rat} (h : (keysT l).Nodup) (ht : t ∈ l) : lkD (((dtT l).map (·.1)).zip ((dtT l).map (·.2))) (t.1.map Sum.inl) = some (ratD t.2) := by
  rw [lk_zip, lkD_some (v := t.2) h ht]
  rfl
/-- a loop over a list, by the next index -/
theorem forI_ind {gd : Ev → Prop} {g : WG} {b : WS} {P : Po} {ds : List D} (I : Nat → Ev → Prop) (hg : ∀ i e, I i e → gd e) (hn : ∀ e, I ds.length e → P.nx e)
    (hc : ∀ i d e (k : Ev → Prop), ds[i]? = some d → I i e → (∀ e', I (i + 1) e' → k e') → g d e fun e1 => b e1 { nx := k, rt := P.rt, ex := P.ex, bk := P.nx, ct := k }) {e : Ev} (h : I 0 e) : forD gd g b ds e P := by
  refine forD_ind (fun r e => ∃ i, i ≤ ds.length ∧ r = ds.drop i ∧ I i e) (fun _ _ ⟨i, _, _, z⟩ => hg i _ z) ?_ ?_ ⟨0, Nat.zero_le _, by simp, h⟩
  · rintro e ⟨i, hi, e1, z⟩
    have : ds.length ≤ i := by
      have := congrArg List.length e1
      simp at this
      omega
    obtain rfl : i = ds.length := by omega
    exact hn e z
  · rintro d r e k ⟨i, hi, e1, z⟩ hk
    have hl : i < ds.length := by
      have := congrArg List.length e1
      simp at this
      omega
    rw [List.drop_eq_getElem_cons hl] at e1
    cases e1
    exact hc i _ e k (List.getElem?_eq_getElem hl) z fun e' h' => hk e' ⟨i + 1, hl, rfl, h'⟩
/-! values -/
theorem ptD_pos (k : Nat) : ∀ rs : List Rat, 0 < ptD k rs
  | [] => Nat.one_pos
  | r :: rs => Nat.mul_pos (Nat.pow_pos r.den_pos) (ptD_pos k rs)
def AccOk (k DT BT H : Nat) (rs : List Rat) (i : Nat) (acc : Rat) : Prop := ∃ Da Ba, 0 < Da ∧ Ft Da Ba acc ∧ Da * ptD k (rs.drop i) = DT ∧ Ba * H ^ (k * (rs.length - i)) = BT
theorem AccOk.init {k D B H : Nat} {rs : List Rat} {q : Rat} (h0 : 0 < D) (h : Ft D B q) : AccOk k (D * ptD k rs) (B * H ^ (k * rs.length)) H rs 0 q := ⟨D, B, h0, h, rfl, rfl⟩
theorem AccOk.last {k DT BT H : Nat} {rs : List Rat} {q : Rat} (h : AccOk k DT BT H rs rs.length q) : Ft DT BT q := by
  obtain ⟨Da, Ba, h0, hf, h1, h2⟩ := h
  rw [List.drop_length] at h1
  rw [Nat.sub_self, Nat.mul_zero, Nat.pow_zero, Nat.mul_one] at h2
  simp only [ptD, Nat.mul_one] at h1
  subst h1 h2
  exact hf
theorem AccOk.step {k DT BT H : Nat} {rs : List Rat} {i e : Nat} {q r : Rat} (h : AccOk k DT BT H rs i q) (h1 : 1 ≤ H) (hr : rs[i]? = some r) (hf : Ft r.den H r) (he : e ≤ k) : AccOk k DT BT H rs (i + 1) (q * r ^ e) := by
  obtain ⟨Da, Ba, h0, hq, e1, e2⟩ := h
  obtain ⟨hi, rfl⟩ := List.getElem?_eq_some_iff.mp hr
  have hp : 0 < rs[i].den ^ k := Nat.pow_pos (Rat.den_pos _)
  have hm : Ft (rs[i].den ^ k) (H ^ k) (rs[i] ^ e) := (hf.pow e).mono hp (Nat.pow_dvd_pow _ he) (Nat.pow_le_pow_right h1 he)
  refine ⟨Da * rs[i].den ^ k, Ba * H ^ k, Nat.mul_pos h0 hp, hq.mul hm, ?_, ?_⟩
  · rw [List.drop_eq_getElem_cons hi] at e1
    rw [Nat.mul_assoc]
    exact e1
  · rw [Nat.mul_assoc, ← Nat.pow_add, ← e2]
    congr 2
    rw [Nat.add_comm, ← Nat.mul_succ]
    congr 1
    omega
theorem AccOk.sm {k DT BT H : Nat} {rs : List Rat} {i : Nat} {q : Rat} (h : AccOk k DT BT H rs i q) (h1 : 1 ≤ H) (s1 : BT * DT < 2 ^ 4000) (s2 : DT < 2 ^ 4000) : Sm q := by
  obtain ⟨Da, Ba, h0, hq, e1, e2⟩ := h
  have l1 : Da ≤ DT := by
    rw [← e1]
    exact Nat.le_mul_of_pos_right _ (ptD_pos _ _)
  have l2 : Ba ≤ BT := by
    rw [← e2]
    exact Nat.le_mul_of_pos_right _ (Nat.pow_pos h1)
  exact hq.sm h0 (Nat.lt_of_le_of_lt (Nat.mul_le_mul l2 l1) s1) (Nat.lt_of_le_of_lt l1 s2)
theorem mono_drop {rs : List Rat} {es : List Int} {i : Nat} {r : Rat} {e : Int} (hr : rs[i]? = some r) (he : es[i]? = some e) : mono (rs.drop i) (es.drop i) = r ^ e.toNat * mono (rs.drop (i + 1)) (es.drop (i + 1)) := by
  obtain ⟨h1, rfl⟩ := List.getElem?_eq_some_iff.mp hr
  obtain ⟨h2, rfl⟩ := List.getElem?_eq_some_iff.mp he
  rw [List.drop_eq_getElem_cons h1, List.drop_eq_getElem_cons h2]
  rfl
theorem mono_end {rs : List Rat} {es : List Int} : mono (rs.drop rs.length) es = 1 := by
  rw [List.drop_length]
  cases es <;> rfl
theorem mono_nil {rs : List Rat} : mono rs [] = 1 := by cases rs <;> rfl
theorem cons_erase {α : Type} {l : List α} {j : Nat} (h : j < l.length) : (l.eraseIdx j ++ [l[j]]).Perm l ∧ (([l[j]] : List α) ++ l.eraseIdx j).Perm l := by
  have e : l = l.take j ++ l[j] :: l.drop (j + 1) := by rw [← List.drop_eq_getElem_cons h, List.take_append_drop]
  have p : (([l[j]] : List α) ++ l.eraseIdx j).Perm l := by
    rw [List.eraseIdx_eq_take_drop_succ]
    conv => rhs; rw [e]
    exact (List.perm_middle (a := l[j]) (l₁ := l.take j) (l₂ := l.drop (j + 1))).symm
  exact ⟨List.perm_append_comm.trans p, p⟩
theorem Rows2.app {α β : Type} {P : α → β → Prop} {as as' : List α} {bs bs' : List β} (h : Rows2 P as bs) (h' : Rows2 P as' bs') : Rows2 P (as ++ as') (bs ++ bs') := by
  induction h with
  | nil => exact h'
  | cons a _ ih => exact .cons a ih
theorem Rows2.perm {α β : Type} {P : α → β → Prop} {as as' : List α} {bs : List β} (p : as'.Perm as) : Rows2 P as bs → ∃ bs', bs'.Perm bs ∧ Rows2 P as' bs' := by
  induction p generalizing bs with
  | nil => exact fun h => ⟨bs, .refl _, h⟩
  | cons x _ ih =>
    intro h
    cases h with
    | cons a h =>
      obtain ⟨bs', p', h'⟩ := ih h
      exact ⟨_, .cons _ p', .cons a h'⟩
  | swap x y l =>
    intro h
    cases h with
    | cons a h =>
      cases h with
      | cons b h => exact ⟨_, .swap _ _ _, .cons b (.cons a h)⟩
  | trans _ _ i j =>
    intro h
    obtain ⟨b1, p1, h1⟩ := j h
    obtain ⟨b2, p2, h2⟩ := i h1
    exact ⟨b2, p2.trans p1, h2⟩
theorem sel_all {l : TL} {ks : List (List Int)} (h : NZ l) (hs : ∀ k ∈ ks, k ∈ keysT l) : sel l ks = ks.map fun k => (k, (lkD l k).getD 0) := by
  unfold sel
  refine List.filter_eq_self.mpr fun t ht => ?_
  obtain ⟨k, hk, rfl⟩ := List.mem_map.mp ht
  obtain ⟨u, hu, rfl⟩ := List.mem_map.mp (hs k hk)
  simp only [decide_eq_true_eq]
  rw [lkD_some (v := u.2) h.nd hu]
  exact h.nz u hu
theorem evT_scale (w : List Int → Rat) (r : Rat) : ∀ l : TL, evT w (scT r l) = r * evT w l
  | [] => by simp [scT, evT, Rat.mul_zero]
  | t :: l => by
    have := evT_scale w r l
    simp only [scT, List.map_cons, evT] at this ⊢
    rw [this]
    grind
theorem evT_row (w : List Int → Rat) (s : List Int × Rat) : ∀ l : TL, evT w (mulRow s l) = s.2 * evT (fun e => w (List.zipWith (· + ·) s.1 e)) l
  | [] => by simp [mulRow, evT, Rat.mul_zero]
  | t :: l => by
    have := evT_row w s l
    simp only [mulRow, List.map_cons, evT] at this ⊢
    rw [this]
    grind
theorem evT_mul (w : List Int → Rat) : ∀ a b : TL, evT w (mulT a b) = evT (fun d => evT (fun e => w (List.zipWith (· + ·) d e)) b) a
  | [], _ => rfl
  | s :: a, b => by
    simp only [mulT, evT]
    rw [evT_app, evT_row, evT_mul w a b]
theorem Same.mul {a a' b b' : TL} (ha : Same a a') (hb : Same b b') : Same (mulT a b) (mulT a' b') := fun w => by
  rw [evT_mul, evT_mul]
  have : (fun d => evT (fun e => w (List.zipWith (· + ·) d e)) b) = fun d => evT (fun e => w (List.zipWith (· + ·) d e)) b' := funext fun d => hb _
  rw [this]
  exact ha _
theorem Same.app {a a' b b' : TL} (ha : Same a a') (hb : Same b b') : Same (a ++ b) (a' ++ b') := fun w => by rw [evT_app, evT_app, ha, hb]
theorem evT_neg (w : List Int → Rat) : ∀ l : TL, evT w (negT l) = -evT w l
  | [] => by simp [negT, evT]
  | t :: l => by
    have := evT_neg w l
    simp only [negT, List.map_cons, evT] at this ⊢
    rw [this]
    grind
theorem Same.neg {a b : TL} (h : Same a b) : Same (negT a) (negT b) := fun w => by rw [evT_neg, evT_neg, h]
theorem Same.neg_scale (l : TL) : Same (negT l) (scT (-1) l) := fun w => by
  rw [evT_neg, evT_scale]
  grind
theorem Same.trans {a b c : TL} (h : Same a b) (h' : Same b c) : Same a c := fun w => (h w).trans (h' w)
theorem Same.symm {a b : TL} (h : Same a b) : Same b a := fun w => (h w).symm
theorem Same.scale {a b : TL} (h : Same a b) (r : Rat) : Same (scT r a) (scT r b) := fun w => by rw [evT_scale, evT_scale, h]
theorem rpow_add (r : Rat) (m : Nat) : ∀ n : Nat, r ^ (m + n) = r ^ m * r ^ n
  | 0 => by rw [Nat.add_zero, Rat.pow_zero, Rat.mul_one]
  | n + 1 => by rw [← Nat.add_assoc, Rat.pow_succ, Rat.pow_succ, rpow_add r m n, Rat.mul_assoc]
theorem mono_mul : ∀ (rs : List Rat) (a b : List Int), a.length = rs.length → b.length = rs.length → (∀ i ∈ a, 0 ≤ i) → (∀ i ∈ b, 0 ≤ i) → mono rs (List.zipWith (· + ·) a b) = mono rs a * mono rs b
  | [], a, b, ha, hb, _, _ => by
    rw [List.eq_nil_of_length_eq_zero ha, List.eq_nil_of_length_eq_zero hb]
    simp [mono]
  | r :: rs, [], _, ha, _, _, _ => by simp at ha
  | r :: rs, _ :: _, [], _, hb, _, _ => by simp at hb
  | r :: rs, x :: a, y :: b, ha, hb, pa, pb => by
    have x0 := pa x List.mem_cons_self
    have y0 := pb y List.mem_cons_self
    have ih := mono_mul rs a b (by simpa using ha) (by simpa using hb) (fun i hi => pa i (List.mem_cons_of_mem _ hi)) (fun i hi => pb i (List.mem_cons_of_mem _ hi))
    simp only [List.zipWith_cons_cons, mono]
    rw [ih, Int.toNat_add x0 y0, rpow_add]
    grind
theorem evT_mul_mono {rs : List Rat} {a b : TL} (ha : Exps rs.length a) (hb : Exps rs.length b) : evT (mono rs) (mulT a b) = evT (mono rs) a * evT (mono rs) b := by
  rw [evT_mul]
  have inner : ∀ d : List Int, d.length = rs.length → (∀ i ∈ d, 0 ≤ i) → ∀ b : TL, Exps rs.length b → evT (fun e => mono rs (List.zipWith (· + ·) d e)) b = mono rs d * evT (mono rs) b := fun d hd pd b hb => by
    induction b with
    | nil => simp [evT, Rat.mul_zero]
    | cons t b ih =>
      obtain ⟨h1, h2⟩ := hb t List.mem_cons_self
      simp only [evT]
      rw [ih fun u hu => hb u (List.mem_cons_of_mem _ hu), mono_mul rs d t.1 hd h1 pd h2]
      grind
  revert ha
  induction a with
  | nil => simp [evT, Rat.zero_mul]
  | cons t a ih =>
    intro ha
    obtain ⟨h1, h2⟩ := ha t List.mem_cons_self
    simp only [evT]
    rw [inner t.1 h1 h2 b hb, ih fun u hu => ha u (List.mem_cons_of_mem _ hu)]
    grind
theorem ValOk.pow {k D B H : Nat} {rs : List Rat} {l : TL} (h : ValOk k D B H rs l) {r : Rat} (hr : r ∈ rs) {e : Nat} (he : e ≤ k) : Sm (r ^ e) ∧ r.den ^ e < 2 ^ 9000 := by
  have hp : 0 < r.den ^ k := Nat.pow_pos r.den_pos
  have fe : Ft (r.den ^ k) (H ^ k) (r ^ e) := ((h.pt r hr).pow e).mono hp (Nat.pow_dvd_pow _ he) (Nat.pow_le_pow_right h.h1 he)
  have l1 : r.den ^ k < 2 ^ 4000 := Nat.lt_of_le_of_lt (Nat.le_mul_of_pos_left _ (Nat.pow_pos h.h1)) (h.pw r hr)
  refine ⟨fe.sm hp (h.pw r hr) l1, ?_⟩
  exact Nat.lt_of_le_of_lt (Nat.pow_le_pow_right r.den_pos he) (Nat.lt_trans l1 (Nat.pow_lt_pow_right (by decide) (by decide)))
/-! comparing -/
theorem shaped_str {x : Str} (h : PyData.strOk x = true) : SeqAt.shaped (.str x) = true := by simp [SeqAt.shaped, PyData.canLay0, PyData.depth, h]
def numP (t : List Int × Rat) : PyData := .tuple [.tuple (t.1.map .int), .tuple [.int t.2.num, .int t.2.den]]
theorem toPs_int : ∀ e : List Int, toPs (e.map .int) = some (e.map .int)
  | [] => rfl
  | i :: e => by simp only [List.map_cons, toPs, toP, toPs_int e]
theorem toPs_term : ∀ l : TL, toPs (l.map termD) = some (l.map numP)
  | [] => rfl
  | t :: l => by
    have := toPs_term l
    simp only [List.map_cons, toPs, this, termD, tupI, ratD, toP, toPs_int, Option.map_some]
    rfl
theorem lay_int : ∀ e : List Int, PyData.canLayAll0 (e.map .int) = true ∧ PyData.depthAll (e.map .int) = 0
  | [] => ⟨rfl, rfl⟩
  | i :: e => by
    obtain ⟨h1, h2⟩ := lay_int e
    simp only [List.map_cons, PyData.canLayAll0, PyData.depthAll, h1, h2]
    exact ⟨rfl, rfl⟩
theorem lay_term : ∀ l : TL, PyData.canLayAll0 (l.map numP) = true ∧ PyData.depthAll (l.map numP) ≤ 2
  | [] => ⟨rfl, by decide⟩
  | t :: l => by
    obtain ⟨h1, h2⟩ := lay_term l
    obtain ⟨h3, h4⟩ := lay_int t.1
    have e1 : (numP t).canLay0 = true := by
      simp only [numP, PyData.canLay0, PyData.canLayAll0, h3]
      rfl
    have e2 : (numP t).depth ≤ 2 := by
      simp only [numP, PyData.depth, PyData.depthAll, h4]
      decide
    refine ⟨?_, ?_⟩
    · simp only [List.map_cons, PyData.canLayAll0, h1, e1]
      rfl
    · simp only [List.map_cons, PyData.depthAll]
      exact Nat.max_le.mpr ⟨e2, h2⟩
/-- == of the same terms -/
theorem eqv_terms (l : TL) : ∃ p, toP (.tup (l.map termD)) = some p ∧ SeqAt.shaped p = true ∧ PyData.eqv p p = true := by
  obtain ⟨h1, h2⟩ := lay_term l
  refine ⟨.tuple (l.map numP), by simp only [toP, toPs_term]; rfl, ?_, ?_⟩
  · unfold SeqAt.shaped
    simp only [Bool.and_eq_true, decide_eq_true_eq, PyData.canLay0, PyData.depth]
    exact ⟨h1, decide_eq_true (Nat.le_trans (Nat.succ_le_succ h2) (show 2 + 1 ≤ 64 by decide))⟩
  · exact SeqAt.eqv_refl _ h1
theorem eqv_rat (r : Rat) : ∃ p, toP (ratD r) = some p ∧ SeqAt.shaped p = true ∧ PyData.eqv p p = true := ⟨.tuple [.int r.num, .int r.den], rfl, rfl, by simp [PyData.eqv, PyData.eqvAll]⟩
end DL

end Pe
section Pf
set_option Elab.async false
set_option linter.all false
set_option maxRecDepth 100000
set_option maxHeartbeats 4000000
set_option exponentiation.threshold 100000
/-! Pf: sizes; the law's own facts. -/
namespace DL
open PySem
variable [TabEnv]
open L2 (Key)
def slN : Sl → Prop
  | .bor _ => False
  | .bfz _ => False
  | _ => True
theorem bnd_n {i : Nat} {r : R} {e : Ev} {s : Sl} {k : Ev → Prop} (h : e[i]? = some s) (hs : slN s) (q : bndR i r e k) : bnd i r e k := by
  unfold bnd
  rw [h]
  cases s <;> first | exact hs.elim | exact q
theorem lep {c : Prop} [Decidable c] (h : c) : c := h
/-- lists of terms within sizes -/
structure Dw (D n e B len : Nat) (l : TL) : Prop where
  z : NZ l
  x : Exps n l
  le : ∀ t ∈ l, ∀ i ∈ t.1, i ≤ e
  f : Fits D B l
  len : l.length ≤ len
theorem Drawn.dw {n e B len : Nat} {l : TL} (h : Drawn n e B len l) : Dw LC n e B len l := ⟨h.z, h.x, h.le, h.f, h.len⟩
theorem Dw.mono {D n e B len e' B' len' : Nat} {l : TL} (h : Dw D n e B len l) (h0 : 0 < D) (he : e ≤ e') (hB : B ≤ B') (hl : len ≤ len') : Dw D n e' B' len' l :=
  ⟨h.z, h.x, fun t ht i hi => Int.le_trans (h.le t ht i hi) (by omega), fun t ht => (h.f t ht).mono h0 (Nat.dvd_refl _) hB, Nat.le_trans h.len hl⟩
theorem Dw.perm {D n e B len : Nat} {l m : TL} (h : Dw D n e B len l) (hm : NZ m) (s : Same m l) : Dw D n e B len m := by
  have p := hm.perm h.z s
  exact ⟨hm, fun t ht => h.x t (p.subset ht), fun t ht => h.le t (p.subset ht), fun t ht => h.f t (p.subset ht), by rw [p.length_eq]; exact h.len⟩
/-- what is gathered of terms within sizes -/
theorem Dw.of {D n e B len : Nat} {l m : TL} (h0 : 0 < D) (hm : NZ m) (s : Same m l) (x : Exps n l) (le : ∀ t ∈ l, ∀ i ∈ t.1, i ≤ e) (f : Fits D B l) (hl : l.length ≤ len) : Dw D n e (len * B) len m := by
  have ks : ∀ t ∈ m, ∃ u ∈ l, u.1 = t.1 := fun t ht => List.mem_map.mp (hm.keys_sub s (List.mem_map.mpr ⟨t, ht, rfl⟩))
  refine ⟨hm, fun t ht => ?_, fun t ht => ?_, fun t ht => (hm.ft h0 s f t ht).mono h0 (Nat.dvd_refl _) (Nat.mul_le_mul_right _ hl), Nat.le_trans (hm.len s) hl⟩
  · obtain ⟨u, hu, eu⟩ := ks t ht
    rw [← eu]
    exact x u hu
  · obtain ⟨u, hu, eu⟩ := ks t ht
    rw [← eu]
    exact le u hu
theorem Dw.add {D n e B a b : Nat} {l1 l2 m : TL} (h0 : 0 < D) (h1 : Dw D n e B a l1) (h2 : Dw D n e B b l2) (hm : NZ m) (s : Same m (l1 ++ l2)) : Dw D n e ((a + b) * B) (a + b) m := by
  refine Dw.of h0 hm s (h1.x.app h2.x) (fun t ht => (List.mem_append.mp ht).elim (h1.le t) (h2.le t)) (fits_app.mpr ⟨h1.f, h2.f⟩) ?_
  rw [List.length_append]
  exact Nat.add_le_add h1.len h2.len
theorem mulT_le {a b : TL} {e f : Int} (ha : ∀ t ∈ a, ∀ i ∈ t.1, i ≤ e) (hb : ∀ t ∈ b, ∀ i ∈ t.1, i ≤ f) : ∀ t ∈ mulT a b, ∀ i ∈ t.1, i ≤ e + f := by
  have zw : ∀ {x y : List Int}, (∀ i ∈ x, i ≤ e) → (∀ i ∈ y, i ≤ f) → ∀ i ∈ List.zipWith (· + ·) x y, i ≤ e + f := by
    intro x
    induction x with
    | nil => intro y _ _ i h; simp at h
    | cons u x ih =>
      intro y h1 h2 i h
      cases y with
      | nil => simp at h
      | cons v y =>
        simp only [List.zipWith_cons_cons, List.mem_cons] at h
        rcases h with rfl | h
        · have := h1 u List.mem_cons_self
          have := h2 v List.mem_cons_self
          omega
        · exact ih (fun j hj => h1 j (List.mem_cons_of_mem _ hj)) (fun j hj => h2 j (List.mem_cons_of_mem _ hj)) i h
  induction a with
  | nil => exact fun t ht => nomatch ht
  | cons s a ih =>
    intro t ht
    rcases List.mem_append.mp ht with ht | ht
    · obtain ⟨u, hu, rfl⟩ := List.mem_map.mp ht
      exact zw (ha s List.mem_cons_self) (hb u hu)
    · exact ih (fun v hv => ha v (List.mem_cons_of_mem _ hv)) t ht
theorem Dw.mul {D D' n e e' B B' a b : Nat} {l1 l2 m : TL} (h0 : 0 < D * D') (h1 : Dw D n e B a l1) (h2 : Dw D' n e' B' b l2) (hm : NZ m) (s : Same m (mulT l1 l2)) : Dw (D * D') n (e + e') (a * b * (B * B')) (a * b) m := by
  refine Dw.of h0 hm s (h1.x.mul h2.x) (fun t ht i hi => ?_) (fits_mul h1.f h2.f) ?_
  · have := mulT_le h1.le h2.le t ht i hi
    omega
  · rw [mulT_len]
    exact Nat.mul_le_mul h1.len h2.len
theorem Dw.sm {D n e B len : Nat} {l : TL} (h : Dw D n e B len l) (h0 : 0 < D) (s : B * D < 2 ^ 4000) (s2 : D < 2 ^ 4000) : ∀ t ∈ l, Sm t.2 := fun t ht => (h.f t ht).sm h0 s s2
theorem Dw.fine2 {D n e B a b : Nat} {l1 l2 : TL} (h1 : Dw D n e B a l1) (h2 : Dw D n e B b l2) (h0 : 0 < D) (s : (a + b) * B * D < 2 ^ 4000) (s2 : D < 2 ^ 4000) (l : a + b ≤ 100000) : Fine D B (l1 ++ l2) := by
  have hl : (l1 ++ l2).length ≤ a + b := by
    rw [List.length_append]
    exact Nat.add_le_add h1.len h2.len
  exact ⟨h0, fits_app.mpr ⟨h1.f, h2.f⟩, Nat.lt_of_le_of_lt (Nat.mul_le_mul_right _ (Nat.mul_le_mul_right _ hl)) s, s2, Nat.le_trans hl l⟩
theorem Dw.fineM {D D' n e e' B B' a b : Nat} {l1 l2 : TL} (h0 : 0 < D * D') (h1 : Dw D n e B a l1) (h2 : Dw D' n e' B' b l2) (s : a * b * (B * B') * (D * D') < 2 ^ 4000) (s2 : D * D' < 2 ^ 4000) (l : a * b ≤ 100000) : Fine (D * D') (B * B') (mulT l1 l2) := by
  have hl : (mulT l1 l2).length ≤ a * b := by
    rw [mulT_len]
    exact Nat.mul_le_mul h1.len h2.len
  exact ⟨h0, fits_mul h1.f h2.f, Nat.lt_of_le_of_lt (Nat.mul_le_mul_right _ (Nat.mul_le_mul_right _ hl)) s, s2, Nat.le_trans hl l⟩
theorem fits_scm {D B : Nat} {l : TL} (h : Fits D B l) : Fits D B (scT (-1) l) := fun t ht => by
  obtain ⟨u, hu, rfl⟩ := List.mem_map.mp ht
  have := (h u hu).neg
  have e : u.2 * -1 = -u.2 := by grind
  show Ft D B (u.2 * -1)
  rw [e]
  exact this
theorem Dw.fineS {D n e B a : Nat} {l : TL} (h : Dw D n e B a l) (h0 : 0 < D) (s : a * B * D < 2 ^ 4000) (s2 : D < 2 ^ 4000) (hl : a ≤ 100000) : Fine D B (scT (-1) l) :=
  ⟨h0, fits_scm h.f, Nat.lt_of_le_of_lt (Nat.mul_le_mul_right _ (Nat.mul_le_mul_right _ (by simpa [scT] using h.len))) s, s2, by simpa [scT] using Nat.le_trans h.len hl⟩
theorem nz_scm {l : TL} (h : NZ l) : NZ (scT (-1) l) := by
  refine ⟨by simpa [keysT, scT, Function.comp_def] using h.nd, fun t ht => ?_⟩
  obtain ⟨u, hu, rfl⟩ := List.mem_map.mp ht
  have := h.nz u hu
  exact fun e => this (by have e : u.2 * -1 = 0 := e; grind)
theorem Dw.scm {D n e B a : Nat} {l m : TL} (h : Dw D n e B a l) (hm : NZ m) (s : Same m (scT (-1) l)) : Dw D n e B a m := by
  have d : Dw D n e B a (scT (-1) l) := ⟨nz_scm h.z, fun t ht => by
    obtain ⟨u, hu, rfl⟩ := List.mem_map.mp ht
    exact h.x u hu, fun t ht => by
    obtain ⟨u, hu, rfl⟩ := List.mem_map.mp ht
    exact h.le u hu, fits_scm h.f, by simpa [scT] using h.len⟩
  exact d.perm hm s
theorem smm1 : Sm (-1) := ⟨by decide, by decide⟩
theorem ratm1 : (.tup [.int (-1), .int 1] : D) = ratD (-1) := rfl
theorem ptD_le {k : Nat} : ∀ {rs : List Rat}, (∀ r ∈ rs, r.den ≤ 97) → ptD k rs ≤ 97 ^ (k * rs.length)
  | [], _ => by simp [ptD]
  | r :: rs, h => by
    have ih := ptD_le (k := k) (rs := rs) fun u hu => h u (List.mem_cons_of_mem _ hu)
    have h1 := Nat.pow_le_pow_left (h r List.mem_cons_self) k
    rw [List.length_cons, Nat.mul_succ, Nat.pow_add, Nat.mul_comm]
    exact Nat.mul_le_mul ih h1 |> fun z => by simpa only [ptD, Nat.mul_comm] using z
theorem val_ok {D n k B len : Nat} {rs : List Rat} {l : TL} (h : Dw D n k B len l) (h0 : 0 < D) (hl : rs.length = n) (hn : n ≤ 4) (hr : ∀ r ∈ rs, Rt 2 r) (hk : k ≤ 8) (hD : D ≤ LC * LC) (hB : B ≤ 10 ^ 50) (hlen : len ≤ 100) : ValOk k D B (10 ^ 2) rs l := by
  have p1 : ptD k rs ≤ 97 ^ 32 := by
    refine Nat.le_trans (ptD_le fun r hm => (hr r hm).den.1) (Nat.pow_le_pow_right (by decide) ?_)
    rw [hl]
    exact Nat.mul_le_mul hk hn
  have p2 : (10 ^ 2) ^ (k * rs.length) ≤ (10 ^ 2) ^ 32 := by
    refine Nat.pow_le_pow_right (by decide) ?_
    rw [hl]
    exact Nat.mul_le_mul hk hn
  have dd : D * ptD k rs ≤ LC * LC * 97 ^ 32 := Nat.mul_le_mul hD p1
  have bb : (l.length + 1) * (B * (10 ^ 2) ^ (k * rs.length)) ≤ 101 * (10 ^ 50 * (10 ^ 2) ^ 32) := Nat.mul_le_mul (by have := h.len; omega) (Nat.mul_le_mul hB p2)
  refine ⟨h0, h.f, by decide, fun r hm => (hr r hm).den.2, fun r hm => (hr r hm).sm (by decide), fun r hm => ?_, by omega, fun t ht => ?_, ?_, ?_, by omega⟩
  · have q1 : r.den ^ k ≤ 97 ^ 8 := Nat.le_trans (Nat.pow_le_pow_left (hr r hm).den.1 k) (Nat.pow_le_pow_right (by decide) hk)
    have q2 : (10 ^ 2) ^ k ≤ (10 ^ 2) ^ 8 := Nat.pow_le_pow_right (by decide) hk
    exact Nat.lt_of_le_of_lt (Nat.mul_le_mul q2 q1) (by decide +kernel)
  · obtain ⟨x1, x2⟩ := h.x t ht
    exact ⟨by rw [x1, hl], fun i hi => ⟨x2 i hi, h.le t ht i hi⟩⟩
  · exact Nat.lt_of_le_of_lt (Nat.mul_le_mul bb dd) (by decide +kernel)
  · exact Nat.lt_of_le_of_lt dd (by decide +kernel)
theorem ValOk.last {k D B H : Nat} {rs : List Rat} {l : TL} (hv : ValOk k D B H rs l) : ∀ t ∈ l, Ft (D * ptD k rs) (B * H ^ (k * rs.length)) (t.2 * mono rs t.1) := fun t tm => by
  obtain ⟨te1, te2⟩ := hv.e t tm
  have gen : ∀ i, i ≤ rs.length → ∃ acc, AccOk k (D * ptD k rs) (B * H ^ (k * rs.length)) H rs i acc ∧ acc * mono (rs.drop i) (t.1.drop i) = t.2 * mono rs t.1 := fun i => by
    induction i with
    | zero => exact fun _ => ⟨t.2, AccOk.init hv.d0 (hv.f t tm), by simp⟩
    | succ i ih =>
      intro hi
      obtain ⟨acc, ac, em⟩ := ih (by omega)
      have hr := List.getElem?_eq_getElem (show i < rs.length by omega)
      have he := List.getElem?_eq_getElem (show i < t.1.length by omega)
      generalize rs[i] = r at hr
      generalize t.1[i]'(by omega) = e at he
      obtain ⟨e0, ek⟩ := te2 e (List.mem_of_getElem? he)
      refine ⟨_, ac.step hv.h1 hr (hv.pt r (List.mem_of_getElem? hr)) (show e.toNat ≤ k by omega), ?_⟩
      rw [← em, mono_drop hr he, Rat.mul_assoc]
  obtain ⟨acc, ac, em⟩ := gen rs.length (Nat.le_refl _)
  rw [mono_end, Rat.mul_one] at em
  rw [← em]
  exact ac.last
theorem ft_evT {D B : Nat} (h0 : 0 < D) (w : List Int → Rat) : ∀ {l : TL}, (∀ t ∈ l, Ft D B (t.2 * w t.1)) → Ft D (l.length * B) (evT w l)
  | [], _ => Ft.zero
  | t :: l, h => by
    have ih := ft_evT h0 w (l := l) fun u hu => h u (List.mem_cons_of_mem _ hu)
    have := (h t List.mem_cons_self).add h0 ih
    rw [List.length_cons, Nat.succ_mul, Nat.add_comm]
    exact this
theorem ValOk.smV {k D B H : Nat} {rs : List Rat} {l : TL} (hv : ValOk k D B H rs l) : Sm (evT (mono rs) l) := by
  have dp : 0 < D * ptD k rs := Nat.mul_pos hv.d0 (ptD_pos k rs)
  exact (ft_evT dp (mono rs) hv.last).sm dp (Nat.lt_of_le_of_lt (Nat.mul_le_mul_right _ (Nat.mul_le_mul_right _ (by omega))) hv.s1) hv.s2
theorem canon_nil : Canon [] := ⟨⟨List.nodup_nil, fun _ h => nomatch h⟩, List.Pairwise.nil⟩
theorem same_nil {l : TL} {m : TL} (h : Same m (l ++ negT l)) : Same m [] := fun w => by
  rw [h w, evT_app, evT_neg]
  simp only [evT]
  grind
/-- what the law looks at: a polynomial told and due -/
def Told (C : Addr) (n : Nat) (d : D) : Prop := ∃ p a : TL, d = .tup [polyD C n p, dtD a] ∧ Canon p ∧ NZ a ∧ Exps n a ∧ Same p a ∧ a.length ≤ 100000
end DL
namespace DL
open PySem
variable [TabEnv]
theorem kit_self {K : PySem.W.Frag} {C : Addr} : PySem.W.kitOne K (.ref C) (.ref C) = some true := if_pos (by simp)
end DL
namespace DL
open PySem
variable [TabEnv]
/-- between the turns of a law with sixteen names -/
def LawI (s0 : Sl) (k : Nat) (e : Ev) : Prop := ∃ (o' : Ob) (t2 t3 t4 t5 t6 t7 t8 t9 ta tb tc td te tf : Sl), PenOk k o' ∧ slN t2 ∧ slN t3 ∧ slN t4 ∧ slN t5 ∧ slN t6 ∧ slN t7 ∧ slN t8 ∧ slN t9 ∧ slN ta ∧ slN tb ∧ slN tc ∧ slN td ∧ slN te ∧ slN tf ∧
    e = [s0, .own o', t2, t3, t4, t5, t6, t7, t8, t9, ta, tb, tc, td, te, tf]
end DL
namespace DL
open PySem
variable [TabEnv]
theorem bnd_o {i : Nat} {o : Ob} {e : Ev} {s : Sl} {k : Ev → Prop} (h : e[i]? = some s) (hs : slN s) (q : k (e.set i (.own o))) : bnd i (.own o) e k := bnd_n h hs q
theorem bnd_v {i : Nat} {d : D} {e : Ev} {s : Sl} {k : Ev → Prop} (h : e[i]? = some s) (hs : slN s) (q : k (e.set i (.val d))) : bnd i (.val d) e k := bnd_n h hs q
end DL
namespace DL
open PySem
variable [TabEnv]
/-- a state, worked out -/
theorem bnd_x {i : Nat} {r : R} {e : Ev} {s : Sl} {k : Ev → Prop} (e' : Ev) (he : e = e') (h : e'[i]? = some s) (hs : slN s) (q : bndR i r e' k) : bnd i r e k := by
  subst he
  exact bnd_n h hs q
theorem nrm {w : WS} {e : Ev} {P : Po} (e' : Ev) (he : e = e') (q : w e' P) : w e P := by
  subst he
  exact q
theorem nrmK {k : Ev → Prop} {e : Ev} (e' : Ev) (he : e = e') (q : k e') : k e := by
  subst he
  exact q
end DL
namespace DL
open PySem
variable [TabEnv]
/-- what a turn has drawn -/
structure Two (n : Nat) (l1 l2 m1 m2 : TL) : Prop where
  hn : n ≤ 4
  b1 : Dw LC n 4 (10 ^ 22) 7 l1
  b2 : Dw LC n 4 (10 ^ 22) 7 l2
  c1 : Canon m1
  c2 : Canon m2
  e1 : Same m1 l1
  e2 : Same m2 l2
theorem Two.w1 {n : Nat} {l1 l2 m1 m2 : TL} (h : Two n l1 l2 m1 m2) : Dw LC n 4 (10 ^ 22) 7 m1 := h.b1.perm h.c1.z h.e1
theorem Two.w2 {n : Nat} {l1 l2 m1 m2 : TL} (h : Two n l1 l2 m1 m2) : Dw LC n 4 (10 ^ 22) 7 m2 := h.b2.perm h.c2.z h.e2
theorem lcs : LC < 2 ^ 4000 := by decide +kernel
theorem lcs2 : LC * LC < 2 ^ 4000 := by decide +kernel
theorem lcp2 : 0 < LC * LC := Nat.mul_pos lc_pos lc_pos
theorem fine14 {n : Nat} {a b : TL} (h1 : Dw LC n 4 (10 ^ 22) 7 a) (h2 : Dw LC n 4 (10 ^ 22) 7 b) : Fine LC (10 ^ 22) (a ++ b) := h1.fine2 h2 lc_pos (by decide +kernel) lcs (by decide)
theorem fine49 {n : Nat} {a b : TL} (h1 : Dw LC n 4 (10 ^ 22) 7 a) (h2 : Dw LC n 4 (10 ^ 22) 7 b) : Fine (LC * LC) (10 ^ 22 * 10 ^ 22) (mulT a b) := Dw.fineM lcp2 h1 h2 (by decide +kernel) lcs2 (by decide)
theorem fine7 {n : Nat} {a : TL} (h1 : Dw LC n 4 (10 ^ 22) 7 a) : Fine LC (10 ^ 22) a := ⟨lc_pos, h1.f, Nat.lt_of_le_of_lt (Nat.mul_le_mul_right _ (Nat.mul_le_mul_right _ h1.len)) (show 7 * 10 ^ 22 * LC < 2 ^ 4000 by decide +kernel), lcs, Nat.le_trans h1.len (by decide)⟩
theorem fine7s {n : Nat} {a : TL} (h1 : Dw LC n 4 (10 ^ 22) 7 a) : Fine LC (10 ^ 22) (scT (-1) a) := h1.fineS lc_pos (by decide +kernel) lcs (by decide)
theorem sm7 {n : Nat} {a : TL} (h1 : Dw LC n 4 (10 ^ 22) 7 a) : ∀ t ∈ a, Sm t.2 := h1.sm lc_pos (by decide +kernel) lcs
end DL
namespace DL
open PySem
variable [TabEnv]
/-- a point as drawn and as passed -/
structure Pnt (n : Nat) (rs : List Rat) (d : D) (ds : List D) : Prop where
  hl : rs.length = n
  hr : ∀ r ∈ rs, Rt 2 r
  hd : d = .lst ds ∨ d = .tup ds
  hp : Rows2 Pass ds rs
theorem vok7 {n : Nat} {rs : List Rat} {d : D} {ds : List D} {l : TL} (p : Pnt n rs d ds) (hn : n ≤ 4) (h : Dw LC n 4 (10 ^ 22) 7 l) : ValOk 4 LC (10 ^ 22) (10 ^ 2) rs l := val_ok h lc_pos p.hl hn p.hr (by decide) (by decide +kernel) (by decide) (by decide)
theorem vok14 {n : Nat} {rs : List Rat} {d : D} {ds : List D} {l : TL} (p : Pnt n rs d ds) (hn : n ≤ 4) (h : Dw LC n 4 ((7 + 7) * 10 ^ 22) (7 + 7) l) : ValOk 4 LC ((7 + 7) * 10 ^ 22) (10 ^ 2) rs l := val_ok h lc_pos p.hl hn p.hr (by decide) (by decide +kernel) (by decide) (by decide)
theorem vok49 {n : Nat} {rs : List Rat} {d : D} {ds : List D} {l : TL} (p : Pnt n rs d ds) (hn : n ≤ 4) (h : Dw (LC * LC) n (4 + 4) (7 * 7 * (10 ^ 22 * 10 ^ 22)) (7 * 7) l) : ValOk 8 (LC * LC) (7 * 7 * (10 ^ 22 * 10 ^ 22)) (10 ^ 2) rs l := val_ok h lcp2 p.hl hn p.hr (by decide) (by decide +kernel) (by decide) (by decide)
end DL
namespace DL
open PySem
variable [TabEnv]
theorem no_at : ("at" : Str) ∉ [("size" : Str), "terms"] := by decide
section
variable {A B C R : WS} {e : Ev} {P : Po}
theorem sq (h : A e { P with nx := fun e => R e P }) : wSeq A R e P := h
theorem sq2 (h : wSeq A B e { P with nx := fun e => R e P }) : wSeq A (wSeq B R) e P := h
theorem sq3 (h : wSeq A (wSeq B C) e { P with nx := fun e => R e P }) : wSeq A (wSeq B (wSeq C R)) e P := h
end
end DL

end Pf
section Qa
set_option Elab.async false
set_option linter.all false
set_option maxRecDepth 100000
set_option maxHeartbeats 4000000
set_option exponentiation.threshold 100000
/-! Qa: amounts, what their defs promise. -/
namespace DL
open PySem
variable [TabEnv]
def numX (C : Addr) (w d : D) : Exn := ⟨.ref C, [("number", d), ("what", w)]⟩
def unX (C : Addr) (p a b : D) : Exn := ⟨.ref C, [("other", b), ("one", a), ("place", p)]⟩
def zeroX (C : Addr) (p : D) : Exn := ⟨.ref C, [("place", p)]⟩
/-- a value that is_ratio may be asked about -/
structure Vt (d : D) : Prop where
  t : ∃ n, tyN d = some n
  p : ∀ a b, d = .tup [a, b] → (∃ m, tyN a = some m) ∧ ∃ m, tyN b = some m
theorem Pass.vt {d : D} {q : Rat} (h : Pass d q) : Vt d := ⟨h.ty.1, h.ty.2⟩
def spToldX (C : Addr) : DSp := fun args q x => ∃ d w, args = [.val d, .val w] ∧ Vt d ∧ ((∃ r, Pass d r ∧ q (.val (ratD r)) args) ∨ (isRt d = false ∧ x (numX C w d) args))
def spOver : DSp := fun args q _ => ∃ a b : Rat, args = [.val (ratD a), .val (ratD b)] ∧ Sm a ∧ Sm b ∧ b ≠ 0 ∧ q (.val (ratD (a / b))) args
def ltR (a b : Rat) : Bool := decide (a.num * (b.den : Int) < b.num * (a.den : Int))
def spLess : DSp := fun args q _ => ∃ a b : Rat, args = [.val (ratD a), .val (ratD b)] ∧ Sm a ∧ Sm b ∧ q (.val (.bl (ltR a b))) args
/-- a power with an integer exponent -/
def zp (r : Rat) (n : Int) : Rat := if 0 ≤ n then r ^ n.natAbs else (r ^ n.natAbs)⁻¹
structure PwOk (r : Rat) (n : Int) : Prop where
  s : Sm r
  b : n.natAbs ≤ 1000
  z : n < 0 → r ≠ 0
  d : r.den ^ n.natAbs < 2 ^ 9000
  u : r.num.natAbs ^ n.natAbs < 2 ^ 9000
def spPowZ : DSp := fun args q _ => ∃ (r : Rat) (n : Int), args = [.val (ratD r), .val (.int n)] ∧ PwOk r n ∧ q (.val (ratD (zp r n))) args
/-- a tuple of at least one integer -/
def isE : D → Bool
  | .tup ds => !ds.isEmpty && ds.all isW
  | _ => false
structure Et (d : D) : Prop where
  t : ∃ n, tyN d = some n
  p : ∀ ds, d = .tup ds → ds.length ≤ 1000 ∧ ∀ t ∈ ds, ∃ m, tyN t = some m
def spAreE : DSp := fun args q _ => ∃ d, args = [.val d] ∧ Et d ∧ q (.val (.bl (isE d))) args
def amtO (C : Addr) (e : List Int) (r : Rat) : Ob := .ins C [("exponents", tupI e), ("number", ratD r)]
def amtD (C : Addr) (e : List Int) (r : Rat) : D := (amtO C e r).toD
theorem ar_amt {a : Ar} {C : Addr} {e : List Int} {r : Rat} (h : a.rd = amtD C e r) : a = .val (amtD C e r) ∨ a = .bor (amtO C e r) := by
  cases a with
  | val d => exact .inl (congrArg _ h)
  | bor o =>
    refine .inr (congrArg _ ?_)
    cases o <;> simp [Ar.rd, Ob.toD, amtD, amtO] at h
    rename_i C2 fs
    obtain ⟨rfl, h1, h2⟩ := h
    match fs, h1, h2 with
    | [(f1, v1), (f2, v2)], h1, h2 =>
      simp at h1 h2
      obtain ⟨rfl, rfl⟩ := h1
      obtain ⟨rfl, rfl⟩ := h2
      rfl
def spAInit (C B : Addr) : DSp := fun args q x => ∃ de dn, args = [.bor (.ins C []), .val de, .val dn] ∧ Et de ∧ Vt dn ∧
  ((isE de = false ∧ x (numX B (.str "exponents") de) args) ∨ (isE de = true ∧ isRt dn = false ∧ x (numX B (.str "number") dn) [.bor (.ins C [("exponents", de)]), .val de, .val dn]) ∨
   (∃ es r, de = tupI es ∧ es ≠ [] ∧ Pass dn r ∧ q (.val .non) [.bor (amtO C es r), .val de, .val dn]))
def spAEq (C : Addr) : DSp := fun args q _ => ∃ a b e1 r1, args = [a, b] ∧ a.rd = amtD C e1 r1 ∧
  ((∃ e2 r2, b.rd = amtD C e2 r2 ∧ q (.val (.bl (decide (e1 = e2) && decide (r1 = r2)))) [.val a.rd, .val b.rd]) ∨ (∃ d n, b = .val d ∧ tyN d = some n ∧ (n = "tuple" ∨ n = "int") ∧ q (.val (.bl false)) [a, b]))
def spAlike (C U : Addr) : DSp := fun args q x => ∃ a b e1 r1 e2 r2 p, args = [a, b, .val p] ∧ a.rd = amtD C e1 r1 ∧ b.rd = amtD C e2 r2 ∧
  ((e1 = e2 ∧ q (.val .non) [.val a.rd, .val b.rd, .val p]) ∨ (e1 ≠ e2 ∧ x (unX U p (tupI e1) (tupI e2)) [.val a.rd, .val b.rd, .val p]))
def spA2 (C U : Addr) (f : Rat → Rat → Rat) : DSp := fun args q x => ∃ a b e1 r1 e2 r2, args = [a, b] ∧ a.rd = amtD C e1 r1 ∧ b.rd = amtD C e2 r2 ∧ e1 ≠ [] ∧ e1.length ≤ 1000 ∧ Sm r1 ∧ Sm r2 ∧
  ((e1 = e2 ∧ q (.own (amtO C e1 (f r1 r2))) [.val a.rd, .val b.rd]) ∨ (e1 ≠ e2 ∧ x (unX U (.int 0) (tupI e1) (tupI e2)) [.val a.rd, .val b.rd]))
def spANeg (C : Addr) : DSp := fun args q _ => ∃ a e r, args = [a] ∧ a.rd = amtD C e r ∧ e ≠ [] ∧ e.length ≤ 1000 ∧ Sm r ∧ q (.own (amtO C e (-r))) [.val a.rd]
def spAMul (C : Addr) : DSp := fun args q _ => ∃ a b e1 r1 e2 r2, args = [a, b] ∧ a.rd = amtD C e1 r1 ∧ b.rd = amtD C e2 r2 ∧ e1.length = e2.length ∧ e1 ≠ [] ∧ e1.length ≤ 1000 ∧ Sm r1 ∧ Sm r2 ∧
  q (.own (amtO C (List.zipWith (· + ·) e1 e2) (r1 * r2))) [.val a.rd, .val b.rd]
def spAOver (C Z : Addr) : DSp := fun args q x => ∃ a b e1 r1 e2 r2, args = [a, b] ∧ a.rd = amtD C e1 r1 ∧ b.rd = amtD C e2 r2 ∧ e1.length = e2.length ∧ e1 ≠ [] ∧ e1.length ≤ 1000 ∧ Sm r1 ∧ Sm r2 ∧
  ((r2 = 0 ∧ x (zeroX Z (.int 0)) [a, .val b.rd]) ∨ (r2 ≠ 0 ∧ q (.own (amtO C (List.zipWith (· - ·) e1 e2) (r1 / r2))) [.val a.rd, .val b.rd]))
def spAPow (C B Z : Addr) : DSp := fun args q x => ∃ a d e r, args = [a, .val d] ∧ a.rd = amtD C e r ∧ e ≠ [] ∧ e.length ≤ 1000 ∧ (∀ i ∈ e, i.natAbs < 2 ^ 1000) ∧
  ((∃ n, tyN d = some n ∧ isW d = false ∧ x (numX B (.str "power") d) [a, .val d]) ∨ (∃ n, d = .int n ∧ n < 0 ∧ r = 0 ∧ x (zeroX Z (.int 0)) [.val a.rd, .val d]) ∨
   (∃ n, d = .int n ∧ PwOk r n ∧ q (.own (amtO C (e.map (· * n)) (zp r n))) [.val a.rd, .val d]))
def spALess (C U : Addr) : DSp := fun args q x => ∃ a b e1 r1 e2 r2, args = [a, b] ∧ a.rd = amtD C e1 r1 ∧ b.rd = amtD C e2 r2 ∧ Sm r1 ∧ Sm r2 ∧
  ((e1 = e2 ∧ q (.val (.bl (ltR r1 r2))) [.val a.rd, .val b.rd]) ∨ (e1 ≠ e2 ∧ x (unX U (.int 0) (tupI e1) (tupI e2)) [.val a.rd, .val b.rd]))
def spBigL : DSp := fun args q _ => ∃ (o : Ob) (f k : Nat), args = [.bor o, .val (.int f)] ∧ PenOk (k + 12) o ∧ 1 ≤ f ∧ f ≤ 30 ∧ ∀ o' (z : Nat), PenOk k o' → z < 10 ^ f → q (.val (.int z)) [.bor o', .val (.int f)]
def spRatioL : DSp := fun args q _ => ∃ (o : Ob) (f k : Nat), args = [.bor o, .val (.int f)] ∧ PenOk (k + 20) o ∧ 1 ≤ f ∧ f ≤ 30 ∧ ∀ o' r, PenOk k o' → Rt f r → q (.val (ratD r)) [.bor o', .val (.int f)]
def spSomeNum : DSp := fun args q _ => ∃ (o : Ob) (k : Nat), args = [.bor o] ∧ PenOk (k + 80) o ∧ ∀ o' r, PenOk k o' → Rt 30 r → q (.val (ratD r)) [.bor o']
def spIsAmt (C : Addr) : DSp := fun args q _ => ∃ a e r, args = [a, .val (tupI e), .val (ratD r)] ∧ a.rd = amtD C e r ∧ q (.val (.bl true)) [.val a.rd, .val (tupI e), .val (ratD r)]
def spRight : DSp := fun args q _ => ∃ (o : Ob) (k : Nat) (e1 e2 : List Int) (r1 r2 : Rat), args = [.bor o, .val (.tup [tupI e1, ratD r1]), .val (.tup [tupI e2, ratD r2])] ∧ PenOk (k + 20) o ∧ e1.length = e2.length ∧ e1 ≠ [] ∧ e1.length ≤ 10 ∧
  (∀ i ∈ e1, i.natAbs ≤ 9) ∧ (∀ i ∈ e2, i.natAbs ≤ 9) ∧ Rt 30 r1 ∧ Rt 30 r2 ∧ ∀ o', PenOk k o' → q (.val (.bl true)) [.bor o', .val (.tup [tupI e1, ratD r1]), .val (.tup [tupI e2, ratD r2])]
/-! equality -/
theorem eqv_ints : ∀ a b : List Int, PyData.eqvAll (a.map .int) (b.map .int) = decide (a = b)
  | [], [] => by simp [PyData.eqvAll]
  | [], _ :: _ => by simp [PyData.eqvAll]
  | _ :: _, [] => by simp [PyData.eqvAll]
  | x :: a, y :: b => by
    have h := eqv_ints a b
    simp only [List.map_cons, PyData.eqvAll, h, eqv_int]
    rw [Bool.eq_iff_iff]
    simp
theorem eqv_tupI (a b : List Int) : PyData.eqv (.tuple (a.map .int)) (.tuple (b.map .int)) = decide (a = b) := by
  simp only [PyData.eqv]
  exact eqv_ints a b
theorem eqv_ratD (a b : Rat) : PyData.eqv (.tuple [.int a.num, .int a.den]) (.tuple [.int b.num, .int b.den]) = decide (a = b) := by
  have h := eqv_tupI [a.num, a.den] [b.num, b.den]
  simp only [List.map_cons, List.map_nil] at h
  rw [h, Bool.eq_iff_iff]
  simp only [decide_eq_true_eq, List.cons.injEq, and_true]
  constructor
  · rintro ⟨h1, h2⟩
    exact Rat.ext h1 (by omega)
  · rintro rfl
    exact ⟨rfl, rfl⟩
theorem toP_tupI (e : List Int) : toP (tupI e) = some (.tuple (e.map .int)) := by
  simp only [tupI, toP, toPs_int]
  rfl
theorem shaped_tupI (e : List Int) : SeqAt.shaped (.tuple (e.map .int)) = true := by
  obtain ⟨h1, h2⟩ := lay_int e
  simp [SeqAt.shaped, PyData.canLay0, PyData.depth, h1, h2]
theorem num0 {r : Rat} : decide (r.num = 0) = decide (r = 0) := by
  rw [Bool.eq_iff_iff]
  simp
/-! bounds -/
theorem num_small {z b : Int} {r : Rat} (e : r = Rat.divInt z b) (hb : 1 ≤ b) : r.num.natAbs ≤ z.natAbs ∧ (r.den : Int) ≤ b := by
  subst e
  have h1 := divInt_num_dvd z (D := b.toNat) (by omega)
  have h2 := divInt_den_dvd z (D := b.toNat) (by omega)
  rw [show ((b.toNat : Nat) : Int) = b by omega] at h1 h2
  refine ⟨?_, ?_⟩
  · by_cases hz : z = 0
    · subst hz
      simp
    · have := Int.natAbs_dvd_natAbs.mpr h1
      exact Nat.le_of_dvd (by omega) this
  · have := Nat.le_of_dvd (by omega) h2
    omega
theorem Rt.nd {f : Nat} {r : Rat} (h : Rt f r) : r.num.natAbs < 10 ^ f ∧ r.den ≤ 97 := by
  obtain ⟨z, b, e, b1, b2, hz⟩ := h
  obtain ⟨h1, h2⟩ := num_small e b1
  exact ⟨by omega, by omega⟩
theorem Rt.sm30 {r : Rat} (h : Rt 30 r) : Sm r := by
  obtain ⟨h1, h2⟩ := h.nd
  exact ⟨Nat.lt_of_lt_of_le h1 (by decide +kernel), Nat.lt_of_le_of_lt h2 (by decide +kernel)⟩
theorem Rt.up {f g : Nat} {r : Rat} (h : Rt f r) (hg : f ≤ g) : Rt g r := by
  obtain ⟨z, b, e, b1, b2, hz⟩ := h
  exact ⟨z, b, e, b1, b2, Nat.lt_of_lt_of_le hz (Nat.pow_le_pow_right (by decide) hg)⟩
theorem rt0 : Rt 30 0 := ⟨0, 1, by simp, by decide, by decide, by decide⟩
theorem Rt.pw {r : Rat} {n : Int} (h : Rt 30 r) (hn : n.natAbs ≤ 6) (hz : n < 0 → r ≠ 0) : PwOk r n := by
  obtain ⟨h1, h2⟩ := h.nd
  refine { s := h.sm30, b := by omega, z := hz, d := ?_, u := ?_ }
  · have e1 := Nat.pow_le_pow_left h2 n.natAbs
    have e2 := Nat.pow_le_pow_right (show 0 < 97 by decide) hn
    exact Nat.lt_of_le_of_lt (Nat.le_trans e1 e2) (by decide +kernel)
  · have e1 := Nat.pow_le_pow_left (Nat.le_of_lt h1) n.natAbs
    have e2 := Nat.pow_le_pow_right (show 0 < 10 ^ 30 by decide) hn
    exact Nat.lt_of_le_of_lt (Nat.le_trans e1 e2) (by decide +kernel)
theorem pass_sm {r : Rat} (h : r.den < 2 ^ 9000) : Pass (ratD r) r := pass_ratD h
theorem den_le {z : Int} {D : Nat} {r : Rat} (h0 : 0 < D) (e : Rat.divInt z D = r) (h : D < 2 ^ 9000) : r.den < 2 ^ 9000 := by
  subst e
  exact Nat.lt_of_le_of_lt (Nat.le_of_dvd h0 (divInt_den_dvd z h0)) h
theorem sm_dd {a b : Rat} (ha : Sm a) (hb : Sm b) : 0 < a.den * b.den ∧ a.den * b.den < 2 ^ 9000 := by
  refine ⟨Nat.mul_pos a.den_pos b.den_pos, ?_⟩
  have h := Nat.mul_le_mul (Nat.le_of_lt ha.2) (Nat.le_of_lt hb.2)
  rw [← Nat.pow_add] at h
  exact Nat.lt_of_le_of_lt h (Nat.pow_lt_pow_right (by decide) (by decide))
theorem Sm.add9 {a b : Rat} (ha : Sm a) (hb : Sm b) : (a + b).den < 2 ^ 9000 := by
  obtain ⟨h0, h1⟩ := sm_dd ha hb
  exact den_le h0 (by rw [Int.natCast_mul]; exact add_divInt a b) h1
theorem Sm.sub9 {a b : Rat} (ha : Sm a) (hb : Sm b) : (a - b).den < 2 ^ 9000 := by
  obtain ⟨h0, h1⟩ := sm_dd ha hb
  exact den_le h0 (by rw [Int.natCast_mul]; exact sub_divInt a b) h1
theorem Sm.mul9 {a b : Rat} (ha : Sm a) (hb : Sm b) : (a * b).den < 2 ^ 9000 := by
  obtain ⟨h0, h1⟩ := sm_dd ha hb
  exact den_le h0 (by rw [Int.natCast_mul]; exact mul_divInt a b) h1
theorem div_divInt (a b : Rat) : Rat.divInt (a.num * (b.den : Int)) ((a.den : Int) * b.num) = a / b := by
  rw [Rat.div_def, Rat.inv_def]
  conv => rhs; lhs; rw [← Rat.num_divInt_den a]
  rw [Rat.divInt_mul_divInt]
theorem sm_num9 {a b : Rat} (ha : Sm a) (hb : Sm b) (h : b ≠ 0) : (a.den : Int) * b.num ≠ 0 ∧ ((a.den : Int) * b.num).natAbs < 2 ^ 9000 := by
  have h1 := a.den_pos
  have h2 : b.num ≠ 0 := fun e => h (Rat.num_eq_zero.mp e)
  refine ⟨Int.mul_ne_zero (by omega) h2, ?_⟩
  rw [Int.natAbs_mul, Int.natAbs_natCast]
  have h := Nat.mul_le_mul (Nat.le_of_lt ha.2) (Nat.le_of_lt hb.1)
  rw [← Nat.pow_add] at h
  exact Nat.lt_of_le_of_lt h (Nat.pow_lt_pow_right (by decide) (by decide))
theorem divInt_den9 {z d : Int} {r : Rat} (h0 : d ≠ 0) (e : Rat.divInt z d = r) (h : d.natAbs < 2 ^ 9000) : r.den < 2 ^ 9000 := by
  by_cases hd : 0 < d
  · exact den_le (z := z) (D := d.natAbs) (by omega) (by rw [show ((d.natAbs : Nat) : Int) = d by omega]; exact e) h
  · refine den_le (z := -z) (D := d.natAbs) (by omega) ?_ h
    rw [show ((d.natAbs : Nat) : Int) = -d by omega, Rat.neg_divInt_neg]
    exact e
theorem Sm.div9 {a b : Rat} (ha : Sm a) (hb : Sm b) (h : b ≠ 0) : (a / b).den < 2 ^ 9000 := by
  obtain ⟨h0, h1⟩ := sm_num9 ha hb h
  exact divInt_den9 h0 (div_divInt a b) h1
/-- the power by both its parts -/
theorem zp_pos {r : Rat} {n : Int} (h : 0 ≤ n) : Rat.divInt (r.num ^ n.natAbs) ((r.den : Int) ^ n.natAbs) = zp r n := by
  unfold zp
  rw [if_pos h]
  have e1 := Rat.num_divInt_den (r ^ n.natAbs)
  rw [Rat.num_pow, Rat.den_pow, Int.natCast_pow] at e1
  exact e1
theorem zp_neg {r : Rat} {n : Int} (h : ¬ 0 ≤ n) : Rat.divInt ((r.den : Int) ^ n.natAbs) (r.num ^ n.natAbs) = zp r n := by
  unfold zp
  rw [if_neg h, Rat.inv_def, Rat.num_pow, Rat.den_pow, Int.natCast_pow]
theorem pow_ne {z : Int} (h : z ≠ 0) (n : Nat) : z ^ n ≠ 0 := Int.pow_ne_zero h
theorem PwOk.den9 {r : Rat} {n : Int} (h : PwOk r n) : (zp r n).den < 2 ^ 9000 := by
  by_cases hn : 0 ≤ n
  · have d0 : (r.den : Int) ≠ 0 := by have := r.den_pos; omega
    refine divInt_den9 (pow_ne d0 _) (zp_pos hn) ?_
    rw [Int.natAbs_pow, Int.natAbs_natCast]
    exact h.d
  · have h2 : r.num ≠ 0 := fun e => h.z (by omega) (Rat.num_eq_zero.mp e)
    refine divInt_den9 (pow_ne h2 _) (zp_neg hn) ?_
    rw [Int.natAbs_pow]
    exact h.u
theorem isE_tupI {e : List Int} (h : e ≠ []) : isE (tupI e) = true := by
  cases e with
  | nil => exact absurd rfl h
  | cons x e => simp [isE, tupI, isW]
theorem et_tupI {e : List Int} (h : e.length ≤ 1000) : Et (tupI e) := by
  refine ⟨⟨_, rfl⟩, fun ds hd => ?_⟩
  cases hd
  refine ⟨by simpa using h, fun t ht => ?_⟩
  obtain ⟨i, _, rfl⟩ := List.mem_map.mp ht
  exact ⟨_, rfl⟩
theorem vt_rat (r : Rat) : Vt (ratD r) := ⟨⟨_, rfl⟩, fun a b e => by cases e; exact ⟨⟨_, rfl⟩, ⟨_, rfl⟩⟩⟩
theorem zip_sub (a b : List Int) : (a.zip b).map (fun p => (D.int (p.1 - p.2))) = (List.zipWith (· - ·) a b).map .int := by
  rw [List.zip_eq_zipWith, List.map_zipWith, List.map_zipWith]
theorem kit_own {K : PySem.W.Frag} {C : Addr} : PySem.W.kitOne K (.ref C) (.ref C) = some true := if_pos (by simp)
theorem zw_ne {f : Int → Int → Int} {a b : List Int} (hl : a.length = b.length) (h : a ≠ []) : List.zipWith f a b ≠ [] := by
  cases a with
  | nil => exact absurd rfl h
  | cons x a =>
    cases b with
    | nil => simp at hl
    | cons y b => simp
/-- data whose text is told -/
structure Shn (d : D) (p : PyData) : Prop where
  t : toP d = some p
  s : p.showable = true
  d : p.depth ≤ 60
  l : p.shown.length ≤ sizeLine
theorem grepr {d : D} {p : PyData} {q : R → Prop} (s : Shn d p) (h : q (.val (.str p.shown))) : gRepr d q := ⟨p, s.t, s.s, s.d, s.l, h⟩
theorem shn_bl (b : Bool) : Shn (.bl b) (.bool b) := ⟨rfl, by cases b <;> decide +kernel, by cases b <;> decide +kernel, by cases b <;> decide +kernel⟩
/-- equal data is equal -/
structure Slf (d : D) (p : PyData) : Prop where
  t : toP d = some p
  s : SeqAt.shaped p = true
  e : PyData.eqv p p = true
/-! values of the menus -/
def tyB (d : D) : Bool := (tyN d).isSome
theorem ty_of {d : D} (h : tyB d = true) : ∃ n, tyN d = some n := Option.isSome_iff_exists.mp h
def etB (d : D) : Bool := tyB d && match d with
  | .tup ds => decide (ds.length ≤ 1000) && ds.all tyB
  | _ => true
theorem et_of {d : D} (h : etB d = true) : Et d := by
  simp only [etB, Bool.and_eq_true] at h
  refine ⟨ty_of h.1, fun ds e => ?_⟩
  subst e
  have h2 := h.2
  simp only [Bool.and_eq_true, decide_eq_true_eq, List.all_eq_true] at h2
  exact ⟨h2.1, fun t ht => ty_of (h2.2 t ht)⟩
def vtB (d : D) : Bool := tyB d && match d with
  | .tup ds => ds.all tyB
  | _ => true
theorem vt_of {d : D} (h : vtB d = true) : Vt d := by
  simp only [vtB, Bool.and_eq_true] at h
  refine ⟨ty_of h.1, fun a b e => ?_⟩
  subst e
  have h2 := h.2
  simp only [List.all_eq_true] at h2
  exact ⟨ty_of (h2 a (by simp)), ty_of (h2 b (by simp))⟩
/-- data whose text is told, by a look -/
structure Txd (d : D) (p : PyData) : Prop where
  s : Shn d p
  o : PyData.strOk p.shown = true
theorem txd_of {d : D} {p : PyData} (h1 : toP d = some p) (h2 : (p.showable && decide (p.depth ≤ 60) && decide (p.shown.length ≤ sizeLine) && PyData.strOk p.shown) = true) : Txd d p := by
  simp only [Bool.and_eq_true, decide_eq_true_eq] at h2
  exact ⟨⟨h1, h2.1.1.1, h2.1.1.2, h2.1.2⟩, h2.2⟩
def OddE (d : D) : Prop := Et d ∧ isE d = false ∧ ∃ p, Txd d p
def MoreN (d : D) : Prop := Vt d ∧ isRt d = false ∧ ∃ p, Txd d p
def WrongP (d : D) : Prop := (∃ n, tyN d = some n) ∧ isW d = false ∧ ∃ p, Txd d p
theorem odd_all : ∀ d ∈ ([.non, .int 3, .tup [], .lst [.int 1], .tup [.str "1", .int 2], .tup [.bl true], .tup [.tup [.int 1, .int 1]], .str "1"] : List D), OddE d := fun d hd => by
  simp only [List.mem_cons, List.not_mem_nil, or_false] at hd
  rcases hd with rfl | rfl | rfl | rfl | rfl | rfl | rfl | rfl
  all_goals exact ⟨et_of rfl, rfl, _, txd_of rfl (by decide +kernel)⟩
theorem more_all : ∀ d ∈ ([.non, .str "1", .tup [.int 1, .int 0], .tup [.int 1, .int (-2)], .lst [.int 1, .int 2], .bl true, .tup [.int 1, .int 2, .int 3]] : List D), MoreN d := fun d hd => by
  simp only [List.mem_cons, List.not_mem_nil, or_false] at hd
  rcases hd with rfl | rfl | rfl | rfl | rfl | rfl | rfl
  all_goals exact ⟨vt_of rfl, rfl, _, txd_of rfl (by decide +kernel)⟩
theorem wrong_all : ∀ d ∈ ([.non, .tup [.int 1, .int 1], .str "2", .bl true, .lst [.int 1]] : List D), WrongP d := fun d hd => by
  simp only [List.mem_cons, List.not_mem_nil, or_false] at hd
  rcases hd with rfl | rfl | rfl | rfl | rfl
  all_goals exact ⟨⟨_, rfl⟩, rfl, _, txd_of rfl (by decide +kernel)⟩
theorem slf_err {a b s : Str} (ha : PyData.strOk a = true) (hb : PyData.strOk b = true) (hs : PyData.strOk s = true) : Slf (.tup [.str a, .str b, .str s]) (.tuple [.str a, .str b, .str s]) :=
  ⟨rfl, by simp [SeqAt.shaped, PyData.canLay0, PyData.canLayAll0, PyData.depth, PyData.depthAll, ha, hb, hs], by simp [PyData.eqv, PyData.eqvAll]⟩
theorem slf_zero : Slf (.tup [.str "zero", .int 0]) (.tuple [.str "zero", .int 0]) := ⟨rfl, by decide +kernel, by decide +kernel⟩
theorem slf_str {s : Str} (hs : PyData.strOk s = true) : Slf (.str s) (.str s) := ⟨rfl, shaped_str hs, by simp [PyData.eqv]⟩
/-- what an error about unlike exponents is made of -/
def unlT (e1 e2 : List Int) : D := .tup [.str "unlike", .int 0, tupI e1, tupI e2]
def unlP (e1 e2 : List Int) : PyData := .tuple [.str "unlike", .int 0, .tuple (e1.map .int), .tuple (e2.map .int)]
theorem toP_unl (e1 e2 : List Int) : toP (unlT e1 e2) = some (unlP e1 e2) := by
  simp only [unlT, unlP, toP, toPs, toP_tupI]
  rfl
theorem slf_unl (e1 e2 : List Int) : Slf (.lst [unlT e1 e2, unlT e1 e2, unlT e1 e2]) (.list [unlP e1 e2, unlP e1 e2, unlP e1 e2]) := by
  obtain ⟨h1, h2⟩ := lay_int e1
  obtain ⟨h3, h4⟩ := lay_int e2
  have so : PyData.strOk "unlike" = true := by decide +kernel
  have ee := eqv_ints e1 e1
  have ee2 := eqv_ints e2 e2
  rw [decide_eq_true rfl] at ee ee2
  refine ⟨?_, ?_, ?_⟩
  · simp only [toP, toPs, toP_unl]
    rfl
  · simp [SeqAt.shaped, unlP, PyData.canLay0, PyData.canLayAll0, PyData.depth, PyData.depthAll, h1, h2, h3, h4, so]
  · simp [unlP, PyData.eqv, PyData.eqvAll, ee, ee2]
theorem pass0 : Pass (.int 0) 0 := by
  have := Pass.int 0
  simpa using this
theorem zeros (e : List Int) : (.tup (List.replicate e.length [(.int 0 : D)]).flatten : D) = tupI (e.map (· * (0 : Int))) := by
  unfold tupI
  congr 1
  induction e with
  | nil => rfl
  | cons x e ih =>
    simp only [List.length_cons, List.replicate_succ, List.flatten_cons, List.map_cons, Int.mul_zero] at ih ⊢
    rw [ih]
    rfl
theorem zp00 : zp 0 0 = 1 := by decide +kernel
theorem pw00 : PwOk 0 0 := ⟨sm0, by decide, by decide, by decide +kernel, by decide +kernel⟩
theorem len0 : ([] : List D).length ≤ sizeLine := Nat.zero_le _
theorem big9 {i : Int} (h : i.natAbs ≤ 9) : i.natAbs < 2 ^ 1000 := Nat.lt_of_le_of_lt h (by decide +kernel)
theorem id_slf {d : D} {p : PyData} (s : Slf d p) {A B : Prop} (h : A) : if (id (PyData.eqv p p)) = true then A else B := by
  rw [s.e]
  exact h
theorem not_slf {d : D} {p : PyData} (s : Slf d p) {A B : Prop} (h : B) : if (not (PyData.eqv p p)) = true then A else B := by
  rw [s.e]
  exact h
theorem slf_tupI (e : List Int) : Slf (tupI e) (.tuple (e.map .int)) := ⟨toP_tupI e, shaped_tupI e, by rw [eqv_tupI]; exact decide_eq_true rfl⟩
theorem slf_rat (r : Rat) : Slf (ratD r) (.tuple [.int r.num, .int r.den]) := ⟨rfl, rfl, by rw [eqv_ratD]; exact decide_eq_true rfl⟩
theorem eqv_bool (a b : Bool) : PyData.eqv (.bool a) (.bool b) = (a == b) := by cases a <;> cases b <;> rfl
theorem grepr_bl {b : Bool} {q : R → Prop} (h : q (.val (.str (PyData.bool b).shown))) : gRepr (.bl b) q := grepr (shn_bl b) h
theorem txd_bl (b : Bool) : PyData.strOk (PyData.bool b).shown = true := by cases b <;> decide +kernel
theorem less_nm : ("less" : Str) ∉ (["exponents", "number"] : List Str) := by decide
theorem power_nm : ("power" : Str) ∉ (["exponents", "number"] : List Str) := by decide
theorem over_nm : ("over" : Str) ∉ (["exponents", "number"] : List Str) := by decide
end DL

end Qa
section Dq
set_option Elab.async false
set_option linter.all false
set_option maxRecDepth 100000
set_option maxHeartbeats 4000000
/-! Dq: min, in (of a list of data), name op= value. -/
namespace DL
open PySem PySem.Spec PyProof.Rows L2
variable [TabEnv]
theorem Cal.hu100 {X : Cx} {W : WX} {k : Nat} (c : Cal X W k) : X.A.units + 100 < cLine := by
  have := c.room.un
  omega
/-- min of a list of ints -/
def gMin (d : D) (q : R → Prop) : Prop := match d with
  | .lst ds => ∃ ns : List Int, ds = ns.map .int ∧ ns ≠ [] ∧ ∀ m ∈ ns, (∀ y ∈ ns, m ≤ y) → q (.val (.int m))
  | _ => False
theorem cMin {X : Cx} (hc : X.calm = true) : CallD X (.builtin "min") (g1 gMin) := CallD.of1 (cr_min hc) fun T H σ d v Q q g hv hg k => by
  cases d <;> first | exact hg.elim | skip
  obtain ⟨ns, rfl, hn, hq⟩ := hg
  obtain ⟨a, ys, rfl, s, r⟩ := hv.lst
  rw [rep_ints r] at s
  exact ⟨a, ns, rfl, SqL.of s, List.length_pos_iff.mpr hn, fun m hm hy => k T H _ _ (Gr.refl g) rep_int (hq m hm hy)⟩
/-- x in a list of data -/
def gInL (f : Bool → Bool) (a b : D) (q : R → Prop) : Prop := ∃ pa ds, toP a = some pa ∧ toP b = some (.list ds) ∧ SeqAt.shaped pa = true ∧ SeqAt.shaped (.list ds) = true ∧ q (.val (.bl (f (ds.any fun z => PyData.eqv z pa))))
theorem oInL {X : Cx} (hu : X.A.units + 100 < cLine) : OpD X (compareOp .In) (gInL id) := by
  refine ⟨_, op_inD (by omega), fun T H σ da db va vb Q q g ha hb h k => ?_⟩
  obtain ⟨pa, ds, e1, e2, s1, s2, h⟩ := h
  exact ⟨pa, ds, Dp.of _ _ _ ha e1, Dp.of _ _ _ hb e2, s1, s2, k T H _ _ (Gr.refl g) rep_bl h⟩
theorem oNotInL {X : Cx} (hu : X.A.units + 100 < cLine) : OpD X (compareOp .NotIn) (gInL not) := by
  refine ⟨_, op_notInD (by omega), fun T H σ da db va vb Q q g ha hb h k => ?_⟩
  obtain ⟨pa, ds, e1, e2, s1, s2, h⟩ := h
  exact ⟨pa, ds, Dp.of _ _ _ ha e1, Dp.of _ _ _ hb e2, s1, s2, k T H _ _ (Gr.refl g) rep_bl h⟩
/-- n >> 1 -/
def gHalf (a b : D) (q : R → Prop) : Prop := match a, b with
  | .int i, .int j => j = 1 ∧ q (.val (.int (i / 2)))
  | _, _ => False
theorem oHalfA {X : Cx} : OpD X (inplaceOp .RShift) gHalf := by
  refine ⟨_, iop_halfI, fun T H σ da db va vb Q q g ha hb h k => ?_⟩
  cases da <;> cases db <;> first | exact h.elim | skip
  cases ha.int
  cases hb.int
  obtain ⟨rfl, h⟩ := h
  exact ⟨_, rfl, rfl, k T H _ _ (Gr.refl g) rep_int h⟩
/-- name op= value: the name holds plain data -/
def wAug (i : Nat) (g : D → D → (R → Prop) → Prop) (w : WE) : WS := fun env P => match env[i]? with
  | some (.val d) => w env (fun r e => vw r e fun b => g d b fun z => bnd i z e P.nx) P.ex
  | _ => False
section
variable {X : Cx} {W : WX} {pos pos' : Pos} {e : Expr} {we : WE}
theorem daug {i : Nat} {x : Str} {op : Operator} {g : D → D → (R → Prop) → Prop} (ho : OpD X (inplaceOp op) g) (hN : X.N.Nodup) (he : DE X W e we) (hi : X.N[i]? = some x := by rfl) (hx : Loc X.env.scope x := by first | exact Or.inl rfl | exact Or.inr rfl)
    (hf : X.fn x = true ∨ X.env.scope.names.lookup x = some .local := by first | exact .inl rfl | exact .inr rfl | assumption) : DS X W (.AugAssign (.Name x pos') op e pos) (wAug i g we) := by
  obtain ⟨r, h1, h2⟩ := ho
  refine PS.le (ps_aug (ti := r) hN hi hx he (fun pins s σ H x y v u Q I rx ry q => h1 pins s σ H x y v u Q I rx ry q) hf) fun F σ H h => ?_
  obtain ⟨T, env, P, E, q, k⟩ := h
  unfold wAug at q
  split at q
  · rename_i d hd
    obtain ⟨v, e1, rv⟩ := E.ok i _ hd
    refine ⟨v, e1, T, env, _, _, E, q, fun T1 H1 env1 rb vb a1 r1 q1 => ?_, k.ex⟩
    obtain ⟨db, hv, g1⟩ := vw_view a1.ev r1 q1
    refine h2 T1 H1 σ d db v vb _ _ a1.ev.good (View.of (RepV.mono a1.fr.le d v rv)) hv g1 fun T2 H2 res z gr rr q2 => ?_
    have a2 := a1.grow gr
    obtain ⟨T3, e3, a3, q3, _, _⟩ := bnd_ok (T0 := T) (H0 := H) a2 (rr.pre a1.fr) q2
    exact k.nx T3 H2 e3 _ a3 q3
  · exact q.elim
end
end DL

end Dq
section Db1
set_option Elab.async false
set_option linter.all false
set_option maxRecDepth 100000
set_option maxHeartbeats 4000000
/-! Db1: range(i, j, -1). -/
namespace DL
open PySem PySem.Spec PyProof.Rows L2
variable [TabEnv]
section
variable {X : Cx} {W : WX} {pos p : Pos} {tg a b c : Expr} {u : WA}
def rngD (lo : Int) (n : Nat) : List D := (List.range n).map fun (i : Nat) => .int (lo + (i : Int) * (-1))
def wRng3 (u : WA) : WI := fun env q x => u env (fun rs e => vws rs e fun ds => match ds with | [.int i, .int j, .int k] => k = -1 ∧ (-(2 ^ 62) ≤ i ∧ i < 2 ^ 62 ∧ -(2 ^ 62) ≤ j ∧ j < 2 ^ 62) ∧ q (rngD i (i - j).toNat) [] (fun _ => True) e | _ => False) x
theorem it_rngD {K : PySem.W.Frag} {T : TM} {H : Hp} {env : Ev} {σ : L2.St} {lo : Int} {n : Nat} {gd : Ev → Prop} : ItOk K T H env σ (Itc lo (-1) n) (rngD lo n) [] gd := by
  intro T' H' env' σ' f E c g i
  refine ⟨fun hi => ?_, fun d e => ?_⟩
  · show n ≤ i
    simpa [rngD] using hi
  · unfold rngD at e
    rw [List.getElem?_map, Option.map_eq_some_iff] at e
    obtain ⟨j, e, rfl⟩ := e
    have hj : i < n ∧ j = i := by
      have := List.getElem?_eq_some_iff.mp e
      obtain ⟨h, h2⟩ := this
      simp at h h2
      exact ⟨h, h2.symm⟩
    obtain ⟨hi, rfl⟩ := hj
    refine ⟨hi, fun x H2 y => ?_⟩
    obtain ⟨rfl, rfl⟩ := y
    exact ⟨T', Gr.refl E.good, by simp [RepV]⟩
theorem drng3 (hm : X.mg "range" = none) (ha : DA X W [a, b, c] u) (hg : Gl X "range" := by rfl) (hs : starEach [a, b, c] X.env = (false, eval a X.env) :: starEach [b, c] X.env := by rfl) (hpl : (backTo pos (starEach [b, c] X.env)).any (·.1) = false := by rfl) :
    PI X tg (.Call (.Name "range" p) [a, b, c] [] pos) (LI X.K W (wRng3 u)) := by
  refine PI.le (pi_range3 hg hm ha hs hpl) fun σ H R h => ?_
  obtain ⟨T, env, q, x, E, w1, k, xk⟩ := h
  refine ⟨T, env, _, x, E, w1, fun T1 H1 e1 rs vs a1 r1 nd q1 => ?_, xk⟩
  obtain ⟨ds, hv, q2⟩ := vws_view a1.ev r1 q1
  match ds, hv, q2 with
  | [.int i, .int j, .int l], hv, q2 =>
    cases hv with
    | cons hv1 hvr =>
      obtain ⟨v2, v3, rfl, hv2, hv3⟩ := hvr.two
      cases hv1.int
      cases hv2.int
      cases hv3.int
      obtain ⟨rfl, ⟨b1, b2, b3, b4⟩, q2⟩ := q2
      exact ⟨i, j, -1, (i - j).toNat, rfl, .neg b1 b2 b3 b4, k T1 H1 e1 _ _ [] _ a1 it_rngD q2⟩
end
/-- the rest of a falling range -/
theorem rngD_get (lo : Int) (n i : Nat) (h : i < n) : (rngD lo n)[i]? = some (.int (lo + (i : Int) * (-1))) := by
  unfold rngD
  rw [List.getElem?_map, List.getElem?_range h]
  rfl
theorem rngD_len (lo : Int) (n : Nat) : (rngD lo n).length = n := by simp [rngD]
/-- i in a tuple of integers -/
def gInT (f : Bool → Bool) (a b : D) (q : R → Prop) : Prop := ∃ (i : Int) (ns : List Int), a = .int i ∧ b = .tup (ns.map .int) ∧ q (.val (.bl (f (inV (.int i) (ns.map V.int)))))
theorem oNotInT {X : Cx} : OpD X (compareOp .NotIn) (gInT not) := by
  refine ⟨_, op_notIn_seq, fun T H σ da db va vb Q q g ha hb h k => ?_⟩
  obtain ⟨i, ns, rfl, rfl, h⟩ := h
  cases ha.int
  obtain ⟨a, ys, rfl, s, r⟩ := hb.tup
  rw [rep_ints r] at s
  exact ⟨a, _, rfl, .inr (SqT.of s.2), rfl, by simp [flatV], k T H _ _ (Gr.refl g) rep_bl h⟩
end DL

end Db1
section Qn
set_option Elab.async false
set_option linter.all false
set_option maxRecDepth 100000
set_option maxHeartbeats 4000000
set_option exponentiation.threshold 100000
/-! Qn: whole roots, the least root. -/
namespace DL
open PySem
variable [TabEnv]
/-! roots -/
inductive WRt (N k : Nat) : D → Prop
  | some (r : Nat) (h : r ^ k = N) : WRt N k (.int r)
  | none (h : ∀ r : Nat, r ^ k ≠ N) : WRt N k .non
inductive ExR (a b k : Nat) : D → Prop
  | some (c d : Nat) (h1 : c ^ k = a) (h2 : d ^ k = b) : ExR a b k (.tup [.int c, .int d])
  | none (h : ∀ c d : Nat, c ^ k = a → d ^ k ≠ b) : ExR a b k .non
/-- the least root: no greater divisor of k has roots -/
structure LRt (a b k by_ c d : Nat) : Prop where
  b0 : 0 < by_
  dv : by_ ∣ k
  h1 : c ^ by_ = a
  h2 : d ^ by_ = b
  last : ∀ j, by_ < j → j ∣ k → ∀ c d : Nat, c ^ j = a → d ^ j ≠ b
def BB : Nat := 2 ^ 6000
def spPowerB : DSp := fun args q _ => ∃ x n : Nat, args = [.val (.int x), .val (.int n)] ∧ n ≤ 100 ∧ x < 2 ^ 12000 ∧ q (.val (.int (x ^ n : Nat))) args
def spWRoot : DSp := fun args q _ => ∃ N k : Nat, args = [.val (.int N), .val (.int k)] ∧ 1 ≤ k ∧ k ≤ 60 ∧ N < BB ∧ ∀ d, WRt N k d → q (.val d) args
def spExR : DSp := fun args q _ => ∃ a b k : Nat, args = [.val (.tup [.int a, .int b]), .val (.int k)] ∧ 1 ≤ k ∧ k ≤ 60 ∧ a < BB ∧ b < BB ∧ ∀ d, ExR a b k d → q (.val d) args
def spLeastP : DSp := fun args q _ => ∃ (s : Int) (a b k : Nat), args = [.val (.int s), .val (.int k), .val (.tup [.int a, .int b])] ∧ 1 ≤ k ∧ k ≤ 60 ∧ a < BB ∧ b < BB ∧
  ∀ m c d : Nat, LRt a b k m c d → q (.val (.tup [.int s, .int (k / m : Nat), .tup [.int c, .int d]])) args
theorem root_one {N k : Nat} (hk : 1 ≤ k) (h : N < 2 ∨ k = 1) : N ^ k = N := by
  rcases h with h | rfl
  · have : N = 0 ∨ N = 1 := by omega
    rcases this with rfl | rfl
    · exact Nat.zero_pow hk
    · exact Nat.one_pow k
  · exact Nat.pow_one N
theorem root_none {N k lo hi : Nat} (h1 : lo ^ k < N) (h2 : N < hi ^ k) (h3 : hi ≤ lo + 1) : ∀ r : Nat, r ^ k ≠ N := fun r e => by
  by_cases hr : r ≤ lo
  · have := Nat.pow_le_pow_left hr k
    omega
  · have := Nat.pow_le_pow_left (show hi ≤ r by omega) k
    omega
theorem lo_le {N k lo : Nat} (hk : 1 ≤ k) (h : lo ^ k ≤ N) (h0 : 1 ≤ lo) : lo ≤ N := by
  have : lo ^ 1 ≤ lo ^ k := Nat.pow_le_pow_right h0 hk
  rw [Nat.pow_one] at this
  omega
/-- a root of the least root is none -/
theorem LRt.no {a b k m c d p : Nat} (h : LRt a b k m c d) (hp : 1 < p) (dv : p ∣ k / m) : ∀ e f : Nat, e ^ p = c → f ^ p ≠ d := fun e f h1 h2 => by
  have b0 := h.b0
  have : m * p ∣ k := by
    obtain ⟨j, e⟩ := dv
    obtain ⟨i, rfl⟩ := h.dv
    rw [Nat.mul_div_cancel_left _ b0] at e
    subst e
    exact ⟨j, (Nat.mul_assoc m p j).symm⟩
  have lt : m < m * p := by
    have : m * 1 < m * p := Nat.mul_lt_mul_of_pos_left hp b0
    omega
  refine h.last (m * p) lt this e f ?_ ?_
  · rw [Nat.mul_comm, Nat.pow_mul, h1]
    exact h.h1
  · rw [Nat.mul_comm, Nat.pow_mul, h2]
    exact h.h2
def spPowerC : DSp := fun args q _ => ∃ x n : Int, args = [.val (.int x), .val (.int n)] ∧ 0 ≤ n ∧ n ≤ 1000 ∧ x.natAbs < 2 ^ 12000 ∧ q (.val (.int (x ^ n.toNat))) args
def trip (s : Int) (k c d : Nat) : D := .tup [.int s, .int k, .tup [.int c, .int d]]
/-- what is no sign -/
def badS (d : D) : Prop := (∃ m, tyN d = some m) ∧ (isW d = false ∨ ∃ i, d = .int i ∧ i ≠ 1 ∧ i ≠ 0 ∧ i ≠ -1)
def badK (d : D) : Prop := (∃ m, tyN d = some m) ∧ (isW d = false ∨ ∃ i, d = .int i ∧ ¬(1 ≤ i ∧ i ≤ 60))
def badR (i : Int) (d : D) : Prop := (Vt d ∧ isRt d = false) ∨ ∃ r, Pass d r ∧ (r.num < 0 ∨ decide (r.num = 0) ≠ decide (i = 0))
def spPValue (B : Addr) : DSp := fun args q x => ∃ s k d : D, args = [.val s, .val k, .val d] ∧
  ((badS s ∧ x (numX B (.str "sign") s) args) ∨
   (∃ i : Int, s = .int i ∧ (i = 1 ∨ i = 0 ∨ i = -1) ∧
    ((badK k ∧ x (numX B (.str "root") k) args) ∨
     (∃ j : Nat, k = .int j ∧ 1 ≤ j ∧ j ≤ 60 ∧
      ((badR i d ∧ x (numX B (.str "ratio") d) args) ∨
       (i = 0 ∧ Pass d 0 ∧ q (.val (trip 0 1 0 1)) args) ∨
       (i ≠ 0 ∧ ∃ r : Rat, Pass d r ∧ 0 < r.num ∧ r.num.natAbs < BB ∧ r.den < BB ∧ ∀ m c e, LRt r.num.natAbs r.den j m c e → q (.val (trip i (j / m) c e)) args))))))
/-- a ratio above 0 and its power, as they are drawn: sizes -/
structure PPr (r e : Rat) : Prop where
  pos : 0 < r.num
  dv : e.den ∣ 60
  small : ∀ k, e.den ∣ k → k ∣ 60 → r.num.natAbs ^ (e.num * (k / e.den : Nat)).natAbs ≤ 40 ^ 240 ∧ r.den ^ (e.num * (k / e.den : Nat)).natAbs ≤ 40 ^ 240
  sm : r.num.natAbs ≤ 40 ^ 24 ∧ r.den ≤ 40 ^ 24
  eb : e.num.natAbs ≤ 2
/-- the product of powers, to the root k -/
def prodQ (k : Nat) : List (Rat × Rat) → Rat
  | [] => 1
  | p :: l => prodQ k l * zp p.1 (p.2.num * (k / p.2.den : Nat))
def lcmQ (l : List (Rat × Rat)) : Nat := l.foldl (fun k p => Nat.lcm k p.2.den) 1
def spProdOf : DSp := fun args q _ => ∃ (l : List (Rat × Rat)), args = [.val (.lst (l.map fun p => ratD p.1)), .bor (.lst (l.map fun p => ratD p.2))] ∧ l.length ≤ 4 ∧ (∀ p ∈ l, PPr p.1 p.2) ∧
  ∀ k f m c e, k = lcmQ l → f = prodQ k l.reverse → LRt f.num.natAbs f.den k m c e → q (.val (trip 1 (k / m) c e)) [.val (.lst (l.map fun p => ratD p.1)), .val (.lst (l.map fun p => ratD p.2))]
/-- a pair as it may be passed -/
inductive PassP : D → Rat × Rat → Prop
  | mk {a b : D} {r e : Rat} (h1 : Pass a r) (h2 : Pass b e) (h3 : 0 < r.num) (h4 : e.den ≤ 60) : PassP (.tup [a, b]) (r, e)
inductive BadP : D → Prop
  | ty {d : D} {m : String} (h : tyN d = some m) (hm : ∀ ds, d ≠ .tup ds) : BadP d
  | len {ds : List D} (h : ds.length ≠ 2) (hl : ds.length ≤ 1000) : BadP (.tup ds)
  | one {a b : D} (h : Vt a) (hr : isRt a = false) : BadP (.tup [a, b])
  | two {a b : D} (h : isRt a = true) (hv : Vt a) (h2 : Vt b) (hr : isRt b = false) : BadP (.tup [a, b])
  | neg {a b : D} {r e : Rat} (h1 : Pass a r) (h2 : Pass b e) (h3 : r.num ≤ 0 ∨ 60 < e.den) : BadP (.tup [a, b])
def spIsPP : DSp := fun args q _ => ∃ d, args = [.val d] ∧ ((∃ p, PassP d p ∧ q (.val (.bl true)) args) ∨ (BadP d ∧ q (.val (.bl false)) args))
def spPProd (B : Addr) : DSp := fun args q x => ∃ (d : D) (ds : List D), args = [.val d] ∧ (d = .lst ds ∨ d = .tup ds) ∧
  ((∃ ds1 w ds2 l, ds = ds1 ++ w :: ds2 ∧ Rows2 PassP ds1 l ∧ BadP w ∧ x (numX B (.str "pair") w) args) ∨
   (∃ l : List (Rat × Rat), Rows2 PassP ds l ∧ l.length ≤ 4 ∧ (∀ p ∈ l, PPr p.1 p.2) ∧ ∀ k f m c e, k = lcmQ l → f = prodQ k l.reverse → LRt f.num.natAbs f.den k m c e → q (.val (trip 1 (k / m) c e)) args))
/-! the law's own -/
def spWholeP : DSp := fun args q _ => ∃ x k : Nat, args = [.val (.int x), .val (.int k)] ∧ k ≤ 100 ∧ x < 2 ^ 6010 ∧ q (.val (.int (x ^ k : Nat))) args
def spIsPow : DSp := fun args q _ => ∃ N k : Nat, args = [.val (.int N), .val (.int k)] ∧ 1 ≤ k ∧ k ≤ 60 ∧ 1 ≤ N ∧ N < BB ∧ ∀ b : Bool, (b = true ↔ ∃ r : Nat, r ^ k = N) → q (.val (.bl b)) args
/-- a triple that is told rightly -/
structure TrOk (s : Int) (k c d : Nat) : Prop where
  k1 : 1 ≤ k
  kb : k ≤ 60
  c1 : 1 ≤ c
  d1 : 1 ≤ d
  cb : c < BB
  db : d < BB
  co : Nat.gcd c d = 1
  no : ∀ p, 1 < p → p ∣ k → ∀ e f : Nat, e ^ p = c → f ^ p ≠ d
def spLeastL : DSp := fun args q _ => ∃ (s : Int) (k c d : Nat), args = [.val (trip s k c d)] ∧ TrOk s k c d ∧ q (.val (.bl true)) args
def spIsTrip : DSp := fun args q _ => ∃ (s : Int) (k c d : Nat), args = [.val (trip s k c d), .val (.int s)] ∧ s ≠ 0 ∧ TrOk s k c d ∧ q (.val (.bl true)) args
def spLWhole : DSp := fun args q _ => ∃ d n, args = [.val d] ∧ tyN d = some n ∧ q (.val (.bl (isW d))) args
def spLIsR : DSp := fun args q _ => ∃ c d : Nat, args = [.val (.tup [.int c, .int d])] ∧ 1 ≤ d ∧ d < BB ∧ Nat.gcd c d = 1 ∧ q (.val (.bl true)) args
/-- a power worked out by the law -/
def spLPow : DSp := fun args q _ => ∃ (r : Rat) (n : Int), args = [.val (ratD r), .val (.int n)] ∧ n.natAbs ≤ 240 ∧ (n < 0 → r ≠ 0) ∧ r.num.natAbs < 2 ^ 6000 ∧ r.den < 2 ^ 6000 ∧ (n < 0 → r.num.natAbs ^ n.natAbs < 2 ^ 9000) ∧ q (.val (ratD (zp r n))) args
def spValueR : DSp := fun args q _ => ∃ (o : Ob) (k : Nat), args = [.bor o] ∧ PenOk (k + 100) o ∧ ∀ o', PenOk k o' → q (.val (.bl true)) [.bor o']
def spProductR : DSp := fun args q _ => ∃ (o : Ob) (k : Nat), args = [.bor o] ∧ PenOk (k + 100) o ∧ ∀ o', PenOk k o' → q (.val (.bl true)) [.bor o']
def spRefused : DSp := fun args q _ => ∃ (kd : Int) (a : Ar) (v n : D) (w : Str) (p : PyData), args = [.val (.int kd), a] ∧ (a = .val v ∨ ∃ ds, v = .lst ds ∧ a = .bor (.lst ds)) ∧ Shn n p ∧
  ((kd = 0 ∧ ∃ s k d, v = .tup [s, k, d] ∧ ((badS s ∧ w = "sign" ∧ n = s) ∨ (∃ i : Int, s = .int i ∧ (i = 1 ∨ i = 0 ∨ i = -1) ∧ ((badK k ∧ w = "root" ∧ n = k) ∨ (∃ j : Nat, k = .int j ∧ 1 ≤ j ∧ j ≤ 60 ∧ badR i d ∧ w = "ratio" ∧ n = d))))) ∨
   (kd = 1 ∧ ∃ ds1 w1 ds2 l, v = .lst (ds1 ++ w1 :: ds2) ∧ Rows2 PassP ds1 l ∧ BadP w1 ∧ w = "pair" ∧ n = w1)) ∧
  q (.val (.tup [.str w, .str p.shown])) [.val (.int kd), .val v]
theorem inV3 (i : Int) : L2.inV (.int i) (([1, 0, -1] : List Int).map L2.V.int) = decide (i = 1 ∨ i = 0 ∨ i = -1) := by
  rw [Bool.eq_iff_iff, decide_eq_true_iff]
  simp only [L2.inV, List.map_cons, List.map_nil, List.any_cons, List.any_nil, L2.eqV, Bool.or_false, Bool.or_eq_true, decide_eq_true_eq, beq_iff_eq]
  omega
theorem eqv_bl (a b : Bool) : PyData.eqv (.bool a) (.bool b) = (a == b) := by cases a <;> cases b <;> decide +kernel
/-! sizes of products -/
def Nd (M : Nat) (r : Rat) : Prop := r.num.natAbs ≤ M ∧ r.den ≤ M
theorem num_pos {r : Rat} : 0 < r.num ↔ 0 < r := by
  rw [Rat.lt_iff]
  simp
theorem nd_div {z : Int} {D M : Nat} (h0 : 0 < D) (hz : z.natAbs ≤ M) (hD : D ≤ M) : Nd M (Rat.divInt z D) := by
  refine ⟨?_, Nat.le_trans (Nat.le_of_dvd h0 (divInt_den_dvd z h0)) hD⟩
  by_cases z0 : z = 0
  · subst z0
    simp
  · exact Nat.le_trans (Nat.le_of_dvd (by omega) (Int.natAbs_dvd_natAbs.mpr (divInt_num_dvd z h0))) hz
theorem Nd.mul {M N : Nat} {a b : Rat} (ha : Nd M a) (hb : Nd N b) : Nd (M * N) (a * b) := by
  have e : a * b = Rat.divInt (a.num * b.num) ((a.den * b.den : Nat) : Int) := by
    conv => lhs; rw [← Rat.num_divInt_den a, ← Rat.num_divInt_den b]
    rw [Rat.divInt_mul_divInt, Int.natCast_mul]
  rw [e]
  exact nd_div (Nat.mul_pos a.den_pos b.den_pos) (by rw [Int.natAbs_mul]; exact Nat.mul_le_mul ha.1 hb.1) (Nat.mul_le_mul ha.2 hb.2)
theorem nd_zp {r : Rat} {n : Int} {M : Nat} (h0 : 0 < r.num) (h1 : r.num.natAbs ^ n.natAbs ≤ M) (h2 : r.den ^ n.natAbs ≤ M) : Nd M (zp r n) ∧ 0 < (zp r n).num := by
  have rp := num_pos.mp h0
  refine ⟨?_, num_pos.mpr ?_⟩
  · by_cases hn : 0 ≤ n
    · rw [← zp_pos hn]
      have := nd_div (z := r.num ^ n.natAbs) (D := r.den ^ n.natAbs) (Nat.pow_pos r.den_pos) (by rw [Int.natAbs_pow]; exact h1) h2
      rwa [Int.natCast_pow] at this
    · rw [← zp_neg hn]
      have e : r.num = ((r.num.natAbs : Nat) : Int) := by omega
      have := nd_div (z := (r.den : Int) ^ n.natAbs) (D := r.num.natAbs ^ n.natAbs) (Nat.pow_pos (by omega)) (by rw [Int.natAbs_pow, Int.natAbs_natCast]; exact h2) h1
      rwa [Int.natCast_pow, ← e] at this
  · unfold DL.zp
    split
    · exact Rat.pow_pos rp
    · exact Rat.inv_pos.mpr (Rat.pow_pos rp)
theorem Nd.sm {M : Nat} {r : Rat} (h : Nd M r) (hM : M < 2 ^ 4000) : Sm r := ⟨Nat.lt_of_le_of_lt h.1 hM, Nat.lt_of_le_of_lt h.2 hM⟩
theorem lcmQ_snoc (l : List (Rat × Rat)) (p : Rat × Rat) : lcmQ (l ++ [p]) = Nat.lcm (lcmQ l) p.2.den := by
  unfold lcmQ
  rw [List.foldl_append]
  rfl
theorem lcmQ_dvd : ∀ {l : List (Rat × Rat)}, (∀ p ∈ l, p.2.den ∣ 60) → lcmQ l ∣ 60 := by
  have gen : ∀ (l : List (Rat × Rat)) (k : Nat), k ∣ 60 → (∀ p ∈ l, p.2.den ∣ 60) → l.foldl (fun k p => Nat.lcm k p.2.den) k ∣ 60 := fun l => by
    induction l with
    | nil => exact fun k h _ => h
    | cons p l ih => exact fun k h hp => ih _ (Nat.lcm_dvd h (hp p List.mem_cons_self)) fun q hq => hp q (List.mem_cons_of_mem _ hq)
  exact fun {l} h => gen l 1 (Nat.one_dvd _) h
theorem dvd_lcmQ {l : List (Rat × Rat)} {p : Rat × Rat} (hp : p ∈ l) : p.2.den ∣ lcmQ l := by
  have mono : ∀ (l : List (Rat × Rat)) (k d : Nat), d ∣ k → d ∣ l.foldl (fun k p => Nat.lcm k p.2.den) k := fun l => by
    induction l with
    | nil => exact fun k d h => h
    | cons p l ih => exact fun k d h => ih _ d (Nat.dvd_trans h (Nat.dvd_lcm_left _ _))
  have gen : ∀ (l : List (Rat × Rat)) (k : Nat), p ∈ l → p.2.den ∣ l.foldl (fun k p => Nat.lcm k p.2.den) k := fun l => by
    induction l with
    | nil => exact fun k h => nomatch h
    | cons q l ih =>
      intro k h
      rcases List.mem_cons.mp h with rfl | h
      · exact mono l _ _ (Nat.dvd_lcm_right _ _)
      · exact ih _ h
  exact gen l 1 hp
theorem prodQ_nd {k : Nat} (hk : k ∣ 60) : ∀ {l : List (Rat × Rat)}, (∀ p ∈ l, PPr p.1 p.2) → (∀ p ∈ l, p.2.den ∣ k) → Nd ((40 ^ 240) ^ l.length) (prodQ k l) ∧ 0 < (prodQ k l).num
  | [], _, _ => by
    show Nd _ 1 ∧ 0 < (1 : Rat).num
    exact ⟨⟨by decide, by decide⟩, by decide⟩
  | p :: l, h, hd => by
    obtain ⟨h1, h2⟩ := prodQ_nd hk (l := l) (fun q hq => h q (List.mem_cons_of_mem _ hq)) fun q hq => hd q (List.mem_cons_of_mem _ hq)
    have pp := h p List.mem_cons_self
    obtain ⟨s1, s2⟩ := pp.small k (hd p List.mem_cons_self) hk
    obtain ⟨g1, g2⟩ := nd_zp pp.pos s1 s2
    refine ⟨?_, num_pos.mpr (Rat.mul_pos (num_pos.mp h2) (num_pos.mp g2))⟩
    rw [List.length_cons, Nat.pow_succ]
    exact h1.mul g1
theorem zipD_pairs : ∀ l : List (Rat × Rat), zipD (l.map fun p => ratD p.1) (l.map fun p => ratD p.2) = l.map fun p => (.tup [ratD p.1, ratD p.2] : D)
  | [] => by simp [zipD]
  | p :: l => by
    have := zipD_pairs l
    unfold zipD at this ⊢
    simp only [List.map_cons, List.zipWith_cons_cons, this]
theorem dpos {z : Int} {D : Nat} (hz : 0 < z) (hD : 0 < D) : 0 < (Rat.divInt z D).num := by
  rw [num_pos, Rat.divInt_eq_div, Rat.div_def]
  exact Rat.mul_pos (Rat.intCast_pos.mpr hz) (Rat.inv_pos.mpr (Rat.intCast_pos.mpr (by omega)))
theorem zpN (r : Rat) (n : Nat) : zp r (n : Int) = r ^ n := by
  unfold DL.zp
  rw [if_pos (by omega), Int.natAbs_natCast]
/-- the root as a ratio -/
def mkR (c e : Nat) (he : e ≠ 0) (co : Nat.gcd c e = 1) : Rat := { num := c, den := e, den_nz := he, reduced := co }
theorem gcd_root {c e m : Nat} (hm : 0 < m) (h : Nat.gcd (c ^ m) (e ^ m) = 1) : Nat.gcd c e = 1 := by
  have h1 : Nat.gcd c e ∣ c ^ m := Nat.dvd_trans (Nat.gcd_dvd_left c e) (by
    obtain ⟨j, rfl⟩ : ∃ j, m = j + 1 := ⟨m - 1, by omega⟩
    exact ⟨c ^ j, by rw [Nat.pow_succ, Nat.mul_comm]⟩)
  have h2 : Nat.gcd c e ∣ e ^ m := Nat.dvd_trans (Nat.gcd_dvd_right c e) (by
    obtain ⟨j, rfl⟩ : ∃ j, m = j + 1 := ⟨m - 1, by omega⟩
    exact ⟨e ^ j, by rw [Nat.pow_succ, Nat.mul_comm]⟩)
  have := Nat.dvd_gcd h1 h2
  rw [h] at this
  exact Nat.dvd_one.mp this
theorem root_le {c m a : Nat} (hm : 0 < m) (h : c ^ m = a) (ha : 1 ≤ a) : 1 ≤ c ∧ c ≤ a := by
  have c1 : c ≠ 0 := fun z => by
    subst z
    rw [Nat.zero_pow hm] at h
    omega
  refine ⟨by omega, ?_⟩
  have := Nat.pow_le_pow_right (show 0 < c by omega) hm
  rw [Nat.pow_one, h] at this
  exact this
theorem tr_of {r : Rat} {k m c e : Nat} (s : Int) (h : LRt r.num.natAbs r.den k m c e) (k1 : 1 ≤ k) (k60 : k ≤ 60) (a1 : 0 < r.num) (ha : r.num.natAbs < BB) (hb : r.den < BB) : TrOk s (k / m) c e := by
  have b0 := h.b0
  have c1 := root_le b0 h.h1 (by omega)
  have e1 := root_le b0 h.h2 r.den_pos
  refine ⟨Nat.div_pos (Nat.le_of_dvd k1 h.dv) b0, Nat.le_trans (Nat.div_le_self _ _) k60, c1.1, e1.1, by omega, by omega, gcd_root b0 (by rw [h.h1, h.h2]; exact r.reduced), fun p p1 dv => h.no p1 dv⟩
theorem back {r : Rat} {m c e : Nat} (a1 : 0 < r.num) (he : e ≠ 0) (co : Nat.gcd c e = 1) (h1 : c ^ m = r.num.natAbs) (h2 : e ^ m = r.den) : mkR c e he co ^ m = r := by
  refine Rat.ext ?_ ?_
  · rw [Rat.num_pow]
    show (c : Int) ^ m = r.num
    rw [← Int.natCast_pow, h1]
    omega
  · rw [Rat.den_pow]
    exact h2
theorem rpow_mul (r : Rat) (m n : Nat) : r ^ (m * n) = (r ^ m) ^ n := Rat.ext (by rw [Rat.num_pow, Rat.num_pow, Rat.num_pow, Int.pow_mul]) (by rw [Rat.den_pow, Rat.den_pow, Rat.den_pow, Nat.pow_mul])
theorem rmul_pow (a b : Rat) : ∀ n : Nat, (a * b) ^ n = a ^ n * b ^ n
  | 0 => by rw [Rat.pow_zero, Rat.pow_zero, Rat.pow_zero, Rat.mul_one]
  | n + 1 => by
    rw [Rat.pow_succ, Rat.pow_succ, Rat.pow_succ, rmul_pow a b n]
    grind
theorem rone_pow : ∀ n : Nat, (1 : Rat) ^ n = 1
  | 0 => Rat.pow_zero 1
  | n + 1 => by rw [Rat.pow_succ, rone_pow n, Rat.mul_one]
theorem rpow_ne {r : Rat} (h : r ≠ 0) (n : Nat) : r ^ n ≠ 0 := fun z => by
  have := congrArg Rat.num z
  rw [Rat.num_pow] at this
  exact pow_ne (fun e => h (Rat.num_eq_zero.mp e)) n this
theorem rinv_pow {s : Rat} (h : s ≠ 0) : ∀ n : Nat, (s ^ n)⁻¹ = s⁻¹ ^ n
  | 0 => by rw [Rat.pow_zero, Rat.pow_zero]; decide +kernel
  | n + 1 => by
    have ih := rinv_pow h n
    rw [Rat.pow_succ, Rat.pow_succ, ← ih]
    grind
theorem zp_pow {r : Rat} (hr : r ≠ 0) (n : Int) (j : Nat) : zp r (n * j) = zp r n ^ j := by
  by_cases hj : j = 0
  · subst hj
    unfold DL.zp
    simp
  by_cases hn : 0 ≤ n
  · have h1 : 0 ≤ n * (j : Int) := Int.mul_nonneg hn (by omega)
    unfold DL.zp
    rw [if_pos hn, if_pos h1, Int.natAbs_mul, Int.natAbs_natCast, rpow_mul]
  · have h1 : ¬ 0 ≤ n * (j : Int) := fun z => by
      have := Int.mul_neg_of_neg_of_pos (show n < 0 by omega) (show (0 : Int) < j by omega)
      omega
    unfold DL.zp
    rw [if_neg hn, if_neg h1, Int.natAbs_mul, Int.natAbs_natCast, rpow_mul, rinv_pow (rpow_ne hr _)]
theorem prodQ_pow {k : Nat} (hk : k ∣ 60) : ∀ {l : List (Rat × Rat)}, (∀ p ∈ l, p.1 ≠ 0) → (∀ p ∈ l, p.2.den ∣ k) → prodQ 60 l = prodQ k l ^ (60 / k)
  | [], _, _ => by
    show (1 : Rat) = 1 ^ _
    rw [rone_pow]
  | p :: l, hr, h => by
    obtain ⟨t, ht⟩ := hk
    obtain ⟨j, rfl⟩ := h p List.mem_cons_self
    have dp := p.2.den_pos
    have j0 : 0 < j := Nat.pos_of_ne_zero fun z => by
      subst z
      simp at ht
    have k0 : 0 < p.2.den * j := Nat.mul_pos dp j0
    show prodQ 60 l * zp p.1 (p.2.num * (60 / p.2.den : Nat)) = (prodQ (p.2.den * j) l * zp p.1 (p.2.num * (p.2.den * j / p.2.den : Nat))) ^ (60 / (p.2.den * j))
    rw [prodQ_pow ⟨t, ht⟩ (fun q hq => hr q (List.mem_cons_of_mem _ hq)) fun q hq => h q (List.mem_cons_of_mem _ hq), rmul_pow, ← zp_pow (hr p List.mem_cons_self)]
    have e1 : 60 / (p.2.den * j) = t := by rw [ht, Nat.mul_div_cancel_left _ k0]
    have e2 : p.2.den * j / p.2.den = j := Nat.mul_div_cancel_left _ dp
    have e3 : 60 / p.2.den = j * t := by rw [ht, Nat.mul_assoc, Nat.mul_div_cancel_left _ dp]
    rw [e1, e2, e3, Int.natCast_mul, Int.mul_assoc]
theorem ppr_of {x y B w : Nat} {v : Int} (hx : x < 40) (hy : y < 12) (hB : B ∈ [1, 2, 3, 4, 5, 6, 12]) (hw : w = 1 ∨ w = 2 ∨ w = B) (hv : v.natAbs ≤ 2) :
    PPr (zp (Rat.divInt (1 + (x : Int)) (1 + (y : Int))) (w : Int)) (Rat.divInt v (B : Int)) := by
  have ey : (1 + (y : Int)) = ((1 + y : Nat) : Int) := by omega
  have nb : Nd 40 (Rat.divInt (1 + (x : Int)) (1 + (y : Int))) := by
    rw [ey]
    exact nd_div (by omega) (by omega) (by omega)
  have pb : 0 < (Rat.divInt (1 + (x : Int)) (1 + (y : Int))).num := by
    rw [ey]
    exact dpos (by omega) (by omega)
  generalize Rat.divInt (1 + (x : Int)) (1 + (y : Int)) = b at nb pb
  have B0 : 0 < B := by
    simp only [List.mem_cons, List.not_mem_nil, or_false] at hB
    omega
  have B12 : B ≤ 12 := by
    simp only [List.mem_cons, List.not_mem_nil, or_false] at hB
    omega
  have B60 : B ∣ 60 := by
    simp only [List.mem_cons, List.not_mem_nil, or_false] at hB
    rcases hB with rfl | rfl | rfl | rfl | rfl | rfl | rfl <;> decide
  have hq : 2 * (60 / B) * w ≤ 240 := by
    simp only [List.mem_cons, List.not_mem_nil, or_false] at hB
    rcases hB with rfl | rfl | rfl | rfl | rfl | rfl | rfl <;> rcases hw with rfl | rfl | rfl <;> decide
  have hw12 : w ≤ 12 := by omega
  have ed : (Rat.divInt v (B : Int)).den ∣ B := divInt_den_dvd v B0
  have ee := Rat.num_divInt_den (Rat.divInt v (B : Int))
  generalize he : Rat.divInt v (B : Int) = e at ed ee
  obtain ⟨t, rfl⟩ := ed
  have dp := e.den_pos
  have t0 : 0 < t := Nat.pos_of_ne_zero fun z => by subst z; simp at B0
  have ev : v = e.num * t := by
    have z0 : ((e.den * t : Nat) : Int) ≠ 0 := by omega
    have z1 : (e.den : Int) ≠ 0 := by omega
    have he2 := (Rat.divInt_eq_divInt_iff z0 z1).mp (he.trans ee.symm)
    have h2 : v * (e.den : Int) = (e.num * t) * (e.den : Int) := by
      rw [he2, Int.natCast_mul, Int.mul_assoc, Int.mul_comm (t : Int)]
    exact Int.eq_of_mul_eq_mul_right (by omega) h2
  have eb : e.num.natAbs ≤ 2 := by
    have : v.natAbs = e.num.natAbs * t := by rw [ev, Int.natAbs_mul, Int.natAbs_natCast]
    have h3 : e.num.natAbs * 1 ≤ e.num.natAbs * t := Nat.mul_le_mul_left _ t0
    omega
  rw [zpN]
  have key : ∀ k, e.den ∣ k → k ∣ 60 → w * (e.num * (k / e.den : Nat)).natAbs ≤ 240 := fun k h1 h2 => by
    have h4 : k / e.den ≤ 60 / e.den := Nat.div_le_div_right (Nat.le_of_dvd (by decide) h2)
    obtain ⟨s, hs⟩ := B60
    have h5 : 60 / e.den = t * s := by rw [hs, Nat.mul_assoc, Nat.mul_div_cancel_left _ dp]
    have h6 : 60 / (e.den * t) = s := by rw [hs, Nat.mul_div_cancel_left _ B0]
    have h7 : v.natAbs = e.num.natAbs * t := by rw [ev, Int.natAbs_mul, Int.natAbs_natCast]
    rw [h6] at hq
    rw [Int.natAbs_mul, Int.natAbs_natCast]
    calc w * (e.num.natAbs * (k / e.den)) ≤ w * (e.num.natAbs * (t * s)) := Nat.mul_le_mul_left _ (Nat.mul_le_mul_left _ (by omega))
      _ = v.natAbs * s * w := by rw [h7, Nat.mul_assoc e.num.natAbs, Nat.mul_comm w]
      _ ≤ 2 * s * w := Nat.mul_le_mul_right _ (Nat.mul_le_mul_right _ hv)
      _ ≤ 240 := hq
  have pw : ∀ (y : Nat) (k : Nat), 1 ≤ y → y ≤ 40 → e.den ∣ k → k ∣ 60 → (y ^ w) ^ (e.num * (k / e.den : Nat)).natAbs ≤ 40 ^ 240 := fun y k y1 hy h1 h2 => by
    rw [← Nat.pow_mul]
    exact Nat.le_trans (Nat.pow_le_pow_left hy _) (Nat.pow_le_pow_right (by decide) (key k h1 h2))
  have nm : (b ^ w).num.natAbs = b.num.natAbs ^ w := by rw [Rat.num_pow, Int.natAbs_pow]
  have dm : (b ^ w).den = b.den ^ w := Rat.den_pow b w
  have p24 : ∀ y : Nat, y ≤ 40 → y ^ w ≤ 40 ^ 24 := fun y hy => Nat.le_trans (Nat.pow_le_pow_left hy _) (Nat.pow_le_pow_right (by decide) (by omega))
  refine ⟨num_pos.mpr (Rat.pow_pos (num_pos.mp pb)), Nat.dvd_trans ⟨t, rfl⟩ B60, fun k h1 h2 => ?_, ?_, eb⟩
  · rw [nm, dm]
    exact ⟨pw _ k (by omega) nb.1 h1 h2, pw _ k b.den_pos nb.2 h1 h2⟩
  · rw [nm, dm]
    exact ⟨p24 _ nb.1, p24 _ nb.2⟩
end DL

end Qn
section Db2
set_option Elab.async false
set_option linter.all false
set_option maxRecDepth 100000
set_option maxHeartbeats 4000000
/-! Db2: enumerate of a list or a tuple. -/
namespace ZQ
open PySem
open PySem.Sem (wp)
open AutoSeq1 (wpAny_loadPart')
theorem seq_draws {prog : Program} {w : World} {A : Around} (hh : A.handled = none) (b : Bool) (it l : Addr) (hne : l ≠ it) (items : Array Value) :
    Draws prog w A it [it, l] items.size (fun i v => items[i]? = some v) (fun i h => SeqIt b h it l i ∧ SeqAt b h l items) where
  live := fun _ _ st => let ⟨o, e, _⟩ := st.1.obj; ⟨o, e⟩
  frame := fun i h h' st hk => ⟨st.1.at fun o e => hk it (by simp) o e, by
    cases b
    · exact Heap.IsTuple.at st.2 fun o e => hk l (by simp) o e
    · exact Heap.IsList.at st.2 fun o e => hk l (by simp) o e⟩
  item := fun i s Q E hi st hQ => by
    refine nextOf_some st.1 st.2 (x := items[i]) (by simp [hi]) fun h' hit' hs' => ?_
    exact hQ _ h' s.toks (by simp [hi]) ⟨hit', st.2.extBut hs'.extBut hne⟩ hs'
  done := fun s Q E st hE => nextOf_none hh st.1 st.2 (by simp) hE
theorem SeqIt.cls {b : Bool} {h : Heap} {a l : Addr} {i : Nat} (x : SeqIt b h a l i) : ∃ o, h.get? a = some o ∧ (o.cls = .type "list_iterator" ∨ o.cls = .type "tuple_iterator") := by
  cases b
  · obtain ⟨o, e, c, _⟩ := (show h.IsTupleIter a l i from x)
    exact ⟨o, e, .inr c⟩
  · obtain ⟨o, e, c, _⟩ := (show h.IsListIter a l i from x)
    exact ⟨o, e, .inl c⟩
theorem SeqAt.cls {b : Bool} {h : Heap} {a : Addr} {xs : Array Value} (x : SeqAt b h a xs) : ∃ o, h.get? a = some o ∧ (o.cls = .type "list" ∨ o.cls = .type "tuple") := by
  cases b
  · obtain ⟨o, e, c, _⟩ := (show h.IsTuple a xs from x)
    exact ⟨o, e, .inr c⟩
  · obtain ⟨o, e, c, _⟩ := (show h.IsList a xs from x)
    exact ⟨o, e, .inl c⟩
theorem apart1 {b : Bool} {h : Heap} {it l : Addr} {i : Nat} {xs : Array Value} (x : SeqIt b h it l i) (y : SeqAt b h l xs) : l ≠ it := fun z => by
  obtain ⟨o, e, c⟩ := x.cls
  obtain ⟨o2, e2, c2⟩ := y.cls
  rw [z, e] at e2
  cases e2
  rcases c with c | c <;> rcases c2 with c2 | c2 <;> (rw [c] at c2; injection c2 with z2; exact absurd z2 (by decide))
theorem apart2 {b : Bool} {h : Heap} {e it l : Addr} {i : Int} {old : Value} {xs : Array Value} (x : IsEnum h e it i old) (y : SeqAt b h l xs) : e ≠ l := fun z => by
  obtain ⟨o2, e2, c2⟩ := y.cls
  have x : h.get? e = some _ := x
  rw [← z, x] at e2
  cases e2
  rcases c2 with c2 | c2 <;> (injection c2 with z2; exact absurd z2 (by decide))
set_option maxHeartbeats 4000000 in
theorem meets_enumerate_newQ (b : Bool) (l : Addr) (xs : Array Value) :
    Meets (Builtin.«enumerate.__new__» ⟨[.type "enumerate", .ref l], []⟩) (fun _ R s => SeqAt b s.heap l xs ∧
      R (.ok (.ret (.ref (s.heap.push (itO b l)).objs.size)))
        { s with heap := (s.heap.push (itO b l)).push { cls := .type "enumerate", data := .fields #[.none, .bool false, .ref s.heap.objs.size, rawInt 0, .none, .none] } }) :=
  .of_wp fun prog w A R s h => by
    obtain ⟨hp, g, d, tk, os⟩ := s
    obtain ⟨hl, h⟩ := h
    have hsub := sub_enumerate
    cases b
    · have hL : Heap.IsTuple (Shared.heap ⟨hp, g, d, tk, os⟩) l xs := hl
      obtain ⟨o, ho, _, _⟩ := id hL
      wp_walk using wpAny_loadPart' ho
      refine wpAny_stack_any fun st => wpAny_pure ?_
      split
      · rename_i c _ _ _ _ _
        cases (c == Value.type "enumerate")
        · wp_walk using wpAny_pyIter_tuple hL
          exact ⟨_, rfl, h⟩
        · wp_walk using wpAny_pyIter_tuple hL
          exact ⟨_, rfl, h⟩
      · wp_walk using wpAny_pyIter_tuple hL
        exact ⟨_, rfl, h⟩
    · have hL : Heap.IsList (Shared.heap ⟨hp, g, d, tk, os⟩) l xs := hl
      obtain ⟨o, ho, _, _⟩ := id hL
      wp_walk using wpAny_loadPart' ho
      refine wpAny_stack_any fun st => wpAny_pure ?_
      split
      · rename_i c _ _ _ _ _
        cases (c == Value.type "enumerate")
        · wp_walk using wpAny_pyIter_list hL
          exact ⟨_, rfl, h⟩
        · wp_walk using wpAny_pyIter_list hL
          exact ⟨_, rfl, h⟩
      · wp_walk using wpAny_pyIter_list hL
        exact ⟨_, rfl, h⟩
section
variable {prog : Program} {w : World} {A : Around} {E : Value → Shared → Prop} {s : Shared} {b : Bool}
theorem call_enq {l : Addr} {xs : Array Value} {Q : Value → Shared → Prop} (hl : SeqAt b s.heap l xs)
    (h : ∀ h', IsEnum h' (s.heap.objs.size + 1) s.heap.objs.size 0 .none → SeqIt b h' s.heap.objs.size l 0 → h'.objs.size = s.heap.objs.size + 2 →
      (∀ b o, s.heap.get? b = some o → h'.get? b = some o) → Q (.ref (s.heap.objs.size + 1)) { s with heap := h' }) :
    wpAny (model prog w) A (call (.type "enumerate") [.ref l]) Q E s := by
  refine callType_new F.called_enumerate (by decide) (F.typeCall_enumerate_1 _) (F.newCall_enumerate_1 _) (fun obj => F.args_object_init_2 obj _) F.entry_enumerate_new
    (meets_enumerate_newQ b l xs) ⟨hl, ?_⟩
  have hz : (s.heap.push (itO b l)).objs.size = s.heap.objs.size + 1 := Heap.size_push ..
  show _ ∧ _
  rw [hz]
  have he : IsEnum ((s.heap.push (itO b l)).push
      { cls := .type "enumerate", data := .fields #[.none, .bool false, .ref s.heap.objs.size, rawInt 0, .none, .none] }) (s.heap.objs.size + 1) s.heap.objs.size 0 .none := by
    have := Heap.get?_push_size (s.heap.push (itO b l))
      (o := { cls := .type "enumerate", data := .fields #[.none, .bool false, .ref s.heap.objs.size, rawInt 0, .none, .none] }) rfl
    rw [hz] at this; exact this
  refine ⟨⟨_, he, rfl⟩, h _ he (itO_at (Heap.get?_push_of_some _ (Heap.get?_push_size _ rfl))) (by rw [Heap.size_push, hz]) fun b o x => Heap.get?_push_of_some _ (Heap.get?_push_of_some _ x)⟩
theorem enq_end {e it l : Addr} {i : Nat} {items : Array Value} {old : Value} {Q : Option Value → Shared → Prop} (hh : A.handled = none) (he : IsEnum s.heap e it i old) (hit : SeqIt b s.heap it l i) (hl : SeqAt b s.heap l items) (hx : items[i]? = none)
    (hQ : ∀ h', Heap.ExtBut it s.heap h' → Q none { s with heap := h' }) : wpAny (model prog w) A (pyNext (.ref e)) Q E s := by
  have hT : s.TypeIs (.ref e) "enumerate" := ⟨_, he, rfl⟩
  unfold pyNext
  refine wpAny_bind (wpAny_attempt (wpAny_callSpecial?_slot (name := Str.ofString "__next__") hT F.slot_enumerate_next
    (wpAny_call_entry F.slot_enumerate_next hT F.entry_enumerate_next ?_ (F.args_enumerate_next_1 _))))
  show wpAny _ _ (field (.ref e) 2 >>= _) _ _ _
  refine wpAny_bind (wpAny_field he rfl (x := .ref it) rfl ?_)
  refine wpAny_bind (nextOf_none hh hit hl hx fun h' x he' hx' => ?_)
  obtain ⟨o, ho, hc⟩ := hx'
  refine wpAny_bind (wpAny_isInstance (T := "StopIteration") (b := true) ⟨o, ho, hc⟩ isSubtype_stop ?_)
  exact wpAny_pure (hQ _ he')
end
end ZQ
namespace DL
open PySem PySem.Spec PyProof.Rows L2 ZQ
variable [TabEnv]
def ItE (K : PySem.W.Frag) (b : Bool) (a : Addr) : It where
  go := fun i H => ∃ (xs : List V) (x : V), SqX b K H a xs ∧ xs[i]? = some x
  yld := fun i H v H' => ∃ T x, v = .ref T ∧ H T = none ∧ H' = upd H T (.tup [.int (i : Nat), x]) ∧ ∀ xs, SqX b K H a xs → xs[i]? = some x
  stop := fun i H => ∃ xs : List V, SqX b K H a xs ∧ xs.length ≤ i
theorem turn_enq {P : Program} {w : World} {K : PySem.W.Frag} {b : Bool} {elts : List Expr} {kk : Nat} {tpos : Pos} (a e it : Addr) :
    Turn P w K (.Tuple elts kk tpos) (ItE K b a) [e, it] e (fun i h => (∃ old, IsEnum h e it ((i : Nat) : Int) old) ∧ SeqIt b h it a i ∧ e ≠ it) where
  mem := by simp
  obj := fun i h st c hc => by
    obtain ⟨⟨old, he⟩, hi, _⟩ := st
    have e' : c = e ∨ c = it := by simpa using hc
    rcases e' with z | z
    · rw [z]; exact ⟨_, he, fun v q => nomatch q⟩
    · rw [z]; exact hi.obj
  keep := fun i h h' st k => let ⟨⟨old, he⟩, hi, hne⟩ := st; ⟨⟨old, k e (by simp) _ he⟩, hi.at fun o q => k it (by simp) o q, hne⟩
  item := by
    intro X hP hw hK hc i pins s σ H E I hf st hg
    subst hP hw hK
    obtain ⟨⟨old, he⟩, hit, hne⟩ := st
    obtain ⟨xs, x, hq, hx⟩ := hg
    obtain ⟨its, rv, p, hz⟩ := sqx_at I hq
    obtain ⟨u, hu, ru⟩ := rv.get hx
    have hel : e < s.heap.objs.size := Heap.lt_size he
    have hil : it < s.heap.objs.size := hit.lt
    have hlen : i < its.toArray.size := by
      have := (List.getElem?_eq_some_iff.mp hu).1
      simpa using this
    have hal := apart1 hit p
    have hea := apart2 he p
    refine wpAny_pyNext_enum_itemD (seq_draws (A := X.A.in1) (I.ok.hd hc) b it a hal its.toArray) he ⟨hit, p⟩ hlen hne (by simp [hne, hea]) fun y h' tk hy ho hit' hT hsz hk => ?_
    have eu : y = u := by
      have : its.toArray[i]? = some u := by simpa using hu
      rw [this] at hy
      exact (Option.some.inj hy).symm
    subst eu
    refine ⟨_, rfl, wpAny_letOwnedTupleGo_enum (s := { s with heap := h', toks := tk + 1 }) ho fun h'' he' sb => ?_⟩
    have hT2 : h''.get? s.heap.objs.size = some { cls := .type "tuple", data := .seq #[.int i tk, y] } := (sb.2 _ (Nat.ne_of_gt hel)).trans hT
    have new : ObjOk X.prog X.w (upd H s.heap.objs.size (.tup [.int (i : Nat), x])) h'' s.heap.objs.size (.tup [.int (i : Nat), x]) :=
      ⟨by show 2 ≤ sizeLine; decide, [.int i tk, y], .cons ⟨_, rfl⟩ (.cons ru .nil), ⟨_, hT2, rfl, _, rfl⟩⟩
    have I1 : Inv X pins σ (upd H s.heap.objs.size (.tup [.int (i : Nat), x])) { s with heap := h'', toks := tk + 1 } :=
      I.turnedNew (ch := [e, it]) (fun b ob hb q => (sb.2 b (fun z => hb (by simp [z]))).trans (hk b ob (fun z => hb (by simp [z])) (fun z => hb (by simp [z])) q)) hf (Nat.le_refl _) new
    refine ⟨.ref s.heap.objs.size, _, I1, rfl, ⟨_, x, rfl, I.hok.fresh (Nat.le_refl _), rfl, fun ys hy => by rw [sqx_inj I hy hq]; exact hx⟩, ⟨⟨y, ?_⟩, hit'.1.at fun o q => (sb.2 it (Ne.symm hne)).trans q, hne⟩, fun b hb => ?_⟩
    · have e1 : ((i + 1 : Nat) : Int) = (i : Int) + 1 := by omega
      rw [e1]; exact he'
    · have hb' : b < s.heap.objs.size := by
        have e' : b = e ∨ b = it := by simpa using hb
        rcases e' with z | z
        · rw [z]; exact hel
        · rw [z]; exact hil
      rw [upd_ne (Nat.ne_of_lt hb')]
      exact (hf b hb).1
  done := by
    intro X hP hw hK hc i pins s σ H E I hf st hg
    subst hP hw hK
    obtain ⟨⟨old, he⟩, hit, hne⟩ := st
    obtain ⟨xs, hq, hx⟩ := hg
    obtain ⟨its, rv, p, hz⟩ := sqx_at I hq
    have hl := rv.length
    refine enq_end (I.ok.hd hc) he hit p (by simp; omega) fun h' eb => ⟨rfl, I.turnedL (t' := s.toks) (ch := [e, it]) (fun c o hb q => ?_) hf⟩
    exact eb c o (fun z => hb (by simp [z])) q
  self := fun A i s Q E st h => let ⟨⟨_, he⟩, _⟩ := st; wpAny_pyIter_enum he h
def iEnq (K : PySem.W.Frag) (ta : TA) : TI := fun σ H R => ta σ H fun vs H1 => ∃ b a xs, vs = [.ref a] ∧ SqX b K H1 a xs ∧ R (ItE K b a) H1
theorem pi_enq {X : Cx} {e : Expr} {ta : TA} {p pos tpos : Pos} {elts : List Expr} {kk : Nat} (hm : X.mg "enumerate" = none) (ha : PA X [e] ta) (hg : Gl X "enumerate" := by rfl) (hs : starEach [e] X.env = [(false, eval e X.env)] := by rfl) :
    PI X (.Tuple elts kk tpos) (.Call (.Name "enumerate" p) [e] [] pos) (iEnq X.K ta) := by
  refine ⟨fun pins s σ H R I h => ?_⟩
  refine Call_ (ld_blt I hg hm boot_enumerate (PyProof.Rows.callWith_type1 (thn (ha.run pos pins s σ H _ I h) fun us s1 ⟨vs, H1, I1, r1, q1⟩ => ?_) hs rfl))
  obtain ⟨b, a, xs, ex, hq, q⟩ := q1
  subst ex
  cases r1 with
  | cons r rr =>
    cases rr
    cases r
    obtain ⟨its, rv, p', hz⟩ := sqx_at I1 hq
    refine call_enq p' fun h' he hit hsz hk => wpAny_pyIter_enum he ?_
    have I2 : Inv X pins σ H1 { s1 with heap := h' } := I1.kept (t' := s1.toks) hk
    refine ⟨s1.heap.objs.size + 1, [s1.heap.objs.size + 1, s1.heap.objs.size], _, _, H1, rfl, I2, turn_enq a (s1.heap.objs.size + 1) s1.heap.objs.size, ⟨⟨.none, he⟩, hit, Nat.succ_ne_self _⟩, fun b hb => ?_, q⟩
    have e' : b = s1.heap.objs.size + 1 ∨ b = s1.heap.objs.size := by simpa using hb
    have hle : s1.heap.objs.size ≤ b := by
      rcases e' with z | z
      · rw [z]; exact Nat.le_add_right _ _
      · rw [z]; exact Nat.le_refl _
    exact I1.fpOk hle (I1.hok.fresh hle)
/-! by data -/
def enumD (ds : List D) : List D := ds.mapIdx fun i d => .tup [.int (i : Nat), d]
def wEnum (u : WA) : WI := fun env q x => u env (fun rs e => match rs with
  | [.val a] => seqD a fun xs => q (enumD xs) [] (fun _ => True) e
  | [.own a] => seqD a.toD fun xs => q (enumD xs) [] (fun _ => True) e
  | _ => False) x
section
variable {K : PySem.W.Frag} {W : WX} {T T0 T' T1 : TM} {H H0 H' H1 : Hp} {env env0 : Ev} {σ σ0 : L2.St}
theorem enum_it {b : Bool} {a : Addr} {ds : List D} (h1 : ∀ T' H', Fr T H T' H' → ∃ ys, SqX b K H' a ys ∧ RepL K T' H' ds ys) :
    ItOk K T H env σ (ItE K b a) (enumD ds) [] (fun _ => True) := by
  intro T' H' env' σ' f E _ _ i
  obtain ⟨xs, s1, r1⟩ := h1 T' H' f
  have l1 := r1.length
  refine ⟨fun hi => ⟨xs, s1, ?_⟩, fun d hd => ?_⟩
  · unfold enumD at hi
    rw [List.length_mapIdx] at hi
    omega
  · unfold enumD at hd
    rw [List.getElem?_mapIdx, Option.map_eq_some_iff] at hd
    obtain ⟨x, e1, rfl⟩ := hd
    obtain ⟨v1, g1, q1⟩ := r1.get e1
    refine ⟨⟨xs, v1, s1, g1⟩, fun z H2 hy => ?_⟩
    obtain ⟨p, x', rfl, hp, rfl, f1⟩ := hy
    have := f1 xs s1
    rw [g1] at this; cases this
    exact ⟨_, Gr.new (t := some .fz) E.good hp (by simp) (.inl rfl), new_tup (σ := σ') E.good hp (.cons (by simp [RepV]) (.cons q1 .nil))⟩
theorem lenum {u : WA} {RR : It → Hp → Prop} (h : LI K W (wEnum u) σ H RR) : iEnq K (LA K W u) σ H RR := by
  obtain ⟨T, env, q, x, E, w, k, xk⟩ := h
  refine ⟨T, env, _, x, E, w, fun T1 H1 e1 rs vs a1 rr nd w1 => ?_, xk⟩
  cases rr with
  | nil => exact w1.elim
  | @cons r1 v1 _ _ h1 rr =>
    cases rr with
    | nil =>
      cases r1 with
      | val d =>
        obtain ⟨b, a, xs, ds, rfl, w2, s1, g1⟩ := seq_fix h1 w1
        exact ⟨b, a, xs, rfl, s1, k T1 H1 e1 _ _ [] _ a1 (enum_it g1) w2⟩
      | loc i => exact w1.elim
      | own o =>
        obtain ⟨a, rfl, n, t, ro⟩ := h1
        obtain ⟨b, xs, ds, w2, s1, g1⟩ := seq_fixO t ro w1
        exact ⟨b, a, xs, rfl, s1, k T1 H1 e1 _ _ [] _ a1 (enum_it g1) w2⟩
    | cons => cases r1 <;> exact w1.elim
end
theorem denum {X : Cx} {W : WX} {e : Expr} {u : WA} {p pos tpos : Pos} {elts : List Expr} {kk : Nat} (hm : X.mg "enumerate" = none) (ha : DA X W [e] u) (hg : Gl X "enumerate" := by rfl)
    (hs : starEach [e] X.env = [(false, eval e X.env)] := by rfl) :
    PI X (.Tuple elts kk tpos) (.Call (.Name "enumerate" p) [e] [] pos) (LI X.K W (wEnum u)) := PI.le (pi_enq hm ha hg hs) fun _ _ _ h => lenum h
end DL

end Db2
section Db3
set_option Elab.async false
set_option linter.all false
set_option maxRecDepth 100000
set_option maxHeartbeats 4000000
/-! Db3: an integer in a list or a tuple; xs[::-1]; {k: v, k: v} with tuple keys. -/
namespace DL
open PySem PySem.Spec PyProof.Rows L2
variable [TabEnv]
theorem inV_int (i : Int) (ns : List Int) : inV (.int i) (ns.map V.int) = decide (i ∈ ns) := by
  rw [Bool.eq_iff_iff, decide_eq_true_iff]
  simp only [inV, List.any_map, List.any_eq_true, Function.comp, eqV, decide_eq_true_eq, beq_iff_eq]
  constructor
  · rintro ⟨x, hx, e⟩
    first | (subst e; exact hx) | (rw [← e]; exact hx) | (rw [e]; exact hx)
  · intro h
    exact ⟨i, h, by simp⟩
def gInS (f : Bool → Bool) (a b : D) (q : R → Prop) : Prop := ∃ (i : Int) (ns : List Int), a = .int i ∧ (b = .tup (ns.map .int) ∨ b = .lst (ns.map .int)) ∧ q (.val (.bl (f (decide (i ∈ ns)))))
theorem oInS {X : Cx} : OpD X (compareOp .In) (gInS id) := by
  refine ⟨_, op_in_seq, fun T H σ da db va vb Q q g ha hb h k => ?_⟩
  obtain ⟨i, ns, rfl, hb2, h⟩ := h
  cases ha.int
  rw [← inV_int] at h
  rcases hb2 with rfl | rfl
  · obtain ⟨a, ys, rfl, s, r⟩ := hb.tup
    rw [rep_ints r] at s
    exact ⟨a, _, rfl, .inr (SqT.of s.2), rfl, by simp [flatV], k T H _ _ (Gr.refl g) rep_bl h⟩
  · obtain ⟨a, ys, rfl, s, r⟩ := hb.lst
    rw [rep_ints r] at s
    exact ⟨a, _, rfl, .inl (SqL.of s), rfl, by simp [flatV], k T H _ _ (Gr.refl g) rep_bl h⟩
theorem oNotInS {X : Cx} : OpD X (compareOp .NotIn) (gInS not) := by
  refine ⟨_, op_notIn_seq, fun T H σ da db va vb Q q g ha hb h k => ?_⟩
  obtain ⟨i, ns, rfl, hb2, h⟩ := h
  cases ha.int
  rw [← inV_int] at h
  rcases hb2 with rfl | rfl
  · obtain ⟨a, ys, rfl, s, r⟩ := hb.tup
    rw [rep_ints r] at s
    exact ⟨a, _, rfl, .inr (SqT.of s.2), rfl, by simp [flatV], k T H _ _ (Gr.refl g) rep_bl h⟩
  · obtain ⟨a, ys, rfl, s, r⟩ := hb.lst
    rw [rep_ints r] at s
    exact ⟨a, _, rfl, .inl (SqL.of s), rfl, by simp [flatV], k T H _ _ (Gr.refl g) rep_bl h⟩
/-- xs[::-1] of a list -/
def gRev (d : D) (q : R → Prop) : Prop := match d with
  | .lst xs => q (.own (.lst xs.reverse))
  | _ => False
def wRev (w : WE) : WE := fun env q x => w env (fun r e1 => vw r e1 fun d => gRev d fun res => q res e1) x
section
variable {X : Cx} {W : WX} {e : Expr} {we : WE}
theorem drev {kk : Nat} {p1 p2 p3 pos : Pos} (he : DE X W e we) : DE X W (.Subscript e (.Slice none none (some (.UnaryOp .USub (.Constant (.int 1) kk p1) p2)) p3) pos) (wRev we) := by
  refine PE.le (pe_revL he) fun σ H Q h => ?_
  obtain ⟨T, env, q, x, E, w, k, xk⟩ := h
  refine ⟨T, env, _, x, E, w, fun T1 H1 e1 r v a1 r1 w1 => ?_, xk⟩
  obtain ⟨d, hv, g⟩ := vw_view a1.ev r1 w1
  cases d <;> first | exact g.elim | skip
  obtain ⟨a, xs, rfl, s, r⟩ := hv.lst
  exact ⟨a, xs, rfl, SqL.of s, fun p hp => k _ _ e1 _ _ (a1.grow (Gr.new a1.ev.good hp)) ((new_lst a1.ev.good hp r.rev).pre a1.fr) g⟩
end
section
variable {X : Cx} {pos : Pos}
theorem pe_disp2 {k1 v1 k2 v2 : Expr} {tk1 tv1 tk2 tv2 : TE} (hu : X.A.units < cLine) (hk1 : PE X k1 tk1) (hv1 : PE X v1 tv1) (hk2 : PE X k2 tk2) (hv2 : PE X v2 tv2) :
    PE X (.Dict [some k1, some k2] [v1, v2] pos) (fun σ H Q => ∀ p, H p = none → tk1 σ (upd H p (.dT [])) fun x1 H1 => tv1 σ H1 fun y1 H2 => tk2 σ H2 fun x2 H3 => tv2 σ H3 fun y2 H4 =>
    H4 p = some (.dT []) ∧ ∃ (m1 m2 : List Key) (b1 b2 : Addr), x1 = .ref b1 ∧ H4 b1 = some (.tup (m1.map kV)) ∧ x2 = .ref b2 ∧ H4 b2 = some (.tup (m2.map kV)) ∧ m2 ≠ m1 ∧ Q (.ref p) (upd H4 p (.dT [(m1, y1), (m2, y2)]))) := by
  refine ⟨fun pins s σ H Q I q => ?_⟩
  have hn := I.hok.fresh (Nat.le_refl s.heap.objs.size)
  have I1 := I.laid (a := s.heap.objs.size) (o := .dT []) (h' := s.heap.push { cls := .type "dict", data := .dict #[] }) (t' := s.toks) (fun _ _ q => Heap.get?_push_of_some _ q) (Nat.le_refl _) (dt_empty s.heap I.big)
  rw [arm_eval_Dict, zip_pairTrees [some k1, some k2] [v1, v2] X.env pos rfl rfl, dictDisplay_pairs _ (by simp [pairTrees]) (by simp [pairTrees])]
  refine wpAny_bind (wpAny_standAt (wpAny_bind (wpAny_subDictH (knd := tupleKind (mixKind X.prog X.w)) (Q := fun d s' => wpAny (model X.prog X.w) X.A (pure (Value.ref d)) (EP X pins σ Q) X.xe s') hu (by simp [pairTrees]) ?_)))
  refine pairTrees_cons_walk (thn (hk1.run pins _ σ _ _ I1 (q _ hn)) fun u1 s1 ⟨x1, H1, I1, rx1, q1⟩ => thn (hv1.run pins s1 σ H1 _ I1 q1) fun w1 s2 ⟨y1, H2, I2, ry1, q2⟩ =>
    pairTrees_cons_walk (thn (hk2.run pins s2 σ H2 _ I2 q2) fun u2 s3 ⟨x2, H3, I3, rx2, q3⟩ => thn (hv2.run pins s3 σ H3 _ I3 q3) fun w2 s4 ⟨y2, H4, I4, ry2, q4⟩ => pairTrees_nil_walk ?_))
  obtain ⟨e, m1, m2, b1, b2, rfl, e1, rfl, e2, hne2, q5⟩ := q4
  cases (show u1 = Value.ref b1 from rx1)
  cases (show u2 = Value.ref b2 from rx2)
  obtain ⟨z, hd, xs, rel, dd⟩ := dt_of I4.hok e
  cases rel
  refine ⟨[(m1, b1, w1), (m2, b2, w2)], ⟨rfl, rfl, key_of I4.hok e1, rfl, rfl, key_of I4.hok e2, trivial⟩, dd, fun h' tk dd' hs => wpAny_pure ?_⟩
  have he : ∃ q, h'.get? s.heap.objs.size = some q := let ⟨q, _, _, hq, _⟩ := dd'; ⟨q, hq⟩
  have hn1 : b1 ≠ s.heap.objs.size := fun z => by rw [z, e] at e1; cases e1
  have hn2 : b2 ≠ s.heap.objs.size := fun z => by rw [z, e] at e2; cases e2
  refine ⟨.ref s.heap.objs.size, _, d_write I4 (by rw [e]; exact True.intro) hs he ?_, rfl, q5⟩
  have es : storedAllH [] [(m1, b1, w1), (m2, b2, w2)] = [(m1, b1, w1), (m2, b2, w2)] := by
    have n2 : ¬ m1 = m2 := fun z => hne2 z.symm
    simp [storedAllH, storedH, atKey, hne2, n2]
  rw [es] at dd'
  obtain ⟨o, es, ep, h1, h2, h3, h4, _, h5⟩ := dd'
  exact ⟨(show 2 ≤ sizeLine by decide), hd, [(m1, b1, w1), (m2, b2, w2)], .cons ⟨rfl, by rw [upd_ne hn1]; exact e1, ry1⟩ (.cons ⟨rfl, by rw [upd_ne hn2]; exact e2, ry2⟩ .nil), o, es, ep, h1, h2, h3, h4, h5⟩
end
def wDisp2 (wk1 wv1 wk2 wv2 : WE) : WE := fun env q x => wk1 env (fun rk1 e1 => wv1 e1 (fun rv1 e2 => wk2 e2 (fun rk2 e3 => wv2 e3 (fun rv2 e4 => match rk1, rv1, rk2, rv2 with
  | .val (.tup ds1), .val d1, .val (.tup ds2), .val d2 => ∃ y1 y2, D.keys ds1 = some y1 ∧ D.keys ds2 = some y2 ∧ y2 ≠ y1 ∧ q (.own (.dt [(y1, d1), (y2, d2)])) e4
  | _, _, _, _ => False) x) x) x) x
section
variable {X : Cx} {W : WX} {pos : Pos} {k1 v1 k2 v2 : Expr} {wk1 wv1 wk2 wv2 : WE}
theorem ddisp2 (hu : X.A.units + 1 < cLine) (hk1 : DE X W k1 wk1) (hv1 : DE X W v1 wv1) (hk2 : DE X W k2 wk2) (hv2 : DE X W v2 wv2) : DE X W (.Dict [some k1, some k2] [v1, v2] pos) (wDisp2 wk1 wv1 wk2 wv2) := by
  refine PE.le (pe_disp2 (Nat.lt_of_succ_lt hu) hk1 hv1 hk2 hv2) fun σ H Q h => ?_
  obtain ⟨T, env, q, x, E, w, k', xk⟩ := h
  intro p hp
  have g := Gr.alloc (o := .dT []) (t := some .tmp) E.good hp (by simp) (.inr fun _ z => by cases z)
  have a0 := (Af.refl E).grow g
  have hp0 : T p = none := E.good.none hp
  refine ⟨_, env, _, x, a0.ev, w, fun T1 H1 e1 rk1 u1 a1 r1 w1 => ⟨T1, e1, _, x, a1.ev, w1, fun T2 H2 e2 rv1 y1 a2 r2 w2 => ⟨T2, e2, _, x, a2.ev, w2, fun T3 H3 e3 rk2 u2 a3 r3 w3 => ⟨T3, e3, _, x, a3.ev, w3, fun T4 H4 e4 rv2 y2 a4 r4 w4 => ?_, ((xk.after a0).after a1 |>.after a2).after a3⟩, ((xk.after a0).after a1).after a2⟩, (xk.after a0).after a1⟩, xk.after a0⟩
  cases rk1 <;> first | exact w4.elim | skip
  rename_i dk1
  cases dk1 <;> first | exact w4.elim | skip
  rename_i ds1
  cases rv1 <;> first | exact w4.elim | skip
  rename_i d1
  cases rk2 <;> first | exact w4.elim | skip
  rename_i dk2
  cases dk2 <;> first | exact w4.elim | skip
  rename_i ds2
  cases rv2 <;> first | exact w4.elim | skip
  rename_i d2
  obtain ⟨m1, m2, ek1, ek2, hne, w5⟩ := w4
  have t1 := a1.fr.tmp (tag_same : tag T p (some .tmp) p = some .tmp)
  have t2 := a2.fr.tmp t1.1
  have t3 := a3.fr.tmp t2.1
  have t4 := a4.fr.tmp t3.1
  have f24 := (a2.trans a3).trans a4
  have r1' : RepV X.K T4 H4 (.tup ds1) u1 := RepV.mono f24.fr.le _ _ r1
  have r2' : RepV X.K T4 H4 d1 y1 := RepV.mono (a3.trans a4).fr.le _ _ r2
  have r3' : RepV X.K T4 H4 (.tup ds2) u2 := RepV.mono a4.fr.le _ _ r3
  have r4' : RepV X.K T4 H4 d2 y2 := r4
  obtain ⟨b1, zs1, rfl, s1, rz1⟩ := (View.of r1').tup
  obtain ⟨b2, zs2, rfl, s2, rz2⟩ := (View.of r3').tup
  cases keys_rep rz1 ek1
  cases keys_rep rz2 ek2
  have aa := ((((a0.trans a1).trans a2).trans a3).trans a4)
  have hp4 : H4 p = some (.dT []) := t4.2.trans (t3.2.trans (t2.2.trans (t1.2.trans upd_same)))
  obtain ⟨E', le⟩ := aa.ev.bump (o := .dT [(m1, y1), (m2, y2)]) t4.1 fun _ z => by cases z
  have n0 : T p ≠ some .tmp := by rw [hp0]; simp
  refine ⟨hp4, m1, m2, b1, b2, rfl, s1.2, rfl, s2.2, hne, ?_⟩
  exact k' T4 _ e4 (.own (.dt [(m1, d1), (m2, d2)])) _ ⟨aa.fr.bump E'.good t4.1 n0, E', aa.kp⟩ ⟨p, rfl, n0, t4.1, [(m1, y1), (m2, y2)], upd_same, rfl, .cons (RepV.mono le _ _ r2') (.cons (RepV.mono le _ _ r4') .nil)⟩ w5
end
end DL

end Db3
section Df1
set_option Elab.async false
set_option linter.all false
set_option maxRecDepth 100000
set_option maxHeartbeats 4000000
/-! Df1: comprehensions out of which an exception goes (at the level of HandS). -/
namespace PySem
namespace HandSPX
section
variable {M : Model} {A : Around} {E : Value → Shared → Prop} {s : Shared} {Z : Obj → Prop} {base : Heap} {env : Env} {outer l : List Env} {L e : Addr}
theorem noteFrame_eq {e : Value} {env env' : Env} (h : env'.frame = env.frame) : noteFrame e env' = noteFrame e env := by
  unfold noteFrame frameOf; rw [h]
/-- noted by another place, now by this frame -/
theorem looks_otherZ {C : Addr} {Q : Unit → Shared → Prop} (hZ : Steady Z) (hfr : A.frames = some (env :: outer)) (hf : env.frame = some L) (ne : C ≠ L) (hfl : HeldZ base (env :: outer) e Z C s.heap)
    (hQ : ∀ h', HeldZ base (env :: outer) e Z L h' → s.heap.UpToSlots h' → Q () { s with heap := h' }) : wpAny M A (noteFrame (.ref e) env) Q E s := by
  obtain ⟨hkb, hen, hl, oe, vs, T, oT, ts, he, hz, hd, h1, hnT, hTe, hT, hdT, h3⟩ := hfl
  unfold noteFrame
  simp only [hf]
  refine wpAny_bind (wpAny_field he hd h1 ?_)
  rw [if_pos (show (Value.ref T != Value.none) = true from by simp)]
  refine wpAny_bind (wpAny_field hT hdT h3 ?_)
  rw [if_neg (show ¬ ((rawInt C == rawInt L) = true) from by
    intro h
    have h : rawInt C = rawInt L := by simpa using h
    unfold rawInt at h
    injection h with h _
    exact ne (Int.ofNat.inj h))]
  refine wpAny_bind (wpAny_setField hT hdT (Array.getElem?_eq_some_iff.mp h3).1 ?_)
  have other : ∀ b, b ≠ T → (s.heap.update T (Obj.mapFields (·.setIfInBounds 3 Value.none))).get? b = s.heap.get? b := fun b hb => Heap.get?_update_other _ _ (Ne.symm hb)
  have noRecord : ∀ b o, s.heap.get? b = some o → (∀ vs, o.data ≠ .fields vs) → b ≠ T := fun b o hb hnf q => by
    rw [q, hT] at hb; injection hb with hb; subst hb; exact hnf ts hdT
  refine wpAny_entryZ hZ hfr (hl.of_keeps fun b o hb hnf => ⟨o, (other b (noRecord b o hb hnf)).trans hb, rfl⟩) hf ((other e (Ne.symm hTe)).trans he)
    (fun b o hbo => (other b fun q => by rw [q, hnT] at hbo; cases hbo).trans (hkb b o hbo)) hen hd (Array.getElem?_eq_some_iff.mp h1).1 hz fun h' hN => ?_
  obtain ⟨x1, x2, x3, x4⟩ := hN
  exact hQ h' ⟨x1, hen, x2, x3⟩ fun b o hb hnf => x4 b o ((other b (noRecord b o hb hnf)).trans hb) hnf
theorem funFrames_at {B h h' : Heap} : ∀ {l : List Env}, h.FunFrames base l → (∀ b ∈ l.filterMap (·.frame), h'.get? b = h.get? b) → (∀ b, base.get? b = none → B.get? b = none) → h'.FunFrames B l
  | [], _, _, _ => trivial
  | env :: l, h, hk, hn => by
    obtain ⟨hkd, ⟨L, o, hf, hb, ho, hd⟩, hr⟩ := h
    exact ⟨hkd, ⟨L, o, hf, hn L hb, (hk L (List.mem_filterMap.mpr ⟨env, List.mem_cons_self, hf⟩)).trans ho, hd⟩, funFrames_at hr (fun b hb => by
      obtain ⟨e, he, q⟩ := List.mem_filterMap.mp hb
      exact hk b (List.mem_filterMap.mpr ⟨e, List.mem_cons_of_mem _ he, q⟩)) hn⟩
end
end HandSPX
end PySem
namespace L2
open PySem PySem.Spec PyProof.Rows HandSPX
section
variable {M : Model} {A : Around} {E : Value → Shared → Prop} {s : Shared} {env : Env}
def cpX (M : Model) (A : Around) (E : Value → Shared → Prop) (use : Option (Value → Sem Unit)) (Q : Value → Shared → Prop) (acc : Value) (C : Addr) (fr : Option Addr) (r : Result) (s' : Shared) : Prop :=
  match r, use with
  | .ok _, none => ∃ m, s'.heap.Ns C m ∧ ∀ h', Heap.SameBut C s'.heap h' → Q acc { s' with heap := h' }
  | .ok _, some u => wpAny M A (u acc) (fun _ s'' => ∃ m, s''.heap.Ns C m ∧ ∀ h', Heap.SameBut C s''.heap h' → Q .none { s'' with heap := h' }) E s'
  | .error x, _ => ∃ m, s'.heap.Ns C m ∧ ∀ h', Heap.SameBut C s'.heap h' → ∀ cenv : Env, cenv.locals = C → cenv.frame = fr → wpAny M A (PySem.passOn "comprehension.variables-let-go" x cenv : Sem Value) (fun _ _ => False) E { s' with heap := h' }
theorem wpAny_comp_freeX {e : Expr} {scope : Scope} {pos : Pos} {newAcc first : Sem Value} {g : Comprehension} {gs : List Comprehension} {cl : List (Str × Addr)} {use : Option (Value → Sem Unit)}
    {Q : Value → Shared → Prop}
    (hcl : clausesOf e = g :: gs) (hs : ∀ x, foldedSetIterable g.iter env x = pure x) (hclos : closureFor scope env = pure cl)
    (hkind : scope.kind = .function) (hnames : ∀ x ∈ scope.names, x.2 = .local → scope.names.lookup x.1 = some .local)
    (h : wpAny M A first (fun x s₁ => wpAny M A (pyIter x) (fun it s₂ => wpAny M A newAcc (fun acc s₃ =>
      wpAny M A (newFunctionEnv scope env.globals cl [] env.qual none .none (some env)) (fun cenv s₄ =>
        cenv.frame = env.frame ∧ codeAny M A (.compStart e 0 it acc { cenv with scope := relabel scope env }) (cpX M A E use Q acc cenv.locals env.frame) s₄) E s₃) E s₂) E s₁) E s) :
    wpAny M A (comprehension e scope env pos newAcc false first use) Q E s := by
  unfold comprehension
  rw [hclos, hcl]
  refine wpAny_bind (wpAny_mono h (fun x s₁ h₁ => wpAny_bind (wpAny_standAt (wpAny_bind (wpAny_of_eq (hs x) (wpAny_bind (wpAny_holding (wpAny_mono h₁ (fun it s₂ h₂ =>
    wpAny_standIf (wpAny_bind (wpAny_mono h₂ (fun acc s₃ h₃ => wpAny_bind (wpAny_pure (wpAny_bind (wpAny_mono h₃ (fun cenv s₄ h₄ => ?_) fun _ _ h' => h')))) fun _ _ h' => h')))
      fun _ _ h' => h'))))))) fun _ _ h' => h')
  dsimp only
  obtain ⟨hfr, h₄⟩ := h₄
  have hv : ∀ x ∈ (scope.names.filter fun x => (x.2 == .local || x.2 == .cell) && x.1 != (".0" : Str)).reverse, x.2 = .local →
      Env.kindOf { cenv with scope := relabel scope env } x.1 = some .local := fun x hx hl => lookup_relabel_local (hnames x (List.mem_filter.mp (List.mem_reverse.mp hx)).1 hl)
  have hv' : ∀ x ∈ (scope.names.filter fun x => (x.2 == .local || x.2 == .cell) && x.1 != (".0" : Str)).reverse.drop 1 ++ (scope.names.filter fun x => (x.2 == .local || x.2 == .cell) && x.1 != (".0" : Str)).reverse.take 1,
      x.2 = .local → Env.kindOf { cenv with scope := relabel scope env } x.1 = some .local := fun x hx hl => by
    rcases List.mem_append.mp hx with h1 | h1
    · exact hv x (List.mem_of_mem_drop h1) hl
    · exact hv x (List.mem_of_mem_take h1) hl
  refine wpAny_holding (wpAny_bind (wpAny_attempt (wpAny_holding (wpAny_run (codeAny_mono h₄ fun r s' hr => ?_)))))
  cases r with
  | ok f =>
    cases use with
    | none =>
      obtain ⟨m, hn, hr⟩ := hr
      exact wpAny_bind (wpAny_holding (wpAny_comp_letGo (cenv := { cenv with scope := relabel scope env }) hkind _ s' m hv hn fun h' m' _ hs' => wpAny_pure (hr h' hs')))
    | some u =>
      refine wpAny_bind (wpAny_rule (wpAny_bind (wpAny_holding (wpAny_mono hr (fun _ s'' hr' => ?_) fun _ _ h' => h'))))
      obtain ⟨m, hn, hr'⟩ := hr'
      exact wpAny_bind (wpAny_comp_letGo (cenv := { cenv with scope := relabel scope env }) hkind _ s'' m hv' hn fun h' m' _ hs' => wpAny_pure (hr' h' hs'))
  | error x =>
    have hr' : ∃ m, s'.heap.Ns cenv.locals m ∧ ∀ h', Heap.SameBut cenv.locals s'.heap h' → ∀ cenv' : Env, cenv'.locals = cenv.locals → cenv'.frame = env.frame → wpAny M A (PySem.passOn "comprehension.variables-let-go" x cenv' : Sem Value) (fun _ _ => False) E { s' with heap := h' } := by cases use <;> exact hr
    obtain ⟨m, hn, hr⟩ := hr'
    exact wpAny_bind (wpAny_holding (wpAny_comp_letGo (cenv := { cenv with scope := relabel scope env }) hkind _ s' m hv hn fun h' m' _ hs' => wpAny_mono (hr h' hs' _ rfl hfr) (fun _ _ f => f.elim) fun _ _ y => y))
end
/-- the block's context, with a wish about exceptions -/
abbrev Cx.bx (X : Cx) (s : Shared) (H : Hp) (scope : Scope) (cenv : Env) (fp : List Addr) (xe : Value → Shared → Prop) : Cx := { X.blk s H scope cenv fp with xe := xe }
section
variable {X : Cx} {pins : List (Addr × Obj)} {σ : St} {H H3 : Hp} {s s3 s' : Shared} {scope : Scope} {ce : Env} {fp : List Addr} {xe : Value → Shared → Prop}
theorem bx_ok (h : (X.blk s3 H3 scope ce fp).Ok) : (X.bx s3 H3 scope ce fp xe).Ok :=
  ⟨h.mod, h.kind, h.glob, h.blt, h.above, h.inj, h.has, h.cab, h.hd, h.frames, h.stk, h.exf, h.bs, h.bsz, h.noex, h.exfs, h.funs, h.frf⟩
theorem bx_ok' (h : (X.bx s3 H3 scope ce fp xe).Ok) : (X.blk s3 H3 scope ce fp).Ok :=
  ⟨h.mod, h.kind, h.glob, h.blt, h.above, h.inj, h.has, h.cab, h.hd, h.frames, h.stk, h.exf, h.bs, h.bsz, h.noex, h.exfs, h.funs, h.frf⟩
theorem bx_in (I : Inv (X.blk s3 H3 scope ce fp) pins σ H s') : Inv (X.bx s3 H3 scope ce fp xe) pins σ H s' :=
  ⟨bx_ok I.ok, I.os, I.bare, I.base, I.loc, I.cell, I.free, I.freeC, I.pin, I.hok, I.len⟩
theorem bx_out (I : Inv (X.bx s3 H3 scope ce fp xe) pins σ H s') : Inv (X.blk s3 H3 scope ce fp) pins σ H s' :=
  ⟨bx_ok' I.ok, I.os, I.bare, I.base, I.loc, I.cell, I.free, I.freeC, I.pin, I.hok, I.len⟩
/-- out of the block, and on -/
theorem exit_ok {W : WX} {E' : Value → Shared → Prop} {use : Option (Value → Sem Unit)} {Qf : Value → Shared → Prop} {acc : Value} {u : Value} (hs : X.stack = X.env :: X.outer) (hf : X.env.frame = some X.env.locals) (tk : Takes X W) (I3 : Inv X pins σ H3 s3)
    (cL : ce.locals = s3.heap.objs.size) (cF : ce.frame = X.env.frame) (f3 : ∀ b ∈ fp, FpOk X pins H3 b)
    (x : XE (X.bx s3 H3 scope ce fp xe) (fun c d _ H' => W c d σ H') u s') :
    wpAny (model X.prog X.w) X.A (noteFrame u ce) (fun _ s'' => cpX (model X.prog X.w) X.A X.xe use Qf acc s3.heap.objs.size X.env.frame (.error u) s'') E' s' := by
  obtain ⟨a, B, sI, pins', σ', H', cls, d, rfl, I, nb, up, sky, na, os, ag, w⟩ := x
  have os : s'.os = sI.os := os
  have I7 : Inv X pins σ H' sI := I3.call' (ch := fp) I.os I.base I.hok I.bare fun b hb => ⟨(f3 b hb).2.2.2.1, (f3 b hb).2.1, (f3 b hb).2.2.2.2.1, (f3 b hb).2.2.2.2.2⟩
  have nC : H' s3.heap.objs.size = none := by
    have z : H' ce.locals = none := I.free
    rw [cL] at z
    exact z
  obtain ⟨g0, g1, g2, g3, g4, g5⟩ := I3.fpOk (H' := H') (Nat.le_refl s3.heap.objs.size) nC
  generalize hC : s3.heap.objs.size = C at *
  have nb : ∀ b o, sI.heap.get? b = some o → b ∉ frs X.stack → B.get? b = some o := nb
  have sky : Sky B X.stack a (Zc cls d) C s'.heap := by rw [← cL]; exact sky
  have cFs : C ∉ frs X.stack := by
    intro hm
    rcases List.mem_cons.mp (I3.stkSub C hm) with z | z
    · exact g1 z
    · exact g2 z
  have eL : X.env.locals ≠ C := Ne.symm g1
  obtain ⟨m, hn, _⟩ := I.loc
  have hn : sI.heap.Ns C m := by rw [← cL]; exact hn
  obtain ⟨oC, es, ep, hoC, rC⟩ := hn
  have bC : B.get? C = some oC := nb C oC hoC cFs
  rw [noteFrame_eq cF]
  have hfr : X.A.frames = some (X.env :: X.outer) := by rw [I3.ok.frames, hs]
  -- behind the note
  have key : ∀ h1, HeldZ B X.stack a (Zc cls d) X.env.locals h1 → s'.heap.UpToSlots h1 → cpX (model X.prog X.w) X.A X.xe use Qf acc C X.env.frame (.error (.ref a)) { s' with heap := h1 } := by
    intro h1 hh up1
    obtain ⟨k1, k2, k3, oe, vs, T, oT, ts, he, hz, hd, hv1, hnT, hTe, hT, hdT, ht3⟩ := hh
    have aC : a ≠ C := fun z => by rw [z, bC] at k2; cases k2
    have TC : T ≠ C := fun z => by rw [z, bC] at hnT; cases hnT
    have goal : ∃ m, h1.Ns C m ∧ ∀ h', Heap.SameBut C h1 h' → ∀ cenv : Env, cenv.locals = C → cenv.frame = X.env.frame → wpAny (model X.prog X.w) X.A (PySem.passOn "comprehension.variables-let-go" (.ref a) cenv : Sem Value) (fun _ _ => False) X.xe { s' with heap := h' } := by
      refine ⟨m, ⟨oC, es, ep, k1 C oC bC, rC⟩, fun h' sb cenv _ ef => ?_⟩
      have B'get : ∀ b o, (PySem.W.hideAll B [C]).get? b = some o → b ≠ C ∧ B.get? b = some o := fun b o e => by
        refine ⟨fun z => ?_, PySem.W.of_hideAll _ e⟩
        rw [z, PySem.W.hideAll_none [C] (by simp)] at e
        cases e
      have hid : ∀ b, B.get? b = none → (PySem.W.hideAll B [C]).get? b = none := fun b e => by
        cases q : (PySem.W.hideAll B [C]).get? b with
        | none => rfl
        | some o => rw [(B'get b o q).2] at e; cases e
      have held : HeldZ (PySem.W.hideAll B [C]) X.stack a (Zc cls d) X.env.locals h' := by
        refine ⟨fun b o e => ?_, hid a k2, funFrames_at k3 (fun b hb => sb.2 b fun z => cFs (by rw [← z]; exact hb)) hid, oe, vs, T, oT, ts, (sb.2 a aC).trans he, hz, hd, hv1, hid T hnT, hTe, (sb.2 T TC).trans hT, hdT, ht3⟩
        obtain ⟨e1, e2⟩ := B'get b o e
        exact (sb.2 b e1).trans (k1 b o e2)
      unfold PySem.passOn
      refine wpAny_bind (wpAny_field (s := { s' with heap := h' }) ((sb.2 a aC).trans he) hd hv1 ?_)
      rw [if_neg (show ¬ ((Value.ref T == Value.none) = true) from by simp)]
      rw [ef, hf]
      have fin : wpAny (model X.prog X.w) X.A (setFlight (.ref a) (some X.env.locals)) (fun _ s₂ => wpAny (model X.prog X.w) X.A (throw (.ref a) : Sem Value) (fun _ _ => False) X.xe s₂) X.xe { s' with heap := h' } := by
        refine setFlight_onZ (s := { s' with heap := h' }) held fun h2 hh2 up2 => wpAny_throw ?_
        refine tk _ _ ⟨a, PySem.W.hideAll B [C], { sI with heap := PySem.W.hideAll sI.heap [C] }, pins, σ, H', cls, d, rfl, ?_, fun b o e hb => ?_, fun b o e hnf => ?_, .inr (.inr hh2), na, os, ag, w⟩
        · exact I7.turned (t' := sI.toks) (fun b o hb e => PySem.W.hideAll_get _ e (by simpa using hb)) g0 g1 g3 g4 g5
        · have hbC : b ≠ C := fun z => by
            have e : (PySem.W.hideAll sI.heap [C]).get? b = some o := e
            rw [z, PySem.W.hideAll_none [C] (by simp)] at e; cases e
          exact PySem.W.hideAll_get _ (nb b o (PySem.W.of_hideAll _ e) hb) (by simpa using hbC)
        · have e : (PySem.W.hideAll sI.heap [C]).get? b = some o := e
          have hbC : b ≠ C := fun z => by
            rw [z, PySem.W.hideAll_none [C] (by simp)] at e; cases e
          obtain ⟨sl1, e1⟩ := up b o (PySem.W.of_hideAll _ e) hnf
          obtain ⟨sl2, e2⟩ := up1 b _ e1 hnf
          have e3 : h'.get? b = some _ := (sb.2 b hbC).trans e2
          obtain ⟨sl3, e4⟩ := up2 b _ e3 hnf
          exact ⟨sl3, e4⟩
      first
        | exact wpAny_bind (wpAny_pure (wpAny_bind fin))
        | exact wpAny_bind fin
    cases use <;> exact goal
  have sky := sky
  rw [hs] at sky key
  rcases sky with ⟨hB, hn2, hl, oe, vs, he, hz, hd, h1⟩ | fl | hh
  · exact look_newZ Zc.steady hfr hl hf he hB hn2 hd h1 hz key
  · exact looks_onZ Zc.steady hfr hf fl key
  · exact looks_otherZ Zc.steady hfr hf (Ne.symm eL) hh key
end
end L2

end Df1
section Df2
set_option Elab.async false
set_option linter.all false
set_option maxRecDepth 100000
set_option maxHeartbeats 4000000
/-! Df2: the same, as rules. -/
namespace L2
open PySem PySem.Spec PyProof.Rows HandSPX
section
variable {X : Cx}
def tLcX (wi : TI) (g : TG) (tt : TT) (te : St → TE) (vs : List Nat) : TE := fun σ H Q => wi σ H fun J H1 => ∀ D, H1 D = none → ∃ W : Nat → Nat → Hp → Prop, (∃ m, W 0 m (upd H1 D (.lst []))) ∧ ∀ i m H, W i m H →
  (J.stop i H ∧ Q (.ref D) H) ∨ (J.go i H ∧ ∃ Nx : Hp → Prop, (∀ H', Nx H' → ∃ m', m' < m ∧ W (i + 1) m' H') ∧ ∀ x H', J.yld i H x H' → g x (wipe σ vs) H' fun σ2 H2 => wipe σ2 vs = wipe σ vs ∧ tt σ2 H2 fun b H3 =>
    if b = true then te σ σ2 H3 fun y H4 => ∃ acc, H4 D = some (.lst acc) ∧ acc.length < sizeLine ∧ Nx (upd H4 D (.lst (acc ++ [y]))) else Nx H3)
theorem lc_coreX {W : WX} {pins : List (Addr × Obj)} {s : Shared} {σ : St} {H : Hp} {Q : VK} {elt tg iter : Expr} {ifs : List Expr} {scope : Scope} {own : List (Str × Nat)} {pos pos' : Pos} {wi : TI} {g : TG} {tt : TT} {te : St → TE} {use : Option (Value → Sem Unit)} {Qf : Value → Shared → Prop}
    (tk : Takes X W) (hs2 : X.stack = X.env :: X.outer) (hf : X.env.frame = some X.env.locals) (hc : X.calm = true) (hN : X.N.Nodup) (I : Inv X pins σ H s) (hi : PI X tg iter wi) (ok : BlkOk X.N X.env.scope scope own)
    (hg : ∀ (s : Shared) (H : Hp) (C : Addr) (cl : List (Str × Addr)) (fp : List Addr), PG (X.blk s H scope (compEnvC scope cl C X.env) fp) tg g) (ht : ∀ (s : Shared) (H : Hp) (C : Addr) (cl : List (Str × Addr)) (fp : List Addr), PTs (X.blk s H scope (compEnvC scope cl C X.env) fp) ifs tt)
    (he : ∀ (s : Shared) (H : Hp) (C : Addr) (cl : List (Str × Addr)) (fp : List Addr) (xe : Value → Shared → Prop) (σ : St), Takes (X.bx s H scope (compEnvC scope cl C X.env) fp xe) (fun c d _ H' => W c d σ H') → PE (X.bx s H scope (compEnvC scope cl C X.env) fp xe) elt (te σ)) (hs : ∀ x, foldedSetIterable iter X.env x = pure x)
    (h : tLcX wi g tt te (own.map (·.2)) σ H Q)
    (hRR : ∀ D C s' m H', Inv X pins σ H' s' → Q (.ref D) H' → s'.heap.Ns C m → FpOk X pins H' C → cpX (model X.prog X.w) X.A X.xe use Qf (.ref D) C X.env.frame (.ok .next) s') :
    wpAny (model X.prog X.w) X.A (comprehension (.ListComp elt [⟨tg, iter, ifs, 0⟩] scope pos) scope X.env pos' (newList []) false (eval iter X.env) use) Qf X.xe s := by
  have hfree : ∀ y ∈ scope.names, y.2 = .free → ∃ c, X.env.cells.lookup y.1 = some c := fun y hy e => by
    rcases ok.free y hy e with k | k
    · exact I.ok.has _ (.inl k)
    · exact I.ok.has _ (.inr k)
  refine wpAny_comp_freeX (use := use) rfl hs (closure_ok hfree) ok.kind (fun y hy e => by rw [ok.uniq y hy, e])
    (thn (hi.run pins s σ H _ I h) fun xv s1 hx => thn hx fun itv s2 h2 => ?_)
  obtain ⟨it, fp, tn, J, H2, e, I2, T, st2, f2, q⟩ := h2
  subst e
  refine wpAny_newObj_type (newEnv_comp ?_) (by show 0 ≤ sizeLine; decide)
  generalize hD : s2.heap.objs.size = D
  have hDn : H2 D = none := I2.hok.fresh (Nat.le_of_eq hD)
  obtain ⟨W, ⟨m0, w0⟩, turn⟩ := q D hDn
  -- the new list
  generalize hs3 : ({ s2 with heap := s2.heap.push { cls := .type "list", data := .seq ([] : List Value).toArray } } : Shared) = s3
  have I3 : Inv X pins σ (upd H2 D (.lst [])) s3 := by
    rw [← hs3]
    refine I2.laid (t' := s2.toks) (fun b o e => Heap.get?_push_of_some _ e) (Nat.le_of_eq hD) ⟨Nat.zero_le _, [], 0, .nil, ?_⟩
    rw [← hD]
    exact Heap.get?_push_size _ rfl
  have h3 : s3.heap = s2.heap.push { cls := .type "list", data := .seq ([] : List Value).toArray } := by rw [← hs3]
  have sz : ∀ b ∈ fp, b < s2.heap.objs.size := fun b hb => by
    obtain ⟨o, e, _⟩ := T.obj _ _ st2 b hb
    exact Heap.lt_size e
  have f3 : ∀ b ∈ fp, FpOk X pins (upd H2 D (.lst [])) b ∧ b < s3.heap.objs.size := fun b hb => by
    have hlt := sz b hb
    refine ⟨⟨?_, (f2 b hb).2⟩, by rw [h3, Heap.size_push]; exact Nat.lt_succ_of_lt hlt⟩
    rw [upd_ne (by rw [← hD]; exact Nat.ne_of_lt hlt)]
    exact (f2 b hb).1
  have st3 : tn 0 s3.heap := T.keep _ _ _ st2 fun b _ o e => by rw [h3]; exact Heap.get?_push_of_some _ e
  have I4 := block_start I3 ok hN f3
  have pg := hg s3 (upd H2 D (.lst [])) s3.heap.objs.size (cellsFrom (s3.heap.objs.size + 1) scope.names (cloFrom X.env.cells scope.names [])) fp
  have pt := ht s3 (upd H2 D (.lst [])) s3.heap.objs.size (cellsFrom (s3.heap.objs.size + 1) scope.names (cloFrom X.env.cells scope.names [])) fp
  have pe := he s3 (upd H2 D (.lst [])) s3.heap.objs.size (cellsFrom (s3.heap.objs.size + 1) scope.names (cloFrom X.env.cells scope.names [])) fp
  refine ⟨rfl, ?_⟩
  show codeAny _ _ (.compStart (.ListComp elt [⟨tg, iter, ifs, 0⟩] scope pos) 0 (.ref it) (.ref D) (compEnvC scope (cellsFrom (s3.heap.objs.size + 1) scope.names (cloFrom X.env.cells scope.names [])) s3.heap.objs.size X.env)) (cpX (model X.prog X.w) X.A X.xe use Qf (.ref D) s3.heap.objs.size X.env.frame) { s3 with heap := pushCells (s3.heap.push { cls := .type "dict", data := .dict #[] }) scope.names }
  have nfp : ∀ b ∈ fp, (upd H2 D (.lst [])) b = none := fun b hb => (f3 b hb).1.1
  generalize hce : compEnvC scope (cellsFrom (s3.heap.objs.size + 1) scope.names (cloFrom X.env.cells scope.names [])) s3.heap.objs.size X.env = ce at I4 pg pt pe ⊢
  have cL : ce.locals = s3.heap.objs.size := by subst hce; rfl
  have cF : ce.frame = X.env.frame := by subst hce; rfl
  generalize hH3 : upd H2 D (.lst []) = H3 at I3 I4 pg pt pe w0 nfp f3
  generalize hs4 : ({ s3 with heap := pushCells (s3.heap.push { cls := .type "dict", data := .dict #[] }) scope.names } : Shared) = s4 at I4 ⊢
  have st4 : tn 0 s4.heap := T.keep _ _ _ st3 fun b _ o e => by rw [← hs4]; exact pushCells_keeps _ _ _ _ (Heap.get?_push_of_some _ e)
  have stat : ∀ {σ' : St} {H' : Hp} {s' : Shared}, Inv (X.blk s3 H3 scope ce fp) [] σ' H' s' → (∀ b ∈ fp, H' b = none) → ∀ b ∈ fp, FpOk (X.blk s3 H3 scope ce fp) [] H' b := fun {σ' H' s'} I' hn b hb =>
    ⟨hn b hb, (I'.ok.exf b hb).1, I'.ok.exfs b hb, .inl hb, fun x c e => (I'.ok.exf b hb).2 x c e, fun p hp => absurd (show p ∈ ([] : List (Addr × Obj)) ++ [] from hp) (by simp)⟩
  have loop : codeAny (model X.prog X.w) X.A (.compLoop (.ListComp elt [⟨tg, iter, ifs, 0⟩] scope pos) 0 (.ref it) (.ref D) ce) (cpX (model X.prog X.w) X.A X.xe use Qf (.ref D) s3.heap.objs.size X.env.frame) s4 := by
    refine compLoop_any (fun n s' => ∃ i H', Inv (X.blk s3 H3 scope ce fp) [] (wipe σ (own.map (·.2))) H' s' ∧ tn i s'.heap ∧ (∀ b ∈ fp, H' b = none) ∧ W i n H') ?_ m0 ⟨0, H3, I4, st4, nfp, w0⟩
    rintro n s5 ⟨i, H5, I5, st5, n5, w5⟩
    rcases turn i n H5 w5 with ⟨stop, qq⟩ | ⟨go, Nx, hNx, step⟩
    · have td := T.done (X.blk s3 H3 scope ce fp) rfl rfl rfl hc i [] s5 _ H5 (fun _ _ => False) I5 (stat I5 n5) st5 stop
      refine thnF td fun r s6 ⟨hr, I6⟩ => ?_
      subst hr
      -- back in the def's context
      have I7 : Inv X pins σ H5 s6 := I3.call' (ch := fp) I6.os I6.base I6.hok I6.bare fun b hb => ⟨(f3 b hb).1.2.2.2.1, (f3 b hb).1.2.1, (f3 b hb).1.2.2.2.2.1, (f3 b hb).1.2.2.2.2.2⟩
      have nC : H5 s3.heap.objs.size = none := by
        have z : H5 ce.locals = none := I6.free
        rw [cL] at z
        exact z
      obtain ⟨m, hn, _⟩ := I6.loc
      have hn : s6.heap.Ns ce.locals m := hn
      rw [cL] at hn
      exact hRR D s3.heap.objs.size s6 m H5 I7 qq hn (I3.fpOk (Nat.le_refl _) nC)
    · have ti := T.item (X.blk s3 H3 scope ce fp) rfl rfl rfl hc i [] s5 _ H5 (fun _ _ => False) I5 (stat I5 n5) st5 go
      refine thnF ti fun r s6 ⟨u, hr, h6⟩ => ?_
      subst hr
      refine thnF h6 fun _ s7 ⟨x, H7, I7, r7, y7, st7, n7⟩ => ?_
      have I7' := I7.pinned (stat I7 n7) (T.obj _ _ st7)
      refine thnF (pg.run _ s7 _ H7 x u _ I7' r7 (step x H7 y7)) fun _ s8 ⟨σ8, H8, I8, hw8, q8⟩ => ?_
      refine thnF (pt.run _ s8 σ8 H8 _ I8 q8) fun b s9 ⟨H9, I9, q9⟩ => ?_
      -- the turn's end
      have fin : ∀ {s' : Shared} {H' : Hp}, Inv (X.blk s3 H3 scope ce fp) ([] ++ pinsAt fp s7.heap) σ8 H' s' → Nx H' → ∃ m, m < n ∧ ∃ i H', Inv (X.blk s3 H3 scope ce fp) [] (wipe σ (own.map (·.2))) H' s' ∧ tn i s'.heap ∧ (∀ b ∈ fp, H' b = none) ∧ W i m H' := fun {s' H'} I' nx => by
        obtain ⟨m', hm, w'⟩ := hNx H' nx
        have pin' : ∀ b ∈ fp, ∀ o, s7.heap.get? b = some o → s'.heap.get? b = some o ∧ H' b = none := fun b hb o e =>
          let z := I'.pin (b, o) (List.mem_append_right _ (List.mem_append_right _ (mem_pinsAt hb e)))
          ⟨z.1, z.2.1⟩
        have hl : (wipe σ (own.map (·.2))).length = σ8.length := by rw [← hw8, wipe_length]
        refine ⟨m', hm, i + 1, H', (I'.unpinned (pins := [])).weak hl (fun j v e => ?_), T.keep _ _ _ st7 fun b hb o e => (pin' b hb o e).1, fun b hb => ?_, w'⟩
        · rw [← hw8] at e
          exact (wipe_some e).1
        · obtain ⟨o, e, _⟩ := T.obj _ _ st7 b hb
          exact (pin' b hb o e).2
      cases b with
      | false =>
        simp only [Bool.false_eq_true, if_false] at q9 ⊢
        exact fin I9 q9
      | true =>
        simp only [if_true] at q9 ⊢
        refine wpAny_mono ((pe (notedBy (model X.prog X.w) X.A ce fun e s' => cpX (model X.prog X.w) X.A X.xe use Qf (.ref D) s3.heap.objs.size X.env.frame (.error e) s') σ fun u s' x => exit_ok hs2 hf tk I3 cL cF (fun b hb => (f3 b hb).1) x).run _ s9 σ8 H9 _ (bx_in I9) q9) (fun z s10 ⟨yv, H10, I10, r10, acc, hD10, hz10, nx⟩ => ?_) fun _ _ z => z
        exact app_ok (X := X.blk s3 H3 scope ce fp) (bx_out I10) hD10 hz10 r10 fun s11 I11 => fin I11 nx
  exact codeAny_compStart_list loop (T.self X.A 0 _ _ _ st4 loop)
/-- as a value -/
theorem pe_lcX {W : WX} {elt tg iter : Expr} {ifs : List Expr} {scope : Scope} {own : List (Str × Nat)} {pos : Pos} {wi : TI} {g : TG} {tt : TT} {te : St → TE} (tk : Takes X W) (hs2 : X.stack = X.env :: X.outer) (hf : X.env.frame = some X.env.locals) (hc : X.calm = true) (hN : X.N.Nodup) (hi : PI X tg iter wi) (ok : BlkOk X.N X.env.scope scope own)
    (hg : ∀ (s : Shared) (H : Hp) (C : Addr) (cl : List (Str × Addr)) (fp : List Addr), PG (X.blk s H scope (compEnvC scope cl C X.env) fp) tg g) (ht : ∀ (s : Shared) (H : Hp) (C : Addr) (cl : List (Str × Addr)) (fp : List Addr), PTs (X.blk s H scope (compEnvC scope cl C X.env) fp) ifs tt)
    (he : ∀ (s : Shared) (H : Hp) (C : Addr) (cl : List (Str × Addr)) (fp : List Addr) (xe : Value → Shared → Prop) (σ : St), Takes (X.bx s H scope (compEnvC scope cl C X.env) fp xe) (fun c d _ H' => W c d σ H') → PE (X.bx s H scope (compEnvC scope cl C X.env) fp xe) elt (te σ)) (hs : ∀ x, foldedSetIterable iter X.env x = pure x := by intro _; rfl) :
    PE X (.ListComp elt [⟨tg, iter, ifs, 0⟩] scope pos) (tLcX wi g tt te (own.map (·.2))) := by
  refine ⟨fun pins s σ H Q I h => ?_⟩
  rw [eval_ListComp]
  refine lc_coreX tk hs2 hf hc hN I hi ok hg ht he hs h fun D C s' m H' I' q hn f => ⟨m, hn, fun h'' sb => ?_⟩
  obtain ⟨f0, f1, f2, f3, f4, f5⟩ := f
  exact ⟨.ref D, H', I'.turned (t' := s'.toks) (fun b o hb e => (sb.2 b hb).trans e) f0 f1 f3 f4 f5, rfl, q⟩
/-- name = [..] on one line, the name a local -/
theorem ps_setLcX {W : WX} {i : Nat} {y : Str} {py : Pos} {elt tg iter : Expr} {ifs : List Expr} {scope : Scope} {own : List (Str × Nat)} {pos spos : Pos} {wi : TI} {g : TG} {tt : TT} {te : St → TE} (tk : Takes X W) (hs2 : X.stack = X.env :: X.outer) (hf : X.env.frame = some X.env.locals) (hc : X.calm = true) (hN : X.N.Nodup) (hy : X.N[i]? = some y) (hyl : X.env.scope.names.lookup y = some .local)
    (hsw : swapsWith (.ListComp elt [⟨tg, iter, ifs, 0⟩] scope pos) (some (.Name y py)) spos.line X.env = pure true) (hi : PI X tg iter wi) (ok : BlkOk X.N X.env.scope scope own)
    (hg : ∀ (s : Shared) (H : Hp) (C : Addr) (cl : List (Str × Addr)) (fp : List Addr), PG (X.blk s H scope (compEnvC scope cl C X.env) fp) tg g) (ht : ∀ (s : Shared) (H : Hp) (C : Addr) (cl : List (Str × Addr)) (fp : List Addr), PTs (X.blk s H scope (compEnvC scope cl C X.env) fp) ifs tt)
    (he : ∀ (s : Shared) (H : Hp) (C : Addr) (cl : List (Str × Addr)) (fp : List Addr) (xe : Value → Shared → Prop) (σ : St), Takes (X.bx s H scope (compEnvC scope cl C X.env) fp xe) (fun c d _ H' => W c d σ H') → PE (X.bx s H scope (compEnvC scope cl C X.env) fp xe) elt (te σ)) (hs : ∀ x, foldedSetIterable iter X.env x = pure x := by intro _; rfl) :
    PS X (.Assign [.Name y py] (.ListComp elt [⟨tg, iter, ifs, 0⟩] scope pos) spos) (tAsg (tLcX wi g tt te (own.map (·.2))) (gName i)) := by
  refine ⟨fun pins s σ H D I h => ?_⟩
  rw [exec_Assign_Name_used _ _ _ _ hsw]
  refine wpAny_bind (wpAny_standAt (wpAny_bind ?_))
  show wpAny _ X.A (do let _ ← comprehension (.ListComp elt [⟨tg, iter, ifs, 0⟩] scope pos) scope X.env (firstIterPos [⟨tg, iter, ifs, 0⟩] pos) (newList []) false (eval iter X.env) (some (assign (.Name y py) X.env))) _ _ s
  have h : tLcX wi g tt te (own.map (·.2)) σ H (fun x H1 => gName i x σ H1 D.nx) := h
  refine wpAny_bind (thn (lc_coreX (Qf := fun _ s' => SP X pins D .next s') tk hs2 hf hc hN I hi ok hg ht he hs h fun L C s' m H' I' q hn f => ?_) fun _ s' hq => wpAny_pure (wpAny_pure hq))
  show wpAny _ _ (assign (.Name y py) X.env (.ref L)) _ _ _
  refine wpAny_assign_Name (store_ok2 (v := V.ref L) I' hN hy (.inl hyl) rfl (fun s2 I2 ⟨a, sb, ha⟩ => ?_) (.inr hyl))
  obtain ⟨f0, f1, f2, f3, f4, f5⟩ := f
  have haC : C ≠ a := by
    rcases ha with z | z
    · rw [z]; exact f1
    · exact fun e => f4 y a z e.symm
  refine ⟨m, hn.sameBut sb haC, fun h3 sb3 => ?_⟩
  exact ⟨_, H', I2.turned (t' := s2.toks) (fun b o hb e => (sb3.2 b hb).trans e) f0 f1 f3 f4 f5, q⟩
end
end L2

end Df2
section Df3
set_option Elab.async false
set_option linter.all false
set_option maxRecDepth 100000
set_option maxHeartbeats 4000000
/-! Df3: by data: comprehensions out of which an exception goes. -/
namespace DL
open PySem PySem.Spec PyProof.Rows L2
variable [TabEnv]
def lcDX (gd : Ev → Prop) (g : WG) (t : WT) (w : WE) (vs : List Nat) (ds acc : List D) (e : Ev) (k : List D → Ev → Prop) (x : WX') : Prop := match ds with
  | [] => gd e ∧ k acc e
  | d :: ds => gd e ∧ plE vs e ∧ g d (unE vs e) fun e2 => t e2 (fun b e3 =>
      if b = true then w e3 (fun r e4 => dv r fun dd => acc.length < sizeLine ∧ lcDX gd g t w vs ds (acc ++ [dd]) (reE vs e e4) k x) (fun y e4 => x y (reE vs e e4))
      else lcDX gd g t w vs ds acc (reE vs e e3) k x) (fun _ _ => False)
def wLcX (wi : WI) (g : WG) (t : WT) (w : WE) (vs : List Nat) : WE := fun env q x => wi env (fun ds ix gd e => (∀ i ∈ ix, i ∉ vs) ∧ lcDX gd g t w vs ds [] e (fun acc e' => q (.own (.lst acc)) e') x) x
section
variable {K : PySem.W.Frag} {T T0 T' T1 T2 : TM} {H H0 H' H1 H2 : Hp} {env env0 env1 env2 : Ev} {σ σ0 σ1 σ2 : L2.St}
theorem llcX_at {g : WG} {t : WT} {w : WE} {vs : List Nat} {W0 : WX} {W : WX} {x : WX'} {Q : VK} {J : It} {ds : List D} {ix : List Nat} {gd : Ev → Prop} {q : R → Ev → Prop} {e1 : Ev} (E1 : EvOk K T1 H1 e1 σ) (io : ItOk K T1 H1 e1 σ J ds ix gd)
    (q1 : lcDX gd g t w vs ds [] e1 (fun acc e' => q (.own (.lst acc)) e') x) (xk : XOk K W T1 H1 e1 σ x) (k : ∀ T' H' env' r v, Af K T1 H1 e1 σ T' H' env' σ → RepR K T1 T' H' σ r v → q r env' → Q v H') : tLcX (fun _ _ R => R J H1) (LG K (wpR vs) g) (LT K W0 t) (fun σ => LE K (fun c d _ H' => W c d σ H') w) vs σ H1 Q := by
  intro D hD
  have t1 : T1 D = none := E1.good.none hD
  have gn : Gr T1 H1 (tag T1 D (some .tmp)) (upd H1 D (.lst [])) := Gr.new E1.good hD
  refine ⟨fun i m H' => m = ds.length - i ∧ i ≤ ds.length ∧ ∃ T' e' acc xs, Fr T1 H1 T' H' ∧ EvOk K T' H' e' σ ∧ Keep e1 σ e' σ ∧ T' D = some .tmp ∧ H' D = some (.lst xs) ∧ RepL K T' H' acc xs ∧
      lcDX gd g t w vs (ds.drop i) acc e' (fun acc e' => q (.own (.lst acc)) e') x, ⟨ds.length, by simp, by simp, _, e1, [], [], gn.fr, E1.grow gn, .refl, tag_same, upd_same, .nil, by simpa using q1⟩, ?_⟩
  rintro i m H' ⟨rfl, hi, T', e', acc, xs, f2, E2, k2, tD, hDx, ra, q2⟩
  have g2 : gd e' := by
    cases hd : ds.drop i with
    | nil => rw [hd] at q2; exact q2.1
    | cons d r => rw [hd] at q2; exact q2.1
  obtain ⟨st, gy⟩ := io T' H' e' σ f2 E2 (fun _ _ => rfl) g2 i
  by_cases hlt : i < ds.length
  · rw [List.drop_eq_getElem_cons hlt] at q2
    obtain ⟨_, pl, q2⟩ := q2
    refine .inr ⟨(gy ds[i] (by simp [hlt])).1, fun H5 => ∃ T' e' acc xs, Fr T1 H1 T' H5 ∧ EvOk K T' H5 e' σ ∧ Keep e1 σ e' σ ∧ T' D = some .tmp ∧ H5 D = some (.lst xs) ∧ RepL K T' H5 acc xs ∧
      lcDX gd g t w vs (ds.drop (i + 1)) acc e' (fun acc e' => q (.own (.lst acc)) e') x, fun H5 h5 => ⟨ds.length - (i + 1), by omega, rfl, hlt, h5⟩, fun x' H3 y => ?_⟩
    obtain ⟨T3, g3, rv⟩ := (gy ds[i] (by simp [hlt])).2 x' H3 y
    have E3 := (E2.grow g3).unE (vs := vs)
    have D3 := g3.fr.tmp tD
    have r3 := ra.mono g3.fr.le
    refine ⟨T3, _, ds[i], _, E3, rv, q2, fun T4 H4 e4 σ4 a4 w4 q4 => ?_⟩
    have hw : wipe σ4 vs = wipe σ vs := by
      have w4 : wipe σ4 vs = wipe (wipe σ vs) vs := w4
      rw [w4]
      exact List.ext_getElem? fun j => by
        by_cases hj : j ∈ vs
        · cases h1 : (wipe σ vs)[j]? with
          | none =>
            have : (wipe (wipe σ vs) vs).length = (wipe σ vs).length := wipe_length _ _
            rw [List.getElem?_eq_none_iff] at h1 ⊢
            rw [this]; exact h1
          | some y =>
            have hy : y = none := by
              cases y with
              | none => rfl
              | some y => exact absurd hj (wipe_some h1).2
            subst hy
            have hl : j < (wipe (wipe σ vs) vs).length := by rw [wipe_length]; exact (List.getElem?_eq_some_iff.mp h1).1
            rw [List.getElem?_eq_getElem hl]
            cases h2 : (wipe (wipe σ vs) vs)[j] with
            | none => rfl
            | some y => exact absurd hj (wipe_some (by rw [List.getElem?_eq_getElem hl, h2])).2
        · rw [wipe_out hj]
    refine ⟨hw, T4, e4, _, _, a4.ev, q4, fun T5 H5 e5 b a5 q5 => ?_, fun _ _ _ _ _ _ _ _ z => z.elim⟩
    have a6 := a4.trans a5
    have D5 := a6.fr.tmp D3.1
    have f5 : Fr T1 H1 T5 H5 := (f2.trans g3.fr).trans a6.fr
    have hD5 : H5 D = some (.lst xs) := (D5.2.trans D3.2).trans hDx
    cases b with
    | false =>
      have le6 : Le T3 H3 T5 H5 := a6.fr.le
      exact ⟨T5, _, acc, xs, f5, (E2.grow g3).reE pl le6 a6.ev hw, k2.trans (Keep.reE pl a6.kp hw), D5.1, hD5, r3.mono le6, q5⟩
    | true =>
      simp only [if_true] at q5
      refine iteT ?_
      refine ⟨T5, e5, _, _, a5.ev, q5, fun T6 H6 e6 r v a7 r7 q7 => ?_, fun T6 H6 e6 y c d a7 ry qx => xk T6 H6 (DL.reE vs e' e6) y c d ⟨f5.trans a7.fr, (E2.grow g3).reE pl ((a6.trans a7).fr.le) a7.ev hw, k2.trans (Keep.reE pl (a6.trans a7).kp hw)⟩ ry qx⟩
      have a8 := a6.trans a7
      have D6 := a7.fr.tmp D5.1
      have hD6 : H6 D = some (.lst xs) := D6.2.trans hD5
      -- the item is stored
      obtain ⟨T7, dd, f7, E7, le7, sl7, rv7, hz, q8, t7⟩ : ∃ T7 dd, Fr T3 H3 T7 H6 ∧ EvOk K T7 H6 e6 σ4 ∧ Le T6 H6 T7 H6 ∧ True ∧ RepV K T7 H6 dd v ∧ acc.length < sizeLine ∧ lcDX gd g t w vs (ds.drop (i + 1)) (acc ++ [dd]) (DL.reE vs e' e6) (fun acc e' => q (.own (.lst acc)) e') x ∧ T7 D = some .tmp := by
        cases r with
        | val d => exact ⟨T6, d, a8.fr, a7.ev, fun _ e => ⟨e, .inl rfl⟩, trivial, r7, q7.1, q7.2, D6.1⟩
        | loc j => exact q7.elim
        | own o =>
          obtain ⟨c, ec, n, tc, ro⟩ := r7
          subst ec
          have hc : D ≠ c := fun z => n (by rw [← z]; exact D5.1)
          have n3 : T3 c ≠ some .tmp := fun z => n (a6.fr.tmp z).1
          exact ⟨tag T6 c (some .fz), o.toD, a8.fr.retag tc n3 (by simp), a7.ev.retag tc, Le.retag tc, trivial, RepO.frozen (ro.mono (Le.retag tc) rfl) tag_same, q7.1, q7.2, by rw [tag_ne hc]; exact D6.1⟩
      have le8 : Le T3 H3 T7 H6 := f7.le
      have Er := (E2.grow g3).reE pl le8 E7 hw
      obtain ⟨E9, le9⟩ := Er.bump (o := .lst (xs ++ [v])) t7 fun _ z => by cases z
      have n1 : T1 D ≠ some .tmp := by rw [t1]; simp
      refine ⟨xs, hD6, by rw [← (r3.length)]; exact hz, T7, _, acc ++ [dd], xs ++ [v], ((f2.trans g3.fr).trans f7).bump E9.good t7 n1, E9, k2.trans (Keep.reE pl a8.kp hw), t7, upd_same, ?_, q8⟩
      exact ((r3.mono le8).append (.cons rv7 .nil)).mono le9
  · have e : i = ds.length := by omega
    subst e
    rw [List.drop_length] at q2
    refine .inl ⟨st (Nat.le_refl _), k T' H' e' (.own (.lst acc)) (.ref D) ⟨f2, E2, k2⟩ ⟨D, rfl, ?_, tD, xs, hDx, ra⟩ q2.2⟩
    rw [t1]; simp
theorem llcX {wi : WI} {g : WG} {t : WT} {w : WE} {vs : List Nat} {W0 W : WX} {Q : VK} (h : LE K W (wLcX wi g t w vs) σ H Q) : tLcX (LI K W wi) (LG K (wpR vs) g) (LT K W0 t) (fun σ => LE K (fun c d _ H' => W c d σ H') w) vs σ H Q := by
  obtain ⟨T, env, q, x, E, w1, k, xk⟩ := h
  exact ⟨T, env, _, x, E, w1, fun T1 H1 e1 J ds ix gd a1 io q1 => llcX_at a1.ev io q1.2 (xk.after a1) fun T' H' env' r v a rr qq => k T' H' env' r v (a1.trans a) (rr.pre a1.fr) qq, xk⟩
end
theorem Cal.bx {X : Cx} {W W' : WX} {k : Nat} {s : Shared} {H : Hp} {scope : Scope} {cenv : Env} {fp : List Addr} {xe : Value → Shared → Prop} (c : Cal X W k) (tk : Takes (X.bx s H scope cenv fp xe) W') : Cal (X.bx s H scope cenv fp xe) W' k :=
  ⟨tk, c.calm, c.room, c.gds⟩
section
variable {X : Cx} {W W0 : WX} {pos : Pos} {tg e iter : Expr} {ifs : List Expr} {wi : WI} {g : WG} {t : WT} {w : WE}
theorem dlcX {scope : Scope} {own : List (Str × Nat)} (tk : Takes X W) (hs2 : X.stack = X.env :: X.outer) (hf : X.env.frame = some X.env.locals) (hc : X.calm = true) (hN : X.N.Nodup) (hi : PI X tg iter (LI X.K W wi)) (ok : BlkOk X.N X.env.scope scope own)
    (hg : ∀ (s : Shared) (H : Hp) (C : Addr) (cl : List (Str × Addr)) (fp : List Addr), DG (X.blk s H scope (compEnvC scope cl C X.env) fp) (wpR (own.map (·.2))) tg g)
    (ht : ∀ (s : Shared) (H : Hp) (C : Addr) (cl : List (Str × Addr)) (fp : List Addr), DTs (X.blk s H scope (compEnvC scope cl C X.env) fp) W0 ifs t)
    (he : ∀ (s : Shared) (H : Hp) (C : Addr) (cl : List (Str × Addr)) (fp : List Addr) (xe : Value → Shared → Prop) (W1 : WX), Takes (X.bx s H scope (compEnvC scope cl C X.env) fp xe) W1 → DE (X.bx s H scope (compEnvC scope cl C X.env) fp xe) W1 e w) (hs : ∀ x, foldedSetIterable iter X.env x = pure x := by intro _; rfl) :
    DE X W (.ListComp e [⟨tg, iter, ifs, 0⟩] scope pos) (wLcX wi g t w (own.map (·.2))) :=
  PE.le (pe_lcX tk hs2 hf hc hN hi ok hg ht (fun s H C cl fp xe σ tk => he s H C cl fp xe _ tk) hs) fun _ _ _ h => llcX h
theorem slcX {scope : Scope} {own : List (Str × Nat)} {i : Nat} {y : Str} {py spos : Pos} (tk : Takes X W) (hs2 : X.stack = X.env :: X.outer) (hf : X.env.frame = some X.env.locals) (hc : X.calm = true) (hN : X.N.Nodup) (hy : X.N[i]? = some y) (hyl : X.env.scope.names.lookup y = some .local)
    (hsw : swapsWith (.ListComp e [⟨tg, iter, ifs, 0⟩] scope pos) (some (.Name y py)) spos.line X.env = pure true) (hi : PI X tg iter (LI X.K W wi)) (ok : BlkOk X.N X.env.scope scope own)
    (hg : ∀ (s : Shared) (H : Hp) (C : Addr) (cl : List (Str × Addr)) (fp : List Addr), DG (X.blk s H scope (compEnvC scope cl C X.env) fp) (wpR (own.map (·.2))) tg g)
    (ht : ∀ (s : Shared) (H : Hp) (C : Addr) (cl : List (Str × Addr)) (fp : List Addr), DTs (X.blk s H scope (compEnvC scope cl C X.env) fp) W0 ifs t)
    (he : ∀ (s : Shared) (H : Hp) (C : Addr) (cl : List (Str × Addr)) (fp : List Addr) (xe : Value → Shared → Prop) (W1 : WX), Takes (X.bx s H scope (compEnvC scope cl C X.env) fp xe) W1 → DE (X.bx s H scope (compEnvC scope cl C X.env) fp xe) W1 e w) (hs : ∀ x, foldedSetIterable iter X.env x = pure x := by intro _; rfl) :
    DS X W (.Assign [.Name y py] (.ListComp e [⟨tg, iter, ifs, 0⟩] scope pos) spos) (wSet i (wLcX wi g t w (own.map (·.2)))) :=
  PS.le (ps_setLcX tk hs2 hf hc hN hy hyl hsw hi ok hg ht (fun s H C cl fp xe σ tk => he s H C cl fp xe _ tk) hs) fun F σ H h => by
    have z := lset h
    exact llcX (W0 := W0) (W := W) (Q := fun x H1 => gName i x σ H1 F.nx) z
end
end DL

end Df3
section Df4
set_option Elab.async false
set_option linter.all false
set_option maxRecDepth 100000
set_option maxHeartbeats 4000000
/-! Df4: defs whose last parameter has a default, called without it. -/
namespace DL
open PySem PySem.Spec PyProof.Rows L2
variable [TabEnv]
section
variable {P : Program} {w : World} {K : PySem.W.Frag} {mg : Str → Option Value} {base : Heap}
theorem fnGCD {dvs : List V} {kws : List (Str × V)} {x qual : Str} {st : Stmt} {f : Addr} {fd : FuncData} {N ps : List Str} {k : Nat} {sp : DSp} {b : WS} (F : L2.FunD K x qual (defArgs st) (defBody st) (defScope st) dvs kws f fd) (S : FnScope N ps (defScope st)) (hb : BodyC P w K mg base N qual st k f b)
    (len : ∀ args q x, sp args q x → args.length = ps.length) (hsp : ∀ args q x, sp args q x → b (initE N.length args) (poOf args q x)) : FnG P w K mg base (k + 1) f fd ps (spL K sp) := by
  obtain ⟨oc, od, dV, kV, doc, pm, an, cdv, ct, osl, rfl, lk, hcd, _, _⟩ := F.ex
  have hlen : ∀ vs H Q E, spL K sp vs H Q E → vs.length = ps.length := by
    rintro vs H Q E ⟨T, args, q, x, _, _, ha, h, _⟩
    rw [← ha.len]; exact len _ _ _ h
  constructor
  · exact hlen
  · intro A outer s H args us vs Q E hr hg e0 hbd rv hs
    have hl := hlen _ _ _ _ hs
    have KX : K.In s.heap := e0.mod.kin.keeps fun b o e => (e0.bs b o e).1
    have lim : s.heap.NoLimit := e0.mod.nolimit.keeps fun b o e => (e0.bs b o e).1
    apply codeAny_call_function hr.depth (KX _ _ lk) rfl S.co S.gen rfl (PySem.W.codeRec_of KX hcd)
    apply hbd
    have kinds : ∀ y ∈ ps.zip us, (defScope st).names.lookup y.1 = some .local ∨ ((defScope st).names.lookup y.1 = some .cell ∧ ((cellsFrom (s.heap.objs.size + 1) (defScope st).names []).lookup y.1).isSome = true) := by
      rintro ⟨n, v⟩ hy
      cases S.par n (List.of_mem_zip hy).1 with
      | inl q => exact Or.inl q
      | inr q => exact Or.inr ⟨q, PySem.W.cellsFrom_some _ _ _ (Or.inl q)⟩
    apply wpAny_newFunctionEnv_cells S.kind kinds
    intro fenv he s1 ic
    subst he
    constructor
    · exact lim.keeps ic.toInCall.keep
    · apply codeAny_func
      obtain ⟨T, ar, q, xx, gd, nt, ha, hq, kr, kx⟩ := hs
      have I : Inv (cxB P w K mg base N qual st f cdv A outer s H E) [] (L2.start N vs) H s1 := inv_start S hr.hd e0 hl rv ic
      have ck : Cok (cxB P w K mg base N qual st f cdv A outer s H E) (wxE E) k := ⟨⟨takes_of rfl rfl rfl rfl, rfl, hr.deeper _, hg⟩, passes_of rfl, S.nd⟩
      have hpl : ps.length ≤ N.length := by have := congrArg List.length S.pre; rw [List.length_take] at this; omega
      have hal : ar.length ≤ N.length := by rw [len _ _ _ hq]; exact hpl
      have E0 : EvOk K T H (initE N.length ar) (L2.start N vs) := init_ok rfl hal gd ha
      have ends : ∀ {T' : TM} {H' : Hp} {env' : Ev} {σ' : L2.St}, Af K T H (initE N.length ar) (L2.start N vs) T' H' env' σ' → ArBk K T' H' 0 ar (exitA ar env') vs := by
        intro T' H' env' σ' a
        refine exit_ok ha a.ev (fun i o e => ?_) rfl ?_
        · have hi : i < ar.length := (List.getElem?_eq_some_iff.mp e).1
          have e0 : (initE N.length ar)[i]? = some (.bor o) := by
            unfold initE
            rw [List.getElem?_append_left (by simpa using hi), List.getElem?_map, e]; rfl
          obtain ⟨z1, z2⟩ := a.kp.2 i _ e0 rfl
          rw [Nat.zero_add]
          refine ⟨?_, z2⟩
          rw [z1]
          unfold L2.start
          have hv : i < vs.length := by rw [← ha.len]; exact hi
          rw [List.getElem?_append_left (by simpa using hv), List.getElem?_map, List.getElem?_eq_getElem hv]; rfl
        · rw [a.kp.1]
          unfold initE
          simp
      have res : ∀ {T' : TM} {H' : Hp} {env' : Ev} {σ' : L2.St} {r : R} {v : V}, Af K T H (initE N.length ar) (L2.start N vs) T' H' env' σ' → RepR K T T' H' σ' r v → (∀ i, r ≠ .loc i) → RepF K T T' H' r v := by
        intro T' H' env' σ' r v a h hn
        cases r with
        | val d => exact h
        | loc i => exact absurd rfl (hn i)
        | own o =>
          obtain ⟨c, ec, n, t, ro⟩ := h
          refine ⟨c, ec, fun z => ?_, t, ro⟩
          have := (a.fr.off z).1
          rw [t] at this; cases this
      have run := (hb cdv A outer s H E ⟨_, _, lk, rfl, rfl⟩ ck).run [] s1 (L2.start N vs) H { nx := fun _ H' => Q .non H', rt := Q } I ⟨T, initE N.length ar, poOf ar q xx, E0, hsp _ _ _ hq, ⟨fun T' H' env' σ' a z => ?_, fun T' H' env' σ' r v a rr z => ?_, fun T' H' env' σ' e c d a rx z => ?_, fun _ _ _ _ _ z => z.elim, fun _ _ _ _ _ z => z.elim⟩⟩
      · apply wpAny_mono run _ (fun e s' he => he)
        intro fl s' hq'
        cases fl with
        | ret u =>
          obtain ⟨v, σ', H', J, rv', z⟩ := hq'
          exact ⟨v, H', J.os, J.bare, J.base, J.hok, rv', z⟩
        | next =>
          obtain ⟨σ', H', J, z⟩ := hq'
          exact ⟨.non, H', J.os, J.bare, J.base, J.hok, rfl, z⟩
        | brk => obtain ⟨_, _, _, z⟩ := hq'; exact z.elim
        | cont => obtain ⟨_, _, _, z⟩ := hq'; exact z.elim
      · exact kr T' H' (.val .non) _ .non a.fr (ends a) (by show RepV _ _ _ _ _; simp [RepV]) z
      · exact kr T' H' r _ v a.fr (ends a) (res a rr z.1) z.2
      · exact kx T' H' e _ c d a.fr (ends a) rx z
theorem fnGD {x qual : Str} {st : Stmt} {f : Addr} {fd : FuncData} {N ps : List Str} {k : Nat} {sp : DSp} {b : WS} {dvs : List V} {kws : List (Str × V)} (F : L2.FunD K x qual (defArgs st) (defBody st) (defScope st) dvs kws f fd) (S : FnScope N ps (defScope st)) (hb : BodyD P w K mg base N qual st k b)
    (len : ∀ args q x, sp args q x → args.length = ps.length) (hsp : ∀ args q x, sp args q x → b (initE N.length args) (poOf args q x)) : FnG P w K mg base (k + 1) f fd ps (spL K sp) :=
  fnGCD F S (fun cdv A outer s H E _ => hb f cdv A outer s H E) len hsp
omit [TabEnv] in
/-- a def of the text whose defaults are the tuple at t -/
theorem funD_mk {x qual : Str} {st : Stmt} {f t : Addr} {oc : Value} {od an : Option Addr} {osl : Array (Option Value)} {kV doc pm cdv ct : Value} {o : Obj} {its : List Value} {n : Nat} {dvs : List V} (l : K.lookup f = some ⟨oc, od, .func (PySem.W.fnOf x qual (defArgs st) (defBody st) (defScope st) (.ref t) kV doc pm an cdv ct), osl⟩)
    (c : PySem.W.codeIn K cdv qual = true) (k : PySem.W.keepIn K (.ref f) = true) (lt : K.lookup t = some o) (ht : o.data = .seq its.toArray n) (hv : Vals dvs its) (hn : dvs ≠ []) : L2.FunD K x qual (defArgs st) (defBody st) (defScope st) dvs [] f (PySem.W.fnOf x qual (defArgs st) (defBody st) (defScope st) (.ref t) kV doc pm an cdv ct) :=
  ⟨⟨oc, od, _, kV, doc, pm, an, cdv, ct, osl, rfl, l, c, .inr ⟨hn, t, o, its, n, rfl, lt, ht, hv⟩, .inl rfl⟩, k⟩
end
/-- the promise of the def when its last parameter is its default -/
def dfl (b : Bool) (sp : DSp) : DSp := fun args q x => sp (args ++ [.val (.bl b)]) (fun r as => q r (as.take args.length)) (fun y as => x y (as.take args.length))
section
variable {K : PySem.W.Frag} {T : TM} {H : Hp}
theorem ArOk.snoc {d : D} {v : V} (r : RepV K T H d v) : ∀ {j : Nat} {as : List Ar} {vs : List V}, ArOk K T H j as vs → ArOk K T H j (as ++ [.val d]) (vs ++ [v])
  | _, _, _, .nil => .cons r .nil
  | _, _, _, .cons a h => .cons a (ArOk.snoc r h)
theorem ArBk.unsnoc {d : D} {v : V} : ∀ {j : Nat} {as bs : List Ar} {vs : List V}, as.length = vs.length → ArBk K T H j (as ++ [.val d]) bs (vs ++ [v]) → ArBk K T H j as (bs.take as.length) vs
  | _, [], _, [], _, _ => by simpa using ArBk.nil
  | _, a :: as, _, w :: vs, hl, h => by
    cases h with
    | cons b h => exact .cons b (ArBk.unsnoc (by simpa using hl) h)
theorem spL_dfl {b : Bool} {sp : DSp} {vs : List V} {Q : VK} {E : XK} (h : spL K (dfl b sp) vs H Q E) : spL K sp (vs ++ [.bl b]) H Q E := by
  obtain ⟨T, args, q, x, gd, nt, ha, hs, kr, kx⟩ := h
  have hs : sp (args ++ [.val (.bl b)]) (fun r as => q r (as.take args.length)) (fun y as => x y (as.take args.length)) := hs
  exact ⟨T, args ++ [.val (.bl b)], _, _, gd, nt, ha.snoc (by simp [RepV]), hs, fun T' H' r as v f bk rr qq => kr T' H' r _ v f (bk.unsnoc ha.len) rr qq, fun T' H' e as c d f bk rx xx => kx T' H' e _ c d f (bk.unsnoc ha.len) rx xx⟩
end
section
variable {X : Cx} {W : WX} {pos p apos : Pos} {k : Nat} {f C : Addr} {fd : FuncData} {ps : List Str} {sp : DSp} {x m : Str} {e o : Expr} {es : List Expr} {b : Bool}
theorem ecallFD {wa : WA} (F : FnG X.prog X.w X.K X.mg X.base k f fd ps (spL X.K sp)) (ck : Cal X W k) (hm : X.mg x = some (.ref f)) (hk : PySem.W.keepIn X.K (.ref f) = true) (hb : ∃ ds, Vals [.bl b] ds ∧ Binds X.K fd ps ds) (ha : DA X W (e :: es) wa) (hg : Gl X x := by rfl)
    (hdb : (x == ("__debug__" : Str)) = false := by decide) (he : starEach (e :: es) X.env = (false, eval e X.env) :: starEach es X.env := by rfl) (hpl : (backTo pos (starEach es X.env)).any (·.1) = false := by rfl) : DE X W (.Call (.Name x p) (e :: es) [] pos) (wFn (dfl b sp) wa) := by
  obtain ⟨ds, hv, hb⟩ := hb
  refine ⟨fun pins s σ H Q I h => ?_⟩
  obtain ⟨T, env, q, y, E, w, k', xk⟩ := h
  refine wpAny_Call_Name_kw (ld_glob I hg hm ?_ hdb)
  refine PySem.W.callWith_K (h₀ := X.base) I.ok.mod.kin hk (thn (ha.run pos pins s σ H (fun vs H1 => spL X.K (dfl b sp) vs H1 Q (L2.WE W σ)) I ?_) fun us s1 ⟨vs, H1, I1, r, q⟩ => ⟨I1.kIn, ?_⟩) he hpl
  · exact ⟨T, env, _, y, E, w, fun T1 H1 e1 rs vs a1 rr nd w1 => lfn a1 rr nd w1 k' xk, xk⟩
  · exact run_fnG F ck.room ck.gds hb hv (passAt ck.tk σ) I1 r (spL_dfl q)
end
end DL

end Df4
section Df5
set_option Elab.async false
set_option linter.all false
set_option maxRecDepth 100000
set_option maxHeartbeats 4000000
/-! Df5: xs.pop(). -/
namespace DL
open PySem PySem.Spec PyProof.Rows L2
variable [TabEnv]
def wPop (wo : WE) : WE := fun env q x => wo env (fun ro e1 => isLstR ro e1 ∧ match ro with
  | .loc k => ∃ y, mutK e1 k (fun o q' => match o with | .lst ds => ds[ds.length - 1]? = some y ∧ q' (.lst ds.dropLast) | _ => False) fun e3 => q (.val y) e3
  | _ => False) x
theorem RepL.dropLast {K : PySem.W.Frag} {T : TM} {H : Hp} {ds : List D} {vs : List V} (h : RepL K T H ds vs) : RepL K T H ds.dropLast vs.dropLast := by
  rw [List.dropLast_eq_take, List.dropLast_eq_take, h.length]
  exact h.take _
theorem dpop {X : Cx} {W : WX} {o : Expr} {wo : WE} {apos cpos : Pos} (ho : DE X W o wo) (hbase : attributeBase o "pop" X.env (eval o X.env) = eval o X.env := by rfl) (hline : (apos.endLine == cpos.line) = true := by rfl) :
    DE X W (.Call (.Attribute o "pop" apos) [] [] cpos) (wPop wo) := by
  refine PE.le (pe_bm0 PySem.F.plainAttrs_list PySem.F.slot_list_pop PySem.F.type_list_pop mt_pop ho hbase hline) fun σ H Q h => ?_
  obtain ⟨T, env, q, x, E, w, k, xk⟩ := h
  refine ⟨T, env, _, x, E, w, fun T1 H1 e1 ro y a1 r1 w1 => ⟨lst_ty a1.ev r1 w1.1, ?_⟩, xk⟩
  have w2 := w1.2
  cases ro <;> first | exact w2.elim | skip
  rename_i j
  obtain ⟨yd, w2⟩ := w2
  obtain ⟨a, ob, rfl, t, ro, mk, w6, done⟩ := mut_ok a1.ev (show σ[j]? = some (some y) from r1) w2
  cases ob <;> first | exact w6.elim | skip
  rename_i ds
  obtain ⟨xs, hx, r⟩ := ro
  obtain ⟨hj, w7⟩ := w6
  obtain ⟨vy, hvy, ry⟩ := r.get hj
  have le : ∀ {ho : HO}, Le T1 H1 T1 (upd H1 a ho) := fun {ho} => Le.sl t
  refine ⟨a, xs, vy, rfl, rfl, hx, by rw [← r.length]; exact hvy, ?_⟩
  exact k _ _ _ (.val yd) vy (Af.trans a1 (done (.lst ds.dropLast) _ ⟨_, upd_same, (r.mono le).dropLast⟩)) (ry.mono le) w7
end DL

end Df5
section Qy
set_option Elab.async false
set_option linter.all false
set_option maxRecDepth 100000
set_option maxHeartbeats 400000
set_option exponentiation.threshold 100000
/-! Qy: integers without common divisors whose powers make others (k90). -/
namespace DL
open PySem
variable [TabEnv]
def prodL : List Nat → Nat
  | [] => 1
  | a :: l => a * prodL l
theorem prodL_app : ∀ a b : List Nat, prodL (a ++ b) = prodL a * prodL b
  | [], b => by simp [prodL]
  | x :: a, b => by
    show x * prodL (a ++ b) = x * prodL a * prodL b
    rw [prodL_app a b, Nat.mul_assoc]
theorem prodL_pos : ∀ {l : List Nat}, (∀ x ∈ l, 1 ≤ x) → 1 ≤ prodL l
  | [], _ => Nat.le_refl _
  | x :: l, h => Nat.mul_pos (h x (by simp)) (prodL_pos fun y hy => h y (List.mem_cons_of_mem _ hy))
theorem two_pow_len : ∀ {l : List Nat}, (∀ x ∈ l, 1 < x) → 2 ^ l.length ≤ prodL l
  | [], _ => Nat.le_refl _
  | x :: l, h => by
    show 2 ^ (l.length + 1) ≤ x * prodL l
    rw [Nat.pow_succ, Nat.mul_comm]
    exact Nat.mul_le_mul (h x (by simp)) (two_pow_len fun y hy => h y (List.mem_cons_of_mem _ hy))
/-- products of powers -/
inductive GenB (B : List Nat) : Nat → Prop
  | one : GenB B 1
  | mul {b n : Nat} : b ∈ B → GenB B n → GenB B (b * n)
theorem GenB.of {B : List Nat} {b : Nat} (h : b ∈ B) : GenB B b := by
  have := GenB.mul h .one
  rwa [Nat.mul_one] at this
theorem GenB.two {B : List Nat} {m n : Nat} (hm : GenB B m) (hn : GenB B n) : GenB B (m * n) := by
  induction hm with
  | one => rwa [Nat.one_mul]
  | mul hb _ ih => rw [Nat.mul_assoc]; exact .mul hb ih
theorem GenB.bind {B C : List Nat} (h : ∀ b ∈ B, GenB C b) {n : Nat} (hn : GenB B n) : GenB C n := by
  induction hn with
  | one => exact .one
  | mul hb _ ih => exact (h _ hb).two ih
theorem GenB.pos {B : List Nat} (h : ∀ b ∈ B, 1 < b) {n : Nat} (hn : GenB B n) : 1 ≤ n := by
  induction hn with
  | one => exact Nat.le_refl _
  | mul hb _ ih => exact Nat.mul_pos (Nat.lt_of_lt_of_le Nat.one_pos (Nat.le_of_lt (h _ hb))) ih
theorem GenB.nil {n : Nat} (h : GenB [] n) : n = 1 := by
  cases h with
  | one => rfl
  | mul hb _ => cases hb
theorem GenB.cop {B : List Nat} {b : Nat} (h : ∀ c ∈ B, Nat.gcd b c = 1) {n : Nat} (hn : GenB B n) : Nat.gcd b n = 1 := by
  induction hn with
  | one => exact Nat.gcd_one_right b
  | mul hb _ ih => exact Nat.Coprime.mul_right (h _ hb) ih
theorem GenB.split {B : List Nat} {b n : Nat} (hn : GenB (b :: B) n) : ∃ e m, n = b ^ e * m ∧ GenB B m := by
  induction hn with
  | one => exact ⟨0, 1, by simp, .one⟩
  | @mul c n hb _ ih =>
    obtain ⟨e, m, rfl, hm⟩ := ih
    rcases List.mem_cons.mp hb with rfl | hb
    · exact ⟨e + 1, m, by rw [Nat.pow_succ, Nat.mul_comm (c ^ e) c, Nat.mul_assoc], hm⟩
    · exact ⟨e, c * m, by rw [Nat.mul_left_comm], .mul hb hm⟩
/-- above 1, without common divisors -/
structure CopB (B : List Nat) : Prop where
  gt : ∀ b ∈ B, 1 < b
  cop : B.Pairwise (fun a b => Nat.gcd a b = 1)
theorem CopB.perm {B C : List Nat} (h : CopB B) (p : C.Perm B) : CopB C :=
  ⟨fun b hb => h.gt b (p.mem_iff.mp hb), (p.pairwise_iff (fun {a b} e => by rw [Nat.gcd_comm]; exact e)).mpr h.cop⟩
theorem CopB.nodup {B : List Nat} (h : CopB B) : B.Nodup := by
  have := h.cop
  have gt := h.gt
  clear h
  induction B with
  | nil => exact List.nodup_nil
  | cons b B ih =>
    rw [List.pairwise_cons] at this
    rw [List.nodup_cons]
    refine ⟨fun z => ?_, ih this.2 fun c hc => gt c (List.mem_cons_of_mem _ hc)⟩
    have := this.1 b z
    rw [Nat.gcd_self] at this
    have := gt b (by simp)
    omega
theorem filter_prod {o : Nat} : ∀ {B : List Nat}, B.Nodup → o ∈ B → prodL B = o * prodL (B.filter fun x => decide (x ≠ o))
  | b :: B, nd, h => by
    rw [List.nodup_cons] at nd
    show b * prodL B = _
    by_cases e : b = o
    · subst e
      have : B.filter (fun x => decide (x ≠ b)) = B := List.filter_eq_self.mpr fun x hx => by
        have : x ≠ b := fun z => nd.1 (by rw [← z]; exact hx)
        simpa using this
      rw [List.filter_cons_of_neg (by simp), this]
    · have h : o ∈ B := (List.mem_cons.mp h).resolve_left fun z => e z.symm
      rw [List.filter_cons_of_pos (by simpa using e)]
      show _ = o * (b * _)
      rw [filter_prod nd.2 h, Nat.mul_left_comm]
/-- on the way -/
structure RInv (ns : List Nat) (E : Nat) (B W : List Nat) : Prop where
  cb : CopB B
  w1 : ∀ m ∈ W, 1 ≤ m
  gen : ∀ n ∈ ns, GenB (B ++ W) n
  dv : ∀ m, m ∈ B ∨ m ∈ W → ∃ n ∈ ns, m ∣ n
  sz : ∃ s, W.length ≤ ns.length + 2 * s ∧ 2 ^ s * (prodL W * prodL B) ≤ 2 ^ E
def muR (B W : List Nat) : Nat := 3 * (prodL W * prodL B) + W.length
theorem CopB.one {B : List Nat} (h : CopB B) : ∀ x ∈ B, 1 ≤ x := fun x hx => Nat.le_of_lt (h.gt x hx)
theorem RInv.start {ns : List Nat} {E : Nat} (h1 : ∀ n ∈ ns, 1 ≤ n) (hE : prodL ns ≤ 2 ^ E) : RInv ns E [] ns :=
  ⟨⟨fun _ h => (nomatch h), List.Pairwise.nil⟩, h1, fun n hn => .of (by simpa using hn), fun m hm => ⟨m, by simpa using hm, Nat.dvd_refl m⟩, 0, by simp, by simpa [prodL] using hE⟩
theorem RInv.wlen {ns B W : List Nat} {E : Nat} (h : RInv ns E B W) : W.length ≤ ns.length + 2 * E := by
  obtain ⟨s, h1, h2⟩ := h.sz
  have p1 := prodL_pos h.w1
  have p2 := prodL_pos h.cb.one
  have : 2 ^ s ≤ 2 ^ E := Nat.le_trans (Nat.le_mul_of_pos_right _ (Nat.mul_pos p1 p2)) h2
  have := (Nat.pow_le_pow_iff_right (by decide : 1 < 2)).mp this
  omega
theorem RInv.blen {ns B W : List Nat} {E : Nat} (h : RInv ns E B W) : B.length ≤ E := by
  obtain ⟨s, h1, h2⟩ := h.sz
  have p1 := prodL_pos h.w1
  have b2 := two_pow_len h.cb.gt
  have : 2 ^ B.length ≤ 2 ^ E := by
    refine Nat.le_trans b2 (Nat.le_trans ?_ h2)
    rw [← Nat.mul_assoc]
    exact Nat.le_mul_of_pos_left _ (Nat.mul_pos (Nat.pow_pos (by decide)) p1)
  exact (Nat.pow_le_pow_iff_right (by decide : 1 < 2)).mp this
theorem prodL_snoc (W : List Nat) (m : Nat) : prodL (W ++ [m]) = prodL W * m := by
  rw [prodL_app]
  simp [prodL]
/-- a number that is 1 or there already -/
theorem RInv.skip {ns B W : List Nat} {E m : Nat} (h : RInv ns E B (W ++ [m])) (hm : m = 1 ∨ m ∈ B) : RInv ns E B W ∧ muR B W < muR B (W ++ [m]) := by
  have m1 : 1 ≤ m := h.w1 m (by simp)
  have pw : prodL W ≤ prodL (W ++ [m]) := by
    rw [prodL_snoc]
    exact Nat.le_mul_of_pos_right _ m1
  refine ⟨⟨h.cb, fun x hx => h.w1 x (by simp [hx]), fun n hn => (h.gen n hn).bind fun b hb => ?_, fun x hx => h.dv x (hx.imp id fun z => by simp [z]), ?_⟩, ?_⟩
  · rcases List.mem_append.mp hb with hb | hb
    · exact .of (by simp [hb])
    · rcases List.mem_append.mp hb with hb | hb
      · exact .of (by simp [hb])
      · obtain rfl : b = m := by simpa using hb
        rcases hm with rfl | hm
        · exact .one
        · exact .of (by simp [hm])
  · obtain ⟨s, h1, h2⟩ := h.sz
    refine ⟨s, by rw [List.length_append] at h1; simp at h1; omega, Nat.le_trans (Nat.mul_le_mul_left _ (Nat.mul_le_mul_right _ pw)) h2⟩
  · unfold muR
    have := Nat.mul_le_mul_right (prodL B) pw
    rw [List.length_append]
    simp
    omega
/-- a number without common divisors with all -/
theorem RInv.put {ns B W : List Nat} {E m : Nat} (h : RInv ns E B (W ++ [m])) (hm : m ≠ 1) (hc : ∀ b ∈ B, Nat.gcd m b = 1) : RInv ns E (B ++ [m]) W ∧ muR (B ++ [m]) W < muR B (W ++ [m]) := by
  have m1 : 1 ≤ m := h.w1 m (by simp)
  have pe : prodL W * prodL (B ++ [m]) = prodL (W ++ [m]) * prodL B := by
    rw [prodL_snoc, prodL_snoc, Nat.mul_assoc, Nat.mul_comm (prodL B) m]
  refine ⟨⟨⟨fun b hb => ?_, List.pairwise_append.mpr ⟨h.cb.cop, List.pairwise_singleton _ _, fun a ha b hb => ?_⟩⟩, fun x hx => h.w1 x (by simp [hx]), fun n hn => (h.gen n hn).bind fun b hb => .of ?_, fun x hx => h.dv x ?_, ?_⟩, ?_⟩
  · rcases List.mem_append.mp hb with hb | hb
    · exact h.cb.gt b hb
    · obtain rfl : b = m := by simpa using hb
      omega
  · obtain rfl : b = m := by simpa using hb
    rw [Nat.gcd_comm]
    exact hc a ha
  · simp only [List.mem_append, List.mem_singleton] at hb ⊢
    rcases hb with hb | hb | hb
    · exact .inl (.inl hb)
    · exact .inr hb
    · exact .inl (.inr hb)
  · rcases hx with hx | hx
    · rcases List.mem_append.mp hx with hx | hx
      · exact .inl hx
      · exact .inr (by simp at hx; simp [hx])
    · exact .inr (by simp [hx])
  · obtain ⟨s, h1, h2⟩ := h.sz
    refine ⟨s, by rw [List.length_append] at h1; simp at h1; omega, by rw [pe]; exact h2⟩
  · unfold muR
    rw [pe, List.length_append]
    simp
/-- a number that shares a divisor -/
theorem RInv.cut {ns B W : List Nat} {E m o : Nat} (h : RInv ns E B (W ++ [m])) (ho : o ∈ B) (hg : 1 < Nat.gcd m o) :
    RInv ns E (B.filter fun x => decide (x ≠ o)) (W ++ [Nat.gcd m o, o / Nat.gcd m o, m / Nat.gcd m o]) ∧ muR (B.filter fun x => decide (x ≠ o)) (W ++ [Nat.gcd m o, o / Nat.gcd m o, m / Nat.gcd m o]) < muR B (W ++ [m]) := by
  have m1 : 1 ≤ m := h.w1 m (by simp)
  have o1 := h.cb.gt o ho
  generalize eg : Nat.gcd m o = g at hg ⊢
  have gm : g ∣ m := by rw [← eg]; exact Nat.gcd_dvd_left m o
  have go : g ∣ o := by rw [← eg]; exact Nat.gcd_dvd_right m o
  obtain ⟨a, rfl⟩ := gm
  obtain ⟨b, rfl⟩ := go
  have g0 : 0 < g := by omega
  rw [Nat.mul_div_cancel_left _ g0, Nat.mul_div_cancel_left _ g0]
  have a1 : 1 ≤ a := Nat.pos_of_ne_zero fun z => by subst z; omega
  have b1 : 1 ≤ b := Nat.pos_of_ne_zero fun z => by subst z; omega
  have pb := filter_prod h.cb.nodup ho
  have pw : prodL (W ++ [g, b, a]) = prodL W * (g * (b * a)) := by
    rw [prodL_app]
    simp [prodL]
  have W1 : 1 ≤ prodL W := prodL_pos fun x hx => h.w1 x (by simp [hx])
  have pe : g * (prodL (W ++ [g, b, a]) * prodL (B.filter fun x => decide (x ≠ g * b))) = prodL (W ++ [g * a]) * prodL B := by
    rw [pw, prodL_snoc, pb]
    generalize prodL W = w
    generalize prodL (B.filter fun x => decide (x ≠ g * b)) = f
    simp only [Nat.mul_comm, Nat.mul_left_comm, Nat.mul_assoc]
  have F1 : 1 ≤ prodL (B.filter fun x => decide (x ≠ g * b)) := prodL_pos fun x hx => h.cb.one x (List.mem_filter.mp hx).1
  have P1 : 1 ≤ prodL (W ++ [g, b, a]) := by
    rw [pw]
    exact Nat.mul_pos W1 (Nat.mul_pos g0 (Nat.mul_pos b1 a1))
  have hw : ∀ x ∈ W ++ [g, b, a], 1 ≤ x := fun x hx => by
    rcases List.mem_append.mp hx with hx | hx
    · exact h.w1 x (by simp [hx])
    · simp only [List.mem_cons, List.not_mem_nil, or_false] at hx
      rcases hx with rfl | rfl | rfl <;> omega
  have half : 2 * (prodL (W ++ [g, b, a]) * prodL (B.filter fun x => decide (x ≠ g * b))) ≤ prodL (W ++ [g * a]) * prodL B := by
    rw [← pe]
    exact Nat.mul_le_mul_right _ hg
  refine ⟨⟨⟨fun x hx => h.cb.gt x (List.mem_filter.mp hx).1, h.cb.cop.filter _⟩, hw, fun n hn => (h.gen n hn).bind fun x hx => ?_, fun x hx => ?_, ?_⟩, ?_⟩
  · rcases List.mem_append.mp hx with hx | hx
    · by_cases e : x = g * b
      · subst e
        exact (GenB.of (b := g) (by simp)).two (.of (by simp))
      · exact .of (List.mem_append_left _ (List.mem_filter.mpr ⟨hx, by simpa using e⟩))
    · rcases List.mem_append.mp hx with hx | hx
      · exact .of (by simp [hx])
      · obtain rfl : x = g * a := by simpa using hx
        exact (GenB.of (b := g) (by simp)).two (.of (by simp))
  · rcases hx with hx | hx
    · exact h.dv x (.inl (List.mem_filter.mp hx).1)
    · rcases List.mem_append.mp hx with hx | hx
      · exact h.dv x (.inr (by simp [hx]))
      · simp only [List.mem_cons, List.not_mem_nil, or_false] at hx
        rcases hx with rfl | rfl | rfl
        · obtain ⟨n, hn, d⟩ := h.dv (x * a) (.inr (by simp))
          exact ⟨n, hn, Nat.dvd_trans (Nat.dvd_mul_right x a) d⟩
        · obtain ⟨n, hn, d⟩ := h.dv (g * x) (.inl ho)
          exact ⟨n, hn, Nat.dvd_trans (Nat.dvd_mul_left x g) d⟩
        · obtain ⟨n, hn, d⟩ := h.dv (g * x) (.inr (by simp))
          exact ⟨n, hn, Nat.dvd_trans (Nat.dvd_mul_left x g) d⟩
  · obtain ⟨s, h1, h2⟩ := h.sz
    refine ⟨s + 1, ?_, ?_⟩
    · simp only [List.length_append, List.length_cons, List.length_nil] at h1 ⊢
      omega
    · rw [Nat.pow_succ, Nat.mul_assoc]
      exact Nat.le_trans (Nat.mul_le_mul_left _ half) h2
  · unfold muR
    have pp : 1 ≤ prodL (W ++ [g, b, a]) * prodL (B.filter fun x => decide (x ≠ g * b)) := Nat.mul_pos P1 F1
    simp only [List.length_append, List.length_cons, List.length_nil]
    omega
end DL

end Qy
section Db5
set_option Elab.async false
set_option linter.all false
set_option maxRecDepth 100000
set_option maxHeartbeats 4000000
/-! Db5: texts in texts; int of long texts, text of long numbers; isinstance of a caught exception. -/
namespace PySem.W
open PySem PySem.Spec PySem.Calls PyProof.Rows
section
variable {prog : Program} {w : World} {A : Around} {E : Value → Shared → Prop} {s : Shared} {K : Frag} {x D : Addr} {ox : Obj} {od : Option Obj}
theorem findObj_dataQ {C : Addr} {name : Str} {a g : Value} (hc : (clsIn K C).isSome = true) (ha : findIn K (.ref C) name = some (some a)) (hg : specialIn K a "__get__" = some (some g)) (ht : takesIn K a = some true) : findObj K C od name = some (.bind g a) := by
  obtain ⟨cd, hc⟩ := Option.isSome_iff_exists.mp hc
  unfold findObj
  rw [hc, Option.bind_some, ha, Option.bind_some]
  simp [hg, ht]
theorem kin_classQ {Q : Option Value → Shared → Prop} (hga : findIn K (.ref D) "__getattribute__" = some (some (.builtin "BaseException.__getattribute__"))) (hgt : findIn K (.ref D) "__getattr__" = some none) (hsub : subIn K (.ref D) (.type "BaseException") = some true)
    (hdct : hasDictIn K D = true) (ha : findIn K (.ref D) "__class__" = some (some (.builtin "object.__class__")))
    (hn : specialIn K (.builtin "object.__class__") "__get__" = some (some (.builtin "getset_descriptor.__get__"))) (htk : takesIn K (.builtin "object.__class__") = some true) (hm : mroIn K D (.type "object") = some true)
    (X : K.In s.heap) (I : InstAt s.heap x ox D od) (h : Q (some (.ref D)) { s with toks := s.toks + 1 }) : wpAny (model prog w) A (getAttr? (.ref x) "__class__") Q E s := by
  have hf : findObj K D od "__class__" = some (.bind (.builtin "getset_descriptor.__get__") (.builtin "object.__class__")) := findObj_dataQ (by obtain ⟨cd, hc, _⟩ := any_some hdct; rw [hc]; rfl) ha hn htk
  obtain ⟨hp, g, d, t, os⟩ := s
  have L0 := I.type (M := model prog w)
  have L1 := looks_findIn (M := model prog w) X hga
  have L2 := looks_findIn (M := model prog w) X hgt
  have L3 := looks_find (M := model prog w) X I hf
  have sub : Looks (model prog w) hp (isInstance (.ref x) (.type "BaseException")) true := L0.andThen (looks_subIn X hsub)
  have hx0 : (false && onTheHeap (Value.builtin "BaseException.__getattribute__")) = false := rfl
  have hx2 : (Value.builtin "BaseException.__getattribute__" == Value.builtin "object.__getattribute__") = false := by decide +kernel
  have hx1 : (onTheHeap (Value.ref D) && Value.builtin "BaseException.__getattribute__" == Value.builtin "object.__getattribute__") = false := by rw [hx2]; rfl
  unfold getAttr? getAttrBy? getAttrBy
  refine wpAny_bind (wpAny_mkText (wpAny_bind (wpAny_attempt (wpAny_holding (wpAny_bind (L0.at (wpAny_bind (L1.at ?_))))))))
  show wpAny _ _ (if (onTheHeap (Value.ref D) && Value.builtin "BaseException.__getattribute__" == Value.builtin "object.__getattribute__") = true then _ else _) _ _ _
  rw [hx1, if_neg Bool.false_ne_true]
  unfold getAttrByItsOwn hookBefore
  refine wpAny_bind ?_
  rw [if_pos (show onTheHeap (Value.ref D) = true from rfl)]
  refine L2.at ?_
  refine wpAny_bind (wpAny_attempt (wpAny_holding ?_))
  unfold callGetattribute
  rw [hx0, if_neg Bool.false_ne_true]
  unfold boundAndCalled
  rw [PySem.F.excAttr_ValueError.ga.bind (.ref x)]
  refine wpAny_bind (wpAny_pure ?_)
  show wpAny _ _ (call (.builtin "BaseException.__getattribute__") [.ref x, .str "__class__" t]) _ _ _
  refine wpAny_call (codeAny_call_builtin PySem.F.excAttr_ValueError.ga.plain PySem.F.entry_bexc_ga ?_)
  refine @check_slot (model prog w) _ _ ⟨hp, g, d, t + 1, os⟩ "BaseException.__getattribute__" "BaseException" "__getattribute__" (.ref x) [.str "__class__" t] [] _ (by decide +kernel) (by decide +kernel) sub (PySem.F.args_bexc_ga (.ref x) (.str "__class__" t)) ?_
  unfold Builtin.«object.__getattribute__»
  refine wpAny_bind (wpAny_of_eq (a := ((Value.ref x : Value), [Value.str "__class__" t])) (by first | rfl | (simp only [slotArgs]; rfl)) ?_)
  refine wpAny_bind (wpAny_pure (wpAny_bind (L0.at (wpAny_bind (L3.at ?_)))))
  show wpAny _ _ (holding [Value.builtin "object.__class__"] (call (.builtin "getset_descriptor.__get__") [.builtin "object.__class__", .ref x, .ref D]) >>= ret) _ _ _
  refine wpAny_bind (wpAny_holding (wpAny_call (class_get (s := ⟨hp, g, d, t + 1, os⟩) (ox := ox) (od := od) X I hm ?_)))
  refine wpAny_pure ?_
  show wpAny _ _ (handedOut (.ref D)) _ _ _
  rw [handedOut_of (v := .ref D) rfl]
  first
    | exact wpAny_pure (wpAny_pure h)
    | exact wpAny_pure h
    | exact wpAny_pure (wpAny_bind (wpAny_pure (wpAny_pure h)))
theorem kitx_excQ (hga : findIn K (.ref D) "__getattribute__" = some (some (.builtin "BaseException.__getattribute__"))) (hgt : findIn K (.ref D) "__getattr__" = some none) (hsub : subIn K (.ref D) (.type "BaseException") = some true) (hdct : hasDictIn K D = true) (ha : findIn K (.ref D) "__class__" = some (some (.builtin "object.__class__")))
    (hn : specialIn K (.builtin "object.__class__") "__get__" = some (some (.builtin "getset_descriptor.__get__"))) (htk : takesIn K (.builtin "object.__class__") = some true) (hm : mroIn K D (.type "object") = some true) :
    KitX K (.ref x) (.ref D) (fun h => InstAt h x ox D od) where
  ty := fun _ _ _ I => I.type
  it := fun _ _ X _ => by
    obtain ⟨cdD, hcD, _⟩ := any_some hdct
    unfold clsIn at hcD
    split at hcD
    · rename_i c' d' cd' sl' ho
      intro A' Q' E' s' k q
      unfold isType loadHead
      exact wpAny_bind (wpAny_loadPart (k _ _ (X _ _ ho)) (wpAny_pure q))
    · cases hcD
  ne := fun h tp dd its n sl X htp => by
    obtain ⟨cdD, hcD, _⟩ := any_some hdct
    refine Bool.eq_false_iff.mpr fun q => ?_
    have e : D = tp := Value.ref.inj (beq_iff_eq.mp q)
    subst e
    unfold clsIn at hcD
    split at hcD
    · rename_i c' d' cd' sl' ho
      have z := (X _ _ ho).symm.trans htp
      cases z
    · cases hcD
  ca := fun X I k => kin_classQ hga hgt hsub hdct ha hn htk hm X I k
end
end PySem.W
/-! int of a text of up to 4300 signs -/
namespace PySem.W
open PySem PySem.Calls PySem.NumText PyProof.Rows
namespace KIN
theorem wp_textL {M : Model} {A : Around} {E : Value → Shared → Prop} {s : Shared} {Q : Value → Shared → Prop} {v : Value} {text : List Nat} {n : Int}
    (hn : s.heap.NoDigits) (hs : ¬ (text.takeWhile (· != 0)).length ≤ 640) (hr : (int_private% "readNumeral") 4300 10 (text.takeWhile (· != 0)) = (int_private% "Numeral.value") n)
    (ha : ((text.takeWhile (· != 0)).length == text.length) = true) (h : Q (.int n s.toks) { s with toks := s.toks + 1 }) :
    wpAny M A ((int_private% "intFromText") v text 10) Q E s := by
  obtain ⟨mc, hns, hnone⟩ := hn
  have hmax : ∀ {R : Nat → Shared → Prop}, R 4300 s → wpAny M A Builtin.intMaxStrDigits R E s := fun {R} hR => by
    unfold Builtin.intMaxStrDigits
    refine wpAny_bind (wpAny_nsGet hns ?_)
    rw [hnone]
    exact wpAny_pure hR
  obtain ⟨hp, g, d, tk, os⟩ := s
  repeat (any_goals (first
    | assumption
    | (with_reducible refine wpAny_ite_false (decide_eq_false hs) ?_)
    | (with_reducible refine wpAny_ite_true (decide_eq_true ha) ?_)
    | (with_reducible refine hmax ?_)
    | wp_step))
  all_goals (try rw [hr])
  all_goals (try dsimp only)
  repeat (any_goals (first
    | assumption
    | (with_reducible refine wpAny_ite_true (decide_eq_true ha) ?_)
    | wp_step))
structure HidL (p : Prop) : Prop where
  out : p
set_option maxHeartbeats 4000000 in
theorem meets_textL {x : PySem.Str} {u : Tok} {n : Int} (hl : ¬ (numSeenOf x).length ≤ 640) (h6 : x.length ≤ sizeLine) (hn : PySem.intText? x = some n) :
    Meets (Builtin.«int.__new__» ⟨[.type "int", .str x u], []⟩) (fun _ R s => s.heap.NoDigits ∧ R (.ok (.ret (.int n s.toks))) { s with toks := s.toks + 1 }) :=
  .of_wp fun prog w A R s h => by
    obtain ⟨hp, g, d, tk, os⟩ := s
    have f1 := F.conv_sub_int
    have f2 := F.madeHere_int
    have f3 := str_int
    have f4 := str_idx
    have f5 := str_trunc
    have f6 : typeOf (.str x u) = pure (.type "str") := rfl
    have hr : (int_private% "readNumeral") 4300 10 (numSeenOf x) = (int_private% "Numeral.value") n ∧ ((numSeenOf x).length == (numTextOf x).length) = true := by
      rcases read4300 x h6 with ⟨m, h1, h2, h3⟩ | ⟨h1, _⟩
      · rw [hn] at h1
        injection h1 with h1
        subst h1
        exact ⟨h3, h2⟩
      · rw [hn] at h1
        cases h1
    have hk := HidL.mk (And.intro hl hr)
    have hd := HidL.mk h.1
    have h := h.2
    clear hr hl hn h6
    repeat (any_goals (first
      | assumption
      | ((with_reducible show wpAny _ _ ((int_private% "intFromText") _ _ _) _ _ _); refine wp_textL hd.out hk.out.1 hk.out.2.1 hk.out.2.2 ?_)
      | wp_step))
    all_goals first | exact ⟨_, rfl, h⟩ | skip
set_option maxHeartbeats 4000000 in
theorem meets_textS {x : PySem.Str} {u : Tok} {n : Int} (hl : (numSeenOf x).length ≤ 640) (hn : PySem.intText? x = some n) :
    Meets (Builtin.«int.__new__» ⟨[.type "int", .str x u], []⟩) (fun _ R s => R (.ok (.ret (.int n s.toks))) { s with toks := s.toks + 1 }) :=
  .of_wp fun prog w A R s h => by
    obtain ⟨hp, g, d, tk, os⟩ := s
    have f1 := F.conv_sub_int
    have f2 := F.madeHere_int
    have f3 := str_int
    have f4 := str_idx
    have f5 := str_trunc
    have f6 : typeOf (.str x u) = pure (.type "str") := rfl
    have hr : (int_private% "readNumeral") 0 10 (numSeenOf x) = (int_private% "Numeral.value") n ∧ ((numSeenOf x).length == (numTextOf x).length) = true := by
      rcases read0 x hl with ⟨m, h1, h2, h3⟩ | ⟨h1, _⟩
      · rw [hn] at h1
        injection h1 with h1
        subst h1
        exact ⟨h3, h2⟩
      · rw [hn] at h1
        cases h1
    have hk := HidL.mk (And.intro hl hr)
    clear hr hl hn
    repeat (any_goals (first
      | assumption
      | ((with_reducible show wpAny _ _ ((int_private% "intFromText") _ _ _) _ _ _); refine wp_text hk.out.1 hk.out.2.1 hk.out.2.2 ?_)
      | wp_step))
    all_goals first | exact ⟨_, rfl, h⟩ | skip
theorem call_textL {prog : Program} {w : World} {A : Around} {E : Value → Shared → Prop} {s : Shared} {Q : Value → Shared → Prop} {x : PySem.Str} {t : Tok} {n : Int} (hd : s.heap.NoDigits) (hn : PySem.intText? x = some n) (h6 : x.length ≤ sizeLine) (h : Q (.int n s.toks) { s with toks := s.toks + 1 }) : wpAny (model prog w) A (call (.type "int") [.str x t]) Q E s := by
  by_cases hl : (numSeenOf x).length ≤ 640
  · exact call_int_1 (meets_textS hl hn) ⟨rfl, h⟩
  · exact call_int_1 (meets_textL hl h6 hn) ⟨hd, rfl, h⟩
end KIN
theorem noDigits_of {K : Frag} {h : Heap} (X : K.In h) (e : nsOkIn K cStatics = true) (q : nsIn K cStatics "sys.int_max_str_digits" = some none) : h.NoDigits :=
  ⟨_, .of_isNs (isNs_of_in X e), nsMap_none_of_in X e q⟩
end PySem.W
namespace DL
open PySem PySem.Spec PyProof.Rows L2
variable [TabEnv]
/-- isinstance(e, c), e the exception that the suite holds -/
def rIsX (K : PySem.W.Frag) (a : Addr) (cls : Value) (d : Option Addr) : List V → Hp → VK → Prop := fun xs H Q => ∃ (C dd : Addr) (fs : List (Str × V)) (c : V) (cv : Value) (b : Bool), cls = .ref C ∧ d = some dd ∧ H dd = some (.xd fs) ∧ ExcC K C ∧ xs = [.ref a, c] ∧ (∀ u, RelV c u → u = cv) ∧ PySem.W.kitOne K (.ref C) cv = some b ∧ Q (.bl b) H
theorem call_isX {X : Cx} {a : Addr} {oe : Obj} {cls : Value} {d : Option Addr} {pn : List (Addr × Obj)} (hz : Zc cls d oe) (hf : ∃ vs, oe.data = .fields vs) : CallR (X.suite a ((a, oe) :: pn)) (.builtin "isinstance") (rIsX X.K a cls d) := by
  intro pins s σ H xs us Q I r h
  obtain ⟨D, dd, fs, c, cv, b, ec, ed, ea, C, rfl, hcv, e, q⟩ := h
  subst ec
  subst ed
  cases r with
  | cons rx rr =>
    cases rr with
    | cons rt rr =>
      cases rr
      cases rx
      have ecv := hcv _ rt
      subst ecv
      obtain ⟨hget, _⟩ := I.pin (a, oe) (List.mem_append.mpr (.inl List.mem_cons_self))
      obtain ⟨vs, hv⟩ := hf
      have hx : ObjOk X.prog X.w H s.heap dd (.xd fs) := I.hok dd _ ea
      obtain ⟨mA, hns, hr⟩ := hx
      obtain ⟨od, ho, hl⟩ := lookIn_ns hns
      have J : PySem.W.InstAt s.heap a oe D (some od) := ⟨hget, hz.1, by unfold PySem.W.notCls; rw [hv] <;> rfl, by rw [hz.2]; exact ho⟩
      exact PySem.W.kia_one (PySem.W.kitx_excQ C.hg C.hk C.hs C.hd C.ha C.hn C.ht C.hm) I.kIn J e (fun z => nomatch z) fun tk => ⟨.bl b, H, I.kept (t' := tk) fun _ _ z => z, rfl, q⟩
def gIsX (K : PySem.W.Frag) (a : Addr) (cls : Value) (d : Option Addr) (x c : D) (q : R → Prop) : Prop := match x with
  | .xn a' dd C ns vs => a' = a ∧ cls = .ref C ∧ d = some dd ∧ ExcC K C ∧ ∃ cv b, c.cls = some cv ∧ PySem.W.kitOne K (.ref C) cv = some b ∧ q (.val (.bl b))
  | _ => False
theorem cls_only {K : PySem.W.Frag} {T : TM} {H : Hp} {d : D} {v : V} {u : Value} (h : View K T H d v) (e : d.cls = some u) : ∀ y, RelV v y → y = u := fun y ry => by
  cases d <;> simp [D.cls] at e <;> subst e
  · cases h.ref; exact ry
  · cases h.ty; exact ry
theorem cIsX {X : Cx} {a : Addr} {oe : Obj} {cls : Value} {d : Option Addr} {pn : List (Addr × Obj)} (hz : Zc cls d oe) (hf : ∃ vs, oe.data = .fields vs) : CallD (X.suite a ((a, oe) :: pn)) (.builtin "isinstance") (g2 (gIsX X.K a cls d)) := CallD.of2 (call_isX hz hf) fun T H σ x c v v' Q q g hv hc hg k => by
  cases x <;> first | exact hg.elim | skip
  obtain ⟨rfl, ec, ed, C, cv, b, ecv, e, z⟩ := hg
  simp only [View, RepV] at hv
  obtain ⟨rfl, td, fs, hd, _, _⟩ := hv
  exact ⟨_, _, fs, v', cv, b, ec, ed, hd, C, rfl, cls_only hc ecv, e, k T H _ _ (Gr.refl g) rep_bl z⟩
/-! texts -/
def gInStr (f : Bool → Bool) (a b : D) (q : R → Prop) : Prop := ∃ (c : Nat) (l : List Nat), a = .str ⟨#[c]⟩ ∧ b = .str ⟨l.toArray⟩ ∧ q (.val (.bl (f (decide (c ∈ l)))))
theorem oInStr {X : Cx} : OpD X (compareOp .In) (gInStr id) := by
  refine ⟨_, op_in_str, fun T H σ da db va vb Q q g ha hb h k => ?_⟩
  obtain ⟨c, l, rfl, rfl, h⟩ := h
  cases ha.str; cases hb.str
  refine ⟨_, _, rfl, rfl, k T H _ _ (Gr.refl g) rep_bl ?_⟩
  rw [show (!(Builtin.Str.occurrences ⟨l.toArray⟩ ⟨#[c]⟩ 0 (Str.length ⟨l.toArray⟩) 1).isEmpty) = decide (c ∈ l) from SX.in_one l c]
  exact h
/-- a text in a tuple of texts -/
def gInStrs (f : Bool → Bool) (a b : D) (q : R → Prop) : Prop := ∃ (x : Str) (xs : List Str), a = .str x ∧ b = .tup (xs.map .str) ∧ q (.val (.bl (f (decide (x ∈ xs)))))
theorem inV_str (x : Str) (xs : List Str) : inV (.str x) (xs.map V.str) = decide (x ∈ xs) := by
  rw [Bool.eq_iff_iff, decide_eq_true_iff]
  simp only [inV, List.any_map, List.any_eq_true, Function.comp, eqV, beq_iff_eq]
  constructor
  · rintro ⟨y, hy, rfl⟩
    exact hy
  · intro h
    exact ⟨x, h, rfl⟩
theorem rep_strs {K : PySem.W.Frag} {T : TM} {H : Hp} : ∀ {xs : List Str} {ys : List V}, RepL K T H (xs.map .str) ys → ys = xs.map V.str
  | [], ys, h => by
    simp only [List.map_nil, RepL] at h
    exact h
  | x :: xs, ys, h => by
    obtain ⟨v, r, rfl, h1, h2⟩ := RepL.cons_inv h
    have h1 : v = .str x := by simpa only [RepV] using h1
    rw [h1, rep_strs h2]
    rfl
theorem oNotInStrs {X : Cx} : OpD X (compareOp .NotIn) (gInStrs not) := by
  refine ⟨_, op_notIn_seq, fun T H σ da db va vb Q q g ha hb h k => ?_⟩
  obtain ⟨x, xs, rfl, rfl, h⟩ := h
  cases ha.str
  rw [← inV_str] at h
  obtain ⟨a, ys, rfl, s, r⟩ := hb.tup
  rw [rep_strs r] at s
  exact ⟨a, _, rfl, .inr (SqT.of s.2), rfl, by simp [flatV], k T H _ _ (Gr.refl g) rep_bl h⟩
abbrev gAddI := gInt (fun _ _ => True) fun i j => .int (i + j)
theorem oAddA {X : Cx} : OpD X (inplaceOp .Add) gAddI := oInt0 iop_add fun _ _ _ _ => by simp [RepV]
/-- the digit limit is untouched -/
structure NoDg (K : PySem.W.Frag) : Prop where
  ok : PySem.W.nsOkIn K cStatics = true
  no : PySem.W.nsIn K cStatics "sys.int_max_str_digits" = some none
theorem call_intL {X : Cx} (nd : NoDg X.K) : CallR X (.type "int") (fun xs H Q => ∃ a n, xs = [.str a] ∧ PySem.intText? a = some n ∧ a.length ≤ sizeLine ∧ Q (.int n) H) := by
  intro pins s σ H xs us Q I rs h
  obtain ⟨a, n, rfl, hn, hl, h⟩ := h
  cases rs with
  | cons r1 rs =>
    cases rs
    obtain ⟨t, rfl⟩ := r1
    exact PySem.W.KIN.call_textL (PySem.W.noDigits_of I.kIn nd.ok nd.no) hn hl ⟨.int n, H, I.tok _, ⟨_, rfl⟩, h⟩
/-- int of a long text -/
def gIntL (d : D) (q : R → Prop) : Prop := match d with
  | .str a => ∃ n, PySem.intText? a = some n ∧ a.length ≤ sizeLine ∧ q (.val (.int n))
  | _ => False
theorem cIntL {X : Cx} (nd : NoDg X.K) : CallD X (.type "int") (g1 gIntL) := CallD.of1 (call_intL nd) fun T H σ d v Q q g hv hg k => by
  cases d <;> first | exact hg.elim | skip
  cases hv.str
  obtain ⟨n, e, hl, hq⟩ := hg
  exact ⟨_, n, rfl, e, hl, k T H _ _ (Gr.refl g) rep_int hq⟩
end DL

end Db5
section Db6
set_option Elab.async false
set_option linter.all false
set_option maxRecDepth 100000
set_option maxHeartbeats 4000000
/-! Db6: tuple(text); global constants. -/
namespace L2
open PySem PySem.Spec PyProof.Rows
section
variable {X : Cx}
def sgV (x : Str) : List V := x.cps.toList.map fun c => V.str ⟨#[c]⟩
theorem call_tupleS (hc : X.calm = true) : CallR X (.type "tuple") (fun xs H Q => ∃ x : Str, xs = [.str x] ∧ x.length ≤ sizeLine ∧ ∀ l, H l = none → Q (.ref l) (upd H l (.tup (sgV x)))) := by
  intro pins s σ H xs us Q I r h
  obtain ⟨x, rfl, hl, q⟩ := h
  obtain ⟨u, rfl, rx⟩ := vals1 r
  obtain ⟨t, rfl⟩ := rx
  refine call_tuple_str (I.ok.hd hc) x t (fun h' tk acc kp hacc => ?_) hl
  have hv : Vals (sgV x) acc.toList := by
    refine vals_of_at (by simp [sgV, hacc.1]) fun j y v hy hv => ?_
    obtain ⟨c, u, h1, rfl⟩ := hacc.2 j v (by simpa using hv)
    have h1' : x.cps.toList[j]? = some c := by simpa using h1
    simp only [sgV, List.getElem?_map, h1', Option.map_some, Option.some.injEq] at hy
    subst hy
    exact ⟨u, rfl⟩
  have I1 : Inv X pins σ H { s with heap := h', toks := tk } := I.kept kp
  have I2 : Inv X pins σ (upd H h'.objs.size (.tup (sgV x))) { s with heap := h'.push { cls := .type "tuple", data := .seq acc }, toks := tk } :=
    I1.laid (fun b o e => Heap.get?_push_of_some _ e) (Nat.le_refl _) (show ObjOk X.prog X.w _ _ _ (.tup (sgV x)) from ⟨by simp [sgV]; exact hl, acc.toList, hv, by
      have e : acc.toList.toArray = acc := by simp
      rw [e]
      exact IsTup.new _ _⟩)
  exact ⟨.ref h'.objs.size, _, I2, rfl, q _ (I1.hok.fresh (Nat.le_refl _))⟩
end
end L2
namespace DL
open PySem PySem.Spec PyProof.Rows L2
variable [TabEnv]
def sgD (x : Str) : List D := x.cps.toList.map fun c => D.str ⟨#[c]⟩
theorem rep_sg {K : PySem.W.Frag} {T : TM} {H : Hp} : ∀ l : List Nat, RepL K T H (l.map fun c => D.str ⟨#[c]⟩) (l.map fun c => V.str ⟨#[c]⟩)
  | [] => by simp [RepL]
  | c :: l => by
    have h := rep_sg (K := K) (T := T) (H := H) l
    simp only [List.map_cons, RepL, RepV]
    exact ⟨_, _, rfl, rfl, h⟩
/-- tuple(text) -/
def gTupS (d : D) (q : R → Prop) : Prop := match d with
  | .str x => x.length ≤ sizeLine ∧ q (.val (.tup (sgD x)))
  | _ => False
theorem cTupS {X : Cx} (hc : X.calm = true) : CallD X (.type "tuple") (g1 gTupS) := CallD.of1 (call_tupleS hc) fun T H σ d v Q q g hv hg k => by
  cases d <;> first | exact hg.elim | skip
  cases hv.str
  exact ⟨_, rfl, hg.1, fun p hp => k _ _ _ _ (Gr.new g hp) (new_tup g hp (rep_sg _)) hg.2⟩
section
variable {X : Cx} {W : WX} {pos : Pos}
theorem eglobSE {x i : Str} (hm : ∃ t, X.mg x = some (.str i t)) (hg : Gl X x := by rfl) (hd : (x == ("__debug__" : Str)) = false := by decide) : DE X W (.Name x pos) (wC (.str i)) := by
  obtain ⟨t, hm⟩ := hm
  exact dglobS hg hm hd
theorem eglobIE {x : Str} {i : Int} (hm : ∃ t, X.mg x = some (.int i t)) (hg : Gl X x := by rfl) (hd : (x == ("__debug__" : Str)) = false := by decide) : DE X W (.Name x pos) (wC (.int i)) := by
  obtain ⟨t, hm⟩ := hm
  exact dglobI hg hm hd
end
end DL

end Db6
section Db8
set_option Elab.async false
set_option linter.all false
set_option maxRecDepth 100000
set_option maxHeartbeats 4000000
/-! Db8: a list that is not the empty list, whatever lies in it. -/
namespace L2
open PySem PySem.Spec PyProof.Rows
section
variable {X : Cx}
def rNeNil : R2 := fun x y H Q => ∃ a b xs, x = .ref a ∧ y = .ref b ∧ H a = some (.lst xs) ∧ H b = some (.lst []) ∧ Q (.bl (!xs.isEmpty)) H
theorem op_neNil (hu : X.A.units + 64 < cLine) : OpR X (compareOp .NotEq) rNeNil := by
  intro pins s σ H x y v u Q I rx ry h
  obtain ⟨a, b, xs, rfl, rfl, ha, hb, q⟩ := h
  cases rx
  cases ry
  obtain ⟨ia, ra, ⟨oa, na, ea, ca, _, da⟩, _⟩ := I.list (SqL.of (K := X.K) ha)
  obtain ⟨ib, rb, ⟨ob, nb, eb, cb, _, db⟩, _⟩ := I.list (SqL.of (K := X.K) hb)
  have la := ra.length
  have lb := rb.length
  have hu2 : X.A.units < cLine := by omega
  cases xs with
  | nil =>
    have a0 : ia = [] := List.eq_nil_of_length_eq_zero (by simpa using la.symm)
    have b0 : ib = [] := List.eq_nil_of_length_eq_zero (by simpa using lb.symm)
    subst a0 b0
    exact SeqAt.RcNeAt.lists (e := fun _ => true) ⟨oa, ea, ca, na, da⟩ ⟨ob, eb, cb, nb, db⟩ rfl hu2 (fun j h1 _ => absurd h1 (by simp)) _ _ _ _ ⟨.bl _, H, I, rfl, q⟩
  | cons y ys =>
    have b0 : ib = [] := List.eq_nil_of_length_eq_zero (by simpa using lb.symm)
    subst b0
    have a1 : (ia.toArray.size != (([] : List Value).toArray).size) = true := by
      rw [List.size_toArray, ← la]
      rfl
    exact SeqAt.RcNeAt.lists_lengths ⟨oa, ea, ca, na, da⟩ ⟨ob, eb, cb, nb, db⟩ a1 hu2 _ _ _ _ ⟨.bl _, H, I, rfl, q⟩
end
end L2
namespace DL
open PySem PySem.Spec PyProof.Rows L2
variable [TabEnv]
def gNeNil (a b : D) (q : R → Prop) : Prop := match a, b with
  | .lst xs, .lst [] => q (.val (.bl (!xs.isEmpty)))
  | _, _ => False
theorem oNeNil {X : Cx} (hu : X.A.units + 64 < cLine) : OpD X (compareOp .NotEq) gNeNil := by
  refine ⟨_, op_neNil hu, fun T H σ da db va vb Q q g ha hb h k => ?_⟩
  cases da <;> cases db <;> first | exact h.elim | skip
  rename_i xs ys
  cases ys with
  | cons y ys => exact h.elim
  | nil =>
  obtain ⟨a, us, rfl, ea, ra⟩ := ha.lst
  obtain ⟨b, vs, rfl, eb, rb⟩ := hb.lst
  have b0 : vs = [] := List.eq_nil_of_length_eq_zero (by simpa using rb.length.symm)
  subst b0
  refine ⟨a, b, us, rfl, rfl, ea, eb, k T H _ _ (Gr.refl g) rep_bl ?_⟩
  have e : us.isEmpty = xs.isEmpty := by
    have := ra.length
    cases us <;> cases xs <;> simp at this ⊢
  rw [e]
  exact h
end DL

end Db8
section Db9
set_option Elab.async false
set_option linter.all false
set_option maxRecDepth 100000
set_option maxHeartbeats 4000000
/-! Db9: enumerate over a list that stays whose it is. -/
namespace DL
open PySem PySem.Spec PyProof.Rows L2
variable [TabEnv]
def wEnumV (u : WA) : WI := fun env q x => u env (fun rs e => match rs with
  | [.val a] => seqD a fun xs => q (enumD xs) [] (fun _ => True) e
  | [.loc i] => slv e[i]? fun d => seqD d fun xs => q (enumD xs) [i] (fun e' => slv e'[i]? fun d' => d' = d) e
  | _ => False) x
section
variable {K : PySem.W.Frag} {W : WX} {T T0 T' T1 : TM} {H H0 H' H1 : Hp} {env env0 : Ev} {σ σ0 : L2.St}
theorem enum_itG {b : Bool} {a : Addr} {ds : List D} {ix : List Nat} {gd : Ev → Prop} (h1 : ∀ T' H' env' σ', Fr T H T' H' → EvOk K T' H' env' σ' → (∀ i ∈ ix, σ'[i]? = σ[i]?) → gd env' → ∃ ys, SqX b K H' a ys ∧ RepL K T' H' ds ys) :
    ItOk K T H env σ (ItE K b a) (enumD ds) ix gd := by
  intro T' H' env' σ' f E c g i
  obtain ⟨xs, s1, r1⟩ := h1 T' H' env' σ' f E c g
  have l1 := r1.length
  refine ⟨fun hi => ⟨xs, s1, ?_⟩, fun d hd => ?_⟩
  · unfold enumD at hi
    rw [List.length_mapIdx] at hi
    omega
  · unfold enumD at hd
    rw [List.getElem?_mapIdx, Option.map_eq_some_iff] at hd
    obtain ⟨x, e1, rfl⟩ := hd
    obtain ⟨v1, g1, q1⟩ := r1.get e1
    refine ⟨⟨xs, v1, s1, g1⟩, fun z H2 hy => ?_⟩
    obtain ⟨p, x', rfl, hp, rfl, f1⟩ := hy
    have := f1 xs s1
    rw [g1] at this; cases this
    exact ⟨_, Gr.new (t := some .fz) E.good hp (by simp) (.inl rfl), new_tup (σ := σ') E.good hp (.cons (by simp [RepV]) (.cons q1 .nil))⟩
/-- a sequence that may be read as d at each turn -/
theorem seq_fixV {d : D} {v : V} {ix : List Nat} {gd : Ev → Prop} {k : List D → Prop}
    (h : ∀ T' H' env' σ', Fr T H T' H' → EvOk K T' H' env' σ' → (∀ i ∈ ix, σ'[i]? = σ[i]?) → gd env' → View K T' H' d v) (h0 : View K T H d v) (q : seqD d k) :
    ∃ b a xs ds, v = .ref a ∧ k ds ∧ SqX b K H a xs ∧ ∀ T' H' env' σ', Fr T H T' H' → EvOk K T' H' env' σ' → (∀ i ∈ ix, σ'[i]? = σ[i]?) → gd env' → ∃ ys, SqX b K H' a ys ∧ RepL K T' H' ds ys := by
  cases d <;> first | exact q.elim | skip
  · obtain ⟨a, ys, rfl, s, r⟩ := h0.tup
    refine ⟨false, a, ys, _, rfl, q, s.sq, fun T' H' env' σ' f E c g => ?_⟩
    obtain ⟨a', ys', e, s', r'⟩ := (h T' H' env' σ' f E c g).tup
    cases e
    exact ⟨ys', s'.sq, r'⟩
  · obtain ⟨a, ys, rfl, s, r⟩ := h0.lst
    refine ⟨true, a, ys, _, rfl, q, SqL.of s, fun T' H' env' σ' f E c g => ?_⟩
    obtain ⟨a', ys', e, s', r'⟩ := (h T' H' env' σ' f E c g).lst
    cases e
    exact ⟨ys', SqL.of s', r'⟩
  · obtain ⟨a, ys, rfl, s, r⟩ := h0.fix
    refine ⟨true, a, ys, _, rfl, q, s.sq, fun T' H' env' σ' f E c g => ?_⟩
    obtain ⟨a', ys', e, s', r'⟩ := (h T' H' env' σ' f E c g).fix
    cases e
    exact ⟨ys', s'.sq, r'⟩
theorem lenumV {u : WA} {RR : It → Hp → Prop} (h : LI K W (wEnumV u) σ H RR) : iEnq K (LA K W u) σ H RR := by
  obtain ⟨T, env, q, x, E, w, k, xk⟩ := h
  refine ⟨T, env, _, x, E, w, fun T1 H1 e1 rs vs a1 rr nd w1 => ?_, xk⟩
  cases rr with
  | nil => exact w1.elim
  | @cons r1 v1 _ _ h1 rr =>
    cases rr with
    | nil =>
      cases r1 with
      | val d =>
        obtain ⟨b, a, xs, ds, rfl, w2, s1, g1⟩ := seq_fix h1 w1
        exact ⟨b, a, xs, rfl, s1, k T1 H1 e1 _ _ [] _ a1 (enum_it g1) w2⟩
      | own o => exact w1.elim
      | loc i =>
        have h1 : σ[i]? = some (some v1) := h1
        have w1 : slv e1[i]? fun d => seqD d fun xs => q (enumD xs) [i] (fun e' => slv e'[i]? fun d' => d' = d) e1 := w1
        obtain ⟨d, q2, q3⟩ := slv_some w1
        obtain ⟨b, a, xs, ds, rfl, w2, s1, g1⟩ := seq_fixV (ix := [i]) (gd := fun e' => slv e'[i]? fun d' => d' = d) (σ := σ) (fun T' H' e' s' f E' c g => slv_view E' ((c i (by simp)).trans h1) g) (slv_view a1.ev h1 q2) q3
        exact ⟨b, a, xs, rfl, s1, k T1 H1 e1 _ _ [i] _ a1 (enum_itG g1) w2⟩
    | cons => cases r1 <;> exact w1.elim
end
theorem denumV {X : Cx} {W : WX} {e : Expr} {u : WA} {p pos tpos : Pos} {elts : List Expr} {kk : Nat} (hm : X.mg "enumerate" = none) (ha : DA X W [e] u) (hg : Gl X "enumerate" := by rfl)
    (hs : starEach [e] X.env = [(false, eval e X.env)] := by rfl) :
    PI X (.Tuple elts kk tpos) (.Call (.Name "enumerate" p) [e] [] pos) (LI X.K W (wEnumV u)) := PI.le (pi_enq hm ha hg hs) fun _ _ _ h => lenumV h
end DL

end Db9
section Dc1
set_option Elab.async false
set_option linter.all false
set_option maxRecDepth 100000
set_option maxHeartbeats 4000000
/-! Dc1: the truth of a if c else b. -/
namespace L2
open PySem PySem.Spec PyProof.Rows
section
variable {X : Cx} {a b c : Expr} {pos : Pos}
def tIfT (t u v : TT) : TT := fun σ H Q => t σ H fun d H1 => if d = true then u σ H1 Q else v σ H1 Q
theorem pt_ifExpT {tc ta tb : TT} (hc : PT X c tc) (ha : PT X a ta) (hb : PT X b tb) : PT X (.IfExp c a b pos) (tIfT tc ta tb) := by
  refine ⟨fun pins s σ H Q I h => ?_⟩
  refine isTrue_IfExp (thn (hc.run pins s σ H _ I h) fun d s1 ⟨H1, I1, q1⟩ => ?_)
  cases d with
  | true => exact ha.run pins s1 σ H1 Q I1 q1
  | false => exact hb.run pins s1 σ H1 Q I1 q1
end
end L2
namespace DL
open PySem PySem.Spec PyProof.Rows L2
variable [TabEnv]
section
variable {X : Cx} {W : WX} {a b c : Expr} {pos : Pos}
def wIfT (t u v : WT) : WT := fun env q x => t env (fun b e => if b = true then u e q x else v e q x) x
theorem difT {t u v : WT} (hc : DT X W c t) (ha : DT X W a u) (hb : DT X W b v) : DT X W (.IfExp c a b pos) (wIfT t u v) := by
  refine PT.le (pt_ifExpT hc ha hb) fun σ H Q h => ?_
  obtain ⟨T, env, q, x, E, w1, k, xk⟩ := h
  refine ⟨T, env, _, x, E, w1, fun T1 H1 e1 b a1 q1 => ?_, xk⟩
  cases b with
  | true => exact ⟨T1, e1, q, x, a1.ev, q1, fun T2 H2 e2 b a2 q2 => k T2 H2 e2 b (a1.trans a2) q2, xk.after a1⟩
  | false => exact ⟨T1, e1, q, x, a1.ev, q1, fun T2 H2 e2 b a2 q2 => k T2 H2 e2 b (a1.trans a2) q2, xk.after a1⟩
end
end DL

end Dc1
section Dc2
set_option Elab.async false
set_option linter.all false
set_option maxRecDepth 100000
set_option maxHeartbeats 4000000
/-! Dc2: o[i] as one of several targets; a text in a list of texts. -/
namespace DL
open PySem PySem.Spec PyProof.Rows L2
variable [TabEnv]
section
variable {X : Cx} {W : WX} {K : PySem.W.Frag} {σ : L2.St} {H : Hp} {o i : Expr} {pos : Pos} {wo wi : WE}
/-- o[i] as a target -/
def wGS (wo wi : WE) : WG := fun d env q => wo env (fun ro e2 => wi e2 (fun ri e3 => match ro with
  | .loc k => vw ri e3 fun i => mutK e3 k (setO i d) q
  | _ => False) (fun _ _ => False)) (fun _ _ => False)
theorem xok_no {T : TM} {env : Ev} : XOk K W T H env σ (fun _ _ => False) := fun _ _ _ _ _ _ _ _ z => z.elim
theorem lgs {ρ : Rl} (hρ : ∀ σ, ρ σ σ) {v : V} {Q : L2.St → Hp → Prop} (h : LG K ρ (wGS wo wi) v σ H Q) :
    L2.gSub (LE K W wo) (LE K W wi) (fun o i v H Q => rSetL o i v H Q ∨ ∃ a H4, o = .ref a ∧ DPut H a i v H4 ∧ Q H4) v σ H Q := by
  obtain ⟨T, env, d, q, E, r, w, k⟩ := h
  refine ⟨T, env, _, _, E, w, fun T2 H2 e2 ro y a2 r2 w2 => ⟨T2, e2, _, _, a2.ev, w2, fun T3 H3 e3 ri x a3 r3 w3 => ?_, xok_no⟩, xok_no⟩
  cases ro <;> first | exact w3.elim | skip
  rename_i j
  have a4 := a2.trans a3
  obtain ⟨di, hi, w5⟩ := vw_view a4.ev r3 w3
  obtain ⟨a, ob, rfl, t, ro, mk, w6, done⟩ := mut_ok a4.ev (show σ[j]? = some (some y) from r2) w5
  have rv5 : RepV K T3 H3 d v := RepV.mono a4.fr.le d v r
  have fin : ∀ {o' : Ob} {ho : HO}, RepO K T3 (upd H3 a ho) o' a → q (e3.set j (mk o')) → Q σ (upd H3 a ho) := fun {o' ho} ro' q' => k _ _ _ _ (a4.trans (done _ _ ro')) (hρ σ) q'
  have le : ∀ {ho : HO}, Le T3 H3 T3 (upd H3 a ho) := fun {ho} => Le.sl t
  cases ob with
  | lst ds =>
    cases di <;> first | exact w6.elim | skip
    obtain ⟨m, e, q⟩ := w6
    obtain ⟨xs, hx, r⟩ := ro
    cases hi.int
    exact .inl ⟨a, xs, _, m, rfl, rfl, hx, by rw [← r.length]; exact e, fin (o' := .lst (ds.set m d)) ⟨_, upd_same, RepL.set m (r.mono le) (rv5.mono le)⟩ q⟩
  | dk kvs =>
    obtain ⟨m, e, hz, q⟩ := w6
    obtain ⟨ys, hx, hk, r⟩ := ro
    cases key_rep hi e
    have hl : ys.length < sizeLine := by
      have := congrArg List.length hk
      simp at this
      omega
    refine .inr ⟨a, _, rfl, DPut.k hx hl, fin (o' := .dk (putD kvs m d)) ⟨_, upd_same, ?_, ?_⟩ q⟩
    · rw [putK_put]; exact putD_keys d v m kvs ys hk
    · rw [putK_put]; exact put_rep (rv5.mono le) hk (r.mono le)
  | dt kvs =>
    cases di <;> first | exact w6.elim | skip
    obtain ⟨m, e, hz, q⟩ := w6
    obtain ⟨ys, hx, hk, r⟩ := ro
    obtain ⟨b, zs, rfl, s, rz⟩ := hi.tup
    cases keys_rep rz e
    have hl : ys.length < sizeLine := by
      have := congrArg List.length hk
      simp at this
      omega
    refine .inr ⟨a, _, rfl, DPut.t hx s.2 hl, fin (o' := .dt (putD kvs m d)) ⟨_, upd_same, ?_, ?_⟩ q⟩
    · rw [putK_put]; exact putD_keys d v m kvs ys hk
    · rw [putK_put]; exact put_rep (rv5.mono le) hk (r.mono le)
  | ins C fs => exact w6.elim
theorem gsub {ρ : Rl} {is : List Nat} (R : RlOk ρ is) (hu : X.A.units + 1 < cLine) (ho : DE X W o wo) (hi : DE X W i wi)
    (ha : ∀ v, assign (.Subscript o i pos) X.env v = (do
      let ov ← holding [v] (eval o X.env)
      let iv ← holding [v, ov] (eval i X.env)
      standAt pos
      holding [v, ov, iv] (setItem ov iv v)
      release [v, ov, iv] []) := by intro _; rfl) : DG X ρ (.Subscript o i pos) (wGS wo wi) :=
  ⟨fun pins s σ H v u Q I r h => (pg_sub ho hi (PSet.or set_list (set_dict hu)) ha).run pins s σ H v u Q I r (lgs R.refl h)⟩
end
/-- a text in a list of texts, not in one -/
def gInTL (f : Bool → Bool) (a b : D) (q : R → Prop) : Prop := ∃ (x : Str) (xs : List Str), a = .str x ∧ b = .lst (xs.map .str) ∧ q (.val (.bl (f (decide (x ∈ xs)))))
theorem oNotInTL {X : Cx} : OpD X (compareOp .NotIn) (gInTL not) := by
  refine ⟨_, op_notIn_seq, fun T H σ da db va vb Q q g ha hb h k => ?_⟩
  obtain ⟨x, xs, rfl, rfl, h⟩ := h
  cases ha.str
  rw [← inV_str] at h
  obtain ⟨a, ys, rfl, s, r⟩ := hb.lst
  rw [rep_strs r] at s
  exact ⟨a, _, rfl, .inl (SqL.of s), rfl, by simp [flatV], k T H _ _ (Gr.refl g) rep_bl h⟩
end DL

end Dc2
section Qz
set_option Elab.async false
set_option linter.all false
set_option maxRecDepth 100000
set_option maxHeartbeats 400000
set_option exponentiation.threshold 100000
/-! Qz: the promises of k90. -/
namespace DL
open PySem
variable [TabEnv]
def intsN (l : List Nat) : List D := l.map fun (b : Nat) => .int (b : Int)
def badA (d : D) : Prop := (Vt d ∧ isRt d = false) ∨ ∃ r, Pass d r ∧ r.num ≤ 0
def GoodA (d : D) (r : Rat) : Prop := Pass d r ∧ 0 < r.num
def spToldA (C : Addr) : DSp := fun args q x => ∃ d w, args = [.val d, .val w] ∧ ((∃ r, GoodA d r ∧ q (.val (ratD r)) args) ∨ (badA d ∧ x (numX C w d) args))
def ZZ : Nat := 2 ^ 1100
structure BaseOf (ns B : List Nat) : Prop where
  cb : CopB B
  asc : B.Pairwise (· < ·)
  gen : ∀ n ∈ ns, GenB B n
  ones : (∀ n ∈ ns, n = 1) → B = []
  len : B.length ≤ 22000
  le : ∀ b ∈ B, b ≤ ZZ
def spRefd : DSp := fun args q _ => ∃ (a : Ar) (ns : List Nat), args = [a] ∧ a.rd = .lst (intsN ns) ∧ ns.length ≤ 20 ∧ (∀ n ∈ ns, 1 ≤ n ∧ n ≤ ZZ) ∧ ∀ B, BaseOf ns B → q (.val (.tup (intsN B))) [.val a.rd]
/-- ratios within sizes, above 0 -/
def Rz (r : Rat) : Prop := 0 < r.num ∧ r.num.natAbs ≤ ZZ ∧ r.den ≤ ZZ
def partsN (rs : List Rat) : List Nat := (rs.map fun r => r.num.natAbs) ++ rs.map fun r => r.den
def spBaseO : DSp := fun args q _ => ∃ (a : Ar) (rs : List Rat), args = [a] ∧ a.rd = .lst (rs.map ratD) ∧ rs.length ≤ 10 ∧ (∀ r ∈ rs, Rz r) ∧ ∀ B, BaseOf (partsN rs) B → q (.val (.tup (intsN B))) [.val a.rd]
/-- the first wrong one -/
def BadIn (ds : List D) (w : D) : Prop := ∃ ds1 rs1 ds2, ds = ds1 ++ w :: ds2 ∧ Rows2 GoodA ds1 rs1 ∧ ds1.length ≤ 10 ∧ badA w
def spCop (C : Addr) : DSp := fun args q x => ∃ (a : Ar) (ds : List D), args = [a] ∧ (a.rd = .lst ds ∨ a.rd = .tup ds) ∧
  ((∃ rs, Rows2 GoodA ds rs ∧ rs.length ≤ 10 ∧ (∀ r ∈ rs, Rz r) ∧ ∀ B, BaseOf (partsN rs) B → q (.val (.tup (intsN B))) [.val a.rd]) ∨ ∃ w, BadIn ds w ∧ x (numX C (.str "ratio") w) [.val a.rd])
def spRelB (C : Addr) : DSp := fun args _ x => ∃ (a : Ar) (ds : List D) (w : D), args = [a] ∧ (a.rd = .lst ds ∨ a.rd = .tup ds) ∧ BadIn ds w ∧ x (numX C (.str "ratio") w) [.val a.rd]
def spAsP (C : Addr) : DSp := fun args _ x => ∃ (d z : D) (a : Ar), args = [.val d, a, .val z] ∧ ((badA d ∧ x (numX C (.str "ratio") d) args) ∨ ∃ r ds w, GoodA d r ∧ (a.rd = .lst ds ∨ a.rd = .tup ds) ∧ BadIn ds w ∧ x (numX C (.str "ratio") w) [.val d, .val a.rd, .val z])
/-- a whole number as it is drawn -/
def Lot (r : Rat) : Prop := ∃ z : Nat, r = (z : Rat) ∧ 1 ≤ z ∧ z < 2 ^ 110
def spLPows : DSp := fun args q _ => ∃ (a : Ar) (rs : List Rat) (es : List Int), args = [a, .val (.lst (es.map .int))] ∧ a.rd = .lst (rs.map ratD) ∧ rs.length = es.length ∧ rs.length ≤ 5 ∧ (∀ r ∈ rs, Lot r) ∧ (∀ e ∈ es, e.natAbs ≤ 2) ∧ ∀ r, Rz r → q (.val (ratD r)) [.val a.rd, .val (.lst (es.map .int))]
def spLBP : DSp := fun args q _ => ∃ (B : List Nat) (r : Rat), args = [.val (.tup (intsN B)), .val (ratD r)] ∧ CopB B ∧ (∀ b ∈ B, b ≤ ZZ) ∧ B.length ≤ 22000 ∧ Rz r ∧ GenB B r.num.natAbs ∧ GenB B r.den ∧ ∀ l : List D, q (.val (.lst l)) args
def spLIsB : DSp := fun args q _ => ∃ (B : List Nat) (rs : List Rat), args = [.val (.tup (intsN B)), .val (.lst (rs.map ratD))] ∧ BaseOf (partsN rs) B ∧ rs.length ≤ 10 ∧ (∀ r ∈ rs, Rz r) ∧ q (.val (.bl true)) args
def spLRats : DSp := fun args q _ => ∃ (o : Ob) (k : Nat), args = [.bor o] ∧ PenOk (k + 150) o ∧ ∀ o' (rs : List Rat), PenOk k o' → rs.length ≤ 6 → (∀ r ∈ rs, Rz r) → q (.own (.lst (rs.map ratD))) [.bor o']
def spLRef90 : DSp := fun args q _ => ∃ (kd : Int) (a : Ar) (ds : List D) (w : D) (p : PyData), args = [.val (.int kd), a] ∧ a.rd = .lst ds ∧ (kd = 0 ∨ kd = 1 ∨ kd = 2) ∧ badA w ∧ Shn w p ∧ ((∃ l, ds = [.int 2, w, l]) ∨ ∃ l, ds = [w, l]) ∧
  q (.val (.tup [.str "ratio", .str p.shown])) [.val (.int kd), .val a.rd]
theorem toPs_exB : ∀ {ds : List D}, (∀ t ∈ ds, ∃ p, toP t = some p ∧ p.canLay0 = true ∧ p.depth ≤ 10) → ∃ ps, toPs ds = some ps ∧ PyData.canLayAll0 ps = true ∧ PyData.depthAll ps ≤ 10 ∧ ps.length = ds.length
  | [], _ => ⟨[], rfl, rfl, by decide, rfl⟩
  | d :: ds, h => by
    obtain ⟨p, e1, c1, d1⟩ := h d List.mem_cons_self
    obtain ⟨ps, e2, c2, d2, l2⟩ := toPs_exB fun t ht => h t (List.mem_cons_of_mem _ ht)
    refine ⟨p :: ps, by simp only [toPs, e1, e2], by simp only [PyData.canLayAll0, c1, c2, Bool.and_true], by simp only [PyData.depthAll]; omega, by simp [l2]⟩
theorem lstNil {ds : List D} (h : ∀ t ∈ ds, ∃ p, toP t = some p ∧ p.canLay0 = true ∧ p.depth ≤ 10) : ∃ p, toP (.lst ds) = some p ∧ SeqAt.shaped p = true ∧ PyData.eqv p (.list []) = ds.isEmpty := by
  obtain ⟨ps, e, c, d, l⟩ := toPs_exB h
  refine ⟨.list ps, by simp only [toP, e, Option.map_some], ?_, ?_⟩
  · unfold SeqAt.shaped
    rw [Bool.and_eq_true]
    refine ⟨by simp only [PyData.canLay0, c], decide_eq_true ?_⟩
    simp only [PyData.depth]
    omega
  · cases ps with
    | nil =>
      cases ds with
      | nil => rfl
      | cons _ _ => simp at l
    | cons p ps =>
      cases ds with
      | nil => simp at l
      | cons _ _ => simp [PyData.eqv, PyData.eqvAll]
theorem okI (z : Int) : ∃ p, toP (.int z) = some p ∧ p.canLay0 = true ∧ p.depth ≤ 10 := ⟨.int z, rfl, rfl, by simp [PyData.depth]⟩
theorem ints_ok (l : List Nat) : ∀ t ∈ intsN l, ∃ p, toP t = some p ∧ p.canLay0 = true ∧ p.depth ≤ 10 := fun t ht => by
  obtain ⟨b, _, rfl⟩ := List.mem_map.mp ht
  exact okI _
theorem okT (a b : Int) : ∃ p, toP (.tup [.int a, .int b]) = some p ∧ p.canLay0 = true ∧ p.depth ≤ 10 := ⟨.tuple [.int a, .int b], rfl, rfl, by simp [PyData.depth, PyData.depthAll]⟩
theorem prodL_le : ∀ {l : List Nat} {M : Nat}, (∀ x ∈ l, x ≤ M) → prodL l ≤ M ^ l.length
  | [], M, _ => Nat.le_refl _
  | x :: l, M, h => by
    show x * prodL l ≤ M ^ (l.length + 1)
    rw [Nat.pow_succ, Nat.mul_comm (M ^ l.length)]
    exact Nat.mul_le_mul (h x (by simp)) (prodL_le fun y hy => h y (List.mem_cons_of_mem _ hy))
end DL

end Qz
section K90_S
set_option Elab.async false
set_option linter.all false
set_option maxRecDepth 100000
set_option maxHeartbeats 4000000
namespace K90
open PySem DL
structure Cl where
  BadNumber : Addr
structure KF (K : PySem.W.Frag) (c : Cl) : Prop where
  xo_BadNumber : L2.OexC K c.BadNumber
  xf_BadNumber_what : XfOk K c.BadNumber "what"
  xf_BadNumber_number : XfOk K c.BadNumber "number"
  xm_BadNumber_BadNumber : PySem.W.exmOne K (.ref c.BadNumber) (.ref c.BadNumber) = some true
abbrev sp_common_divisor (K : PySem.W.Frag) (c : Cl) : DSp := spGcd
abbrev sp_lowest (K : PySem.W.Frag) (c : Cl) : DSp := spLowest
abbrev sp_is_whole (K : PySem.W.Frag) (c : Cl) : DSp := spIsWhole
abbrev sp_is_ratio (K : PySem.W.Frag) (c : Cl) : DSp := spIsRatio
abbrev sp_told (K : PySem.W.Frag) (c : Cl) : DSp := spTold
abbrev sp_times (K : PySem.W.Frag) (c : Cl) : DSp := spTimes
abbrev sp_told_above (K : PySem.W.Frag) (c : Cl) : DSp := spToldA c.BadNumber
abbrev sp_refined (K : PySem.W.Frag) (c : Cl) : DSp := spRefd
abbrev sp_base_of (K : PySem.W.Frag) (c : Cl) : DSp := spBaseO
abbrev sp_coprime_base (K : PySem.W.Frag) (c : Cl) : DSp := spCop c.BadNumber
abbrev sp_relations (K : PySem.W.Frag) (c : Cl) : DSp := spRelB c.BadNumber
abbrev sp_as_powers (K : PySem.W.Frag) (c : Cl) : DSp := spAsP c.BadNumber
abbrev sp__law_pen (K : PySem.W.Frag) (c : Cl) : DSp := spPen
abbrev sp__law_draw (K : PySem.W.Frag) (c : Cl) : DSp := spDraw
abbrev sp__law_pick (K : PySem.W.Frag) (c : Cl) : DSp := spPick
abbrev sp__law_big (K : PySem.W.Frag) (c : Cl) : DSp := spBigL
abbrev sp__law_gcd (K : PySem.W.Frag) (c : Cl) : DSp := spLGcd
abbrev sp__law_q (K : PySem.W.Frag) (c : Cl) : DSp := spLQ
abbrev sp__law_times (K : PySem.W.Frag) (c : Cl) : DSp := spTimes
abbrev sp__law_is_whole (K : PySem.W.Frag) (c : Cl) : DSp := spLWhole
abbrev sp__law_passed (K : PySem.W.Frag) (c : Cl) : DSp := spPassed
abbrev sp__law_power (K : PySem.W.Frag) (c : Cl) : DSp := spLPow
abbrev sp__law_powers (K : PySem.W.Frag) (c : Cl) : DSp := spLPows
abbrev sp__law_base_powers (K : PySem.W.Frag) (c : Cl) : DSp := spLBP
abbrev sp__law_is_base (K : PySem.W.Frag) (c : Cl) : DSp := spLIsB
abbrev sp__law_ratios (K : PySem.W.Frag) (c : Cl) : DSp := spLRats
abbrev sp__law_refused (K : PySem.W.Frag) (c : Cl) : DSp := spLRef90
abbrev sp_law (K : PySem.W.Frag) (c : Cl) : DSp := spLaw
end K90

end K90_S
section K90_W
set_option Elab.async false
set_option linter.all false
set_option maxRecDepth 100000
set_option maxHeartbeats 4000000
/-! K90_W: the bodies over data (written by dlgen.py). -/
namespace K90
open PySem DL
/-- common_divisor: 0 one, 1 two -/
def w_common_divisor (K : PySem.W.Frag) (c : Cl) : WS :=
  (wSeq (wPar [0, 1] (wCons (wCall (g1 gAbs) (wCons (wTake 0) wNil)) (wCons (wCall (g1 gAbs) (wCons (wTake 1) wNil)) wNil))) (wSeq (wWhile (wTru (wTake 1)) (wPar [0, 1] (wCons (wTake 1) (wCons (wBin gMod (wTake 0) (wTake 1)) wNil)))) (wRet (wMove 0))))
/-- lowest: 0 top, 1 bottom, 2 by -/
def w_lowest (K : PySem.W.Frag) (c : Cl) : WS :=
  (wSeq (wSet 2 (wFn (sp_common_divisor K c) (wCons (wTake 0) (wCons (wTake 1) wNil)))) (wSeq (wIf (wTst (wBin gLt (wTake 1) (wC (.int 0)))) (wSet 2 (wUn gNeg (wTake 2))) wNext) (wRet (wTup (wCons (wBin gFdiv (wTake 0) (wTake 2)) (wCons (wBin gFdiv (wTake 1) (wTake 2)) wNil))))))
/-- is_whole: 0 value -/
def w_is_whole (K : PySem.W.Frag) (c : Cl) : WS :=
  (wRet (wAndV (wCall (g2 (gIsi K)) (wCons (wTake 0) (wCons (wC (.ty "int")) wNil))) (wNotV (wCall (g2 (gIsi K)) (wCons (wTake 0) (wCons (wC (.ty "bool")) wNil))))))
/-- is_ratio: 0 value -/
def w_is_ratio (K : PySem.W.Frag) (c : Cl) : WS :=
  (wSeq (wIf (wTru (wFn (sp_is_whole K c) (wCons (wTake 0) wNil))) (wRet (wC (.bl true))) wNext) (wSeq (wIf (wOr (wNot (wTru (wCall (g2 (gIsi K)) (wCons (wTake 0) (wCons (wC (.ty "tuple")) wNil))))) (wTst (wBin (gEqv not) (wCall (g1 gLen) (wCons (wTake 0) wNil)) (wC (.int 2))))) (wRet (wC (.bl false))) wNext) (wRet (wAndV (wFn (sp_is_whole K c) (wCons (wBin gIx (wTake 0) (wC (.int 0))) wNil)) (wAndV (wFn (sp_is_whole K c) (wCons (wBin gIx (wTake 0) (wC (.int 1))) wNil)) (wBin gGt (wBin gIx (wTake 0) (wC (.int 1))) (wC (.int 0))))))))
/-- told: 0 value, 1 what -/
def w_told (K : PySem.W.Frag) (c : Cl) : WS :=
  (wSeq (wIf (wNot (wTru (wFn (sp_is_ratio K c) (wCons (wTake 0) wNil)))) (fun _ _ => False) wNext) (wSeq (wIf (wTru (wCall (g2 (gIsi K)) (wCons (wTake 0) (wCons (wC (.ty "int")) wNil)))) (wRet (wTup (wCons (wTake 0) (wCons (wC (.int 1)) wNil)))) wNext) (wRet (wFn (sp_lowest K c) (wCons (wBin gIx (wTake 0) (wC (.int 0))) (wCons (wBin gIx (wTake 0) (wC (.int 1))) wNil))))))
/-- times: 0 one, 1 two -/
def w_times (K : PySem.W.Frag) (c : Cl) : WS :=
  (wRet (wFn (sp_lowest K c) (wCons (wBin gMul (wBin gIx (wTake 0) (wC (.int 0))) (wBin gIx (wTake 1) (wC (.int 0)))) (wCons (wBin gMul (wBin gIx (wTake 0) (wC (.int 1))) (wBin gIx (wTake 1) (wC (.int 1)))) wNil))))
/-- told_above: 0 value, 1 what -/
def w_told_above (K : PySem.W.Frag) (c : Cl) : WS :=
  (wSeq (wIf (wOr (wNot (wTru (wFn (sp_is_ratio K c) (wCons (wTake 0) wNil)))) (wTst (wBin gLe (wBin gIx (wFn (sp_told K c) (wCons (wTake 0) (wCons (wTake 1) wNil))) (wC (.int 0))) (wC (.int 0))))) (wRaise c.BadNumber ["what", "number"] (wCons (wTake 1) (wCons (wTake 0) wNil))) wNext) (wRet (wFn (sp_told K c) (wCons (wTake 0) (wCons (wTake 1) wNil)))))
/-- refined: 0 numbers, 1 base, 2 waiting, 3 number, 4 found, 5 shared, 6 other, 7 by, 8 item -/
def w_refined (K : PySem.W.Frag) (c : Cl) : WS :=
  (wSeq (wPar [1, 2] (wCons (wLst wNil) (wCons (wCall (g1 gListX) (wCons (wTake 0) wNil)) wNil))) (wSeq (wWhile (wTst (wBin (gEqv not) (wVar 2) (wLst wNil))) (wSeq (wSet 3 (wPop (wVar 2))) (wSeq (wIf (wOr (wTst (wBin (gEqv id) (wTake 3) (wC (.int 1)))) (wTst (wBin (gInS id) (wTake 3) (wVar 1)))) wCnt wNext) (wSeq (wSet 4 (wLc (wIt (wVar 1)) (wGN 6) wYes (wTup (wCons (wTake 6) (wCons (wFn (sp_common_divisor K c) (wCons (wTake 3) (wCons (wTake 6) wNil))) wNil))) [6])) (wSeq (wSet 5 (wLc (wIt (wTake 4)) (wGT 2 (wGC (wGN 6) (wGC (wGN 7) wG0))) (wTst (wBin gGt (wTake 7) (wC (.int 1)))) (wTup (wCons (wTake 6) (wCons (wTake 7) wNil))) [6, 7])) (wSeq (wIf (wTst (wBin (gEqv id) (wTake 5) (wLst wNil))) (wSeq (wExp (wApp (wVar 1) (wTake 3))) wCnt) wNext) (wSeq (wAsg (wGT 2 (wGC (wGN 6) (wGC (wGN 7) wG0))) (wBin gIx (wTake 5) (wC (.int 0)))) (wSeq (wSet 1 (wLc (wIt (wVar 1)) (wGN 8) (wTst (wBin (gEqv not) (wTake 8) (wTake 6))) (wTake 8) [8])) (wSet 2 (wBin gAdd (wVar 2) (wLst (wCons (wTake 7) (wCons (wBin gFdiv (wTake 6) (wTake 7)) (wCons (wBin gFdiv (wTake 3) (wTake 7)) wNil)))))))))))))) (wRet (wCall (g1 gTupC) (wCons (wCall (g1 gSorted) (wCons (wVar 1) wNil)) wNil)))))
/-- base_of: 0 ratios, 1 ratio -/
def w_base_of (K : PySem.W.Frag) (c : Cl) : WS :=
  (wRet (wFn (sp_refined K c) (wCons (wBin gAdd (wLc (wIt (wTake 0)) (wGN 1) wYes (wBin gIx (wTake 1) (wC (.int 0))) [1]) (wLc (wIt (wTake 0)) (wGN 1) wYes (wBin gIx (wTake 1) (wC (.int 1))) [1])) wNil)))
/-- coprime_base: 0 ratios, 1 ratio -/
def w_coprime_base (K : PySem.W.Frag) (c : Cl) : WS :=
  (wRet (wFn (sp_base_of K c) (wCons (wLcX (wIt (wTake 0)) (wGN 1) wYes (wFn (sp_told_above K c) (wCons (wTake 1) (wCons (wC (.str "ratio")) wNil))) [1]) wNil)))
/-- relations: 0 ratios, 1 pairs, 2 base, 3 ratio -/
def w_relations (K : PySem.W.Frag) (c : Cl) : WS :=
  (wSeq (wSet 1 (wLcX (wIt (wTake 0)) (wGN 3) wYes (wFn (sp_told_above K c) (wCons (wTake 3) (wCons (wC (.str "ratio")) wNil))) [3])) (wSeq (fun _ _ => False) (fun _ _ => False)))
/-- as_powers: 0 ratio, 1 ratios, 2 roots, 3 aim, 4 pairs, 5 base, 6 zeros, 7 rows, 8 right, 9 spot, 10 weights, 11 item -/
def w_as_powers (K : PySem.W.Frag) (c : Cl) : WS :=
  (wSeq (wSet 3 (wFn (sp_told_above K c) (wCons (wTake 0) (wCons (wC (.str "ratio")) wNil)))) (wSeq (wSet 4 (wLcX (wIt (wTake 1)) (wGN 11) wYes (wFn (sp_told_above K c) (wCons (wTake 11) (wCons (wC (.str "ratio")) wNil))) [11])) (wSeq (fun _ _ => False) (wSeq (fun _ _ => False) (wSeq (fun _ _ => False) (wSeq (fun _ _ => False) (fun _ _ => False)))))))
/-- _law_pen: 0 _law_script, 1 _law_fold, 2 _law_cell -/
def w__law_pen (K : PySem.W.Frag) (c : Cl) : WS :=
  (wSeq (wSet 1 (wC (.int 0))) (wSeq (wFor (wIt (wTake 0)) (wGN 2) (wSet 1 (wBin gMod (wCall (g1 gIntX) (wCons (wBin gAdd (wBin gMul (wTake 1) (wC (.int 41))) (wTake 2)) wNil)) (wC (.int 1000000007))))) (wRet (wDisp [(.inr "cells", (wCall (g1 gListX) (wCons (wTake 0) wNil))), (.inr "at", (wC (.int 0))), (.inr "digits", (wC (.int 0))), (.inr "count", (wC (.int 0))), (.inr "fold", (wTake 1))] []))))
/-- _law_draw: 0 _law_pen_here, 1 _law_many, 2 _law_cell, 3 _law_digit, 4 _law_blend -/
def w__law_draw (K : PySem.W.Frag) (c : Cl) : WS :=
  (wSeq (wSub (wVar 0) (wC (.str "count")) (wBin gAdd (wBin gIx (wVar 0) (wC (.str "count"))) (wC (.int 1)))) (wSeq (wIf (wAnd (wTst (wBin (gEqv id) (wBin gIx (wVar 0) (wC (.str "digits"))) (wC (.int 0)))) (wTst (wBin gLt (wBin gIx (wVar 0) (wC (.str "at"))) (wCall (g1 gLen) (wCons (wBin gIx (wVar 0) (wC (.str "cells"))) wNil))))) (wSeq (wSet 2 (wBin gIx (wBin gIx (wVar 0) (wC (.str "cells"))) (wBin gIx (wVar 0) (wC (.str "at"))))) (wSeq (wSub (wVar 0) (wC (.str "at")) (wBin gAdd (wBin gIx (wVar 0) (wC (.str "at"))) (wC (.int 1)))) (wIf (wTst (wBin gGe (wTake 2) (wBin gPow (wC (.int 10)) (wC (.int 18))))) (wSub (wVar 0) (wC (.str "digits")) (wBin gSub (wTake 2) (wBin gPow (wC (.int 10)) (wC (.int 18))))) (wSub (wVar 0) (wC (.str "fold")) (wBin gMod (wCall (g1 gIntX) (wCons (wBin gAdd (wBin gMul (wBin gIx (wVar 0) (wC (.str "fold"))) (wC (.int 69069))) (wTake 2)) wNil)) (wC (.int 2147483587))))))) wNext) (wSeq (wIf (wTst (wBin gGt (wBin gIx (wVar 0) (wC (.str "digits"))) (wC (.int 0)))) (wSeq (wSet 3 (wBin gMod (wCall (g1 gIntX) (wCons (wBin gIx (wVar 0) (wC (.str "digits"))) wNil)) (wTake 1))) (wSeq (wSub (wVar 0) (wC (.str "digits")) (wBin gFdiv (wBin gIx (wVar 0) (wC (.str "digits"))) (wTake 1))) (wRet (wMove 3)))) wNext) (wSeq (wSet 4 (wBin gAdd (wBin gAdd (wBin gIx (wVar 0) (wC (.str "fold"))) (wBin gMul (wBin gIx (wVar 0) (wC (.str "count"))) (wC (.int 7907)))) (wC (.int 37)))) (wRet (wBin gMod (wBin gFdiv (wCall (g1 gIntX) (wCons (wBin gMod (wBin gPow (wTake 4) (wC (.int 17))) (wC (.int 2305843009213693951))) wNil)) (wC (.int 128))) (wTake 1)))))))
/-- _law_pick: 0 _law_pen_here, 1 _law_some -/
def w__law_pick (K : PySem.W.Frag) (c : Cl) : WS :=
  (wRet (wBin gIx (wTake 1) (wFn (sp__law_draw K c) (wCons (wVar 0) (wCons (wCall (g1 gLen) (wCons (wTake 1) wNil)) wNil)))))
/-- _law_big: 0 _law_pen_here, 1 _law_figures, 2 _law_total, 3 _law_k -/
def w__law_big (K : PySem.W.Frag) (c : Cl) : WS :=
  (wSeq (wSet 2 (wC (.int 0))) (wSeq (wFor (wRng1 (wCons (wFn (sp__law_pick K c) (wCons (wVar 0) (wCons (wLst (wCons (wC (.int 1)) (wCons (wC (.int 1)) (wCons (wC (.int 1)) (wCons (wC (.int 2)) (wCons (wC (.int 3)) (wCons (wBin gFdiv (wBin gAdd (wTake 1) (wC (.int 2))) (wC (.int 3))) wNil))))))) wNil))) wNil)) (wGN 3) (wSet 2 (wBin gAdd (wBin gMul (wTake 2) (wC (.int 1000))) (wFn (sp__law_draw K c) (wCons (wVar 0) (wCons (wC (.int 1000)) wNil)))))) (wRet (wCall (g1 gIntX) (wCons (wSlice (wCall (g1 gStr) (wCons (wTake 2) wNil)) (wPart (wUn gNeg (wTake 1))) wNoP) wNil)))))
/-- _law_gcd: 0 _law_one, 1 _law_two, 2 _law_lap -/
def w__law_gcd (K : PySem.W.Frag) (c : Cl) : WS :=
  (wSeq (wPar [0, 1] (wCons (wCall (g1 gAbs) (wCons (wTake 0) wNil)) (wCons (wCall (g1 gAbs) (wCons (wTake 1) wNil)) wNil))) (wSeq (wFor (wRng1 (wCons (wC (.int 60000)) wNil)) (wGN 2) (wSeq (wIf (wTst (wBin (gEqv id) (wTake 1) (wC (.int 0)))) wBrk wNext) (wPar [0, 1] (wCons (wTake 1) (wCons (wBin gMod (wCall (g1 gIntX) (wCons (wTake 0) wNil)) (wTake 1)) wNil))))) (wRet (wMove 0))))
/-- _law_q: 0 _law_top, 1 _law_bottom, 2 _law_by -/
def w__law_q (K : PySem.W.Frag) (c : Cl) : WS :=
  (wSeq (wSet 2 (wFn (sp__law_gcd K c) (wCons (wTake 0) (wCons (wTake 1) wNil)))) (wSeq (wIf (wTst (wBin gLt (wTake 1) (wC (.int 0)))) (wSet 2 (wUn gNeg (wTake 2))) wNext) (wRet (wTup (wCons (wBin gFdiv (wTake 0) (wTake 2)) (wCons (wBin gFdiv (wTake 1) (wTake 2)) wNil))))))
/-- _law_times: 0 _law_one, 1 _law_two -/
def w__law_times (K : PySem.W.Frag) (c : Cl) : WS :=
  (wRet (wFn (sp__law_q K c) (wCons (wBin gMul (wBin gIx (wTake 0) (wC (.int 0))) (wBin gIx (wTake 1) (wC (.int 0)))) (wCons (wBin gMul (wBin gIx (wTake 0) (wC (.int 1))) (wBin gIx (wTake 1) (wC (.int 1)))) wNil))))
/-- _law_is_whole: 0 _law_value -/
def w__law_is_whole (K : PySem.W.Frag) (c : Cl) : WS :=
  (wRet (wAndV (wCall (g2 (gIsi K)) (wCons (wTake 0) (wCons (wC (.ty "int")) wNil))) (wNotV (wCall (g2 (gIsi K)) (wCons (wTake 0) (wCons (wC (.ty "bool")) wNil))))))
/-- _law_passed: 0 _law_pen_here, 1 _law_ratio, 2 _law_way, 3 _law_by -/
def w__law_passed (K : PySem.W.Frag) (c : Cl) : WS :=
  (wSeq (wSet 2 (wFn (sp__law_draw K c) (wCons (wVar 0) (wCons (wC (.int 4)) wNil)))) (wSeq (wIf (wAnd (wTst (wBin (gEqv id) (wTake 2) (wC (.int 0)))) (wTst (wBin (gEqv id) (wBin gIx (wTake 1) (wC (.int 1))) (wC (.int 1))))) (wRet (wBin gIx (wTake 1) (wC (.int 0)))) wNext) (wSeq (wIf (wTst (wBin (gEqv id) (wTake 2) (wC (.int 1)))) (wSeq (wSet 3 (wBin gAdd (wC (.int 2)) (wFn (sp__law_draw K c) (wCons (wVar 0) (wCons (wC (.int 5)) wNil))))) (wRet (wTup (wCons (wBin gMul (wBin gIx (wTake 1) (wC (.int 0))) (wTake 3)) (wCons (wBin gMul (wBin gIx (wTake 1) (wC (.int 1))) (wTake 3)) wNil))))) wNext) (wRet (wMove 1)))))
/-- _law_power: 0 _law_one, 1 _law_n, 2 _law_found, 3 _law_lap -/
def w__law_power (K : PySem.W.Frag) (c : Cl) : WS :=
  (wSeq (wSet 2 (wTup (wCons (wC (.int 1)) (wCons (wC (.int 1)) wNil)))) (wSeq (wFor (wRng1 (wCons (wCall (g1 gAbs) (wCons (wTake 1) wNil)) wNil)) (wGN 3) (wSet 2 (wTup (wCons (wBin gMul (wBin gIx (wTake 2) (wC (.int 0))) (wBin gIx (wTake 0) (wC (.int 0)))) (wCons (wBin gMul (wBin gIx (wTake 2) (wC (.int 1))) (wBin gIx (wTake 0) (wC (.int 1)))) wNil))))) (wRet (wIfE (wTst (wBin gGe (wTake 1) (wC (.int 0)))) (wTake 2) (wFn (sp__law_q K c) (wCons (wBin gIx (wTake 2) (wC (.int 1))) (wCons (wBin gIx (wTake 2) (wC (.int 0))) wNil)))))))
/-- _law_powers: 0 _law_ratios_here, 1 _law_exponents, 2 _law_found, 3 _law_one, 4 _law_n -/
def w__law_powers (K : PySem.W.Frag) (c : Cl) : WS :=
  (wSeq (wSet 2 (wTup (wCons (wC (.int 1)) (wCons (wC (.int 1)) wNil)))) (wSeq (wFor (wZip (wCons (wTake 0) (wCons (wTake 1) wNil))) (wGT 2 (wGC (wGN 3) (wGC (wGN 4) wG0))) (wSet 2 (wFn (sp__law_times K c) (wCons (wTake 2) (wCons (wFn (sp__law_power K c) (wCons (wTake 3) (wCons (wTake 4) wNil))) wNil))))) (wRet (wMove 2))))
/-- _law_base_powers: 0 _law_base, 1 _law_ratio, 2 _law_found, 3 _law_rest, 4 _law_number, 5 _law_count, 6 _law_side, 7 _law_lap -/
def w__law_base_powers (K : PySem.W.Frag) (c : Cl) : WS :=
  (wSeq (wPar [2, 3] (wCons (wLst wNil) (wCons (wLst (wCons (wBin gIx (wTake 1) (wC (.int 0))) (wCons (wBin gIx (wTake 1) (wC (.int 1))) wNil))) wNil))) (wSeq (wFor (wIt (wTake 0)) (wGN 4) (wSeq (wSet 5 (wC (.int 0))) (wSeq (wFor (wRng1 (wCons (wC (.int 2)) wNil)) (wGN 6) (wFor (wRng1 (wCons (wC (.int 3000)) wNil)) (wGN 7) (wSeq (wIf (wTst (wBin (gEqv not) (wBin gMod (wCall (g1 gIntX) (wCons (wBin gIx (wVar 3) (wTake 6)) wNil)) (wTake 4)) (wC (.int 0)))) wBrk wNext) (wAsg (wGT 2 (wGC (wGS (wVar 3) (wTake 6)) (wGC (wGN 5) wG0))) (wTup (wCons (wBin gFdiv (wBin gIx (wVar 3) (wTake 6)) (wTake 4)) (wCons (wBin gSub (wBin gAdd (wTake 5) (wC (.int 1))) (wBin gMul (wC (.int 2)) (wTake 6))) wNil))))))) (wExp (wApp (wVar 2) (wTake 5)))))) (wRet (wIfE (wTst (wBin (gEqv id) (wVar 3) (wLst (wCons (wC (.int 1)) (wCons (wC (.int 1)) wNil))))) (wTake 2) (wC .non)))))
/-- _law_is_base: 0 _law_base, 1 _law_ratios_here, 2 _law_k, 3 _law_one, 4 _law_other -/
def w__law_is_base (K : PySem.W.Frag) (c : Cl) : WS :=
  (wSeq (wIf (wOr (wNot (wTru (wCall (g2 (gIsi K)) (wCons (wTake 0) (wCons (wC (.ty "tuple")) wNil))))) (wTst (wBin (gEqv not) (wLc (wIt (wTake 0)) (wGN 3) (wOr (wNot (wTru (wFn (sp__law_is_whole K c) (wCons (wTake 3) wNil)))) (wTst (wBin gLt (wTake 3) (wC (.int 2))))) (wTake 3) [3]) (wLst wNil)))) (wRet (wC (.bl false))) wNext) (wSeq (wFor (wRng1 (wCons (wCall (g1 gLen) (wCons (wTake 0) wNil)) wNil)) (wGN 2) (wSeq (wIf (wAnd (wTst (wBin gGt (wTake 2) (wC (.int 0)))) (wTst (wBin gGe (wBin gIx (wTake 0) (wBin gSub (wTake 2) (wC (.int 1)))) (wBin gIx (wTake 0) (wTake 2))))) (wRet (wC (.bl false))) wNext) (wIf (wTst (wBin (gEqv not) (wLc (wIt (wSlice (wTake 0) wNoP (wPart (wTake 2)))) (wGN 4) (wTst (wBin (gEqv not) (wFn (sp__law_gcd K c) (wCons (wTake 4) (wCons (wBin gIx (wTake 0) (wTake 2)) wNil))) (wC (.int 1)))) (wC (.int 1)) [4]) (wLst wNil))) (wRet (wC (.bl false))) wNext))) (wRet (wBin (gEqv id) (wLc (wIt (wTake 1)) (wGN 3) (wTst (wBin (gIsN id) (wFn (sp__law_base_powers K c) (wCons (wTake 0) (wCons (wTake 3) wNil))) (wC .non))) (wTake 3) [3]) (wLst wNil)))))
/-- _law_ratios: 0 _law_pen_here, 1 _law_lots, 2 _law_found, 3 _law_lap, 4 _law_powers_here, 5 _law_k, 6 _law_one -/
def w__law_ratios (K : PySem.W.Frag) (c : Cl) : WS :=
  (wSeq (wSet 1 (wLc (wRng1 (wCons (wC (.int 3)) wNil)) (wGN 5) wYes (wBin gIx (wFn (sp__law_q K c) (wCons (wBin gAdd (wC (.int 2)) (wFn (sp__law_big K c) (wCons (wVar 0) (wCons (wFn (sp__law_pick K c) (wCons (wVar 0) (wCons (wLst (wCons (wC (.int 1)) (wCons (wC (.int 2)) (wCons (wC (.int 30)) wNil)))) wNil))) wNil)))) (wCons (wC (.int 1)) wNil))) (wC (.int 0))) [5])) (wSeq (wSet 1 (wBin gAdd (wTake 1) (wLst (wCons (wFn (sp__law_pick K c) (wCons (wVar 0) (wCons (wLst (wCons (wC (.int 2)) (wCons (wC (.int 6)) (wCons (wC (.int 12)) (wCons (wC (.int 30)) wNil))))) wNil))) (wCons (wFn (sp__law_pick K c) (wCons (wVar 0) (wCons (wLst (wCons (wBin gAdd (wBin gPow (wC (.int 10)) (wC (.int 18))) (wC (.int 9))) (wCons (wC (.int 1000003)) wNil))) wNil))) wNil))))) (wSeq (wSet 2 (wLst wNil)) (wSeq (wFor (wRng1 (wCons (wFn (sp__law_draw K c) (wCons (wVar 0) (wCons (wC (.int 7)) wNil))) wNil)) (wGN 3) (wSeq (wSet 4 (wLc (wIt (wTake 1)) (wGN 6) wYes (wIfE (wTst (wBin (gEqv id) (wFn (sp__law_draw K c) (wCons (wVar 0) (wCons (wC (.int 2)) wNil))) (wC (.int 0)))) (wBin gSub (wFn (sp__law_draw K c) (wCons (wVar 0) (wCons (wC (.int 5)) wNil))) (wC (.int 2))) (wC (.int 0))) [6])) (wExp (wApp (wVar 2) (wFn (sp__law_powers K c) (wCons (wLc (wIt (wTake 1)) (wGN 6) wYes (wTup (wCons (wTake 6) (wCons (wC (.int 1)) wNil))) [6]) (wCons (wTake 4) wNil))))))) (wRet (wMove 2))))))
/-- _law_refused: 0 _law_kind, 1 _law_values, 2 e -/
def w__law_refused (K : PySem.W.Frag) (c : Cl) : WS :=
  (wSeq (wTry K (wIf (wTst (wBin (gEqv id) (wTake 0) (wC (.int 0)))) (wExp (wFn (sp_coprime_base K c) (wCons (wTake 1) wNil))) (wIf (wTst (wBin (gEqv id) (wTake 0) (wC (.int 1)))) (wExp (wFn (sp_relations K c) (wCons (wTake 1) wNil))) (wExp (wFn (dfl false (sp_as_powers K c)) (wCons (wBin gIx (wTake 1) (wC (.int 0))) (wCons (wSlice (wTake 1) (wPart (wC (.int 1))) wNoP) wNil)))))) [⟨.ref c.BadNumber, 2, fun xa xc xd => (wRet (wTup (wCons (wXf K xa xc xd "what" (wVar 2)) (wCons (wCall (g1 gRepr) (wCons (wXf K xa xc xd "number" (wVar 2)) wNil)) wNil))))⟩]) (wRet (wC .non)))
/-- law: 0 _law_script, 1 _law_pen_here, 2 _law_turn, 3 _law_ratios_here, 4 _law_passed_here, 5 _law_told, 6 _law_wrong, 7 _law_last, 8 _law_kind, 9 _law_one -/
def w_law (K : PySem.W.Frag) (c : Cl) : WS :=
  (wSeq (wSet 1 (wFn (sp__law_pen K c) (wCons (wTake 0) wNil))) (wSeq (wFor (wRng1 (wCons (wC (.int 3)) wNil)) (wGN 2) (wSeq (wSet 3 (wFn (sp__law_ratios K c) (wCons (wVar 1) wNil))) (wSeq (wSet 4 (wLc (wIt (wTake 3)) (wGN 9) wYes (wFn (sp__law_passed K c) (wCons (wVar 1) (wCons (wTake 9) wNil))) [9])) (wSeq (wSet 5 (wFn (sp_coprime_base K c) (wCons (wFn (sp__law_pick K c) (wCons (wVar 1) (wCons (wLst (wCons (wTake 4) (wCons (wCall (g1 gTupC) (wCons (wTake 4) wNil)) wNil))) wNil))) wNil))) (wSeq (wIf (wNot (wTru (wFn (sp__law_is_base K c) (wCons (wTake 5) (wCons (wTake 3) wNil))))) (wRet (wC (.bl false))) wNext) (wSeq (wIf (wAnd (wTst (wBin (gEqv id) (wLc (wIt (wTake 3)) (wGN 9) (wTst (wBin (gEqv not) (wTake 9) (wTup (wCons (wC (.int 1)) (wCons (wC (.int 1)) wNil))))) (wTake 9) [9]) (wLst wNil))) (wTst (wBin (gEqv not) (wTake 5) (wTup wNil)))) (wRet (wC (.bl false))) wNext) (wSeq (wSet 6 (wBin gIx (wLst (wCons (wC .non) (wCons (wC (.int 0)) (wCons (wUn gNeg (wC (.int 2))) (wCons (wTup (wCons (wUn gNeg (wC (.int 1))) (wCons (wC (.int 2)) wNil))) (wCons (wTup (wCons (wC (.int 1)) (wCons (wC (.int 0)) wNil))) (wCons (wC (.str "2")) (wCons (wC (.bl true)) (wCons (wLst (wCons (wC (.int 1)) (wCons (wC (.int 2)) wNil))) (wCons (wTup (wCons (wC (.int 0)) (wCons (wC (.int 3)) wNil))) wNil)))))))))) (wFn (sp__law_draw K c) (wCons (wVar 1) (wCons (wC (.int 9)) wNil))))) (wSeq (wSet 7 (wBin gIx (wLst (wCons (wC .non) (wCons (wC (.int 0)) (wCons (wC (.str "x")) wNil)))) (wFn (sp__law_draw K c) (wCons (wVar 1) (wCons (wC (.int 3)) wNil))))) (wFor (wRng1 (wCons (wC (.int 3)) wNil)) (wGN 8) (wSeq (wIf (wTst (wBin (gEqv not) (wFn (sp__law_refused K c) (wCons (wTake 8) (wCons (wLst (wCons (wC (.int 2)) (wCons (wTake 6) (wCons (wTake 7) wNil)))) wNil))) (wTup (wCons (wC (.str "ratio")) (wCons (wCall (g1 gRepr) (wCons (wTake 6) wNil)) wNil))))) (wRet (wC (.bl false))) wNext) (wIf (wTst (wBin (gEqv not) (wFn (sp__law_refused K c) (wCons (wTake 8) (wCons (wLst (wCons (wTake 6) (wCons (wTake 7) wNil))) wNil))) (wTup (wCons (wC (.str "ratio")) (wCons (wCall (g1 gRepr) (wCons (wTake 6) wNil)) wNil))))) (wRet (wC (.bl false))) wNext))))))))))) (wRet (wAndV (wBin (gEqv id) (wFn (sp_coprime_base K c) (wCons (wLst wNil) wNil)) (wTup wNil)) (wBin (gEqv id) (wFn (sp_coprime_base K c) (wCons (wLst (wCons (wC (.int 1)) (wCons (wTup (wCons (wC (.int 3)) (wCons (wC (.int 3)) wNil))) wNil))) wNil)) (wTup wNil))))))
end K90

end K90_W
section K90_H
set_option Elab.async false
set_option linter.all false
set_option maxRecDepth 100000
set_option maxHeartbeats 4000000
set_option exponentiation.threshold 100000
namespace K90
open PySem DL
theorem script_ok (K : PySem.W.Frag) (c : Cl) : ∀ ns : List Int, ns.length ≤ 63 → spScript (sp_law K c) ns := fun ns h => ⟨ns, rfl, h, rfl⟩
variable [TabEnv]
theorem ar_lst {a : Ar} {ds : List DL.D} (h : a.rd = .lst ds) : a = .val (.lst ds) ∨ a = .bor (.lst ds) := by
  rcases ar_cases (.inl h) with (h | rfl) | h
  · exact .inl h
  · cases h
  · exact .inr h
theorem szl2 : 100000 < PySem.sizeLine := by decide
theorem int_num {r : Rat} (h : 0 < r.num) : (.int r.num : DL.D) = .int (r.num.natAbs : Int) := by
  rw [Int.natAbs_of_nonneg (Int.le_of_lt h)]
theorem lcDX_ind {gd : Ev → Prop} {g : WG} {t : WT} {w : WE} {vs : List Nat} {k : List DL.D → Ev → Prop} {x : WX'} (I : List DL.D → List DL.D → Ev → Prop) (hg : ∀ ds acc e, I ds acc e → gd e) (hn : ∀ acc e, I [] acc e → k acc e)
    (hc : ∀ d ds acc e (kk : List DL.D → Ev → Prop), I (d :: ds) acc e → (∀ acc' e', I ds acc' e' → kk acc' e') → plE vs e ∧ g d (unE vs e) fun e2 => t e2 (fun b e3 =>
      if b = true then w e3 (fun r e4 => dv r fun dd => acc.length < PySem.sizeLine ∧ kk (acc ++ [dd]) (reE vs e e4)) (fun y e4 => x y (reE vs e e4))
      else kk acc (reE vs e e3)) (fun _ _ => False)) : ∀ {ds acc : List DL.D} {e : Ev}, I ds acc e → lcDX gd g t w vs ds acc e k x
  | [], acc, e, h => ⟨hg _ _ _ h, hn _ _ h⟩
  | d :: ds, acc, e, h => by
    obtain ⟨h1, h2⟩ := hc d ds acc e (fun acc' e' => lcDX gd g t w vs ds acc' e' k x) h fun acc' e' h' => lcDX_ind I hg hn hc h'
    exact ⟨hg _ _ _ h, h1, h2⟩
theorem gcn {i : Nat} {gs : WGs} {d : DL.D} {ds : List DL.D} {e : Ev} {q : Ev → Prop} (h : bnd i (.val d) e fun e => gs ds e q) : wGC (wGN i) gs (d :: ds) e q := h
theorem cutD_takeB {xs : List DL.D} {j : Nat} : cutD xs none (some (j : Int)) = xs.take j := by
  unfold cutD
  rw [HT.sIx_none, HT.sIx_nat, List.drop_zero, Nat.sub_zero, Nat.min_comm, ← List.take_take, List.take_of_length_le (by rw [List.length_take]; exact Nat.min_le_right _ _)]
def rS : R → Sl
  | .val d => .val d
  | .own o => .own o
  | .loc _ => .un
theorem bnd_s {i : Nat} {r : R} {e : Ev} {s : Sl} {k : Ev → Prop} (e' e2 : Ev) (he : e = e') (h : e'[i]? = some s) (hs : slN s) (hr : ∀ m, r ≠ .loc m) (h2 : e'.set i (rS r) = e2) (q : k e2) : bnd i r e k := by
  subst he h2
  cases r with
  | val d => exact bnd_n h hs q
  | own o => exact bnd_n h hs q
  | loc m => exact absurd rfl (hr m)
theorem slFN {s : Sl} (h : slF s) : slN s := by
  cases s <;> first | exact h.elim | trivial
theorem intsN_dl (W : List Nat) (m : Nat) : (intsN (W ++ [m])).dropLast = intsN W := by simp [intsN]
def prD (m o : Nat) : DL.D := .tup [.int (o : Int), .int (Nat.gcd m o : Nat)]
theorem prs_ok (m : Nat) (l : List Nat) : ∀ t ∈ l.map (prD m), ∃ p, toP t = some p ∧ p.canLay0 = true ∧ p.depth ≤ 10 := fun t ht => by
  obtain ⟨b, _, rfl⟩ := List.mem_map.mp ht
  exact okT _ _
theorem intsN_map (l : List Nat) : intsN l = (l.map fun (b : Nat) => (b : Int)).map .int := by
  unfold intsN
  rw [List.map_map]
  rfl
theorem ref_body (K : PySem.W.Frag) (c : Cl) (ns B W : List Nat) (m : Nat) (s0 s3 s4 s5 s6 s7 : Sl) (P : Po) (I : RInv ns 22000 B (W ++ [m])) (hl : ns.length ≤ 20) (hn : ∀ n ∈ ns, 1 ≤ n ∧ n ≤ ZZ) (f3 : slF s3) (f4 : slF s4) (f5 : slF s5) (f6 : slF s6) (f7 : slF s7)
    (hk : ∀ B' W' t3 t4 t5 t6 t7, RInv ns 22000 B' W' → muR B' W' < muR B (W ++ [m]) → slF t3 → slF t4 → slF t5 → slF t6 → slF t7 → P.nx [s0, .own (.lst (intsN B')), .own (.lst (intsN W')), t3, t4, t5, t6, t7, .un] ∧ P.ct [s0, .own (.lst (intsN B')), .own (.lst (intsN W')), t3, t4, t5, t6, t7, .un]) :
    (wSeq (wSet 3 (wPop (wVar 2))) (wSeq (wIf (wOr (wTst (wBin (gEqv id) (wTake 3) (wC (.int 1)))) (wTst (wBin (gInS id) (wTake 3) (wVar 1)))) wCnt wNext) (wSeq (wSet 4 (wLc (wIt (wVar 1)) (wGN 6) wYes (wTup (wCons (wTake 6) (wCons (wFn (sp_common_divisor K c) (wCons (wTake 3) (wCons (wTake 6) wNil))) wNil))) [6])) (wSeq (wSet 5 (wLc (wIt (wTake 4)) (wGT 2 (wGC (wGN 6) (wGC (wGN 7) wG0))) (wTst (wBin gGt (wTake 7) (wC (.int 1)))) (wTup (wCons (wTake 6) (wCons (wTake 7) wNil))) [6, 7])) (wSeq (wIf (wTst (wBin (gEqv id) (wTake 5) (wLst wNil))) (wSeq (wExp (wApp (wVar 1) (wTake 3))) wCnt) wNext) (wSeq (wAsg (wGT 2 (wGC (wGN 6) (wGC (wGN 7) wG0))) (wBin gIx (wTake 5) (wC (.int 0)))) (wSeq (wSet 1 (wLc (wIt (wVar 1)) (wGN 8) (wTst (wBin (gEqv not) (wTake 8) (wTake 6))) (wTake 8) [8])) (wSet 2 (wBin gAdd (wVar 2) (wLst (wCons (wTake 7) (wCons (wBin gFdiv (wTake 6) (wTake 7)) (wCons (wBin gFdiv (wTake 3) (wTake 7)) wNil))))))))))))) [s0, .own (.lst (intsN B)), .own (.lst (intsN (W ++ [m]))), s3, s4, s5, s6, s7, .un] P := by
  have szl := szl2
  have m1 : 1 ≤ m := I.w1 m (by simp)
  have bl := I.blen
  refine sq ?_
  refine ⟨trivial, .int m, by simp [intsN], ?_⟩
  rw [intsN_dl]
  refine bnd_s [s0, .own (.lst (intsN B)), .own (.lst (intsN W)), s3, s4, s5, s6, s7, .un] [s0, .own (.lst (intsN B)), .own (.lst (intsN W)), .val (.int m), s4, s5, s6, s7, .un] rfl rfl (slFN f3) (fun _ z => nomatch z) rfl ?_
  refine ⟨_, _, rfl, rfl, rfl, rfl, iteB (fun e1 => ?_) (fun e1 => ⟨(m : Int), B.map fun (b : Nat) => (b : Int), rfl, .inr (by rw [← intsN_map]; rfl), iteB (fun e2 => ?_) (fun e2 => ?_)⟩)⟩
  · have e1 : PyData.eqv (.int (m : Int)) (.int 1) = true := e1
    rw [eqv_int] at e1
    have e1 := of_decide_eq_true e1
    obtain ⟨a, b⟩ := I.skip (.inl (by omega))
    exact (hk _ _ (.val (.int m)) s4 s5 s6 s7 a b trivial f4 f5 f6 f7).2
  · have e2 : decide ((m : Int) ∈ B.map fun (b : Nat) => (b : Int)) = true := e2
    have e2 := of_decide_eq_true e2
    obtain ⟨b, hb, eb⟩ := List.mem_map.mp e2
    obtain rfl : b = m := by omega
    obtain ⟨a, a2⟩ := I.skip (.inr hb)
    exact (hk _ _ (.val (.int b)) s4 s5 s6 s7 a a2 trivial f4 f5 f6 f7).2
  have m2 : m ≠ 1 := fun z => by
    have e1 : PyData.eqv (.int (m : Int)) (.int 1) = false := e1
    rw [eqv_int, decide_eq_false_iff_not] at e1
    omega
  refine ⟨by decide, lcD_ind (fun ds acc e' => ∃ l1 l2, B = l1 ++ l2 ∧ ds = intsN l2 ∧ acc = l1.map (prD m) ∧ e' = [s0, .own (.lst (intsN B)), .own (.lst (intsN W)), .val (.int m), s4, s5, s6, s7, .un]) ?_ ?_ ?_ ⟨[], B, rfl, rfl, rfl, rfl⟩⟩
  · rintro _ _ _ ⟨_, _, _, _, _, rfl⟩
    exact rfl
  · rintro _ _ ⟨l1, l2, el, h2, rfl, rfl⟩
    cases l2 <;> cases h2
    rw [List.append_nil] at el
    subst el
    refine bnd_s [s0, .own (.lst (intsN B)), .own (.lst (intsN W)), .val (.int m), s4, s5, s6, s7, .un] [s0, .own (.lst (intsN B)), .own (.lst (intsN W)), .val (.int m), .own (.lst (B.map (prD m))), s5, s6, s7, .un] rfl rfl (slFN f4) (fun _ z => nomatch z) rfl ?_
    refine ⟨fun _ z => (nomatch z), lcD_ind (fun ds acc e' => ∃ l1 l2, B = l1 ++ l2 ∧ ds = l2.map (prD m) ∧ acc = (l1.filter fun o => decide (1 < Nat.gcd m o)).map (prD m) ∧ e' = [s0, .own (.lst (intsN B)), .own (.lst (intsN W)), .val (.int m), .val (.lst (B.map (prD m))), s5, s6, s7, .un]) (fun _ _ _ _ => trivial) ?_ ?_ ⟨[], B, rfl, rfl, rfl, rfl⟩⟩
    · rintro _ _ ⟨l1, l2, el, h2, rfl, rfl⟩
      cases l2 <;> cases h2
      rw [List.append_nil] at el
      subst el
      refine bnd_s [s0, .own (.lst (intsN B)), .own (.lst (intsN W)), .val (.int m), .val (.lst (B.map (prD m))), s5, s6, s7, .un] [s0, .own (.lst (intsN B)), .own (.lst (intsN W)), .val (.int m), .val (.lst (B.map (prD m))), .own (.lst ((B.filter fun o => decide (1 < Nat.gcd m o)).map (prD m))), s6, s7, .un] rfl rfl (slFN f5) (fun _ z => nomatch z) rfl ?_
      obtain ⟨p, e3, e4, e5⟩ := lstNil (prs_ok m (B.filter fun o => decide (1 < Nat.gcd m o)))
      refine ⟨by decide, p, .list [], e3, rfl, e4, rfl, ?_⟩
      rw [e5]
      refine iteB (fun e6 => ?_) (fun e6 => ?_)
      · have e6 : ((B.filter fun o => decide (1 < Nat.gcd m o)).map (prD m)).isEmpty = true := e6
        have hc : ∀ b ∈ B, Nat.gcd m b = 1 := fun b hb => by
          have : B.filter (fun o => decide (1 < Nat.gcd m o)) = [] := by simpa using e6
          have z := List.filter_eq_nil_iff.mp this b hb
          have g0 : 0 < Nat.gcd m b := Nat.gcd_pos_of_pos_left _ m1
          simp at z
          omega
        obtain ⟨a, b⟩ := I.put m2 hc
        refine ⟨trivial, ?_, ?_⟩
        · simp [intsN]
          omega
        · have := (hk _ _ (.val (.int m)) (.val (.lst (B.map (prD m)))) (.val (.lst ((B.filter fun o => decide (1 < Nat.gcd m o)).map (prD m)))) s6 s7 a b trivial trivial trivial f6 f7).2
          have e7 : intsN (B ++ [m]) = intsN B ++ [.int (m : Int)] := by simp [intsN]
          rw [e7] at this
          exact this
      · have e6 : ((B.filter fun o => decide (1 < Nat.gcd m o)).map (prD m)).isEmpty = false := e6
        cases hF : B.filter (fun o => decide (1 < Nat.gcd m o)) with
        | nil => rw [hF] at e6; cases e6
        | cons o F =>
          have ho : o ∈ B ∧ 1 < Nat.gcd m o := by
            have : o ∈ B.filter (fun o => decide (1 < Nat.gcd m o)) := by rw [hF]; simp
            have := List.mem_filter.mp this
            exact ⟨this.1, of_decide_eq_true this.2⟩
          obtain ⟨a, b⟩ := I.cut ho.1 ho.2
          obtain ⟨n, hn1, dvn⟩ := I.dv o (.inl ho.1)
          have oz : o ≤ ZZ := Nat.le_trans (Nat.le_of_dvd (hn n hn1).1 dvn) (hn n hn1).2
          have go : Nat.gcd m o ≤ o := Nat.le_of_dvd (I.cb.one o ho.1) (Nat.gcd_dvd_right m o)
          have gs : ((Nat.gcd m o : Nat) : Int).natAbs < 2 ^ 9000 := Nat.lt_of_le_of_lt (Nat.le_trans go oz) (Nat.pow_lt_pow_right (by decide) (by decide))
          have fd : ∀ z : Int, CFd z ((Nat.gcd m o : Nat) : Int) := fun z => fdOk (by omega) gs
          have wl := a.wlen
          refine ⟨prD m o, L2.atI_nat (xs := (o :: F).map (prD m)) (j := 0) (v := prD m o) rfl, rfl, ?_⟩
          refine bnd_s [s0, .own (.lst (intsN B)), .own (.lst (intsN W)), .val (.int m), .val (.lst (B.map (prD m))), .val (.lst ((o :: F).map (prD m))), s6, s7, .un] [s0, .own (.lst (intsN B)), .own (.lst (intsN W)), .val (.int m), .val (.lst (B.map (prD m))), .val (.lst ((o :: F).map (prD m))), .val (.int o), s7, .un] rfl rfl (slFN f6) (fun _ z => nomatch z) rfl ?_
          refine bnd_s [s0, .own (.lst (intsN B)), .own (.lst (intsN W)), .val (.int m), .val (.lst (B.map (prD m))), .val (.lst ((o :: F).map (prD m))), .val (.int o), s7, .un] [s0, .own (.lst (intsN B)), .own (.lst (intsN W)), .val (.int m), .val (.lst (B.map (prD m))), .val (.lst ((o :: F).map (prD m))), .val (.int o), .val (.int (Nat.gcd m o : Nat)), .un] rfl rfl (slFN f7) (fun _ z => nomatch z) rfl ?_
          refine ⟨rfl, ?_⟩
          refine ⟨by decide, lcD_ind (fun ds acc e' => ∃ l1 l2, B = l1 ++ l2 ∧ ds = intsN l2 ∧ acc = intsN (l1.filter fun x => decide (x ≠ o)) ∧ e' = [s0, .own (.lst (intsN B)), .own (.lst (intsN W)), .val (.int m), .val (.lst (B.map (prD m))), .val (.lst ((o :: F).map (prD m))), .val (.int o), .val (.int (Nat.gcd m o : Nat)), .un]) ?_ ?_ ?_ ⟨[], B, rfl, rfl, rfl, rfl⟩⟩
          · rintro _ _ _ ⟨_, _, _, _, _, rfl⟩
            exact rfl
          · rintro _ _ ⟨l1, l2, el, h2, rfl, rfl⟩
            cases l2 <;> cases h2
            rw [List.append_nil] at el
            subst el
            refine bnd_s _ [s0, .own (.lst (intsN (B.filter fun x => decide (x ≠ o)))), .own (.lst (intsN W)), .val (.int m), .val (.lst (B.map (prD m))), .val (.lst ((o :: F).map (prD m))), .val (.int o), .val (.int (Nat.gcd m o : Nat)), .un] rfl rfl trivial (fun _ z => nomatch z) rfl ?_
            refine ⟨fd _, fd _, len3, ?_, ?_⟩
            · simp [intsN]
              simp at wl
              omega
            · have := (hk _ _ (.val (.int m)) (.val (.lst (B.map (prD m)))) (.val (.lst ((o :: F).map (prD m)))) (.val (.int o)) (.val (.int (Nat.gcd m o : Nat))) a b trivial trivial trivial trivial trivial).1
              have e7 : intsN (W ++ [Nat.gcd m o, o / Nat.gcd m o, m / Nat.gcd m o]) = intsN W ++ [.int ((Nat.gcd m o : Nat) : Int), .int (Int.fdiv o (Nat.gcd m o : Nat)), .int (Int.fdiv m (Nat.gcd m o : Nat))] := by
                rw [fd_nat, fd_nat]
                simp [intsN]
              rw [e7] at this
              exact this
          · rintro d2 ds' _ _ kk ⟨l1, l2, el, h2, rfl, rfl⟩ hk'
            cases l2 with
            | nil => cases h2
            | cons b l2 =>
              cases h2
              refine ⟨⟨rfl, trivial⟩, _, _, rfl, rfl, rfl, rfl, iteB (fun e => ⟨?_, hk' _ _ ⟨l1 ++ [b], l2, by rw [el, List.append_assoc]; rfl, rfl, ?_, rfl⟩⟩) (fun e => hk' _ _ ⟨l1 ++ [b], l2, by rw [el, List.append_assoc]; rfl, rfl, ?_, rfl⟩)⟩
              · have := List.length_filter_le (fun x => decide (x ≠ o)) l1
                rw [el] at bl
                simp [intsN] at bl this ⊢
                omega
              · have e : (!PyData.eqv (.int (b : Int)) (.int (o : Int))) = true := e
                rw [eqv_int] at e
                have : b ≠ o := fun z => by subst z; simp at e
                simp [intsN, List.filter_append, this]
              · have e : (!PyData.eqv (.int (b : Int)) (.int (o : Int))) = false := e
                rw [eqv_int] at e
                have : b = o := by simp at e; omega
                simp [intsN, List.filter_append, this]
    · rintro d2 ds' _ _ kk ⟨l1, l2, el, h2, rfl, rfl⟩ hk'
      cases l2 with
      | nil => cases h2
      | cons b l2 =>
        cases h2
        refine ⟨⟨pl_f f6, pl_f f7, trivial⟩, rfl, rfl, trivial, iteB (fun e => ⟨len2, ?_, hk' _ _ ⟨l1 ++ [b], l2, by rw [el, List.append_assoc]; rfl, rfl, ?_, rfl⟩⟩) (fun e => hk' _ _ ⟨l1 ++ [b], l2, by rw [el, List.append_assoc]; rfl, rfl, ?_, rfl⟩)⟩
        · have := List.length_filter_le (fun o => decide (1 < Nat.gcd m o)) l1
          rw [el] at bl
          simp at bl this ⊢
          omega
        · have e := of_decide_eq_true e
          have : 1 < Nat.gcd m b := by omega
          simp [List.filter_append, this, prD]
        · have e := of_decide_eq_false e
          have : ¬ 1 < Nat.gcd m b := by omega
          simp [List.filter_append, this]
  · rintro d2 ds' _ _ kk ⟨l1, l2, el, h2, rfl, rfl⟩ hk'
    cases l2 with
    | nil => cases h2
    | cons b l2 =>
      cases h2
      refine ⟨⟨pl_f f6, trivial⟩, (m : Int), (b : Int), rfl, len2, ?_, hk' _ _ ⟨l1 ++ [b], l2, by rw [el, List.append_assoc]; rfl, rfl, ?_, rfl⟩⟩
      · rw [el] at bl
        simp at bl ⊢
        omega
      · simp [prD]
theorem ref_all (K : PySem.W.Frag) (c : Cl) (ns : List Nat) (s0 : Sl) (P : Po) (hl : ns.length ≤ 20) (hn : ∀ n ∈ ns, 1 ≤ n ∧ n ≤ ZZ)
    (hP : ∀ B' s1 s2 t3 t4 t5 t6 t7, BaseOf ns B' → P.rt (.val (.tup (intsN B'))) [s0, s1, s2, t3, t4, t5, t6, t7, .un]) :
    (wSeq (wWhile (wTst (wBin (gEqv not) (wVar 2) (wLst wNil))) (wSeq (wSet 3 (wPop (wVar 2))) (wSeq (wIf (wOr (wTst (wBin (gEqv id) (wTake 3) (wC (.int 1)))) (wTst (wBin (gInS id) (wTake 3) (wVar 1)))) wCnt wNext) (wSeq (wSet 4 (wLc (wIt (wVar 1)) (wGN 6) wYes (wTup (wCons (wTake 6) (wCons (wFn (sp_common_divisor K c) (wCons (wTake 3) (wCons (wTake 6) wNil))) wNil))) [6])) (wSeq (wSet 5 (wLc (wIt (wTake 4)) (wGT 2 (wGC (wGN 6) (wGC (wGN 7) wG0))) (wTst (wBin gGt (wTake 7) (wC (.int 1)))) (wTup (wCons (wTake 6) (wCons (wTake 7) wNil))) [6, 7])) (wSeq (wIf (wTst (wBin (gEqv id) (wTake 5) (wLst wNil))) (wSeq (wExp (wApp (wVar 1) (wTake 3))) wCnt) wNext) (wSeq (wAsg (wGT 2 (wGC (wGN 6) (wGC (wGN 7) wG0))) (wBin gIx (wTake 5) (wC (.int 0)))) (wSeq (wSet 1 (wLc (wIt (wVar 1)) (wGN 8) (wTst (wBin (gEqv not) (wTake 8) (wTake 6))) (wTake 8) [8])) (wSet 2 (wBin gAdd (wVar 2) (wLst (wCons (wTake 7) (wCons (wBin gFdiv (wTake 6) (wTake 7)) (wCons (wBin gFdiv (wTake 3) (wTake 7)) wNil)))))))))))))) (wRet (wCall (g1 gTupC) (wCons (wCall (g1 gSorted) (wCons (wVar 1) wNil)) wNil)))) [s0, .own (.lst []), .own (.lst (intsN ns)), .un, .un, .un, .un, .un, .un] P := by
  have szl := szl2
  have E0 : prodL ns ≤ 2 ^ 22000 := by
    refine Nat.le_trans (prodL_le fun n hn' => (hn n hn').2) ?_
    unfold ZZ
    rw [← Nat.pow_mul]
    exact Nat.pow_le_pow_right (by decide) (by omega)
  have fin : ∀ (B : List Nat) (s0 t3 t4 t5 t6 t7 : Sl) (P : Po), RInv ns 22000 B [] → (∀ B' s1 s2, BaseOf ns B' → P.rt (.val (.tup (intsN B'))) [s0, s1, s2, t3, t4, t5, t6, t7, .un]) →
      wRet (wCall (g1 gTupC) (wCons (wCall (g1 gSorted) (wCons (wVar 1) wNil)) wNil)) [s0, .own (.lst (intsN B)), .own (.lst []), t3, t4, t5, t6, t7, .un] P := by
    intro B s0 t3 t4 t5 t6 t7 P I hP
    refine .inr ⟨B.map fun (b : Nat) => (b : Int), intsN_map B, fun ms pm asc => ?_⟩
    obtain ⟨C, rfl, pc⟩ : ∃ C : List Nat, ms = C.map (fun (b : Nat) => (b : Int)) ∧ C.Perm B := by
      refine ⟨ms.map Int.toNat, ?_, ?_⟩
      · rw [List.map_map]
        refine (List.map_id ms).symm.trans (List.map_congr_left fun z hz => ?_)
        obtain ⟨b, _, rfl⟩ := List.mem_map.mp (pm.mem_iff.mp hz)
        simp
      · have := pm.map Int.toNat
        rw [List.map_map] at this
        refine this.trans (List.Perm.of_eq ((List.map_congr_left fun z _ => ?_).trans (List.map_id B)))
        simp
    rw [← intsN_map]
    have cC := I.cb.perm pc
    refine hP C _ _ ⟨cC, ?_, fun n hn' => (I.gen n hn').bind fun b hb => .of (pc.mem_iff.mpr (by simpa using hb)), fun h1 => ?_, ?_, fun b hb => ?_⟩
    · rw [List.pairwise_map] at asc
      have nd := cC.nodup
      exact (asc.and nd).imp fun {a b} ⟨h1, h2⟩ => by omega
    · have : B = [] := by
        cases hB : B with
        | nil => rfl
        | cons b B' =>
          obtain ⟨n, hn1, d⟩ := I.dv b (.inl (by rw [hB]; simp))
          rw [h1 n hn1] at d
          have := I.cb.gt b (by rw [hB]; simp)
          have := Nat.le_of_dvd (by decide) d
          omega
      subst this
      exact pc.eq_nil
    · rw [pc.length_eq]
      exact I.blen
    · obtain ⟨n, hn1, d⟩ := I.dv b (.inl (pc.mem_iff.mp hb))
      exact Nat.le_trans (Nat.le_of_dvd (hn n hn1).1 d) (hn n hn1).2
  refine sq ?_
  refine wWhile_lt (m := muR [] ns) (fun m e => ∃ B W s3 s4 s5 s6 s7, m = muR B W ∧ RInv ns 22000 B W ∧ slF s3 ∧ slF s4 ∧ slF s5 ∧ slF s6 ∧ slF s7 ∧ e = [s0, .own (.lst (intsN B)), .own (.lst (intsN W)), s3, s4, s5, s6, s7, .un]) ⟨[], ns, .un, .un, .un, .un, .un, rfl, .start (fun n h => (hn n h).1) E0, trivial, trivial, trivial, trivial, trivial, rfl⟩ ?_
  rintro _ _ k ⟨B, W, s3, s4, s5, s6, s7, rfl, I, f3, f4, f5, f6, f7, rfl⟩ hk
  obtain ⟨p, e1, e2, e3⟩ := lstNil (ints_ok W)
  refine ⟨by decide, p, .list [], e1, rfl, e2, rfl, ?_⟩
  rw [e3]
  rcases List.eq_nil_or_concat W with rfl | ⟨W, m, rfl⟩
  · exact fin B s0 _ _ _ _ _ _ I fun B' s1 s2 hB => hP B' s1 s2 _ _ _ _ _ hB
  · have e4 : (intsN (W ++ [m])).isEmpty = false := by simp [intsN]
    rw [List.concat_eq_append, e4]
    rw [List.concat_eq_append] at I
    exact ref_body K c ns B W m s0 s3 s4 s5 s6 s7 _ I hl hn f3 f4 f5 f6 f7 fun B' W' t3 t4 t5 t6 t7 I' lt g3 g4 g5 g6 g7 => ⟨hk _ (by rw [List.concat_eq_append]; exact lt) _ ⟨B', W', t3, t4, t5, t6, t7, rfl, I', g3, g4, g5, g6, g7, rfl⟩, hk _ (by rw [List.concat_eq_append]; exact lt) _ ⟨B', W', t3, t4, t5, t6, t7, rfl, I', g3, g4, g5, g6, g7, rfl⟩⟩
theorem ixN_nat {n j : Nat} (h : j < n) : L2.ixN n (j : Int) = some j := by
  unfold L2.ixN
  rw [if_pos (by omega), if_pos (by omega)]
  simp
theorem intsN_get {L : List Nat} {j w : Nat} (h : L[j]? = some w) : (intsN L)[j]? = some (.int (w : Int)) := by
  unfold intsN
  rw [List.getElem?_map, h]
  rfl
theorem intsN_set (L : List Nat) (j w : Nat) : (intsN L).set j (.int (w : Int)) = intsN (L.set j w) := by
  unfold intsN
  rw [List.map_set]
theorem bp_side (K : PySem.W.Frag) (c : Cl) (B : List Nat) (r : Rat) (acc : List DL.D) (b : Nat) (B2 L : List Nat) (w sd : Nat) (cnt : Int) (s7 : Sl) (P : Po) (b2 : 1 < b) (bz : b ≤ ZZ) (hco : ∀ c ∈ B2, Nat.gcd b c = 1) (hB2 : ∀ c ∈ B2, 1 < c) (wz : w ≤ ZZ) (hg : GenB (b :: B2) w) (hL : L.length = 2) (hw : L[sd]? = some w) (f7 : slF s7)
    (hk : ∀ w' cnt' t7, GenB B2 w' → w' ≤ ZZ → slF t7 → P.nx [.val (.tup (intsN B)), .val (ratD r), .own (.lst acc), .own (.lst (intsN (L.set sd w'))), .val (.int b), .val (.int cnt'), .val (.int sd), t7]) :
    (wFor (wRng1 (wCons (wC (.int 3000)) wNil)) (wGN 7) (wSeq (wIf (wTst (wBin (gEqv not) (wBin gMod (wCall (g1 gIntX) (wCons (wBin gIx (wVar 3) (wTake 6)) wNil)) (wTake 4)) (wC (.int 0)))) wBrk wNext) (wAsg (wGT 2 (wGC (wGS (wVar 3) (wTake 6)) (wGC (wGN 5) wG0))) (wTup (wCons (wBin gFdiv (wBin gIx (wVar 3) (wTake 6)) (wTake 4)) (wCons (wBin gSub (wBin gAdd (wTake 5) (wC (.int 1))) (wBin gMul (wC (.int 2)) (wTake 6))) wNil)))))) [.val (.tup (intsN B)), .val (ratD r), .own (.lst acc), .own (.lst (intsN L)), .val (.int b), .val (.int cnt), .val (.int sd), s7] P := by
  obtain ⟨e, m, rfl, hm⟩ := hg.split
  have bm : Nat.gcd b m = 1 := hm.cop hco
  have m1 := hm.pos hB2
  have sl : sd < L.length := (List.getElem?_eq_some_iff.mp hw).1
  have e1100 : e ≤ 1100 := by
    have h1 : 2 ^ e ≤ b ^ e := Nat.pow_le_pow_left b2 e
    have h2 : b ^ e ≤ b ^ e * m := Nat.le_mul_of_pos_right _ m1
    have h3 : 2 ^ e ≤ 2 ^ 1100 := Nat.le_trans h1 (Nat.le_trans h2 wz)
    exact (Nat.pow_le_pow_iff_right (by decide : 1 < 2)).mp h3
  have mz : m ≤ ZZ := Nat.le_trans (Nat.le_mul_of_pos_left _ (Nat.pow_pos (by omega))) wz
  have bi : (b : Int).natAbs < 2 ^ 9000 := Nat.lt_of_le_of_lt bz (Nat.pow_lt_pow_right (by decide) (by decide))
  have sd4 : (sd : Int).natAbs < 2 ^ 4 := by omega
  refine ⟨by decide, by decide, fun _ z => (nomatch z), forR_ind (n := 3000) (fun i ev => ∃ (cn : Int) (t7 : Sl), i ≤ e ∧ slF t7 ∧ ev = [.val (.tup (intsN B)), .val (ratD r), .own (.lst acc), .own (.lst (intsN (L.set sd (b ^ (e - i) * m)))), .val (.int b), .val (.int cn), .val (.int sd), t7]) (fun _ _ _ => trivial) ?_ ?_ ⟨cnt, s7, by omega, f7, ?_⟩⟩
  · rintro _ ⟨cn, t7, hi, _, _⟩
    omega
  · rintro i _ kk hi ⟨cn, t7, ie, g7, rfl⟩ hk'
    have at1 : (L.set sd (b ^ (e - i) * m))[sd]? = some (b ^ (e - i) * m) := List.getElem?_set_self sl
    have at2 := L2.atI_nat (intsN_get at1)
    refine bnd_f rfl g7 ⟨_, at2, by omega, _, _, rfl, rfl, rfl, rfl, ?_⟩
    have dvd : b ^ (e - i) * m % b = 0 ↔ i < e := by
      constructor
      · intro h
        refine Nat.lt_of_not_le fun z => ?_
        have : e - i = 0 := by omega
        rw [this, Nat.pow_zero, Nat.one_mul] at h
        have d := Nat.dvd_of_mod_eq_zero h
        have := Nat.gcd_eq_left d
        omega
      · intro h
        obtain ⟨j, hj⟩ : ∃ j, e - i = j + 1 := ⟨e - i - 1, by omega⟩
        rw [hj, Nat.pow_succ, Nat.mul_comm (b ^ j) b, Nat.mul_assoc]
        exact Nat.mul_mod_right b _
    refine iteB (fun e1 => ?_) (fun e1 => ?_)
    · have e1 : (!PyData.eqv (.int (Int.fmod ((b ^ (e - i) * m : Nat) : Int) (b : Int))) (.int 0)) = true := e1
      rw [fm_nat, eqv_int] at e1
      have ne : ¬ i < e := fun z => by
        rw [dvd.mpr z] at e1
        simp at e1
      have : e - i = 0 := by omega
      rw [this, Nat.pow_zero, Nat.one_mul]
      exact hk m cn _ hm mz trivial
    · have e1 : (!PyData.eqv (.int (Int.fmod ((b ^ (e - i) * m : Nat) : Int) (b : Int))) (.int 0)) = false := e1
      rw [fm_nat, eqv_int] at e1
      have lt : i < e := by
        refine dvd.mp ?_
        rw [Bool.not_eq_false', decide_eq_true_iff] at e1
        exact Int.ofNat.inj e1
      obtain ⟨j, hj⟩ : ∃ j, e - i = j + 1 := ⟨e - i - 1, by omega⟩
      have hq : (b ^ (e - i) * m) / b = b ^ (e - (i + 1)) * m := by
        have : e - (i + 1) = j := by omega
        rw [this, hj, Nat.pow_succ, Nat.mul_comm (b ^ j) b, Nat.mul_assoc, Nat.mul_div_cancel_left _ (by omega)]
      refine ⟨_, at2, fdOk (by omega) bi, mulOk (show (2 : Int).natAbs < 2 ^ 2 by decide) sd4 (by decide), trivial, len2, rfl, sd, ixN_nat (by simp [intsN]; omega), ?_⟩
      have hs : (intsN (L.set sd (b ^ (e - i) * m))).set sd (.int (Int.fdiv ((b ^ (e - i) * m : Nat) : Int) (b : Int))) = intsN (L.set sd (b ^ (e - (i + 1)) * m)) := by
        rw [fd_nat, hq, intsN_set, List.set_set]
      rw [hs]
      refine gcn (bnd_f (s := .val (.int cn)) rfl trivial ⟨rfl, ?_⟩)
      exact hk' _ ⟨_, .val (.int (0 + (i : Int))), by omega, trivial, rfl⟩
  · have : L.set sd (b ^ e * m) = L := by
      have e1 := (List.getElem?_eq_some_iff.mp hw).2
      have := List.set_getElem_self sl
      rw [e1] at this
      exact this
    rw [Nat.sub_zero, this]
theorem lotD (z : Nat) : (.tup [.int (z : Int), .int 1] : DL.D) = ratD (z : Rat) := by
  rw [ratD_int, Rat.intCast_natCast]
theorem rat_one (K : PySem.W.Frag) (c : Cl) (k : Nat) (ls : List Nat) (rs : List Rat) (o : Ob) (s1 s3 s4 : Sl) (P : Po) (l5 : ls.length = 5) (hz : ∀ z ∈ ls, 1 ≤ z ∧ z < 2 ^ 110) (ho : PenOk (k + 10) o) (f1 : s1 = .own (.lst (intsN ls)) ∨ s1 = .val (.lst (intsN ls))) (f4 : slF s4) (l6 : rs.length ≤ 6)
    (hk : ∀ o' r, PenOk k o' → Rz r → ∀ t4, slF t4 → P.nx [.bor o', .val (.lst (intsN ls)), .own (.lst (rs.map ratD ++ [ratD r])), s3, t4, .un, .un]) :
    (wSeq (wSet 4 (wLc (wIt (wTake 1)) (wGN 6) wYes (wIfE (wTst (wBin (gEqv id) (wFn (sp__law_draw K c) (wCons (wVar 0) (wCons (wC (.int 2)) wNil))) (wC (.int 0)))) (wBin gSub (wFn (sp__law_draw K c) (wCons (wVar 0) (wCons (wC (.int 5)) wNil))) (wC (.int 2))) (wC (.int 0))) [6])) (wExp (wApp (wVar 2) (wFn (sp__law_powers K c) (wCons (wLc (wIt (wTake 1)) (wGN 6) wYes (wTup (wCons (wTake 6) (wCons (wC (.int 1)) wNil))) [6]) (wCons (wTake 4) wNil)))))) [.bor o, s1, .own (.lst (rs.map ratD)), s3, s4, .un, .un] P := by
  have szl := szl2
  have main : ∀ (env : Ev), env = [.bor o, .val (.lst (intsN ls)), .own (.lst (rs.map ratD)), s3, s4, .un, .un] →
      (∀ (k' : List DL.D → Ev → Prop), (∀ es : List Int, es.length = 5 → (∀ e ∈ es, e.natAbs ≤ 2) → ∀ o', PenOk k o' → k' (es.map .int) [.bor o', .val (.lst (intsN ls)), .own (.lst (rs.map ratD)), s3, s4, .un, .un]) →
      lcD (fun _ => True) (wGN 6) wYes (wIfE (wTst (wBin (gEqv id) (wFn (sp__law_draw K c) (wCons (wVar 0) (wCons (wC (.int 2)) wNil))) (wC (.int 0)))) (wBin gSub (wFn (sp__law_draw K c) (wCons (wVar 0) (wCons (wC (.int 5)) wNil))) (wC (.int 2))) (wC (.int 0))) [6] (intsN ls) [] env k') := by
    rintro env rfl k' hk'
    refine lcD_ind (fun ds acc e' => ∃ (l2 : List Nat) (es : List Int) (o1 : Ob), ds = intsN l2 ∧ es.length + l2.length = 5 ∧ acc = es.map .int ∧ (∀ e ∈ es, e.natAbs ≤ 2) ∧ PenOk (k + 2 * l2.length) o1 ∧ e' = [.bor o1, .val (.lst (intsN ls)), .own (.lst (rs.map ratD)), s3, s4, .un, .un]) (fun _ _ _ _ => trivial) ?_ ?_ ⟨ls, [], o, rfl, by simpa using l5, rfl, fun _ z => (nomatch z), by rw [l5]; exact ho, rfl⟩
    · rintro _ _ ⟨l2, es, o1, h2, le, rfl, he, ho1, rfl⟩
      cases l2 with
      | cons _ _ => cases h2
      | nil => exact hk' es (by simpa using le) he o1 ho1
    · rintro d ds _ _ kk ⟨l2, es, o1, h2, le, rfl, he, ho1, rfl⟩ hkk
      cases l2 with
      | nil => cases h2
      | cons z l2 =>
      cases h2
      simp at le ho1
      have el : ((es.map DL.D.int).length : Nat) < sizeLine := by simp; omega
      have push : ∀ (v : Int) o2, v.natAbs ≤ 2 → PenOk (k + 2 * l2.length) o2 → kk (es.map .int ++ [.int v]) [.bor o2, .val (.lst (intsN ls)), .own (.lst (rs.map ratD)), s3, s4, .un, .un] := fun v o2 hv ho2 =>
        hkk _ _ ⟨l2, es ++ [v], o2, rfl, by simp; omega, by simp, fun e' h' => by
          rcases List.mem_append.mp h' with h' | h'
          · exact he e' h'
          · simp only [List.mem_singleton] at h'
            subst h'
            exact hv, ho2, rfl⟩
      refine ⟨⟨rfl, trivial⟩, o1, 2, k + 2 * l2.length + 1, rfl, ho1.less (by omega), by decide, by decide, fun o2 r2 ho2 r0 r1 => ⟨_, _, rfl, rfl, rfl, rfl, iteB (fun _ => ?_) (fun _ => ?_)⟩⟩
      · exact ⟨o2, 5, k + 2 * l2.length, rfl, ho2, by decide, by decide, fun o3 r3 ho3 q0 q1 => ⟨trivial, el, push (r3 - 2) o3 (by omega) ho3⟩⟩
      · exact ⟨el, push 0 o2 (by decide) (ho2.less (by omega))⟩
  have fin : ∀ (es : List Int), es.length = 5 → (∀ e ∈ es, e.natAbs ≤ 2) → ∀ o', PenOk k o' →
      (wExp (wApp (wVar 2) (wFn (sp__law_powers K c) (wCons (wLc (wIt (wTake 1)) (wGN 6) wYes (wTup (wCons (wTake 6) (wCons (wC (.int 1)) wNil))) [6]) (wCons (wTake 4) wNil))))) [.bor o', .val (.lst (intsN ls)), .own (.lst (rs.map ratD)), s3, .own (.lst (es.map .int)), .un, .un] P := by
    intro es el he o' ho'
    refine ⟨trivial, fun _ z => (nomatch z), lcD_ind (fun ds acc e' => ∃ l1 l2, ls = l1 ++ l2 ∧ ds = intsN l2 ∧ acc = (l1.map fun z : Nat => (z : Rat)).map ratD ∧ e' = [.bor o', .val (.lst (intsN ls)), .own (.lst (rs.map ratD)), s3, .own (.lst (es.map .int)), .un, .un]) (fun _ _ _ _ => trivial) ?_ ?_ ⟨[], ls, rfl, rfl, rfl, rfl⟩⟩
    · rintro _ _ ⟨l1, l2, el2, h2, rfl, rfl⟩
      cases l2 <;> cases h2
      rw [List.append_nil] at el2
      subst el2
      refine ⟨.bor (.lst _), ls.map fun z : Nat => (z : Rat), es, rfl, rfl, by simp; omega, by simp; omega, fun r hr => ?_, he, fun r hr => ⟨by simp; omega, hk o' r ho' hr _ trivial⟩⟩
      obtain ⟨z, zm, rfl⟩ := List.mem_map.mp hr
      exact ⟨z, rfl, hz z zm⟩
    · rintro d ds _ _ kk ⟨l1, l2, el2, h2, rfl, rfl⟩ hkk
      cases l2 with
      | nil => cases h2
      | cons z l2 =>
      cases h2
      refine ⟨⟨rfl, trivial⟩, len2, ?_, ?_⟩
      · rw [el2] at l5
        simp at l5 ⊢
        omega
      · show kk ((l1.map fun z : Nat => (z : Rat)).map ratD ++ [.tup [.int (z : Int), .int 1]]) _
        rw [lotD]
        exact hkk _ _ ⟨l1 ++ [z], l2, by rw [el2, List.append_assoc]; rfl, rfl, by simp, rfl⟩
  rcases f1 with rfl | rfl
  all_goals
    refine ⟨fun _ z => (nomatch z), main _ rfl _ fun es el he o' ho' => ?_⟩
    refine bnd_s [.bor o', .val (.lst (intsN ls)), .own (.lst (rs.map ratD)), s3, s4, .un, .un] [.bor o', .val (.lst (intsN ls)), .own (.lst (rs.map ratD)), s3, .own (.lst (es.map .int)), .un, .un] rfl rfl (slFN f4) (fun _ z => nomatch z) rfl ?_
    exact fin es el he o' ho'
theorem rat_loop (K : PySem.W.Frag) (c : Cl) (k : Nat) (ls : List Nat) (o : Ob) (P : Po) (l5 : ls.length = 5) (hz : ∀ z ∈ ls, 1 ≤ z ∧ z < 2 ^ 110) (ho : PenOk (k + 106) o)
    (hk : ∀ o' (rs : List Rat) s1 s3 s4, PenOk k o' → rs.length ≤ 6 → (∀ r ∈ rs, Rz r) → P.rt (.own (.lst (rs.map ratD))) [.bor o', s1, .un, s3, s4, .un, .un]) :
    (wSeq (wSet 2 (wLst wNil)) (wSeq (wFor (wRng1 (wCons (wFn (sp__law_draw K c) (wCons (wVar 0) (wCons (wC (.int 7)) wNil))) wNil)) (wGN 3) (wSeq (wSet 4 (wLc (wIt (wTake 1)) (wGN 6) wYes (wIfE (wTst (wBin (gEqv id) (wFn (sp__law_draw K c) (wCons (wVar 0) (wCons (wC (.int 2)) wNil))) (wC (.int 0)))) (wBin gSub (wFn (sp__law_draw K c) (wCons (wVar 0) (wCons (wC (.int 5)) wNil))) (wC (.int 2))) (wC (.int 0))) [6])) (wExp (wApp (wVar 2) (wFn (sp__law_powers K c) (wCons (wLc (wIt (wTake 1)) (wGN 6) wYes (wTup (wCons (wTake 6) (wCons (wC (.int 1)) wNil))) [6]) (wCons (wTake 4) wNil))))))) (wRet (wMove 2)))) [.bor o, .own (.lst (intsN ls)), .un, .un, .un, .un, .un] P := by
  refine ⟨by decide, ?_⟩
  refine bnd_s [.bor o, .own (.lst (intsN ls)), .un, .un, .un, .un, .un] [.bor o, .own (.lst (intsN ls)), .own (.lst []), .un, .un, .un, .un] rfl rfl trivial (fun _ z => nomatch z) rfl ?_
  refine ⟨o, 7, k + 100, rfl, ho.less (by omega), by decide, by decide, fun o1 n ho1 n0 n1 => ⟨by omega, by omega, fun _ z => (nomatch z), ?_⟩⟩
  refine forR_ind (n := n.toNat) (fun i e => ∃ (o2 : Ob) (rs : List Rat) (s1 s3 s4 : Sl), rs.length = i ∧ (∀ r ∈ rs, Rz r) ∧ PenOk (k + 100 - 10 * i) o2 ∧ (s1 = .own (.lst (intsN ls)) ∨ s1 = .val (.lst (intsN ls))) ∧ slF s3 ∧ slF s4 ∧ e = [.bor o2, s1, .own (.lst (rs.map ratD)), s3, s4, .un, .un]) (fun _ _ _ => trivial) ?_ ?_ ⟨o1, [], _, .un, .un, rfl, fun _ z => (nomatch z), ho1, .inl rfl, trivial, trivial, rfl⟩
  · rintro _ ⟨o2, rs, s1, s3, s4, l, hr, ho2, f1, f3, f4, rfl⟩
    exact hk o2 rs s1 s3 s4 (ho2.less (by omega)) (by omega) hr
  · rintro i _ kk hi ⟨o2, rs, s1, s3, s4, l, hr, ho2, f1, f3, f4, rfl⟩ hkk
    refine bnd_f rfl f3 ?_
    refine rat_one K c (k + 90 - 10 * i) ls rs o2 s1 (.val (.int (0 + (i : Int)))) s4 _ l5 hz (ho2.less (by omega)) f1 f4 (by omega) fun o3 r ho3 hr3 t4 g4 => hkk _ ⟨o3, rs ++ [r], _, .val (.int (0 + (i : Int))), t4, by simp [l], fun r' h' => ?_, ho3.less (by omega), .inr rfl, trivial, g4, by simp⟩
    rcases List.mem_append.mp h' with h' | h'
    · exact hr r' h'
    · simp only [List.mem_singleton] at h'
      subst h'
      exact hr3
theorem idx_mem {ds : List DL.D} {z : Int} (z0 : 0 ≤ z) (z1 : z < ds.length) : ∃ v, v ∈ ds ∧ L2.atI ds z = some v := by
  have e := L2.atI_nat (xs := ds) (j := z.toNat) (v := ds[z.toNat]'(by omega)) (by simp)
  rw [Int.toNat_of_nonneg z0] at e
  exact ⟨_, List.getElem_mem _, e⟩
theorem slfPr {a b : Str} (ha : PyData.strOk a = true) (hb : PyData.strOk b = true) : Slf (.tup [.str a, .str b]) (.tuple [.str a, .str b]) :=
  ⟨rfl, by simp [SeqAt.shaped, PyData.canLay0, PyData.canLayAll0, PyData.depth, PyData.depthAll, ha, hb], by simp [PyData.eqv, PyData.eqvAll]⟩
theorem wrongs_bad : ∀ d ∈ ([.non, .int 0, .int (-2), .tup [.int (-1), .int 2], .tup [.int 1, .int 0], .str "2", .bl true, .lst [.int 1, .int 2], .tup [.int 0, .int 3]] : List DL.D), badA d ∧ ∃ p, Txd d p := fun d hd => by
  have b9 : ∀ z : Int, z.natAbs < 100 → z.natAbs < 2 ^ 9000 := fun z h => Nat.lt_of_lt_of_le (Nat.lt_of_lt_of_le h (show 100 ≤ 2 ^ 7 by decide)) (Nat.pow_le_pow_right (by decide) (by decide))
  simp only [List.mem_cons, List.not_mem_nil, or_false] at hd
  rcases hd with rfl | rfl | rfl | rfl | rfl | rfl | rfl | rfl | rfl
  · exact ⟨.inl ⟨vt_of rfl, rfl⟩, _, txd_of rfl (by decide +kernel)⟩
  · exact ⟨.inr ⟨_, .int 0, by decide +kernel⟩, _, txd_of rfl (by decide +kernel)⟩
  · exact ⟨.inr ⟨_, .int (-2), by decide +kernel⟩, _, txd_of rfl (by decide +kernel)⟩
  · exact ⟨.inr ⟨_, .pair (-1) 2 (by decide) (b9 _ (by decide)), by decide +kernel⟩, _, txd_of rfl (by decide +kernel)⟩
  · exact ⟨.inl ⟨vt_of rfl, rfl⟩, _, txd_of rfl (by decide +kernel)⟩
  · exact ⟨.inl ⟨vt_of rfl, rfl⟩, _, txd_of rfl (by decide +kernel)⟩
  · exact ⟨.inl ⟨vt_of rfl, rfl⟩, _, txd_of rfl (by decide +kernel)⟩
  · exact ⟨.inl ⟨vt_of rfl, rfl⟩, _, txd_of rfl (by decide +kernel)⟩
  · exact ⟨.inr ⟨_, .pair 0 3 (by decide) (b9 _ (by decide)), by decide +kernel⟩, _, txd_of rfl (by decide +kernel)⟩
theorem parts_mem {rs : List Rat} {n : Nat} (h : n ∈ partsN rs) : ∃ r ∈ rs, n = r.num.natAbs ∨ n = r.den := by
  simp only [partsN, List.mem_append, List.mem_map] at h
  rcases h with ⟨r, hr, rfl⟩ | ⟨r, hr, rfl⟩
  · exact ⟨r, hr, .inl rfl⟩
  · exact ⟨r, hr, .inr rfl⟩
theorem rz_sm {r : Rat} (h : Rz r) : Sm r :=
  ⟨Nat.lt_of_le_of_lt h.2.1 (Nat.pow_lt_pow_right (by decide) (by decide)), Nat.lt_of_le_of_lt h.2.2 (Nat.pow_lt_pow_right (by decide) (by decide))⟩
theorem law_last (K : PySem.W.Frag) (c : Cl) (env : Ev) (P : Po) (hP : P.rt (.val (.bl true)) env) :
    (wRet (wAndV (wBin (gEqv id) (wFn (sp_coprime_base K c) (wCons (wLst wNil) wNil)) (wTup wNil)) (wBin (gEqv id) (wFn (sp_coprime_base K c) (wCons (wLst (wCons (wC (.int 1)) (wCons (wTup (wCons (wC (.int 3)) (wCons (wC (.int 3)) wNil))) wNil))) wNil)) (wTup wNil)))) env P := by
  have e0 : PyData.eqv (.tuple []) (.tuple []) = true := by simp [PyData.eqv, PyData.eqvAll]
  refine ⟨by decide, .bor (.lst []), [], rfl, .inl rfl, .inl ⟨[], .nil, by decide, fun _ z => (nomatch z), fun B hB => ?_⟩⟩
  obtain rfl := hB.ones fun _ z => (nomatch z)
  refine ⟨by decide, .tuple [], .tuple [], rfl, rfl, rfl, rfl, ?_⟩
  rw [e0]
  have g1 : GoodA (.int 1) 1 := ⟨by have := Pass.int 1; exact this, by decide⟩
  have g3 : GoodA (.tup [.int 3, .int 3]) 1 := ⟨by have := Pass.pair 3 3 (by decide) (Nat.lt_of_lt_of_le (show (3 : Int).natAbs < 2 ^ 2 by decide) (Nat.pow_le_pow_right (by decide) (by decide))); rw [show Rat.divInt 3 3 = 1 by decide +kernel] at this; exact this, by decide⟩
  refine ⟨len2, len2, .bor (.lst [.int 1, .tup [.int 3, .int 3]]), _, rfl, .inl rfl, .inl ⟨[1, 1], .cons g1 (.cons g3 .nil), by decide, fun r hr => ?_, fun B hB => ?_⟩⟩
  · have : r = 1 := by simpa using hr
    subst this
    exact ⟨by decide, Nat.one_le_two_pow, Nat.one_le_two_pow⟩
  · obtain rfl := hB.ones fun n hn => by
      obtain ⟨r, hr, h⟩ := parts_mem hn
      have : r = 1 := by simpa using hr
      subst this
      rcases h with rfl | rfl <;> rfl
    refine ⟨by decide, .tuple [], .tuple [], rfl, rfl, rfl, rfl, ?_⟩
    rw [e0]
    exact hP
theorem law_kinds (K : PySem.W.Frag) (c : Cl) (o : Ob) (w l : DL.D) (p : PyData) (s0 s2 s3 s4 s5 s8 : Sl) (P : Po) (hb : badA w) (ht : Txd w p) (f8 : slF s8)
    (hk : ∀ t8, slF t8 → P.nx [s0, .own o, s2, s3, s4, s5, .val w, .val l, t8, .un]) :
    (wFor (wRng1 (wCons (wC (.int 3)) wNil)) (wGN 8) (wSeq (wIf (wTst (wBin (gEqv not) (wFn (sp__law_refused K c) (wCons (wTake 8) (wCons (wLst (wCons (wC (.int 2)) (wCons (wTake 6) (wCons (wTake 7) wNil)))) wNil))) (wTup (wCons (wC (.str "ratio")) (wCons (wCall (g1 gRepr) (wCons (wTake 6) wNil)) wNil))))) (wRet (wC (.bl false))) wNext) (wIf (wTst (wBin (gEqv not) (wFn (sp__law_refused K c) (wCons (wTake 8) (wCons (wLst (wCons (wTake 6) (wCons (wTake 7) wNil))) wNil))) (wTup (wCons (wC (.str "ratio")) (wCons (wCall (g1 gRepr) (wCons (wTake 6) wNil)) wNil))))) (wRet (wC (.bl false))) wNext))) [s0, .own o, s2, s3, s4, s5, .val w, .val l, s8, .un] P := by
  have k1 := slfPr (a := "ratio") (b := p.shown) (by decide +kernel) ht.o
  refine ⟨by decide, by decide, fun _ z => (nomatch z), forR_ind (n := 3) (fun i e => ∃ t8, slF t8 ∧ e = [s0, .own o, s2, s3, s4, s5, .val w, .val l, t8, .un]) (fun _ _ _ => trivial) ?_ ?_ ⟨s8, f8, rfl⟩⟩
  · rintro _ ⟨t8, g8, rfl⟩
    exact hk t8 g8
  · rintro i _ kk hi ⟨t8, g8, rfl⟩ hkk
    have hkd : (0 : Int) + (i : Int) = 0 ∨ (0 : Int) + (i : Int) = 1 ∨ (0 : Int) + (i : Int) = 2 := by omega
    refine bnd_f rfl g8 ?_
    refine ⟨len3, (0 : Int) + (i : Int), .bor (.lst _), _, w, p, rfl, rfl, hkd, hb, ht.s, .inl ⟨l, rfl⟩, ?_⟩
    refine ⟨p, ht.s.t, ht.s.s, ht.s.d, ht.s.l, len2, _, _, k1.t, k1.t, k1.s, k1.s, not_slf k1 ?_⟩
    refine ⟨len2, (0 : Int) + (i : Int), .bor (.lst _), _, w, p, rfl, rfl, hkd, hb, ht.s, .inr ⟨l, rfl⟩, ?_⟩
    refine ⟨p, ht.s.t, ht.s.s, ht.s.d, ht.s.l, len2, _, _, k1.t, k1.t, k1.s, k1.s, not_slf k1 ?_⟩
    exact hkk _ ⟨.val (.int ((0 : Int) + (i : Int))), trivial, rfl⟩
theorem law_ones (K : PySem.W.Frag) (c : Cl) (rs : List Rat) (B : List Nat) (o : Ob) (s0 s2 s4 s6 s7 s8 : Sl) (P : Po) (hB : BaseOf (partsN rs) B) (hl : rs.length ≤ 6) (hz : ∀ r ∈ rs, Rz r)
    (hk : P.nx [s0, .own o, s2, .val (.lst (rs.map ratD)), s4, .val (.tup (intsN B)), s6, s7, s8, .un]) :
    (wIf (wAnd (wTst (wBin (gEqv id) (wLc (wIt (wTake 3)) (wGN 9) (wTst (wBin (gEqv not) (wTake 9) (wTup (wCons (wC (.int 1)) (wCons (wC (.int 1)) wNil))))) (wTake 9) [9]) (wLst wNil))) (wTst (wBin (gEqv not) (wTake 5) (wTup wNil)))) (wRet (wC (.bl false))) wNext) [s0, .own o, s2, .val (.lst (rs.map ratD)), s4, .val (.tup (intsN B)), s6, s7, s8, .un] P := by
  have szl := szl2
  refine ⟨fun _ z => (nomatch z), lcD_ind (fun ds acc e' => ∃ (l1 l2 : List Rat) (as : List Rat), rs = l1 ++ l2 ∧ ds = l2.map ratD ∧ acc = as.map ratD ∧ as.length ≤ l1.length ∧ (as = [] → ∀ r ∈ l1, r.num = 1 ∧ r.den = 1) ∧ e' = [s0, .own o, s2, .val (.lst (rs.map ratD)), s4, .val (.tup (intsN B)), s6, s7, s8, .un]) (fun _ _ _ _ => trivial) ?_ ?_ ⟨[], rs, [], rfl, rfl, rfl, by decide, fun _ _ z => (nomatch z), rfl⟩⟩
  · rintro _ _ ⟨l1, l2, as, el, h2, rfl, _, ha, rfl⟩
    cases l2 <;> cases h2
    rw [List.append_nil] at el
    subst el
    obtain ⟨p, e1, e2, e3⟩ := lstNil (ds := as.map ratD) fun t ht => by
      obtain ⟨r, _, rfl⟩ := List.mem_map.mp ht
      exact okT _ _
    refine ⟨by decide, p, .list [], e1, rfl, e2, rfl, ?_⟩
    rw [e3]
    cases as with
    | cons _ _ => exact hk
    | nil =>
      obtain rfl := hB.ones fun n hn => by
        obtain ⟨r, hr, h⟩ := parts_mem hn
        obtain ⟨h1, h2⟩ := ha rfl r hr
        rcases h with rfl | rfl
        · rw [h1]
          rfl
        · exact h2
      have e0 : PyData.eqv (.tuple []) (.tuple []) = true := by simp [PyData.eqv, PyData.eqvAll]
      refine ⟨by decide, .tuple [], .tuple [], rfl, rfl, rfl, rfl, ?_⟩
      rw [e0]
      exact hk
  · rintro d ds _ _ kk ⟨l1, l2, as, el, h2, rfl, al, ha, rfl⟩ hkk
    cases l2 with
    | nil => cases h2
    | cons r l2 =>
    cases h2
    have ll : l1.length < 6 := by
      rw [el] at hl
      simp at hl
      omega
    refine ⟨⟨rfl, trivial⟩, len2, .tuple [.int r.num, .int r.den], .tuple [.int 1, .int 1], rfl, rfl, rfl, rfl, iteB (fun e => ⟨by simp; omega, hkk _ _ ⟨l1 ++ [r], l2, as ++ [r], by rw [el, List.append_assoc]; rfl, rfl, by simp, by simp; omega, fun z => by simp at z, rfl⟩⟩) (fun e => hkk _ _ ⟨l1 ++ [r], l2, as, by rw [el, List.append_assoc]; rfl, rfl, rfl, by simp; omega, fun z y hy => ?_, rfl⟩)⟩
    rcases List.mem_append.mp hy with hy | hy
    · exact ha z y hy
    · simp only [List.mem_singleton] at hy
      subst hy
      have e : (!PyData.eqv (.tuple [.int y.num, .int (y.den : Int)]) (.tuple [.int 1, .int 1])) = false := e
      simp [PyData.eqv, PyData.eqvAll] at e
      omega
theorem law_turn (K : PySem.W.Frag) (c : Cl) (o : Ob) (k : Nat) (s0 s2 s3 s4 s5 s6 s7 s8 : Sl) (P : Po) (ho : PenOk (k + 170) o) (f3 : slF s3) (f4 : slF s4) (f5 : slF s5) (f6 : slF s6) (f7 : slF s7) (f8 : slF s8)
    (hk : ∀ o' t3 t4 t5 t6 t7 t8, PenOk k o' → slF t3 → slF t4 → slF t5 → slF t6 → slF t7 → slF t8 → P.nx [s0, .own o', s2, t3, t4, t5, t6, t7, t8, .un]) :
    (wSeq (wSet 3 (wFn (sp__law_ratios K c) (wCons (wVar 1) wNil))) (wSeq (wSet 4 (wLc (wIt (wTake 3)) (wGN 9) wYes (wFn (sp__law_passed K c) (wCons (wVar 1) (wCons (wTake 9) wNil))) [9])) (wSeq (wSet 5 (wFn (sp_coprime_base K c) (wCons (wFn (sp__law_pick K c) (wCons (wVar 1) (wCons (wLst (wCons (wTake 4) (wCons (wCall (g1 gTupC) (wCons (wTake 4) wNil)) wNil))) wNil))) wNil))) (wSeq (wIf (wNot (wTru (wFn (sp__law_is_base K c) (wCons (wTake 5) (wCons (wTake 3) wNil))))) (wRet (wC (.bl false))) wNext) (wSeq (wIf (wAnd (wTst (wBin (gEqv id) (wLc (wIt (wTake 3)) (wGN 9) (wTst (wBin (gEqv not) (wTake 9) (wTup (wCons (wC (.int 1)) (wCons (wC (.int 1)) wNil))))) (wTake 9) [9]) (wLst wNil))) (wTst (wBin (gEqv not) (wTake 5) (wTup wNil)))) (wRet (wC (.bl false))) wNext) (wSeq (wSet 6 (wBin gIx (wLst (wCons (wC .non) (wCons (wC (.int 0)) (wCons (wUn gNeg (wC (.int 2))) (wCons (wTup (wCons (wUn gNeg (wC (.int 1))) (wCons (wC (.int 2)) wNil))) (wCons (wTup (wCons (wC (.int 1)) (wCons (wC (.int 0)) wNil))) (wCons (wC (.str "2")) (wCons (wC (.bl true)) (wCons (wLst (wCons (wC (.int 1)) (wCons (wC (.int 2)) wNil))) (wCons (wTup (wCons (wC (.int 0)) (wCons (wC (.int 3)) wNil))) wNil)))))))))) (wFn (sp__law_draw K c) (wCons (wVar 1) (wCons (wC (.int 9)) wNil))))) (wSeq (wSet 7 (wBin gIx (wLst (wCons (wC .non) (wCons (wC (.int 0)) (wCons (wC (.str "x")) wNil)))) (wFn (sp__law_draw K c) (wCons (wVar 1) (wCons (wC (.int 3)) wNil))))) (wFor (wRng1 (wCons (wC (.int 3)) wNil)) (wGN 8) (wSeq (wIf (wTst (wBin (gEqv not) (wFn (sp__law_refused K c) (wCons (wTake 8) (wCons (wLst (wCons (wC (.int 2)) (wCons (wTake 6) (wCons (wTake 7) wNil)))) wNil))) (wTup (wCons (wC (.str "ratio")) (wCons (wCall (g1 gRepr) (wCons (wTake 6) wNil)) wNil))))) (wRet (wC (.bl false))) wNext) (wIf (wTst (wBin (gEqv not) (wFn (sp__law_refused K c) (wCons (wTake 8) (wCons (wLst (wCons (wTake 6) (wCons (wTake 7) wNil))) wNil))) (wTup (wCons (wC (.str "ratio")) (wCons (wCall (g1 gRepr) (wCons (wTake 6) wNil)) wNil))))) (wRet (wC (.bl false))) wNext)))))))))) [s0, .own o, s2, s3, s4, s5, s6, s7, s8, .un] P := by
  have szl := szl2
  refine ⟨o, k + 20, rfl, ho, fun o1 rs ho1 l6 hz => ?_⟩
  refine bnd_s [s0, .own o1, s2, s3, s4, s5, s6, s7, s8, .un] [s0, .own o1, s2, .own (.lst (rs.map ratD)), s4, s5, s6, s7, s8, .un] rfl rfl (slFN f3) (fun _ z => nomatch z) rfl ?_
  refine ⟨fun _ z => (nomatch z), lcD_ind (fun ds acc e' => ∃ (l1 l2 : List Rat) (o2 : Ob), rs = l1 ++ l2 ∧ ds = l2.map ratD ∧ Rows2 GoodA acc l1 ∧ PenOk (k + 8 + 2 * l2.length) o2 ∧ e' = [s0, .own o2, s2, .val (.lst (rs.map ratD)), s4, s5, s6, s7, s8, .un]) (fun _ _ _ _ => trivial) ?_ ?_ ⟨[], rs, o1, rfl, rfl, .nil, ho1.less (by omega), rfl⟩⟩
  · rintro ds _ ⟨l1, l2, o2, el, h2, hr, ho2, rfl⟩
    cases l2 <;> cases h2
    rw [List.append_nil] at el
    subst el
    refine bnd_s [s0, .own o2, s2, .val (.lst (rs.map ratD)), s4, s5, s6, s7, s8, .un] [s0, .own o2, s2, .val (.lst (rs.map ratD)), .own (.lst ds), s5, s6, s7, s8, .un] rfl rfl (slFN f4) (fun _ z => nomatch z) rfl ?_
    refine ⟨len2, o2, .bor (.lst [.lst ds, .tup ds]), _, k + 7, rfl, rfl, ho2, List.cons_ne_nil _ _, (show 2 < 2 ^ 40 by decide), fun o3 d ho3 hd => ?_⟩
    have hd : d = .lst ds ∨ d = .tup ds := by simpa using hd
    refine ⟨.val d, ds, rfl, hd, .inl ⟨rs, hr, by omega, hz, fun B hB => ?_⟩⟩
    refine bnd_s [s0, .own o3, s2, .val (.lst (rs.map ratD)), .val (.lst ds), s5, s6, s7, s8, .un] [s0, .own o3, s2, .val (.lst (rs.map ratD)), .val (.lst ds), .val (.tup (intsN B)), s6, s7, s8, .un] rfl rfl (slFN f5) (fun _ z => nomatch z) rfl ?_
    refine ⟨B, rs, rfl, hB, by omega, hz, ?_⟩
    refine law_ones K c rs B o3 s0 s2 _ s6 s7 s8 _ hB l6 hz ?_
    refine ⟨len2, len2, len2, len2, (show 9 ≤ sizeLine by decide), o3, 9, k + 1, rfl, ho3.less (by omega), by decide, by decide, fun o4 z4 ho4 a0 a1 => ?_⟩
    obtain ⟨w, mw, ew⟩ := idx_mem (ds := [.non, .int 0, .int (-2), .tup [.int (-1), .int 2], .tup [.int 1, .int 0], .str "2", .bl true, .lst [.int 1, .int 2], .tup [.int 0, .int 3]]) a0 a1
    refine ⟨w, ew, ?_⟩
    obtain ⟨bw, pw, tw⟩ := wrongs_bad w mw
    refine bnd_s [s0, .own o4, s2, .val (.lst (rs.map ratD)), .val (.lst ds), .val (.tup (intsN B)), s6, s7, s8, .un] [s0, .own o4, s2, .val (.lst (rs.map ratD)), .val (.lst ds), .val (.tup (intsN B)), .val w, s7, s8, .un] rfl rfl (slFN f6) (fun _ z => nomatch z) rfl ?_
    refine ⟨len3, o4, 3, k, rfl, ho4, by decide, by decide, fun o5 z5 ho5 b0 b1 => ?_⟩
    obtain ⟨l, ml, el⟩ := idx_mem (ds := [.non, .int 0, .str "x"]) b0 b1
    refine ⟨l, el, ?_⟩
    refine bnd_s [s0, .own o5, s2, .val (.lst (rs.map ratD)), .val (.lst ds), .val (.tup (intsN B)), .val w, s7, s8, .un] [s0, .own o5, s2, .val (.lst (rs.map ratD)), .val (.lst ds), .val (.tup (intsN B)), .val w, .val l, s8, .un] rfl rfl (slFN f7) (fun _ z => nomatch z) rfl ?_
    exact law_kinds K c o5 w l pw s0 s2 _ _ _ s8 _ bw tw f8 fun t8 g8 => hk o5 _ _ _ _ _ t8 ho5 trivial trivial trivial trivial trivial g8
  · rintro d ds acc _ kk ⟨l1, l2, o2, el, h2, hr, ho2, rfl⟩ hkk
    cases l2 with
    | nil => cases h2
    | cons r l2 =>
    cases h2
    have rz := hz r (by rw [el]; simp)
    have al := hr.len
    have l16 : l1.length ≤ 6 := by
      rw [el] at l6
      simp at l6
      omega
    refine ⟨⟨rfl, trivial⟩, o2, r, k + 8 + 2 * l2.length, rfl, ho2.less (by simp; omega), rz_sm rz, fun o3 d ho3 hp => ⟨by omega, hkk _ _ ⟨l1 ++ [r], l2, o3, by rw [el, List.append_assoc]; rfl, rfl, ?_, ho3, rfl⟩⟩⟩
    exact hr.app (.cons ⟨hp, rz.1⟩ .nil)
theorem len_common_divisor (K : PySem.W.Frag) (c : Cl) : ∀ args q x, sp_common_divisor K c args q x → args.length = 2 := by
  intro args q x h
  repeat (first | (obtain ⟨rfl, _⟩ := h; rfl) | obtain ⟨_, h⟩ := h)
theorem h_common_divisor (K : PySem.W.Frag) (c : Cl) (kf : KF K c) : ∀ args q x, sp_common_divisor K c args q x → w_common_divisor K c (initE 2 args) (poOf args q x) := by
  rintro _ q x ⟨a, b, rfl, h⟩
  have ab : ∀ i : Int, (if i < 0 then -i else i) = (i.natAbs : Int) := fun i => by split <;> omega
  refine wWhile_ind (m := euSteps a.natAbs b.natAbs) (fun m e => ∃ u v : Nat, e = [.val (.int u), .val (.int v)] ∧ m = euSteps u v ∧ Nat.gcd u v = Int.gcd a b) ?_ ?_
  · refine ⟨a.natAbs, b.natAbs, ?_, rfl, rfl⟩
    rw [← ab a, ← ab b]
    rfl
  · rintro m _ k ⟨u, v, rfl, hm, hg⟩ hk
    refine iteB (b := ((v : Int) != 0)) (fun h1 => ?_) (fun h1 => ?_)
    · have hv : v ≠ 0 := by simpa using h1
      refine ⟨(by omega : (v : Int) ≠ 0), ?_⟩
      rw [euSteps_pos hv] at hm
      refine hk _ hm _ ⟨v, u % v, ?_, rfl, ?_⟩
      · rw [Int.natCast_emod, ← Int.fmod_eq_emod_of_nonneg _ (by omega)]
        rfl
      · rw [← hg, Nat.gcd_comm u v, Nat.gcd_rec v u, Nat.gcd_comm]
    · have hv : v = 0 := by simpa using h1
      subst hv
      refine ⟨fun i z => (nomatch z), ?_⟩
      rw [Nat.gcd_zero_right] at hg
      subst hg
      exact h
theorem len_lowest (K : PySem.W.Frag) (c : Cl) : ∀ args q x, sp_lowest K c args q x → args.length = 2 := by
  intro args q x h
  repeat (first | (obtain ⟨rfl, _⟩ := h; rfl) | obtain ⟨_, h⟩ := h)
theorem h_lowest (K : PySem.W.Frag) (c : Cl) (kf : KF K c) : ∀ args q x, sp_lowest K c args q x → w_lowest K c (initE 3 args) (poOf args q x) := by
  rintro _ q x ⟨a, b, rfl, h0, hb, h⟩
  change w_lowest K c [.val (.int a), .val (.int b), .un] (poOf _ q x)
  refine ⟨a, b, rfl, ?_⟩
  have gs := gcd_small (a := a) h0 hb
  have gp := Int.gcd_pos_of_ne_zero_right a h0
  refine ⟨trivial, iteB (fun hn => ?_) (fun hn => ?_)⟩
  · have hn : b < 0 := of_decide_eq_true hn
    have f : ∀ i, CFd i (-(Int.gcd a b : Int)) := fun i => fdOk (by omega) (by rw [Int.natAbs_neg]; exact gs)
    refine ⟨f a, f b, len2, noloc, ?_⟩
    have e := low_pos a b _ h0 rfl
    rw [if_pos hn] at e
    rw [← e] at h
    exact h
  · have hn : ¬ b < 0 := of_decide_eq_false hn
    have f : ∀ i, CFd i (Int.gcd a b : Int) := fun i => fdOk (by omega) gs
    refine ⟨f a, f b, len2, noloc, ?_⟩
    have e := low_pos a b _ h0 rfl
    rw [if_neg hn] at e
    rw [← e] at h
    exact h
theorem len_is_whole (K : PySem.W.Frag) (c : Cl) : ∀ args q x, sp_is_whole K c args q x → args.length = 1 := by
  intro args q x h
  repeat (first | (obtain ⟨rfl, _⟩ := h; rfl) | obtain ⟨_, h⟩ := h)
theorem h_is_whole (K : PySem.W.Frag) (c : Cl) (kf : KF K c) : ∀ args q x, sp_is_whole K c args q x → w_is_whole K c (initE 1 args) (poOf args q x) := by
  rintro _ q x ⟨d, n, rfl, hn, h⟩
  have m := tyN_mem hn
  have k1 := L2.kit_ty (K := K) (kit_int n m)
  have k2 := L2.kit_ty (K := K) (kit_bool n m)
  cases d <;> simp [tyN] at hn <;> subst hn <;> refine ⟨_, rfl, _, k1, ?_⟩
  case bl => exact ⟨_, rfl, _, k2, noloc, h⟩
  case int => exact ⟨_, rfl, _, k2, noloc, h⟩
  all_goals exact ⟨noloc, h⟩
theorem len_is_ratio (K : PySem.W.Frag) (c : Cl) : ∀ args q x, sp_is_ratio K c args q x → args.length = 1 := by
  intro args q x h
  repeat (first | (obtain ⟨rfl, _⟩ := h; rfl) | obtain ⟨_, h⟩ := h)
theorem h_is_ratio (K : PySem.W.Frag) (c : Cl) (kf : KF K c) : ∀ args q x, sp_is_ratio K c args q x → w_is_ratio K c (initE 1 args) (poOf args q x) := by
  rintro _ q x ⟨d, n, rfl, hn, ht, h⟩
  have kt := fun n m => L2.kit_ty (K := K) (kit_tuple n m)
  cases d <;> simp [tyN] at hn <;> subst hn
  case int => exact ⟨_, _, rfl, rfl, noloc, h⟩
  case tup ds =>
    refine ⟨_, _, rfl, rfl, _, rfl, _, kt _ (by decide), ?_⟩
    by_cases hl : ds.length = 2
    · match ds, hl, h, ht with
      | [a, b], _, h, ht =>
        obtain ⟨⟨na, ta⟩, nb, tb⟩ := ht a b rfl
        refine ⟨_, _, rfl, rfl, rfl, rfl, _, rfl, _, _, rfl, ta, iteB (fun e1 => ?_) (fun e1 => ?_)⟩
        · refine ⟨_, rfl, _, _, rfl, tb, iteB (fun e2 => ?_) (fun e2 => ?_)⟩
          · cases a <;> first | (cases e1; done) | skip
            cases b <;> first | (cases e2; done) | skip
            exact ⟨_, rfl, trivial, noloc, h⟩
          · cases a <;> first | (cases e1; done) | skip
            cases b <;> first | (cases e2; done) | exact ⟨noloc, h⟩
        · cases a <;> first | (cases e1; done) | exact ⟨noloc, h⟩
    · refine ⟨_, _, rfl, rfl, rfl, rfl, ?_⟩
      have : (!PyData.eqv (.int (ds.length : Nat)) (.int 2)) = true := by
        rw [eqv_int]
        simp only [Bool.not_eq_true', decide_eq_false_iff_not]
        omega
      rw [show (not (PyData.eqv (.int ((ds.length : Nat) : Int)) (.int 2))) = true from this]
      rw [isRt_ne hl] at h
      exact ⟨noloc, h⟩
  all_goals exact ⟨_, _, rfl, rfl, _, rfl, _, kt _ (by decide), noloc, h⟩
theorem len_told (K : PySem.W.Frag) (c : Cl) : ∀ args q x, sp_told K c args q x → args.length = 2 := by
  intro args q x h
  repeat (first | (obtain ⟨rfl, _⟩ := h; rfl) | obtain ⟨_, h⟩ := h)
theorem h_told (K : PySem.W.Frag) (c : Cl) (kf : KF K c) : ∀ args q x, sp_told K c args q x → w_told K c (initE 2 args) (poOf args q x) := by
  rintro _ q x ⟨d, w, r, rfl, hp, h⟩
  obtain ⟨⟨n, t1⟩, t2⟩ := hp.ty
  refine ⟨d, n, rfl, t1, t2, ?_⟩
  rw [hp.rt]
  cases hp with
  | int i =>
    refine ⟨_, rfl, _, L2.kit_ty (kit_int "int" (by decide)), len2, noloc, ?_⟩
    rw [ratD_int]
    exact h
  | pair a b hb hs =>
    refine ⟨_, rfl, _, L2.kit_ty (kit_int "tuple" (by decide)), _, rfl, _, rfl, _, _, rfl, by omega, hs, noloc, h⟩
theorem len_times (K : PySem.W.Frag) (c : Cl) : ∀ args q x, sp_times K c args q x → args.length = 2 := by
  intro args q x h
  repeat (first | (obtain ⟨rfl, _⟩ := h; rfl) | obtain ⟨_, h⟩ := h)
theorem h_times (K : PySem.W.Frag) (c : Cl) (kf : KF K c) : ∀ args q x, sp_times K c args q x → w_times K c (initE 2 args) (poOf args q x) := by
  rintro _ q x ⟨a, b, rfl, ha, hb, h⟩
  obtain ⟨m1, m2, m3, m4, z, s⟩ := sm_mul ha hb
  refine ⟨_, rfl, _, rfl, m1, _, rfl, _, rfl, m2, _, _, rfl, z, s, noloc, ?_⟩
  rw [mul_divInt]
  exact h
theorem len_told_above (K : PySem.W.Frag) (c : Cl) : ∀ args q x, sp_told_above K c args q x → args.length = 2 := by
  intro args q x h
  repeat (first | (obtain ⟨rfl, _⟩ := h; rfl) | obtain ⟨_, h⟩ := h)
theorem h_told_above (K : PySem.W.Frag) (c : Cl) (kf : KF K c) : ∀ args q x, sp_told_above K c args q x → w_told_above K c (initE 2 args) (poOf args q x) := by
  rintro _ q x ⟨d, w, rfl, h⟩
  rcases h with ⟨r, ⟨hp, h0⟩, h⟩ | ⟨hb, h⟩
  · obtain ⟨⟨m, hm⟩, h2⟩ := hp.ty
    refine ⟨d, m, rfl, hm, h2, ?_⟩
    rw [hp.rt]
    exact ⟨d, w, r, rfl, hp, _, rfl, trivial, iteB (fun e => absurd (of_decide_eq_true e) (by omega)) (fun _ => ⟨d, w, r, rfl, hp, noloc, h⟩)⟩
  · rcases hb with ⟨vt, hr⟩ | ⟨r, hp, hr⟩
    · obtain ⟨m, hm⟩ := vt.t
      refine ⟨d, m, rfl, hm, vt.p, ?_⟩
      rw [hr]
      exact ⟨rfl, h⟩
    · obtain ⟨⟨m, hm⟩, h2⟩ := hp.ty
      refine ⟨d, m, rfl, hm, h2, ?_⟩
      rw [hp.rt]
      exact ⟨d, w, r, rfl, hp, _, rfl, trivial, iteB (fun _ => ⟨rfl, h⟩) (fun e => absurd (of_decide_eq_false e) (by omega))⟩
theorem len_refined (K : PySem.W.Frag) (c : Cl) : ∀ args q x, sp_refined K c args q x → args.length = 1 := by
  intro args q x h
  repeat (first | (obtain ⟨rfl, _⟩ := h; rfl) | obtain ⟨_, h⟩ := h)
theorem h_refined (K : PySem.W.Frag) (c : Cl) (kf : KF K c) : ∀ args q x, sp_refined K c args q x → w_refined K c (initE 9 args) (poOf args q x) := by
  rintro _ q x ⟨a, ns, rfl, ha, hl, hn, h⟩
  rcases ar_lst ha with rfl | rfl
  all_goals
    refine ⟨by decide, ?_⟩
    exact ref_all K c ns _ _ hl hn fun B' s1 s2 t3 t4 t5 t6 t7 hB => ⟨noloc, h B' hB⟩
theorem len_base_of (K : PySem.W.Frag) (c : Cl) : ∀ args q x, sp_base_of K c args q x → args.length = 1 := by
  intro args q x h
  repeat (first | (obtain ⟨rfl, _⟩ := h; rfl) | obtain ⟨_, h⟩ := h)
theorem h_base_of (K : PySem.W.Frag) (c : Cl) (kf : KF K c) : ∀ args q x, sp_base_of K c args q x → w_base_of K c (initE 2 args) (poOf args q x) := by
  rintro _ q x ⟨a, rs, rfl, ha, hl, hz, h⟩
  rcases ar_lst ha with rfl | rfl
  all_goals
    refine ⟨fun _ z => (nomatch z), lcD_ind (fun ds acc e' => ∃ l1 l2, rs = l1 ++ l2 ∧ ds = l2.map ratD ∧ acc = intsN (l1.map fun r => r.num.natAbs) ∧ e' = [_, .un]) (fun _ _ _ _ => trivial) ?_ ?_ ⟨[], rs, rfl, rfl, rfl, rfl⟩⟩
    · rintro _ _ ⟨l1, l2, el, h2, rfl, rfl⟩
      cases l2 <;> cases h2
      rw [List.append_nil] at el
      subst el
      refine ⟨fun _ z => (nomatch z), lcD_ind (fun ds acc e' => ∃ l1 l2, rs = l1 ++ l2 ∧ ds = l2.map ratD ∧ acc = intsN (l1.map fun r => r.den) ∧ e' = [_, .un]) (fun _ _ _ _ => trivial) ?_ ?_ ⟨[], rs, rfl, rfl, rfl, rfl⟩⟩
      · rintro _ _ ⟨l1, l2, el, h2, rfl, rfl⟩
        cases l2 <;> cases h2
        rw [List.append_nil] at el
        subst el
        refine ⟨by simp [intsN]; have := szl2; omega, .bor (.lst _), partsN rs, rfl, ?_, ?_, fun n hn => ?_, fun B hB => ⟨noloc, h B hB⟩⟩
        · simp [Ar.rd, Ob.toD, intsN, partsN]
        · simp [partsN]
          omega
        · simp only [partsN, List.mem_append, List.mem_map] at hn
          rcases hn with ⟨r, hr, rfl⟩ | ⟨r, hr, rfl⟩
          · exact ⟨by have := (hz r hr).1; omega, (hz r hr).2.1⟩
          · exact ⟨r.den_pos, (hz r hr).2.2⟩
      · rintro d2 ds' _ _ kk ⟨l1, l2, el, h2, rfl, rfl⟩ hk
        cases l2 with
        | nil => cases h2
        | cons r l2 =>
          cases h2
          refine ⟨⟨rfl, trivial⟩, _, rfl, ?_, hk _ _ ⟨l1 ++ [r], l2, by rw [el, List.append_assoc]; rfl, rfl, by simp [intsN], rfl⟩⟩
          have := szl2
          rw [el] at hl
          simp [intsN] at hl ⊢
          omega
    · rintro d2 ds' _ _ kk ⟨l1, l2, el, h2, rfl, rfl⟩ hk
      cases l2 with
      | nil => cases h2
      | cons r l2 =>
        cases h2
        refine ⟨⟨rfl, trivial⟩, _, rfl, ?_, hk _ _ ⟨l1 ++ [r], l2, by rw [el, List.append_assoc]; rfl, rfl, ?_, rfl⟩⟩
        · have := szl2
          rw [el] at hl
          simp [intsN] at hl ⊢
          omega
        · have := hz r (by rw [el]; simp)
          rw [int_num this.1]
          simp [intsN]
theorem len_coprime_base (K : PySem.W.Frag) (c : Cl) : ∀ args q x, sp_coprime_base K c args q x → args.length = 1 := by
  intro args q x h
  repeat (first | (obtain ⟨rfl, _⟩ := h; rfl) | obtain ⟨_, h⟩ := h)
theorem h_coprime_base (K : PySem.W.Frag) (c : Cl) (kf : KF K c) : ∀ args q x, sp_coprime_base K c args q x → w_coprime_base K c (initE 2 args) (poOf args q x) := by
  rintro _ q x ⟨a, ds, rfl, ha, h⟩
  have szl := szl2
  rcases ar_cases ha with (rfl | rfl) | rfl
  all_goals
    rcases h with ⟨rs, hr, hl, hz, h⟩ | ⟨w, ⟨ds1, rs1, ds2, rfl, h1, hl, hb⟩, h⟩
    · refine ⟨fun _ z => (nomatch z), lcDX_ind (fun ds' acc e' => ∃ l1 l2, rs = l1 ++ l2 ∧ Rows2 GoodA ds' l2 ∧ acc = l1.map ratD ∧ e' = [_, .un]) (fun _ _ _ _ => trivial) ?_ ?_ ⟨[], rs, rfl, hr, rfl, rfl⟩⟩
      · rintro _ _ ⟨l1, l2, el, h2, rfl, rfl⟩
        cases h2
        rw [List.append_nil] at el
        subst el
        exact ⟨.bor (.lst _), rs, rfl, rfl, hl, hz, fun B hB => ⟨noloc, h B hB⟩⟩
      · rintro d2 ds' _ _ kk ⟨l1, l2, el, h2, rfl, rfl⟩ hk
        cases h2 with
        | @cons _ r _ l2 hp h2 =>
          refine ⟨⟨rfl, trivial⟩, d2, .str "ratio", rfl, .inl ⟨r, hp, ?_, hk _ _ ⟨l1 ++ [r], l2, by rw [el, List.append_assoc]; rfl, h2, by simp, rfl⟩⟩⟩
          rw [el] at hl
          simp at hl ⊢
          omega
    · refine ⟨fun _ z => (nomatch z), lcDX_ind (fun ds' acc e' => ∃ r1 l1, ds' = r1 ++ w :: ds2 ∧ Rows2 GoodA r1 l1 ∧ acc.length + r1.length ≤ 10 ∧ e' = [_, .un]) (fun _ _ _ _ => trivial) ?_ ?_ ⟨ds1, rs1, rfl, h1, by simpa using hl, rfl⟩⟩
      · rintro _ _ ⟨r1, l1, el, _, _, rfl⟩
        cases r1 <;> cases el
      · rintro d2 ds' acc _ kk ⟨r1, l1, el, h2, hlen, rfl⟩ hk
        cases h2 with
        | nil =>
          cases el
          exact ⟨⟨rfl, trivial⟩, _, .str "ratio", rfl, .inr ⟨hb, h⟩⟩
        | @cons _ r _ l2 hp h2 =>
          cases el
          refine ⟨⟨rfl, trivial⟩, _, .str "ratio", rfl, .inl ⟨r, hp, ?_, hk _ _ ⟨_, _, rfl, h2, ?_, rfl⟩⟩⟩
          · simp at hlen
            omega
          · simp at hlen ⊢
            omega
theorem len_relations (K : PySem.W.Frag) (c : Cl) : ∀ args q x, sp_relations K c args q x → args.length = 1 := by
  intro args q x h
  repeat (first | (obtain ⟨rfl, _⟩ := h; rfl) | obtain ⟨_, h⟩ := h)
theorem h_relations (K : PySem.W.Frag) (c : Cl) (kf : KF K c) : ∀ args q x, sp_relations K c args q x → w_relations K c (initE 4 args) (poOf args q x) := by
  rintro _ q x ⟨a, ds, w, rfl, ha, ⟨ds1, rs1, ds2, rfl, h1, hl, hb⟩, h⟩
  have szl := szl2
  rcases ar_cases ha with (rfl | rfl) | rfl
  all_goals
    refine ⟨fun _ z => (nomatch z), lcDX_ind (fun ds' acc e' => ∃ r1 l1, ds' = r1 ++ w :: ds2 ∧ Rows2 GoodA r1 l1 ∧ acc.length + r1.length ≤ 10 ∧ e' = [_, .un, .un, .un]) (fun _ _ _ _ => trivial) ?_ ?_ ⟨ds1, rs1, rfl, h1, by simpa using hl, rfl⟩⟩
    · rintro _ _ ⟨r1, l1, el, _, _, rfl⟩
      cases r1 <;> cases el
    · rintro d2 ds' acc _ kk ⟨r1, l1, el, h2, hlen, rfl⟩ hk
      cases h2 with
      | nil =>
        cases el
        exact ⟨⟨rfl, trivial⟩, _, .str "ratio", rfl, .inr ⟨hb, h⟩⟩
      | @cons _ r _ l2 hp h2 =>
        cases el
        refine ⟨⟨rfl, trivial⟩, _, .str "ratio", rfl, .inl ⟨r, hp, ?_, hk _ _ ⟨_, _, rfl, h2, ?_, rfl⟩⟩⟩
        · simp at hlen
          omega
        · simp at hlen ⊢
          omega
theorem len_as_powers (K : PySem.W.Frag) (c : Cl) : ∀ args q x, sp_as_powers K c args q x → args.length = 3 := by
  intro args q x h
  repeat (first | (obtain ⟨rfl, _⟩ := h; rfl) | obtain ⟨_, h⟩ := h)
theorem h_as_powers (K : PySem.W.Frag) (c : Cl) (kf : KF K c) : ∀ args q x, sp_as_powers K c args q x → w_as_powers K c (initE 12 args) (poOf args q x) := by
  rintro _ q x ⟨d, z, a, rfl, h⟩
  have szl := szl2
  rcases h with ⟨hb, h⟩ | ⟨r, ds, w, hg, ha, ⟨ds1, rs1, ds2, rfl, h1, hl, hb⟩, h⟩
  · cases a with
    | val a => exact ⟨d, .str "ratio", rfl, .inr ⟨hb, h⟩⟩
    | bor a => exact ⟨d, .str "ratio", rfl, .inr ⟨hb, h⟩⟩
  rcases ar_cases ha with (rfl | rfl) | rfl
  all_goals
    refine ⟨d, .str "ratio", rfl, .inl ⟨r, hg, ?_⟩⟩
    refine ⟨fun _ z => (nomatch z), lcDX_ind (fun ds' acc e' => ∃ r1 l1, ds' = r1 ++ w :: ds2 ∧ Rows2 GoodA r1 l1 ∧ acc.length + r1.length ≤ 10 ∧ e' = [.val d, _, .val z, .val (ratD r), .un, .un, .un, .un, .un, .un, .un, .un]) (fun _ _ _ _ => trivial) ?_ ?_ ⟨ds1, rs1, rfl, h1, by simpa using hl, rfl⟩⟩
    · rintro _ _ ⟨r1, l1, el, _, _, rfl⟩
      cases r1 <;> cases el
    · rintro d2 ds' acc _ kk ⟨r1, l1, el, h2, hlen, rfl⟩ hk
      cases h2 with
      | nil =>
        cases el
        exact ⟨⟨rfl, trivial⟩, _, .str "ratio", rfl, .inr ⟨hb, h⟩⟩
      | @cons _ r2 _ l2 hp h2 =>
        cases el
        refine ⟨⟨rfl, trivial⟩, _, .str "ratio", rfl, .inl ⟨r2, hp, ?_, hk _ _ ⟨_, _, rfl, h2, ?_, rfl⟩⟩⟩
        · simp at hlen
          omega
        · simp at hlen ⊢
          omega
theorem len__law_pen (K : PySem.W.Frag) (c : Cl) : ∀ args q x, sp__law_pen K c args q x → args.length = 1 := by
  intro args q x h
  repeat (first | (obtain ⟨rfl, _⟩ := h; rfl) | obtain ⟨_, h⟩ := h)
theorem h__law_pen (K : PySem.W.Frag) (c : Cl) (kf : KF K c) : ∀ args q x, sp__law_pen K c args q x → w__law_pen K c (initE 3 args) (poOf args q x) := by
  rintro _ q x ⟨ns, rfl, hn, h⟩
  refine ⟨fun _ z => (nomatch z), forD_ind (fun ds e' => ∃ (l2 : List Int) (f : Int) (t2 : Sl), ds = l2.map .int ∧ 0 ≤ f ∧ f < 2 ^ 31 ∧ slF t2 ∧ e' = [.val (.fix (ns.map .int)), .val (.int f), t2]) (fun _ _ _ => trivial) ?_ ?_ ⟨ns, 0, .un, rfl, by decide, by decide, trivial, rfl⟩⟩
  · rintro _ ⟨l2, f, t2, hv, f0, f1, g2, rfl⟩
    exact ⟨(show 5 ≤ 15 by decide), noloco, h _ ⟨ns, 0, 0, 0, f, rfl, by decide, by decide, by decide, by decide, f0, f1⟩⟩
  · rintro d ds _ kk ⟨l2, f, t2, hv, f0, f1, g2, rfl⟩ hk
    cases l2 with
    | nil => cases hv
    | cons i l2 =>
    cases hv
    have m1 : IntMulOk f 41 := mulOk (a := 31) (b := 6) (by omega) (by decide) (by decide)
    have p0 := Int.fmod_nonneg_of_pos (f * 41 + i) (show (0 : Int) < 1000000007 by decide)
    have p1 := Int.fmod_lt_of_pos (f * 41 + i) (show (0 : Int) < 1000000007 by decide)
    exact bnd_f rfl g2 ⟨m1, (by decide : (1000000007 : Int) ≠ 0), hk _ ⟨l2, _, .val (.int i), rfl, p0, by omega, trivial, rfl⟩⟩
theorem len__law_draw (K : PySem.W.Frag) (c : Cl) : ∀ args q x, sp__law_draw K c args q x → args.length = 2 := by
  intro args q x h
  repeat (first | (obtain ⟨rfl, _⟩ := h; rfl) | obtain ⟨_, h⟩ := h)
theorem h__law_draw (K : PySem.W.Frag) (c : Cl) (kf : KF K c) : ∀ args q x, sp__law_draw K c args q x → w__law_draw K c (initE 5 args) (poOf args q x) := by
  rintro _ q x ⟨_, m, k, rfl, ⟨cs, a, d, ct, f, rfl, a0, d0, c0, ck, f0, f1⟩, m0, m1, h⟩
  have m9 : m.natAbs < 2 ^ 9000 := Nat.lt_trans (by omega : m.natAbs < 2 ^ 60) (Nat.pow_lt_pow_right (by decide) (by decide))
  have fd : ∀ z : Int, CFd z m := fun z => fdOk (by omega) m9
  have rest : ∀ (a d f : Int) (t2 : Sl) (P : Po), 0 ≤ a → 0 ≤ d → 0 ≤ f → f < 2 ^ 31 → (∀ o' r t2 t3 t4, PenOk k o' → 0 ≤ r → r < m → P.rt (.val (.int r)) [.bor o', .val (.int m), t2, t3, t4]) →
      (wSeq (wIf (wTst (wBin gGt (wBin gIx (wVar 0) (wC (.str "digits"))) (wC (.int 0)))) (wSeq (wSet 3 (wBin gMod (wCall (g1 gIntX) (wCons (wBin gIx (wVar 0) (wC (.str "digits"))) wNil)) (wTake 1))) (wSeq (wSub (wVar 0) (wC (.str "digits")) (wBin gFdiv (wBin gIx (wVar 0) (wC (.str "digits"))) (wTake 1))) (wRet (wMove 3)))) wNext) (wSeq (wSet 4 (wBin gAdd (wBin gAdd (wBin gIx (wVar 0) (wC (.str "fold"))) (wBin gMul (wBin gIx (wVar 0) (wC (.str "count"))) (wC (.int 7907)))) (wC (.int 37)))) (wRet (wBin gMod (wBin gFdiv (wCall (g1 gIntX) (wCons (wBin gMod (wBin gPow (wTake 4) (wC (.int 17))) (wC (.int 2305843009213693951))) wNil)) (wC (.int 128))) (wTake 1))))) [.bor (.dk [(.inr "cells", .lst (cs.map .int)), (.inr "at", .int a), (.inr "digits", .int d), (.inr "count", .int (ct + 1)), (.inr "fold", .int f)]), .val (.int m), t2, .un, .un] P := by
    intro a d f t2 P a0 d0 f0 f1 hP
    refine ⟨_, rfl, _, rfl, trivial, iteB (fun e1 => ?_) (fun e1 => ?_)⟩
    · have p0 := Int.fmod_nonneg_of_pos d m0
      have p1 := Int.fmod_lt_of_pos d m0
      have p2 : 0 ≤ d.fdiv m := Int.fdiv_nonneg d0 (by omega)
      exact ⟨_, rfl, _, rfl, (by omega : m ≠ 0), _, rfl, _, rfl, fd _, _, rfl, (show 5 < sizeLine by decide), hP _ _ _ _ _ ⟨cs, a, d.fdiv m, ct + 1, f, rfl, a0, p2, by omega, by omega, f0, f1⟩ p0 p1⟩
    · have b0 : 0 ≤ f + (ct + 1) * 7907 + 37 := by omega
      have b1 : (f + (ct + 1) * 7907 + 37).natAbs < 2 ^ 64 := by omega
      have mm : IntMulOk (ct + 1) 7907 := mulOk (a := 41) (b := 13) (by omega) (by decide) (by decide)
      have p0 := Int.fmod_nonneg_of_pos (((((f + (ct + 1) * 7907 + 37) ^ 17).fmod 2305843009213693951)).fdiv 128) m0
      have p1 := Int.fmod_lt_of_pos (((((f + (ct + 1) * 7907 + 37) ^ 17).fmod 2305843009213693951)).fdiv 128) m0
      exact ⟨_, rfl, _, rfl, _, rfl, _, rfl, mm, ⟨by decide, by decide, b1⟩, (by decide : (2305843009213693951 : Int) ≠ 0), fdOk (by decide) (by decide), (by omega : m ≠ 0), hP _ _ _ _ _ ⟨cs, a, d, ct + 1, f, rfl, a0, d0, by omega, by omega, f0, f1⟩ p0 p1⟩
  refine ⟨_, rfl, _, rfl, _, rfl, (show 5 < sizeLine by decide), ?_⟩
  refine ⟨_, rfl, _, rfl, _, _, rfl, rfl, rfl, rfl, iteB (fun e1 => ?_) (fun e1 => ?_)⟩
  · refine ⟨_, rfl, _, rfl, _, rfl, _, rfl, trivial, iteB (fun e2 => ?_) (fun e2 => ?_)⟩
    · have e2 : a < ((cs.map D.int).length : Nat) := of_decide_eq_true e2
      rw [List.length_map] at e2
      have ca : L2.atI (cs.map D.int) a = some (.int (cs[a.toNat]'(by omega))) := by
        have := L2.atI_nat (xs := cs.map D.int) (j := a.toNat) (v := .int (cs[a.toNat]'(by omega))) (by simp)
        rwa [Int.toNat_of_nonneg a0] at this
      generalize (cs[a.toNat]'(by omega)) = z at ca
      refine ⟨_, rfl, _, rfl, _, rfl, _, rfl, _, ca, _, rfl, _, rfl, _, rfl, (show 5 < sizeLine by decide), ⟨by decide, by decide, by decide⟩, trivial, iteB (fun e3 => ?_) (fun e3 => ?_)⟩
      · have e3 : (10 : Int) ^ 18 ≤ z := of_decide_eq_true e3
        exact ⟨⟨by decide, by decide, by decide⟩, trivial, _, rfl, (show 5 < sizeLine by decide), rest (a + 1) (z - 10 ^ 18) f _ _ (by omega) (by omega) f0 f1 (fun o' r _ _ _ ho r0 r1 => ⟨noloc, h o' r ho r0 r1⟩)⟩
      · have m2 : IntMulOk f 69069 := mulOk (a := 31) (b := 17) (by omega) (by decide) (by decide)
        have p0 := Int.fmod_nonneg_of_pos (f * 69069 + z) (show (0 : Int) < 2147483587 by decide)
        have p1 := Int.fmod_lt_of_pos (f * 69069 + z) (show (0 : Int) < 2147483587 by decide)
        exact ⟨_, rfl, _, rfl, m2, (by decide : (2147483587 : Int) ≠ 0), _, rfl, (show 5 < sizeLine by decide), rest (a + 1) d _ _ _ (by omega) d0 p0 (by omega) (fun o' r _ _ _ ho r0 r1 => ⟨noloc, h o' r ho r0 r1⟩)⟩
    · exact rest a d f _ _ a0 d0 f0 f1 (fun o' r _ _ _ ho r0 r1 => ⟨noloc, h o' r ho r0 r1⟩)
  · exact rest a d f _ _ a0 d0 f0 f1 (fun o' r _ _ _ ho r0 r1 => ⟨noloc, h o' r ho r0 r1⟩)
theorem len__law_pick (K : PySem.W.Frag) (c : Cl) : ∀ args q x, sp__law_pick K c args q x → args.length = 2 := by
  intro args q x h
  repeat (first | (obtain ⟨rfl, _⟩ := h; rfl) | obtain ⟨_, h⟩ := h)
theorem h__law_pick (K : PySem.W.Frag) (c : Cl) (kf : KF K c) : ∀ args q x, sp__law_pick K c args q x → w__law_pick K c (initE 2 args) (poOf args q x) := by
  rintro _ q x ⟨o, a, ds, k, rfl, ha, hp, hne, hl, h⟩
  have lp : 0 < ds.length := List.length_pos_iff.mpr hne
  have ca := ar_lst ha
  rw [ha] at h
  rcases ca with rfl | rfl
  all_goals
    refine ⟨o, ds.length, k, rfl, hp, by omega, by omega, fun o' r ho r0 r1 => ?_⟩
    have e := L2.atI_nat (xs := ds) (j := r.toNat) (v := ds[r.toNat]'(by omega)) (by simp)
    rw [Int.toNat_of_nonneg r0] at e
    exact ⟨_, e, noloc, h o' _ ho (List.getElem_mem _)⟩
theorem len__law_big (K : PySem.W.Frag) (c : Cl) : ∀ args q x, sp__law_big K c args q x → args.length = 2 := by
  intro args q x h
  repeat (first | (obtain ⟨rfl, _⟩ := h; rfl) | obtain ⟨_, h⟩ := h)
theorem h__law_big (K : PySem.W.Frag) (c : Cl) (kf : KF K c) : ∀ args q x, sp__law_big K c args q x → w__law_big K c (initE 4 args) (poOf args q x) := by
  rintro _ q x ⟨o, f, k, rfl, hp, f1, f2, h⟩
  have fd : CFd ((f : Int) + 2) 3 := fdOk (by decide) (by decide)
  refine ⟨fd, (show 6 ≤ sizeLine by decide), o, .bor (.lst _), _, k + 11, rfl, rfl, hp, List.cons_ne_nil _ _, (show 6 < 2 ^ 40 by decide), fun o1 d ho1 hd => ?_⟩
  have hv : ∃ v : Nat, d = .int v ∧ 1 ≤ v ∧ v ≤ 10 := by
    simp only [List.mem_cons, List.not_mem_nil, or_false] at hd
    rcases hd with rfl | rfl | rfl | rfl | rfl | rfl
    · exact ⟨1, rfl, by decide, by decide⟩
    · exact ⟨1, rfl, by decide, by decide⟩
    · exact ⟨1, rfl, by decide, by decide⟩
    · exact ⟨2, rfl, by decide, by decide⟩
    · exact ⟨3, rfl, by decide, by decide⟩
    · refine ⟨(f + 2) / 3, ?_, by omega, by omega⟩
      have := fd_nat (f + 2) 3
      rw [← this]
      rfl
  obtain ⟨v, rfl, v1, v2⟩ := hv
  refine ⟨by omega, by omega, fun _ z => (nomatch z), forR_ind (fun i e => ∃ (o' : Ob) (t : Nat) (t3 : Sl), PenOk (k + (v - i)) o' ∧ t < 1000 ^ i ∧ slF t3 ∧ e = [.bor o', .val (.int f), .val (.int t), t3]) (fun _ _ _ => trivial) ?_ ?_ ⟨o1, 0, .un, ho1.less (by omega), by decide, trivial, rfl⟩⟩
  · rintro _ ⟨o', t, t3, ho, ht, g3, rfl⟩
    have ht : t < 1000 ^ v := ht
    have t7 : t < 10 ^ 600 := Nat.lt_of_lt_of_le (Nat.lt_of_lt_of_le ht (Nat.pow_le_pow_right (by decide) v2)) (by decide +kernel)
    have t8 : t < 2 ^ 1920 := Nat.lt_of_lt_of_le (Nat.lt_of_lt_of_le ht (Nat.pow_le_pow_right (by decide) v2)) (by decide +kernel)
    have lg : (t : Int).natAbs.log2 < 1920 := by
      rw [Int.natAbs_natCast]
      by_cases t0 : t = 0
      · subst t0; decide
      · exact (Nat.log2_lt t0).mpr t8
    obtain ⟨z, e1, e2, e3, e4⟩ := cut_num t7 f1 _ rfl
    exact ⟨lg, e4, z, e1, e2, noloc, h o' z (ho.less (by omega)) e3⟩
  · rintro i _ kk hi ⟨o', t, t3, ho, ht, g3, rfl⟩ hk
    have hi : i < v := hi
    have t9 : t < 2 ^ 100 := Nat.lt_of_lt_of_le (Nat.lt_of_lt_of_le ht (Nat.pow_le_pow_right (by decide) (show i ≤ 10 by omega))) (by decide +kernel)
    have m1 : IntMulOk (t : Int) 1000 := mulOk (a := 100) (b := 10) (by rw [Int.natAbs_natCast]; exact t9) (by decide) (by decide)
    refine bnd_f rfl g3 ⟨m1, o', 1000, k + (v - (i + 1)), rfl, ho.less (by omega), by decide, by decide, fun o2 r ho2 r0 r1 => hk _ ⟨o2, t * 1000 + r.toNat, .val (.int (0 + i)), ho2, ?_, trivial, ?_⟩⟩
    · rw [Nat.pow_succ]
      omega
    · have : ((t * 1000 + r.toNat : Nat) : Int) = (t : Int) * 1000 + r := by omega
      rw [this]
      rfl
theorem len__law_gcd (K : PySem.W.Frag) (c : Cl) : ∀ args q x, sp__law_gcd K c args q x → args.length = 2 := by
  intro args q x h
  repeat (first | (obtain ⟨rfl, _⟩ := h; rfl) | obtain ⟨_, h⟩ := h)
theorem h__law_gcd (K : PySem.W.Frag) (c : Cl) (kf : KF K c) : ∀ args q x, sp__law_gcd K c args q x → w__law_gcd K c (initE 3 args) (poOf args q x) := by
  rintro _ q x ⟨a, b, rfl, hb, h⟩
  have ab : ∀ i : Int, (if i < 0 then -i else i) = (i.natAbs : Int) := fun i => by split <;> omega
  have es := euSteps_le 9000 a.natAbs b.natAbs hb
  refine ⟨by decide, by decide, fun _ z => (nomatch z), forD_ind (fun ds e => ∃ (u v : Nat) (t2 : Sl), slF t2 ∧ e = [.val (.int u), .val (.int v), t2] ∧ euSteps u v < ds.length ∧ Nat.gcd u v = Int.gcd a b) (fun _ _ _ => trivial) ?_ ?_ ⟨a.natAbs, b.natAbs, .un, trivial, ?_, ?_, rfl⟩⟩
  · rintro _ ⟨u, v, t2, g2, rfl, hl, _⟩
    cases hl
  · rintro d ds _ kk ⟨u, v, t2, g2, rfl, hl, hg⟩ hk
    refine bnd_f rfl g2 ⟨_, _, rfl, rfl, rfl, rfl, iteB (fun e => ?_) (fun e => ?_)⟩
    · have e : PyData.eqv (.int (v : Int)) (.int 0) = true := e
      rw [eqv_int] at e
      have e := of_decide_eq_true e
      have hv : v = 0 := by omega
      subst hv
      rw [Nat.gcd_zero_right] at hg
      subst hg
      exact ⟨noloc, h⟩
    · have e : PyData.eqv (.int (v : Int)) (.int 0) = false := e
      rw [eqv_int] at e
      have e := of_decide_eq_false e
      have hv : v ≠ 0 := by omega
      rw [euSteps_pos hv, List.length_cons] at hl
      refine ⟨(by omega : (v : Int) ≠ 0), hk _ ⟨v, u % v, .val d, trivial, ?_, by omega, ?_⟩⟩
      · rw [← fm_nat]
        rfl
      · rw [← hg, Nat.gcd_comm u v, Nat.gcd_rec v u, Nat.gcd_comm]
  · rw [← ab a, ← ab b]
    rfl
  · have : (rngL 0 (60000 : Int).toNat).length = 60000 := by
      unfold rngL
      rw [List.length_map, List.length_range]
      decide
    show _ < (rngL 0 (60000 : Int).toNat).length
    rw [this]
    omega
theorem len__law_q (K : PySem.W.Frag) (c : Cl) : ∀ args q x, sp__law_q K c args q x → args.length = 2 := by
  intro args q x h
  repeat (first | (obtain ⟨rfl, _⟩ := h; rfl) | obtain ⟨_, h⟩ := h)
theorem h__law_q (K : PySem.W.Frag) (c : Cl) (kf : KF K c) : ∀ args q x, sp__law_q K c args q x → w__law_q K c (initE 3 args) (poOf args q x) := by
  rintro _ q x ⟨a, b, rfl, h0, hb, h⟩
  change w__law_q K c [.val (.int a), .val (.int b), .un] (poOf _ q x)
  refine ⟨a, b, rfl, hb, ?_⟩
  have gs := gcd_small (a := a) h0 hb
  have gp := Int.gcd_pos_of_ne_zero_right a h0
  refine ⟨trivial, iteB (fun hn => ?_) (fun hn => ?_)⟩
  · have hn : b < 0 := of_decide_eq_true hn
    have f : ∀ i, CFd i (-(Int.gcd a b : Int)) := fun i => fdOk (by omega) (by rw [Int.natAbs_neg]; exact gs)
    refine ⟨f a, f b, len2, noloc, ?_⟩
    have e := low_pos a b _ h0 rfl
    rw [if_pos hn] at e
    rw [← e] at h
    exact h
  · have hn : ¬ b < 0 := of_decide_eq_false hn
    have f : ∀ i, CFd i (Int.gcd a b : Int) := fun i => fdOk (by omega) gs
    refine ⟨f a, f b, len2, noloc, ?_⟩
    have e := low_pos a b _ h0 rfl
    rw [if_neg hn] at e
    rw [← e] at h
    exact h
theorem len__law_times (K : PySem.W.Frag) (c : Cl) : ∀ args q x, sp__law_times K c args q x → args.length = 2 := by
  intro args q x h
  repeat (first | (obtain ⟨rfl, _⟩ := h; rfl) | obtain ⟨_, h⟩ := h)
theorem h__law_times (K : PySem.W.Frag) (c : Cl) (kf : KF K c) : ∀ args q x, sp__law_times K c args q x → w__law_times K c (initE 2 args) (poOf args q x) := by
  rintro _ q x ⟨a, b, rfl, ha, hb, h⟩
  obtain ⟨m1, m2, m3, m4, z, s⟩ := sm_mul ha hb
  refine ⟨_, rfl, _, rfl, m1, _, rfl, _, rfl, m2, _, _, rfl, z, s, noloc, ?_⟩
  rw [mul_divInt]
  exact h
theorem len__law_is_whole (K : PySem.W.Frag) (c : Cl) : ∀ args q x, sp__law_is_whole K c args q x → args.length = 1 := by
  intro args q x h
  repeat (first | (obtain ⟨rfl, _⟩ := h; rfl) | obtain ⟨_, h⟩ := h)
theorem h__law_is_whole (K : PySem.W.Frag) (c : Cl) (kf : KF K c) : ∀ args q x, sp__law_is_whole K c args q x → w__law_is_whole K c (initE 1 args) (poOf args q x) := by
  rintro _ q x ⟨d, n, rfl, hn, h⟩
  have m := tyN_mem hn
  have k1 := L2.kit_ty (K := K) (kit_int n m)
  have k2 := L2.kit_ty (K := K) (kit_bool n m)
  cases d <;> simp [tyN] at hn <;> subst hn <;> refine ⟨_, rfl, _, k1, ?_⟩
  case bl => exact ⟨_, rfl, _, k2, noloc, h⟩
  case int => exact ⟨_, rfl, _, k2, noloc, h⟩
  all_goals exact ⟨noloc, h⟩
theorem len__law_passed (K : PySem.W.Frag) (c : Cl) : ∀ args q x, sp__law_passed K c args q x → args.length = 2 := by
  intro args q x h
  repeat (first | (obtain ⟨rfl, _⟩ := h; rfl) | obtain ⟨_, h⟩ := h)
theorem h__law_passed (K : PySem.W.Frag) (c : Cl) (kf : KF K c) : ∀ args q x, sp__law_passed K c args q x → w__law_passed K c (initE 4 args) (poOf args q x) := by
  rintro _ q x ⟨o, r, k, rfl, hp, hs, h⟩
  refine ⟨o, 4, k + 1, rfl, hp, by decide, by decide, fun o1 w ho1 w0 w1 => ?_⟩
  have rest : ∀ (P : Po), (∀ o' d t2 t3, PenOk k o' → Pass d r → P.rt (.val d) [.bor o', .val (ratD r), t2, t3]) →
      (wSeq (wIf (wTst (wBin (gEqv id) (wTake 2) (wC (.int 1)))) (wSeq (wSet 3 (wBin gAdd (wC (.int 2)) (wFn (sp__law_draw K c) (wCons (wVar 0) (wCons (wC (.int 5)) wNil))))) (wRet (wTup (wCons (wBin gMul (wBin gIx (wTake 1) (wC (.int 0))) (wTake 3)) (wCons (wBin gMul (wBin gIx (wTake 1) (wC (.int 1))) (wTake 3)) wNil))))) wNext) (wRet (wMove 1))) [.bor o1, .val (ratD r), .val (.int w), .un] P := by
    intro P hP
    refine ⟨_, _, rfl, rfl, rfl, rfl, iteB (fun e => ?_) (fun e => hP _ _ _ _ (ho1.less (by omega)) (pass_ratD (Nat.lt_trans hs.2 (Nat.pow_lt_pow_right (by decide) (by decide)))))⟩
    refine ⟨o1, 5, k, rfl, ho1, by decide, by decide, fun o2 b ho2 b0 b1 => ?_⟩
    have b9 : (2 + b).natAbs < 2 ^ 10 := by omega
    have d9 : (r.den : Int).natAbs < 2 ^ 4000 := hs.2
    have dp := r.den_pos
    have pp := Pass.pair (r.num * (2 + b)) (r.den * (2 + b)) (Int.mul_pos (by omega) (by omega)) (pow_lt_mul d9 b9 (by decide))
    rw [Rat.divInt_mul_right (by omega), Rat.num_divInt_den] at pp
    exact ⟨_, rfl, mulOk hs.1 b9 (by decide), _, rfl, mulOk d9 b9 (by decide), len2, hP _ _ _ _ ho2 pp⟩
  refine ⟨_, _, rfl, rfl, rfl, rfl, iteB (fun e1 => ?_) (fun e1 => rest _ fun o' d _ _ ho hd => ⟨noloc, h o' d ho hd⟩)⟩
  refine ⟨_, rfl, _, _, rfl, rfl, rfl, rfl, iteB (fun e2 => ?_) (fun e2 => rest _ fun o' d _ _ ho hd => ⟨noloc, h o' d ho hd⟩)⟩
  have e2 : PyData.eqv (.int (r.den : Int)) (.int 1) = true := e2
  rw [eqv_int] at e2
  have e2 := of_decide_eq_true e2
  have pi := Pass.int r.num
  have dn : r.den = 1 := by omega
  rw [show (r.num : Rat) = r from Rat.ext (Rat.num_intCast _) (by rw [Rat.den_intCast, dn])] at pi
  exact ⟨_, rfl, noloc, h o1 _ (ho1.less (by omega)) pi⟩
theorem len__law_power (K : PySem.W.Frag) (c : Cl) : ∀ args q x, sp__law_power K c args q x → args.length = 2 := by
  intro args q x h
  repeat (first | (obtain ⟨rfl, _⟩ := h; rfl) | obtain ⟨_, h⟩ := h)
theorem h__law_power (K : PySem.W.Frag) (c : Cl) (kf : KF K c) : ∀ args q x, sp__law_power K c args q x → w__law_power K c (initE 4 args) (poOf args q x) := by
  rintro _ q x ⟨r, n, rfl, hn, hz, hs, d9, hu, h⟩
  have d9 : (r.den : Int).natAbs < 2 ^ 6000 := d9
  have d0 : (r.den : Int) ≠ 0 := by have := r.den_pos; omega
  have ab : (if n < 0 then -n else n) = (n.natAbs : Int) := by split <;> omega
  have ab2 : (if n < 0 then -n else n).toNat = n.natAbs := by rw [ab]; rfl
  refine ⟨len2, by omega, by omega, fun _ z => (nomatch z), ?_⟩
  refine forR_ind (n := (if n < 0 then -n else n).toNat) (fun i e => ∃ t3 : Sl, slF t3 ∧ e = [.val (ratD r), .val (.int n), .val (.tup [.int (r.num ^ i), .int ((r.den : Int) ^ i)]), t3]) (fun _ _ _ => trivial) ?_ ?_ ⟨.un, trivial, by rw [Int.pow_zero, Int.pow_zero]; rfl⟩
  · rintro _ ⟨t3, g3, rfl⟩
    rw [ab2]
    refine ⟨trivial, iteB (fun e => ⟨noloc, ?_⟩) (fun e => ?_)⟩
    · have e : 0 ≤ n := of_decide_eq_true e
      have z : (.tup [.int (r.num ^ n.natAbs), .int ((r.den : Int) ^ n.natAbs)] : D) = ratD (zp r n) := by
        unfold zp
        rw [if_pos e]
        unfold ratD
        rw [Rat.num_pow, Rat.den_pow, Int.natCast_pow]
      rw [← z] at h
      exact h
    · have e : ¬ 0 ≤ n := of_decide_eq_false e
      have h2 : r.num ≠ 0 := fun z => hz (by omega) (Rat.num_eq_zero.mp z)
      refine ⟨_, rfl, _, rfl, (r.den : Int) ^ n.natAbs, r.num ^ n.natAbs, rfl, pow_ne h2 _, by rw [Int.natAbs_pow]; exact hu (by omega), noloc, ?_⟩
      rw [zp_neg e]
      exact h
  · rintro i _ kk hi ⟨t3, g3, rfl⟩ hk
    have i1 : i < 240 := by omega
    exact bnd_f rfl g3 ⟨_, rfl, _, rfl, mulOk (pow_lt hs i) hs (by omega), _, rfl, _, rfl, mulOk (pow_lt d9 i) d9 (by omega), len2, hk _ ⟨.val (.int (0 + i)), trivial, by rw [Int.pow_succ, Int.pow_succ]; rfl⟩⟩
theorem len__law_powers (K : PySem.W.Frag) (c : Cl) : ∀ args q x, sp__law_powers K c args q x → args.length = 2 := by
  intro args q x h
  repeat (first | (obtain ⟨rfl, _⟩ := h; rfl) | obtain ⟨_, h⟩ := h)
theorem h__law_powers (K : PySem.W.Frag) (c : Cl) (kf : KF K c) : ∀ args q x, sp__law_powers K c args q x → w__law_powers K c (initE 5 args) (poOf args q x) := by
  rintro _ q x ⟨a, rs, es, rfl, ha, hl, h5, hr, he, h⟩
  rcases ar_lst ha with rfl | rfl
  all_goals
    refine ⟨len2, ?_⟩
    refine bnd_f (s := .un) rfl trivial ?_
    refine ⟨fun _ z => (nomatch z), ?_⟩
    show forD _ _ _ (zipD (rs.map ratD) (es.map DL.D.int)) _ _
    refine forD_ind (fun ds ev => ∃ (r2 : List Rat) (e2 : List Int) (acc : Rat) (j : Nat) (s3 s4 : Sl), ds = zipD (r2.map ratD) (e2.map .int) ∧ r2.length = e2.length ∧ j + r2.length ≤ 5 ∧ (∀ r ∈ r2, Lot r) ∧ (∀ e ∈ e2, e.natAbs ≤ 2) ∧ slF s3 ∧ slF s4 ∧ Nd ((2 ^ 220) ^ j) acc ∧ 0 < acc.num ∧ ev = [_, .val (.lst (es.map .int)), .val (ratD acc), s3, s4]) (fun _ _ _ => trivial) ?_ ?_ ⟨rs, es, 1, 0, .un, .un, rfl, hl, by omega, hr, he, trivial, trivial, ⟨by decide, by decide⟩, by decide, rfl⟩
    · rintro _ ⟨r2, e2, acc, j, s3, s4, hv, hl2, hj, _, _, g3, g4, nd, pos, rfl⟩
      have jz : (2 ^ 220) ^ j ≤ ZZ := by
        unfold ZZ
        rw [← Nat.pow_mul]
        exact Nat.pow_le_pow_right (by decide) (by omega)
      exact ⟨noloc, h acc ⟨pos, Nat.le_trans nd.1 jz, Nat.le_trans nd.2 jz⟩⟩
    · rintro d ds _ kk ⟨r2, e2, acc, j, s3, s4, hv, hl2, hj, hr2, he2, g3, g4, nd, pos, rfl⟩ hk
      cases r2 with
      | nil => cases hv
      | cons r r2 =>
      cases e2 with
      | nil => cases hl2
      | cons e e2 =>
      cases hv
      obtain ⟨z, rz, z1, z2⟩ := hr2 r (by simp)
      have ea := he2 e (by simp)
      have rn : r.num = z := by rw [rz]; exact Rat.num_natCast z
      have rd : r.den = 1 := by rw [rz]; exact Rat.den_natCast z
      have r0 : 0 < r.num := by omega
      have zz : z ^ e.natAbs ≤ 2 ^ 220 := by
        refine Nat.le_trans (Nat.pow_le_pow_left (Nat.le_of_lt z2) _) ?_
        rw [← Nat.pow_mul]
        exact Nat.pow_le_pow_right (by decide) (by omega)
      have np : r.num.natAbs = z := by rw [rn]; rfl
      obtain ⟨n1, n2⟩ := nd_zp (n := e) r0 (M := 2 ^ 220) (by rw [np]; exact zz) (by rw [rd, Nat.one_pow]; exact Nat.one_le_two_pow)
      have nm := nd.mul n1
      have pm : 0 < (acc * zp r e).num := num_pos.mpr (Rat.mul_pos (num_pos.mp pos) (num_pos.mp n2))
      have sa : Sm acc := nd.sm (by rw [← Nat.pow_mul]; exact Nat.pow_lt_pow_right (by decide) (by simp at hj; omega))
      have sz : Sm (zp r e) := n1.sm (Nat.pow_lt_pow_right (by decide) (by decide))
      refine ⟨rfl, gcn (bnd_f rfl g3 (gcn (bnd_f rfl g4 ⟨rfl, ?_⟩)))⟩
      refine ⟨r, e, rfl, by omega, fun _ h0 => by rw [h0] at r0; exact absurd r0 (by decide), by rw [np]; exact Nat.lt_trans z2 (Nat.pow_lt_pow_right (by decide) (by decide)), by rw [rd]; exact Nat.one_lt_two_pow (by decide), fun _ => by rw [np]; exact Nat.lt_of_le_of_lt zz (Nat.pow_lt_pow_right (by decide) (by decide)), acc, zp r e, rfl, sa, sz, ?_⟩
      refine bnd_n (s := .val _) rfl trivial (hk _ ⟨r2, e2, _, j + 1, .val (ratD r), .val (.int e), rfl, by simpa using hl2, by simp at hj; omega, fun r' h' => hr2 r' (by simp [h']), fun e' h' => he2 e' (by simp [h']), trivial, trivial, ?_, pm, rfl⟩)
      rw [Nat.pow_succ]
      exact nm
theorem len__law_base_powers (K : PySem.W.Frag) (c : Cl) : ∀ args q x, sp__law_base_powers K c args q x → args.length = 2 := by
  intro args q x h
  repeat (first | (obtain ⟨rfl, _⟩ := h; rfl) | obtain ⟨_, h⟩ := h)
theorem h__law_base_powers (K : PySem.W.Frag) (c : Cl) (kf : KF K c) : ∀ args q x, sp__law_base_powers K c args q x → w__law_base_powers K c (initE 8 args) (poOf args q x) := by
  rintro _ q x ⟨B, r, rfl, cB, hz, hB, ⟨r0, rn, rd⟩, g1, g2, h⟩
  have szl := szl2
  have szl3 : 22000 < sizeLine := by decide
  refine ⟨by decide, _, rfl, _, rfl, len2, ?_⟩
  rw [int_num r0]
  refine ⟨fun _ z => (nomatch z), forD_ind (fun ds e => ∃ (B1 B2 : List Nat) (u v : Nat) (acc : List D) (s4 s5 s6 s7 : Sl), B = B1 ++ B2 ∧ ds = intsN B2 ∧ GenB B2 u ∧ GenB B2 v ∧ u ≤ ZZ ∧ v ≤ ZZ ∧ acc.length = B1.length ∧ slF s4 ∧ slF s5 ∧ slF s6 ∧ slF s7 ∧ e = [.val (.tup (intsN B)), .val (ratD r), .own (.lst acc), .own (.lst (intsN [u, v])), s4, s5, s6, s7]) (fun _ _ _ => trivial) ?_ ?_ ⟨[], B, r.num.natAbs, r.den, [], .un, .un, .un, .un, rfl, rfl, g1, g2, rn, rd, rfl, trivial, trivial, trivial, trivial, rfl⟩⟩
  · rintro _ ⟨B1, B2, u, v, acc, s4, s5, s6, s7, eB, hd, gu, gv, _, _, _, _, _, _, _, rfl⟩
    cases B2 with
    | cons _ _ => cases hd
    | nil =>
    obtain rfl := gu.nil
    obtain rfl := gv.nil
    obtain ⟨p, e1, e2, e3⟩ : ∃ p, toP (.lst (intsN [1, 1])) = some p ∧ SeqAt.shaped p = true ∧ PyData.eqv p p = true := ⟨.list [.int 1, .int 1], rfl, by decide +kernel, by decide +kernel⟩
    refine ⟨len2, p, p, e1, e1, e2, e2, ?_⟩
    rw [e3]
    exact ⟨noloc, h _⟩
  · rintro d ds _ kk ⟨B1, B2, u, v, acc, s4, s5, s6, s7, eB, hd, gu, gv, uz, vz, al, g4, g5, g6, g7, rfl⟩ hk
    cases B2 with
    | nil => cases hd
    | cons b B2 =>
    cases hd
    have cB2 : CopB (b :: B2) := ⟨fun x hx => cB.gt x (by rw [eB]; simp at hx ⊢; exact .inr hx), (List.pairwise_append.mp (eB ▸ cB.cop)).2.1⟩
    have b2 := cB2.gt b (by simp)
    have bz := hz b (by rw [eB]; simp)
    have hco := (List.pairwise_cons.mp cB2.cop).1
    have hB2 : ∀ x ∈ B2, 1 < x := fun x hx => cB2.gt x (by simp [hx])
    have bl : acc.length < 22000 := by
      rw [eB] at hB
      simp at hB
      omega
    refine bnd_f rfl g4 ?_
    refine bnd_f rfl g5 ?_
    refine ⟨by decide, by decide, fun _ z => (nomatch z), forR_ind (n := 2) (fun i e => ∃ (u v : Nat) (cn : Int) (s6 s7 : Sl), GenB (if 0 < i then B2 else b :: B2) u ∧ GenB (if 1 < i then B2 else b :: B2) v ∧ u ≤ ZZ ∧ v ≤ ZZ ∧ slF s6 ∧ slF s7 ∧ e = [.val (.tup (intsN B)), .val (ratD r), .own (.lst acc), .own (.lst (intsN [u, v])), .val (.int b), .val (.int cn), s6, s7]) (fun _ _ _ => trivial) ?_ ?_ ⟨u, v, 0, s6, s7, gu, gv, uz, vz, g6, g7, rfl⟩⟩
    · rintro _ ⟨u, v, cn, s6, s7, gu, gv, uz, vz, g6, g7, rfl⟩
      refine ⟨trivial, by omega, hk _ ⟨B1 ++ [b], B2, u, v, acc ++ [.int cn], .val (.int b), .val (.int cn), s6, s7, by rw [eB, List.append_assoc]; rfl, rfl, gu, gv, uz, vz, by simp [al], trivial, trivial, g6, g7, rfl⟩⟩
    · rintro i _ kk2 hi ⟨u, v, cn, s6, s7, gu, gv, uz, vz, g6, g7, rfl⟩ hk2
      refine bnd_f rfl g6 ?_
      have hi : i = 0 ∨ i = 1 := by omega
      rcases hi with rfl | rfl
      · exact bp_side K c B r acc b B2 [u, v] u 0 cn s7 _ b2 bz hco hB2 uz gu rfl rfl g7 fun w' cn' t7 gw wz f7 => hk2 _ ⟨w', v, cn', .val (.int ((0 : Nat) : Int)), t7, gw, gv, wz, vz, trivial, f7, rfl⟩
      · exact bp_side K c B r acc b B2 [u, v] v 1 cn s7 _ b2 bz hco hB2 vz gv rfl rfl g7 fun w' cn' t7 gw wz f7 => hk2 _ ⟨u, w', cn', .val (.int ((1 : Nat) : Int)), t7, gu, gw, uz, wz, trivial, f7, rfl⟩
theorem len__law_is_base (K : PySem.W.Frag) (c : Cl) : ∀ args q x, sp__law_is_base K c args q x → args.length = 2 := by
  intro args q x h
  repeat (first | (obtain ⟨rfl, _⟩ := h; rfl) | obtain ⟨_, h⟩ := h)
theorem h__law_is_base (K : PySem.W.Frag) (c : Cl) (kf : KF K c) : ∀ args q x, sp__law_is_base K c args q x → w__law_is_base K c (initE 5 args) (poOf args q x) := by
  rintro _ q x ⟨B, rs, rfl, hb, hl, hz, h⟩
  have szl := szl2
  have bl := hb.len
  obtain ⟨p0, n1, n2, n3⟩ := lstNil (ds := []) (fun _ z => nomatch z)
  have nn : PyData.eqv p0 (.list []) = true := n3
  refine ⟨_, rfl, _, L2.kit_ty (kit_tuple "tuple" (by decide)), ?_⟩
  refine ⟨fun _ z => (nomatch z), lcD_ind (fun ds acc e' => ∃ l1 l2, B = l1 ++ l2 ∧ ds = intsN l2 ∧ acc = [] ∧ e' = [.val (.tup (intsN B)), .val (.lst (rs.map ratD)), .un, .un, .un]) (fun _ _ _ _ => trivial) ?_ ?_ ⟨[], B, rfl, rfl, rfl, rfl⟩⟩
  · rintro _ _ ⟨l1, l2, el, h2, rfl, rfl⟩
    refine ⟨by decide, p0, .list [], n1, rfl, n2, rfl, ?_⟩
    rw [nn]
    refine ⟨by simp [intsN], by simp [intsN]; omega, fun _ z => (nomatch z), ?_⟩
    have eL : ((intsN B).length : Int).toNat = B.length := by simp [intsN]
    show forD _ _ _ (rngL 0 ((intsN B).length : Int).toNat) _ _
    rw [eL]
    refine forR_ind (n := B.length) (fun i e => ∃ s2, slF s2 ∧ e = [.val (.tup (intsN B)), .val (.lst (rs.map ratD)), s2, .un, .un]) (fun _ _ _ => trivial) ?_ ?_ ⟨.un, trivial, rfl⟩
    · rintro _ ⟨s2, f2, rfl⟩
      refine ⟨fun _ z => (nomatch z), lcD_ind (fun ds acc e' => ∃ l1 l2, rs = l1 ++ l2 ∧ ds = l2.map ratD ∧ acc = [] ∧ e' = [.val (.tup (intsN B)), .val (.lst (rs.map ratD)), s2, .un, .un]) (fun _ _ _ _ => trivial) ?_ ?_ ⟨[], rs, rfl, rfl, rfl, rfl⟩⟩
      · rintro _ _ ⟨l1, l2, el, h2, rfl, rfl⟩
        refine ⟨by decide, p0, .list [], n1, rfl, n2, rfl, ?_⟩
        rw [nn]
        exact ⟨noloc, h⟩
      · rintro d ds _ _ kk ⟨l1, l2, el, h2, rfl, rfl⟩ hk
        cases l2 with
        | nil => cases h2
        | cons r l2 =>
          cases h2
          have rr : r ∈ rs := by rw [el]; simp
          refine ⟨⟨rfl, trivial⟩, B, r, rfl, hb.cb, hb.le, hb.len, hz r rr, hb.gen _ ?_, hb.gen _ ?_, fun l => hk _ _ ⟨l1 ++ [r], l2, by rw [el, List.append_assoc]; rfl, rfl, rfl, rfl⟩⟩
          · exact List.mem_append_left _ (List.mem_map.mpr ⟨r, rr, rfl⟩)
          · exact List.mem_append_right _ (List.mem_map.mpr ⟨r, rr, rfl⟩)
    · rintro i _ kk hi ⟨s2, f2, rfl⟩ hk
      have gi : B[i]? = some B[i] := by simp [hi]
      have ai := L2.atI_nat (intsN_get gi)
      have gi' : (0 : Int) + (i : Int) = (i : Int) := by omega
      refine bnd_f rfl f2 ?_
      rw [gi']
      have rest : ∀ P : Po, (∀ e, e = [.val (.tup (intsN B)), .val (.lst (rs.map ratD)), .val (.int i), .un, .un] → P.nx e) →
          (wIf (wTst (wBin (gEqv not) (wLc (wIt (wSlice (wTake 0) wNoP (wPart (wTake 2)))) (wGN 4) (wTst (wBin (gEqv not) (wFn (sp__law_gcd K c) (wCons (wTake 4) (wCons (wBin gIx (wTake 0) (wTake 2)) wNil))) (wC (.int 1)))) (wC (.int 1)) [4]) (wLst wNil))) (wRet (wC (.bl false))) wNext) [.val (.tup (intsN B)), .val (.lst (rs.map ratD)), .val (.int i), .un, .un] P := by
        intro P hP
        refine ⟨fun _ z => (nomatch z), lcD_ind (fun ds acc e' => ∃ l2, ds = intsN l2 ∧ (∀ o ∈ l2, Nat.gcd o B[i] = 1) ∧ acc = [] ∧ e' = [.val (.tup (intsN B)), .val (.lst (rs.map ratD)), .val (.int i), .un, .un]) (fun _ _ _ _ => trivial) ?_ ?_ ⟨B.take i, ?_, fun o ho => ?_, rfl, rfl⟩⟩
        · rintro _ _ ⟨l2, h2, _, rfl, rfl⟩
          refine ⟨by decide, p0, .list [], n1, rfl, n2, rfl, ?_⟩
          rw [nn]
          exact hP _ rfl
        · rintro d ds _ _ kk ⟨l2, h2, co, rfl, rfl⟩ hk
          cases l2 with
          | nil => cases h2
          | cons o l2 =>
            cases h2
            have g1 := co o (by simp)
            refine ⟨⟨rfl, trivial⟩, _, ai, o, B[i], rfl, Nat.lt_of_le_of_lt (hb.le B[i] (List.getElem_mem _)) (Nat.pow_lt_pow_right (by decide) (by decide)), _, _, rfl, rfl, rfl, rfl, ?_⟩
            have : Int.gcd (o : Int) (B[i] : Int) = 1 := g1
            rw [this]
            exact hk _ _ ⟨l2, rfl, fun o' h' => co o' (by simp [h']), rfl, rfl⟩
        · rw [show cutD (intsN B) none (some (i : Int)) = (intsN B).take i from cutD_takeB]
          simp [intsN]
        · obtain ⟨j, hj, rfl⟩ := List.getElem_of_mem ho
          rw [List.getElem_take]
          rw [List.length_take] at hj
          exact List.pairwise_iff_getElem.mp hb.cb.cop j i (by omega) hi (by omega)
      refine ⟨trivial, iteB (fun e1 => ?_) (fun e1 => ?_)⟩
      · have e1 := of_decide_eq_true e1
        have i0 : 0 < i := by omega
        have gj : B[i - 1]? = some B[i - 1] := by simp
        have aj := L2.atI_nat (intsN_get gj)
        have ej : ((i - 1 : Nat) : Int) = (i : Int) - 1 := by omega
        rw [ej] at aj
        refine ⟨trivial, _, aj, _, ai, trivial, iteB (fun e2 => ?_) (fun e2 => ?_)⟩
        · have e2 := of_decide_eq_true e2
          have := List.pairwise_iff_getElem.mp hb.asc (i - 1) i (by omega) hi (by omega)
          omega
        · exact rest _ fun e he => hk e ⟨.val (.int i), trivial, he⟩
      · exact rest _ fun e he => hk e ⟨.val (.int i), trivial, he⟩
  · rintro d ds _ _ kk ⟨l1, l2, el, h2, rfl, rfl⟩ hk
    cases l2 with
    | nil => cases h2
    | cons b l2 =>
      cases h2
      have b2 := hb.cb.gt b (by rw [el]; simp)
      exact ⟨⟨rfl, trivial⟩, _, "int", rfl, rfl, trivial, iteB (fun e => absurd (of_decide_eq_true e) (by omega)) (fun _ => hk _ _ ⟨l1 ++ [b], l2, by rw [el, List.append_assoc]; rfl, rfl, rfl, rfl⟩)⟩
theorem len__law_ratios (K : PySem.W.Frag) (c : Cl) : ∀ args q x, sp__law_ratios K c args q x → args.length = 1 := by
  intro args q x h
  repeat (first | (obtain ⟨rfl, _⟩ := h; rfl) | obtain ⟨_, h⟩ := h)
theorem h__law_ratios (K : PySem.W.Frag) (c : Cl) (kf : KF K c) : ∀ args q x, sp__law_ratios K c args q x → w__law_ratios K c (initE 7 args) (poOf args q x) := by
  rintro _ q x ⟨o, k, rfl, ho, h⟩
  have szl := szl2
  refine ⟨by decide, by decide, fun _ z => (nomatch z), lcR_ind (n := 3) (fun i acc e => ∃ (ls : List Nat) (o1 : Ob), acc = intsN ls ∧ ls.length = i ∧ (∀ z ∈ ls, 1 ≤ z ∧ z < 2 ^ 110) ∧ PenOk (k + 150 - 14 * i) o1 ∧ e = [.bor o1, .un, .un, .un, .un, .un, .un]) (fun _ _ _ _ => trivial) ?_ ?_ ⟨[], o, rfl, rfl, fun _ z => (nomatch z), ho, rfl⟩⟩
  · rintro _ _ ⟨ls, o1, rfl, ll, hz, ho1, rfl⟩
    refine bnd_s [.bor o1, .un, .un, .un, .un, .un, .un] [.bor o1, .own (.lst (intsN ls)), .un, .un, .un, .un, .un] rfl rfl trivial (fun _ z => nomatch z) rfl ?_
    refine ⟨(show 4 ≤ sizeLine by decide), o1, .bor (.lst _), _, k + 107, rfl, rfl, ho1.less (by omega), List.cons_ne_nil _ _, by decide, fun o2 d1 ho2 h1 => ?_⟩
    refine ⟨⟨by decide, by decide, by decide⟩, len2, o2, .bor (.lst _), _, k + 106, rfl, rfl, ho2, List.cons_ne_nil _ _, (show 2 < 2 ^ 40 by decide), fun o3 d2 ho3 h2 => ?_⟩
    obtain ⟨z1, rfl, z11, z12⟩ : ∃ z : Nat, d1 = .int z ∧ 1 ≤ z ∧ z < 2 ^ 110 := by
      simp only [List.mem_cons, List.not_mem_nil, or_false] at h1
      rcases h1 with rfl | rfl | rfl | rfl
      · exact ⟨2, rfl, by decide, by decide⟩
      · exact ⟨6, rfl, by decide, by decide⟩
      · exact ⟨12, rfl, by decide, by decide⟩
      · exact ⟨30, rfl, by decide, by decide⟩
    obtain ⟨z2, rfl, z21, z22⟩ : ∃ z : Nat, d2 = .int z ∧ 1 ≤ z ∧ z < 2 ^ 110 := by
      simp only [List.mem_cons, List.not_mem_nil, or_false] at h2
      rcases h2 with rfl | rfl
      · exact ⟨10 ^ 18 + 9, rfl, by decide, by decide⟩
      · exact ⟨1000003, rfl, by decide, by decide⟩
    have eL : intsN ls ++ [.int (z1 : Int), .int (z2 : Int)] = intsN (ls ++ [z1, z2]) := by simp [intsN]
    refine ⟨len2, by simp [intsN]; omega, ?_⟩
    refine bnd_s (s := .val (.lst (intsN ls))) (r := .own (.lst (intsN ls ++ [.int (z1 : Int), .int (z2 : Int)]))) [.bor o3, .val (.lst (intsN ls)), .un, .un, .un, .un, .un] [.bor o3, .own (.lst (intsN (ls ++ [z1, z2]))), .un, .un, .un, .un, .un] rfl rfl trivial (fun _ z => nomatch z) (by rw [← eL]; rfl) ?_
    refine rat_loop K c k (ls ++ [z1, z2]) o3 _ (by simp [ll]) (fun z hz' => ?_) (ho3.less (by omega)) fun o4 rs s1 s3 s4 ho4 lr hr => ⟨fun _ z => (nomatch z), h o4 rs ho4 lr hr⟩
    rcases List.mem_append.mp hz' with hz' | hz'
    · exact hz z hz'
    · simp only [List.mem_cons, List.not_mem_nil, or_false] at hz'
      rcases hz' with rfl | rfl
      · exact ⟨z11, z12⟩
      · exact ⟨z21, z22⟩
  · rintro i acc _ kk hi ⟨ls, o1, rfl, ll, hz, ho1, rfl⟩ hk
    refine ⟨⟨rfl, trivial⟩, len3, o1, .bor (.lst _), _, k + 149 - 14 * i, rfl, rfl, ho1.less (by omega), List.cons_ne_nil _ _, by decide, fun o2 d ho2 hd => ?_⟩
    obtain ⟨f, rfl, f1, f2⟩ : ∃ f : Nat, d = .int f ∧ 1 ≤ f ∧ f ≤ 30 := by
      simp only [List.mem_cons, List.not_mem_nil, or_false] at hd
      rcases hd with rfl | rfl | rfl
      · exact ⟨1, rfl, by decide, by decide⟩
      · exact ⟨2, rfl, by decide, by decide⟩
      · exact ⟨30, rfl, by decide, by decide⟩
    refine ⟨o2, f, k + 136 - 14 * i, rfl, ho2.less (by omega), f1, f2, fun o3 z ho3 z1 => ?_⟩
    have zb : z < 10 ^ 30 := Nat.lt_of_lt_of_le z1 (Nat.pow_le_pow_right (by decide) f2)
    have zc : 2 + z < 2 ^ 110 := Nat.lt_of_lt_of_le (Nat.add_lt_add_left zb 2) (by decide)
    refine ⟨2 + (z : Int), 1, rfl, by decide, by decide, _, rfl, ?_, ?_⟩
    · simp [intsN]
      omega
    · have e1 : (Rat.divInt (2 + (z : Int)) 1).num = ((2 + z : Nat) : Int) := by
        have : Rat.divInt (2 + (z : Int)) 1 = ((2 + (z : Int) : Int) : Rat) := by
          have h9 := Rat.num_divInt_den ((2 + (z : Int) : Int) : Rat)
          rw [Rat.num_intCast, Rat.den_intCast] at h9
          exact h9
        rw [this, Rat.num_intCast]
        omega
      show kk (intsN ls ++ [.int (Rat.divInt (2 + (z : Int)) 1).num]) _
      rw [e1]
      refine hk _ _ ⟨ls ++ [2 + z], o3, by simp [intsN], by simp [ll], fun y hy => ?_, ho3.less (by omega), rfl⟩
      rcases List.mem_append.mp hy with hy | hy
      · exact hz y hy
      · simp only [List.mem_singleton] at hy
        subst hy
        exact ⟨by omega, zc⟩
theorem len__law_refused (K : PySem.W.Frag) (c : Cl) : ∀ args q x, sp__law_refused K c args q x → args.length = 2 := by
  intro args q x h
  repeat (first | (obtain ⟨rfl, _⟩ := h; rfl) | obtain ⟨_, h⟩ := h)
theorem h__law_refused (K : PySem.W.Frag) (c : Cl) (kf : KF K c) : ∀ args q x, sp__law_refused K c args q x → w__law_refused K c (initE 3 args) (poOf args q x) := by
  rintro _ q x ⟨kd, a, ds, w, p, rfl, ha, hkd, hb, sh, hds, h⟩
  have two : GoodA (.int 2) 2 := ⟨by have := Pass.int 2; exact this, by decide⟩
  have ein : BadIn ds w := by
    rcases hds with ⟨l, rfl⟩ | ⟨l, rfl⟩
    · exact ⟨[.int 2], [2], [l], rfl, .cons two .nil, by decide, hb⟩
    · exact ⟨[], [], [l], rfl, .nil, by decide, hb⟩
  rcases ar_lst ha with rfl | rfl
  all_goals
    rcases hkd with rfl | rfl | rfl
    · refine ⟨_, _, rfl, rfl, rfl, rfl, _, ds, rfl, .inl rfl, .inr ⟨w, ein, ?_⟩⟩
      exact ⟨true, kf.xm_BadNumber_BadNumber, trivial, c.BadNumber, rfl, List.cons_ne_nil _ _, fun a dd => ⟨rfl, rfl, rfl, kf.xf_BadNumber_what, _, rfl, rfl, rfl, rfl, kf.xf_BadNumber_number, _, rfl, p, sh.t, sh.s, sh.d, sh.l, len2, noloc, h⟩⟩
    · refine ⟨_, _, rfl, rfl, rfl, rfl, _, _, rfl, rfl, rfl, rfl, _, ds, w, rfl, .inl rfl, ein, ?_⟩
      exact ⟨true, kf.xm_BadNumber_BadNumber, trivial, c.BadNumber, rfl, List.cons_ne_nil _ _, fun a dd => ⟨rfl, rfl, rfl, kf.xf_BadNumber_what, _, rfl, rfl, rfl, rfl, kf.xf_BadNumber_number, _, rfl, p, sh.t, sh.s, sh.d, sh.l, len2, noloc, h⟩⟩
    · rcases hds with ⟨l, rfl⟩ | ⟨l, rfl⟩
      · have ec : cutD [.int 2, w, l] (some 1) none = [w, l] := rfl
        refine ⟨_, _, rfl, rfl, rfl, rfl, _, _, rfl, rfl, rfl, rfl, .int 2, L2.atI_nat (j := 0) rfl, ?_⟩
        refine ⟨.int 2, .bl false, .bor (.lst (cutD [.int 2, w, l] (some 1) none)), rfl, .inr ⟨2, [w, l], w, two, .inl rfl, ⟨[], [], [l], rfl, .nil, by decide, hb⟩, ?_⟩⟩
        exact ⟨true, kf.xm_BadNumber_BadNumber, trivial, c.BadNumber, rfl, List.cons_ne_nil _ _, fun a dd => ⟨rfl, rfl, rfl, kf.xf_BadNumber_what, _, rfl, rfl, rfl, rfl, kf.xf_BadNumber_number, _, rfl, p, sh.t, sh.s, sh.d, sh.l, len2, noloc, h⟩⟩
      · refine ⟨_, _, rfl, rfl, rfl, rfl, _, _, rfl, rfl, rfl, rfl, w, L2.atI_nat (j := 0) rfl, ?_⟩
        refine ⟨w, .bl false, .bor (.lst (cutD [w, l] (some 1) none)), rfl, .inl ⟨hb, ?_⟩⟩
        exact ⟨true, kf.xm_BadNumber_BadNumber, trivial, c.BadNumber, rfl, List.cons_ne_nil _ _, fun a dd => ⟨rfl, rfl, rfl, kf.xf_BadNumber_what, _, rfl, rfl, rfl, rfl, kf.xf_BadNumber_number, _, rfl, p, sh.t, sh.s, sh.d, sh.l, len2, noloc, h⟩⟩
theorem len_law (K : PySem.W.Frag) (c : Cl) : ∀ args q x, sp_law K c args q x → args.length = 1 := by
  intro args q x h
  repeat (first | (obtain ⟨rfl, _⟩ := h; rfl) | obtain ⟨_, h⟩ := h)
theorem h_law (K : PySem.W.Frag) (c : Cl) (kf : KF K c) : ∀ args q x, sp_law K c args q x → w_law K c (initE 10 args) (poOf args q x) := by
  rintro _ q x ⟨ns, rfl, hns, h⟩
  refine sq ?_
  refine ⟨ns, rfl, hns, fun o ho => ?_⟩
  have ho : PenOk 1000 o := ho.less (Nat.le_trans (show 1000 ≤ 2 ^ 10 by decide) (Nat.pow_le_pow_right (by decide) (by decide)))
  refine bnd_x (s := .un) [.val (.fix (ns.map .int)), .un, .un, .un, .un, .un, .un, .un, .un, .un] rfl rfl trivial ?_
  refine ⟨by decide, by decide, fun _ z => (nomatch z), forR_ind (n := 3) (fun i e => ∃ (o1 : Ob) (s2 s3 s4 s5 s6 s7 s8 : Sl), PenOk (1000 - 200 * i) o1 ∧ slF s2 ∧ slF s3 ∧ slF s4 ∧ slF s5 ∧ slF s6 ∧ slF s7 ∧ slF s8 ∧ e = [.val (.fix (ns.map .int)), .own o1, s2, s3, s4, s5, s6, s7, s8, .un]) (fun _ _ _ => trivial) ?_ ?_ ⟨o, .un, .un, .un, .un, .un, .un, .un, ho, trivial, trivial, trivial, trivial, trivial, trivial, trivial, rfl⟩⟩
  · rintro _ ⟨o1, s2, s3, s4, s5, s6, s7, s8, _, _, _, _, _, _, _, _, rfl⟩
    exact law_last K c _ _ ⟨noloc, h⟩
  · rintro i _ kk hi ⟨o1, s2, s3, s4, s5, s6, s7, s8, ho1, f2, f3, f4, f5, f6, f7, f8, rfl⟩ hkk
    refine bnd_f rfl f2 ?_
    exact law_turn K c o1 (1000 - 200 * (i + 1)) _ (.val (.int (0 + (i : Int)))) s3 s4 s5 s6 s7 s8 _ (ho1.less (by omega)) f3 f4 f5 f6 f7 f8 fun o2 t3 t4 t5 t6 t7 t8 ho2 g3 g4 g5 g6 g7 g8 => hkk _ ⟨o2, .val (.int (0 + (i : Int))), t3, t4, t5, t6, t7, t8, ho2, trivial, g3, g4, g5, g6, g7, g8, rfl⟩
end K90

end K90_H
section K90_B
set_option Elab.async false
set_option linter.all false
set_option maxRecDepth 100000
set_option maxHeartbeats 4000000
/-! K90_B: the derivations (written by dlgen.py). -/
namespace K90
open PySem PySem.Spec PyProof.Rows L2 DL
def top (i : Nat) : Stmt := PySem.Challenge.pw_allscales_k90_whole_coprime_bases.main.body.getD i (.Pass ⟨0, 0, 0, 0⟩)
def inCls (s : Stmt) (j : Nat) : Stmt := match s with
  | .ClassDef _ _ _ b _ _ _ _ _ _ _ => b.getD j (.Pass ⟨0, 0, 0, 0⟩)
  | _ => .Pass ⟨0, 0, 0, 0⟩
abbrev s_common_divisor : Stmt := top 4
abbrev s_lowest : Stmt := top 5
abbrev s_is_whole : Stmt := top 6
abbrev s_is_ratio : Stmt := top 7
abbrev s_told : Stmt := top 8
abbrev s_times : Stmt := top 10
abbrev s_told_above : Stmt := top 36
abbrev s_refined : Stmt := top 37
abbrev s_base_of : Stmt := top 38
abbrev s_coprime_base : Stmt := top 41
abbrev s_relations : Stmt := top 43
abbrev s_as_powers : Stmt := top 44
abbrev s__law_pen : Stmt := top 46
abbrev s__law_draw : Stmt := top 47
abbrev s__law_pick : Stmt := top 48
abbrev s__law_big : Stmt := top 49
abbrev s__law_gcd : Stmt := top 50
abbrev s__law_q : Stmt := top 51
abbrev s__law_times : Stmt := top 52
abbrev s__law_is_whole : Stmt := top 53
abbrev s__law_passed : Stmt := top 54
abbrev s__law_power : Stmt := top 55
abbrev s__law_powers : Stmt := top 56
abbrev s__law_base_powers : Stmt := top 58
abbrev s__law_is_base : Stmt := top 57
abbrev s__law_ratios : Stmt := top 59
abbrev s__law_refused : Stmt := top 60
abbrev s_law : Stmt := top 61
abbrev s_BadNumber : Stmt := inCls (top 2) 0
structure Ad where
  (a_common_divisor a_lowest a_is_whole a_is_ratio a_told a_times a_told_above a_refined a_base_of a_coprime_base a_relations a_as_powers a__law_pen a__law_draw a__law_pick a__law_big a__law_gcd a__law_q a__law_times a__law_is_whole a__law_passed a__law_power a__law_powers a__law_base_powers a__law_is_base a__law_ratios a__law_refused a_law a_BadNumber : Addr)
  (d_common_divisor d_lowest d_is_whole d_is_ratio d_told d_times d_told_above d_refined d_base_of d_coprime_base d_relations d_as_powers d__law_pen d__law_draw d__law_pick d__law_big d__law_gcd d__law_q d__law_times d__law_is_whole d__law_passed d__law_power d__law_powers d__law_base_powers d__law_is_base d__law_ratios d__law_refused d_law d_BadNumber : FuncData)
/-- what the names of the module tell -/
structure Txt (K : PySem.W.Frag) (mg : Str → Option Value) (c : Cl) (a : Ad) : Prop where
  g_common_divisor : mg "common_divisor" = some (.ref a.a_common_divisor)
  k_common_divisor : PySem.W.keepIn K (.ref a.a_common_divisor) = true
  g_lowest : mg "lowest" = some (.ref a.a_lowest)
  k_lowest : PySem.W.keepIn K (.ref a.a_lowest) = true
  g_is_whole : mg "is_whole" = some (.ref a.a_is_whole)
  k_is_whole : PySem.W.keepIn K (.ref a.a_is_whole) = true
  g_is_ratio : mg "is_ratio" = some (.ref a.a_is_ratio)
  k_is_ratio : PySem.W.keepIn K (.ref a.a_is_ratio) = true
  g_told : mg "told" = some (.ref a.a_told)
  k_told : PySem.W.keepIn K (.ref a.a_told) = true
  g_times : mg "times" = some (.ref a.a_times)
  k_times : PySem.W.keepIn K (.ref a.a_times) = true
  g_told_above : mg "told_above" = some (.ref a.a_told_above)
  k_told_above : PySem.W.keepIn K (.ref a.a_told_above) = true
  g_refined : mg "refined" = some (.ref a.a_refined)
  k_refined : PySem.W.keepIn K (.ref a.a_refined) = true
  g_base_of : mg "base_of" = some (.ref a.a_base_of)
  k_base_of : PySem.W.keepIn K (.ref a.a_base_of) = true
  g_coprime_base : mg "coprime_base" = some (.ref a.a_coprime_base)
  k_coprime_base : PySem.W.keepIn K (.ref a.a_coprime_base) = true
  g_relations : mg "relations" = some (.ref a.a_relations)
  k_relations : PySem.W.keepIn K (.ref a.a_relations) = true
  g_as_powers : mg "as_powers" = some (.ref a.a_as_powers)
  k_as_powers : PySem.W.keepIn K (.ref a.a_as_powers) = true
  g__law_pen : mg "_law_pen" = some (.ref a.a__law_pen)
  k__law_pen : PySem.W.keepIn K (.ref a.a__law_pen) = true
  g__law_draw : mg "_law_draw" = some (.ref a.a__law_draw)
  k__law_draw : PySem.W.keepIn K (.ref a.a__law_draw) = true
  g__law_pick : mg "_law_pick" = some (.ref a.a__law_pick)
  k__law_pick : PySem.W.keepIn K (.ref a.a__law_pick) = true
  g__law_big : mg "_law_big" = some (.ref a.a__law_big)
  k__law_big : PySem.W.keepIn K (.ref a.a__law_big) = true
  g__law_gcd : mg "_law_gcd" = some (.ref a.a__law_gcd)
  k__law_gcd : PySem.W.keepIn K (.ref a.a__law_gcd) = true
  g__law_q : mg "_law_q" = some (.ref a.a__law_q)
  k__law_q : PySem.W.keepIn K (.ref a.a__law_q) = true
  g__law_times : mg "_law_times" = some (.ref a.a__law_times)
  k__law_times : PySem.W.keepIn K (.ref a.a__law_times) = true
  g__law_is_whole : mg "_law_is_whole" = some (.ref a.a__law_is_whole)
  k__law_is_whole : PySem.W.keepIn K (.ref a.a__law_is_whole) = true
  g__law_passed : mg "_law_passed" = some (.ref a.a__law_passed)
  k__law_passed : PySem.W.keepIn K (.ref a.a__law_passed) = true
  g__law_power : mg "_law_power" = some (.ref a.a__law_power)
  k__law_power : PySem.W.keepIn K (.ref a.a__law_power) = true
  g__law_powers : mg "_law_powers" = some (.ref a.a__law_powers)
  k__law_powers : PySem.W.keepIn K (.ref a.a__law_powers) = true
  g__law_base_powers : mg "_law_base_powers" = some (.ref a.a__law_base_powers)
  k__law_base_powers : PySem.W.keepIn K (.ref a.a__law_base_powers) = true
  g__law_is_base : mg "_law_is_base" = some (.ref a.a__law_is_base)
  k__law_is_base : PySem.W.keepIn K (.ref a.a__law_is_base) = true
  g__law_ratios : mg "_law_ratios" = some (.ref a.a__law_ratios)
  k__law_ratios : PySem.W.keepIn K (.ref a.a__law_ratios) = true
  g__law_refused : mg "_law_refused" = some (.ref a.a__law_refused)
  k__law_refused : PySem.W.keepIn K (.ref a.a__law_refused) = true
  g_law : mg "law" = some (.ref a.a_law)
  k_law : PySem.W.keepIn K (.ref a.a_law) = true
  g_BadNumber : mg "BadNumber" = some (.ref c.BadNumber)
  n_abs : mg "abs" = none
  n_bool : mg "bool" = none
  n_int : mg "int" = none
  n_isinstance : mg "isinstance" = none
  n_len : mg "len" = none
  n_list : mg "list" = none
  n_range : mg "range" = none
  n_repr : mg "repr" = none
  n_sorted : mg "sorted" = none
  n_str : mg "str" = none
  n_tuple : mg "tuple" = none
  n_zip : mg "zip" = none
  xi_BadNumber : PySem.W.findIn K (.ref c.BadNumber) "__init__" = some (some (.ref a.a_BadNumber))
  xt_BadNumber : PySem.W.typeIn K (.ref a.a_BadNumber) = some (.type "function")
/-- the defs, how they bind -/
structure Bnd (K : PySem.W.Frag) (c : Cl) (a : Ad) : Prop where
  u_common_divisor : L2.Fun K "common_divisor" "common_divisor" s_common_divisor a.a_common_divisor a.d_common_divisor
  b_common_divisor : Binds K a.d_common_divisor ["one", "two"] []
  u_lowest : L2.Fun K "lowest" "lowest" s_lowest a.a_lowest a.d_lowest
  b_lowest : Binds K a.d_lowest ["top", "bottom"] []
  u_is_whole : L2.Fun K "is_whole" "is_whole" s_is_whole a.a_is_whole a.d_is_whole
  b_is_whole : Binds K a.d_is_whole ["value"] []
  u_is_ratio : L2.Fun K "is_ratio" "is_ratio" s_is_ratio a.a_is_ratio a.d_is_ratio
  b_is_ratio : Binds K a.d_is_ratio ["value"] []
  u_told : L2.Fun K "told" "told" s_told a.a_told a.d_told
  b_told : Binds K a.d_told ["value", "what"] []
  u_times : L2.Fun K "times" "times" s_times a.a_times a.d_times
  b_times : Binds K a.d_times ["one", "two"] []
  u_told_above : L2.Fun K "told_above" "told_above" s_told_above a.a_told_above a.d_told_above
  b_told_above : Binds K a.d_told_above ["value", "what"] []
  u_refined : L2.Fun K "refined" "refined" s_refined a.a_refined a.d_refined
  b_refined : Binds K a.d_refined ["numbers"] []
  u_base_of : L2.Fun K "base_of" "base_of" s_base_of a.a_base_of a.d_base_of
  b_base_of : Binds K a.d_base_of ["ratios"] []
  u_coprime_base : L2.Fun K "coprime_base" "coprime_base" s_coprime_base a.a_coprime_base a.d_coprime_base
  b_coprime_base : Binds K a.d_coprime_base ["ratios"] []
  u_relations : L2.Fun K "relations" "relations" s_relations a.a_relations a.d_relations
  b_relations : Binds K a.d_relations ["ratios"] []
  u_as_powers : L2.FunD K "as_powers" "as_powers" (defArgs s_as_powers) (defBody s_as_powers) (defScope s_as_powers) [.bl false] [] a.a_as_powers a.d_as_powers
  b_as_powers : ∃ ds, Vals [.bl false] ds ∧ Binds K a.d_as_powers ["ratio", "ratios", "roots"] ds
  u__law_pen : L2.Fun K "_law_pen" "_law_pen" s__law_pen a.a__law_pen a.d__law_pen
  b__law_pen : Binds K a.d__law_pen ["_law_script"] []
  u__law_draw : L2.Fun K "_law_draw" "_law_draw" s__law_draw a.a__law_draw a.d__law_draw
  b__law_draw : Binds K a.d__law_draw ["_law_pen_here", "_law_many"] []
  u__law_pick : L2.Fun K "_law_pick" "_law_pick" s__law_pick a.a__law_pick a.d__law_pick
  b__law_pick : Binds K a.d__law_pick ["_law_pen_here", "_law_some"] []
  u__law_big : L2.Fun K "_law_big" "_law_big" s__law_big a.a__law_big a.d__law_big
  b__law_big : Binds K a.d__law_big ["_law_pen_here", "_law_figures"] []
  u__law_gcd : L2.Fun K "_law_gcd" "_law_gcd" s__law_gcd a.a__law_gcd a.d__law_gcd
  b__law_gcd : Binds K a.d__law_gcd ["_law_one", "_law_two"] []
  u__law_q : L2.Fun K "_law_q" "_law_q" s__law_q a.a__law_q a.d__law_q
  b__law_q : Binds K a.d__law_q ["_law_top", "_law_bottom"] []
  u__law_times : L2.Fun K "_law_times" "_law_times" s__law_times a.a__law_times a.d__law_times
  b__law_times : Binds K a.d__law_times ["_law_one", "_law_two"] []
  u__law_is_whole : L2.Fun K "_law_is_whole" "_law_is_whole" s__law_is_whole a.a__law_is_whole a.d__law_is_whole
  b__law_is_whole : Binds K a.d__law_is_whole ["_law_value"] []
  u__law_passed : L2.Fun K "_law_passed" "_law_passed" s__law_passed a.a__law_passed a.d__law_passed
  b__law_passed : Binds K a.d__law_passed ["_law_pen_here", "_law_ratio"] []
  u__law_power : L2.Fun K "_law_power" "_law_power" s__law_power a.a__law_power a.d__law_power
  b__law_power : Binds K a.d__law_power ["_law_one", "_law_n"] []
  u__law_powers : L2.Fun K "_law_powers" "_law_powers" s__law_powers a.a__law_powers a.d__law_powers
  b__law_powers : Binds K a.d__law_powers ["_law_ratios_here", "_law_exponents"] []
  u__law_base_powers : L2.Fun K "_law_base_powers" "_law_base_powers" s__law_base_powers a.a__law_base_powers a.d__law_base_powers
  b__law_base_powers : Binds K a.d__law_base_powers ["_law_base", "_law_ratio"] []
  u__law_is_base : L2.Fun K "_law_is_base" "_law_is_base" s__law_is_base a.a__law_is_base a.d__law_is_base
  b__law_is_base : Binds K a.d__law_is_base ["_law_base", "_law_ratios_here"] []
  u__law_ratios : L2.Fun K "_law_ratios" "_law_ratios" s__law_ratios a.a__law_ratios a.d__law_ratios
  b__law_ratios : Binds K a.d__law_ratios ["_law_pen_here"] []
  u__law_refused : L2.Fun K "_law_refused" "_law_refused" s__law_refused a.a__law_refused a.d__law_refused
  b__law_refused : Binds K a.d__law_refused ["_law_kind", "_law_values"] []
  u_law : L2.Fun K "law" "law" s_law a.a_law a.d_law
  b_law : Binds K a.d_law ["_law_script"] []
  u_BadNumber : L2.Fun K "__init__" "BadNumber.__init__" s_BadNumber a.a_BadNumber a.d_BadNumber
  b_BadNumber : Binds K a.d_BadNumber ["self", "what", "number"] []
variable [TabEnv]
variable {P : Program} {w : World} {K : PySem.W.Frag} {mg : Str → Option Value} {base : Heap} {c : Cl} {a : Ad}
theorem cx_BadNumber : FnScope ["self", "what", "number"] ["self", "what", "number"] (defScope s_BadNumber) := ⟨rfl, rfl, rfl, by decide +kernel, rfl, by decide +kernel, by decide +kernel⟩
theorem ex_BadNumber (T : Txt K mg c a) (B : Bnd K c a) (kf : KF K c) : FnOk P w K mg base L2.CX0 1 a.a_BadNumber a.d_BadNumber ["self", "what", "number"] (spIn K c.BadNumber ["what", "number"]) :=
  excIn_ok B.u_BadNumber cx_BadNumber (.cons rfl rfl rfl (.cons rfl rfl rfl .nil)) kf.xo_BadNumber (fun f hf => by
    simp only [List.mem_cons, List.not_mem_nil, or_false] at hf
    rcases hf with rfl | rfl
    · exact (kf.xf_BadNumber_what).2
    · exact (kf.xf_BadNumber_number).2) rfl (by decide)
theorem c_common_divisor : FnScope ["one", "two"] ["one", "two"] (defScope s_common_divisor) := ⟨rfl, rfl, rfl, by decide +kernel, rfl, by decide +kernel, by decide +kernel⟩
theorem ok_common_divisor (T : Txt K mg c a) (B : Bnd K c a) (kf : KF K c) : FnG P w K mg base 2 a.a_common_divisor a.d_common_divisor ["one", "two"] (spL K (sp_common_divisor K c)) := by
  have hb : BodyD P w K mg base ["one", "two"] "common_divisor" s_common_divisor 1 (w_common_divisor K c) := fun f cdv A outer s H E ck => by
    have nd := ck.nd
    exact (scons (spar (i := 0) (j := 1) ck.calm nd (dcons (dcallB cAbs T.n_abs (dcons (dtake 0) dnil)) (dcons (dcallB cAbs T.n_abs (dcons (dtake 1) dnil)) dnil))) (scons (swhile ck.po (dtru (dtake 1)) (sone (spar (i := 0) (j := 1) ck.calm nd (dcons (dtake 1) (dcons (dbin oMod (dtake 0) (dtake 1)) dnil))))) (sone (sret (dmove 0)))))
  exact fnG B.u_common_divisor c_common_divisor hb (len_common_divisor K c) (h_common_divisor K c kf)
theorem c_lowest : FnScope ["top", "bottom", "by"] ["top", "bottom"] (defScope s_lowest) := ⟨rfl, rfl, rfl, by decide +kernel, rfl, by decide +kernel, by decide +kernel⟩
theorem ok_lowest (T : Txt K mg c a) (B : Bnd K c a) (kf : KF K c) : FnG P w K mg base 3 a.a_lowest a.d_lowest ["top", "bottom"] (spL K (sp_lowest K c)) := by
  have hb : BodyD P w K mg base ["top", "bottom", "by"] "lowest" s_lowest 2 (w_lowest K c) := fun f cdv A outer s H E ck => by
    have nd := ck.nd
    exact (scons (sset (i := 2) nd (ecallF ((ok_common_divisor T B kf).mono (by decide)) ck.toCal T.g_common_divisor T.k_common_divisor B.b_common_divisor (dcons (dtake 0) (dcons (dtake 1) dnil)))) (scons (sif (dtcmp oLt (dtake 1) dint) (sone (sset (i := 2) nd (dun oNeg (dtake 2)))) snil) (sone (sret (dtup (dcons (dbin oFdiv (dtake 0) (dtake 2)) (dcons (dbin oFdiv (dtake 1) (dtake 2)) dnil)))))))
  exact fnG B.u_lowest c_lowest hb (len_lowest K c) (h_lowest K c kf)
theorem c_is_whole : FnScope ["value"] ["value"] (defScope s_is_whole) := ⟨rfl, rfl, rfl, by decide +kernel, rfl, by decide +kernel, by decide +kernel⟩
theorem ok_is_whole (T : Txt K mg c a) (B : Bnd K c a) (kf : KF K c) : FnG P w K mg base 2 a.a_is_whole a.d_is_whole ["value"] (spL K (sp_is_whole K c)) := by
  have hb : BodyD P w K mg base ["value"] "is_whole" s_is_whole 1 (w_is_whole K c) := fun f cdv A outer s H E ck => by
    have nd := ck.nd
    exact (sone (sret (dandV (dcallB cIsi T.n_isinstance (dcons (dtake 0) (dcons (ety T.n_int) dnil))) (done1 (dnotV (dcallB cIsi T.n_isinstance (dcons (dtake 0) (dcons (ety T.n_bool) dnil))))))))
  exact fnG B.u_is_whole c_is_whole hb (len_is_whole K c) (h_is_whole K c kf)
theorem c_is_ratio : FnScope ["value"] ["value"] (defScope s_is_ratio) := ⟨rfl, rfl, rfl, by decide +kernel, rfl, by decide +kernel, by decide +kernel⟩
theorem ok_is_ratio (T : Txt K mg c a) (B : Bnd K c a) (kf : KF K c) : FnG P w K mg base 3 a.a_is_ratio a.d_is_ratio ["value"] (spL K (sp_is_ratio K c)) := by
  have hb : BodyD P w K mg base ["value"] "is_ratio" s_is_ratio 2 (w_is_ratio K c) := fun f cdv A outer s H E ck => by
    have nd := ck.nd
    exact (scons (sif (dtru (ecallF ((ok_is_whole T B kf).mono (by decide)) ck.toCal T.g_is_whole T.k_is_whole B.b_is_whole (dcons (dtake 0) dnil))) (sone (sret dbl)) snil) (scons (sif ((dor (dnot (dtru (dcallB cIsi T.n_isinstance (dcons (dtake 0) (dcons (ety T.n_tuple) dnil))))) (dor1 (dtcmp (oNev ck.toCal.hu64) (dcallB cLen T.n_len (dcons (dtake 0) dnil)) dint)))).pt (sone (sret dbl)) snil) (sone (sret (dandV (ecallF ((ok_is_whole T B kf).mono (by decide)) ck.toCal T.g_is_whole T.k_is_whole B.b_is_whole (dcons (dix ck.toCal.hu (dtake 0) dint) dnil)) (dandV (ecallF ((ok_is_whole T B kf).mono (by decide)) ck.toCal T.g_is_whole T.k_is_whole B.b_is_whole (dcons (dix ck.toCal.hu (dtake 0) dint) dnil)) (done1 (dcmp oGt (dix ck.toCal.hu (dtake 0) dint) dint))))))))
  exact fnG B.u_is_ratio c_is_ratio hb (len_is_ratio K c) (h_is_ratio K c kf)
theorem c_told : FnScope ["value", "what"] ["value", "what"] (defScope s_told) := ⟨rfl, rfl, rfl, by decide +kernel, rfl, by decide +kernel, by decide +kernel⟩
theorem ok_told (T : Txt K mg c a) (B : Bnd K c a) (kf : KF K c) : FnG P w K mg base 4 a.a_told a.d_told ["value", "what"] (spL K (sp_told K c)) := by
  have hb : BodyD P w K mg base ["value", "what"] "told" s_told 3 (w_told K c) := fun f cdv A outer s H E ck => by
    have nd := ck.nd
    exact (scons (sif (dnot (dtru (ecallF ((ok_is_ratio T B kf).mono (by decide)) ck.toCal T.g_is_ratio T.k_is_ratio B.b_is_ratio (dcons (dtake 0) dnil)))) (sone sno) snil) (scons (sif (dtru (dcallB cIsi T.n_isinstance (dcons (dtake 0) (dcons (ety T.n_int) dnil)))) (sone (sret (dtup (dcons (dtake 0) (dcons dint dnil))))) snil) (sone (sret (ecallF ((ok_lowest T B kf).mono (by decide)) ck.toCal T.g_lowest T.k_lowest B.b_lowest (dcons (dix ck.toCal.hu (dtake 0) dint) (dcons (dix ck.toCal.hu (dtake 0) dint) dnil)))))))
  exact fnG B.u_told c_told hb (len_told K c) (h_told K c kf)
theorem c_times : FnScope ["one", "two"] ["one", "two"] (defScope s_times) := ⟨rfl, rfl, rfl, by decide +kernel, rfl, by decide +kernel, by decide +kernel⟩
theorem ok_times (T : Txt K mg c a) (B : Bnd K c a) (kf : KF K c) : FnG P w K mg base 4 a.a_times a.d_times ["one", "two"] (spL K (sp_times K c)) := by
  have hb : BodyD P w K mg base ["one", "two"] "times" s_times 3 (w_times K c) := fun f cdv A outer s H E ck => by
    have nd := ck.nd
    exact (sone (sret (ecallF ((ok_lowest T B kf).mono (by decide)) ck.toCal T.g_lowest T.k_lowest B.b_lowest (dcons (dbin oMul (dix ck.toCal.hu (dtake 0) dint) (dix ck.toCal.hu (dtake 1) dint)) (dcons (dbin oMul (dix ck.toCal.hu (dtake 0) dint) (dix ck.toCal.hu (dtake 1) dint)) dnil)))))
  exact fnG B.u_times c_times hb (len_times K c) (h_times K c kf)
theorem c_told_above : FnScope ["value", "what"] ["value", "what"] (defScope s_told_above) := ⟨rfl, rfl, rfl, by decide +kernel, rfl, by decide +kernel, by decide +kernel⟩
theorem ok_told_above (T : Txt K mg c a) (B : Bnd K c a) (kf : KF K c) : FnG P w K mg base 5 a.a_told_above a.d_told_above ["value", "what"] (spL K (sp_told_above K c)) := by
  have hb : BodyD P w K mg base ["value", "what"] "told_above" s_told_above 4 (w_told_above K c) := fun f cdv A outer s H E ck => by
    have nd := ck.nd
    exact (scons (sif ((dor (dnot (dtru (ecallF ((ok_is_ratio T B kf).mono (by decide)) ck.toCal T.g_is_ratio T.k_is_ratio B.b_is_ratio (dcons (dtake 0) dnil)))) (dor1 (dtcmp oLe (dix ck.toCal.hu (ecallF ((ok_told T B kf).mono (by decide)) ck.toCal T.g_told T.k_told B.b_told (dcons (dtake 0) (dcons (dtake 1) dnil))) dint) dint)))).pt (sone (draise ck.toCal kf.xo_BadNumber T.xi_BadNumber T.xt_BadNumber (ex_BadNumber T B kf) (by decide) B.b_BadNumber T.g_BadNumber (dcons (dtake 1) (dcons (dtake 0) dnil)) (by decide))) snil) (sone (sret (ecallF ((ok_told T B kf).mono (by decide)) ck.toCal T.g_told T.k_told B.b_told (dcons (dtake 0) (dcons (dtake 1) dnil))))))
  exact fnG B.u_told_above c_told_above hb (len_told_above K c) (h_told_above K c kf)
theorem c_refined : FnScope ["numbers", "base", "waiting", "number", "found", "shared", "other", "by", "item"] ["numbers"] (defScope s_refined) := ⟨rfl, rfl, rfl, by decide +kernel, rfl, by decide +kernel, by decide +kernel⟩
theorem ok_refined (T : Txt K mg c a) (B : Bnd K c a) (kf : KF K c) : FnG P w K mg base 3 a.a_refined a.d_refined ["numbers"] (spL K (sp_refined K c)) := by
  have hb : BodyD P w K mg base ["numbers", "base", "waiting", "number", "found", "shared", "other", "by", "item"] "refined" s_refined 2 (w_refined K c) := fun f cdv A outer s H E ck => by
    have nd := ck.nd
    exact (scons (spar (i := 1) (j := 2) ck.calm nd (dcons (dlst dnil) (dcons (dcallTy (cListX ck.toCal.calm) T.n_list (dcons (dtake 0) dnil)) dnil))) (scons (swhile ck.po (dtcmp (oNev ck.toCal.hu64) (dvar 2) (dlst dnil)) (scons (sset (i := 3) nd (dpop (dvar 2))) (scons (sif ((dor (dtcmp (oEqv ck.toCal.hu64) (dtake 3) dint) (dor1 (dtcmp oInS (dtake 3) (dvar 1))))).pt (sone scnt) snil) (scons (slc (i := 4) (own := [("other", 6)]) (W0 := noW) ck.toCal.calm nd rfl rfl rfl (dit (dvar 1)) (blk_of (N := ["numbers", "base", "waiting", "number", "found", "shared", "other", "by", "item"]) (sc := defScope s_refined) (by decide +kernel)) (fun _ _ _ _ _ => (gname (wpR_ok (vs := [6])) nd (by decide) (i := 6))) (fun _ _ _ _ _ => dyes) (fun _ _ _ _ _ => (dtup (dcons (dtake 6) (dcons (ecallF ((ok_common_divisor T B kf).mono (by decide)) ck.toCal.blk T.g_common_divisor T.k_common_divisor B.b_common_divisor (dcons (dtake 3) (dcons (dtake 6) dnil))) dnil))))) (scons (slc (i := 5) (own := [("other", 6), ("by", 7)]) (W0 := noW) ck.toCal.calm nd rfl rfl rfl (dit (dtake 4)) (blk_of (N := ["numbers", "base", "waiting", "number", "found", "shared", "other", "by", "item"]) (sc := defScope s_refined) (by decide +kernel)) (fun _ _ _ _ _ => (gtup ck.toCal.blk.calm (gcons (wpR_ok (vs := [6, 7])) (gname (wpR_ok (vs := [6, 7])) nd (by decide) (i := 6)) (gcons (wpR_ok (vs := [6, 7])) (gname (wpR_ok (vs := [6, 7])) nd (by decide) (i := 7)) (gnil (wpR_ok (vs := [6, 7]))))))) (fun _ _ _ _ _ => (dtest (dtcmp oGt (dtake 7) dint))) (fun _ _ _ _ _ => (dtup (dcons (dtake 6) (dcons (dtake 7) dnil))))) (scons (sif (dtcmp (oEqv ck.toCal.hu64) (dtake 5) (dlst dnil)) (scons (sexp (dapp (dvar 1) (dtake 3))) (sone scnt)) snil) (scons (sasg (dix ck.toCal.hu (dtake 5) dint) (gtup ck.toCal.calm (gcons (anyR_ok (is := [])) (gname (anyR_ok (is := [6])) nd (.head _) (i := 6)) (gcons (anyR_ok (is := [])) (gname (anyR_ok (is := [7])) nd (.head _) (i := 7)) (gnil (anyR_ok (is := []))))))) (scons (slc (i := 1) (own := [("item", 8)]) (W0 := noW) ck.toCal.calm nd rfl rfl rfl (dit (dvar 1)) (blk_of (N := ["numbers", "base", "waiting", "number", "found", "shared", "other", "by", "item"]) (sc := defScope s_refined) (by decide +kernel)) (fun _ _ _ _ _ => (gname (wpR_ok (vs := [8])) nd (by decide) (i := 8))) (fun _ _ _ _ _ => (dtest (dtcmp (oNev ck.toCal.blk.hu64) (dtake 8) (dtake 6)))) (fun _ _ _ _ _ => (dtake 8))) (sone (sset (i := 2) nd (dbin oAdd (dvar 2) (dlst (dcons (dtake 7) (dcons (dbin oFdiv (dtake 6) (dtake 7)) (dcons (dbin oFdiv (dtake 3) (dtake 7)) dnil))))))))))))))) (sone (sret (dcallTy cTup T.n_tuple (dcons (dcallB (cSorted ck.toCal.calm) T.n_sorted (dcons (dvar 1) dnil)) dnil))))))
  exact fnG B.u_refined c_refined hb (len_refined K c) (h_refined K c kf)
theorem c_base_of : FnScope ["ratios", "ratio"] ["ratios"] (defScope s_base_of) := ⟨rfl, rfl, rfl, by decide +kernel, rfl, by decide +kernel, by decide +kernel⟩
theorem ok_base_of (T : Txt K mg c a) (B : Bnd K c a) (kf : KF K c) : FnG P w K mg base 4 a.a_base_of a.d_base_of ["ratios"] (spL K (sp_base_of K c)) := by
  have hb : BodyD P w K mg base ["ratios", "ratio"] "base_of" s_base_of 3 (w_base_of K c) := fun f cdv A outer s H E ck => by
    have nd := ck.nd
    exact (sone (sret (ecallF ((ok_refined T B kf).mono (by decide)) ck.toCal T.g_refined T.k_refined B.b_refined (dcons (dbin oAdd (dlc (own := [("ratio", 1)]) (W0 := noW) ck.toCal.calm nd (dit (dtake 0)) (blk_of (N := ["ratios", "ratio"]) (sc := defScope s_base_of) (by decide +kernel)) (fun _ _ _ _ _ => (gname (wpR_ok (vs := [1])) nd (by decide) (i := 1))) (fun _ _ _ _ _ => dyes) (fun _ _ _ _ _ => (dix ck.toCal.blk.hu (dtake 1) dint))) (dlc (own := [("ratio", 1)]) (W0 := noW) ck.toCal.calm nd (dit (dtake 0)) (blk_of (N := ["ratios", "ratio"]) (sc := defScope s_base_of) (by decide +kernel)) (fun _ _ _ _ _ => (gname (wpR_ok (vs := [1])) nd (by decide) (i := 1))) (fun _ _ _ _ _ => dyes) (fun _ _ _ _ _ => (dix ck.toCal.blk.hu (dtake 1) dint)))) dnil))))
  exact fnG B.u_base_of c_base_of hb (len_base_of K c) (h_base_of K c kf)
theorem c_coprime_base : FnScope ["ratios", "ratio"] ["ratios"] (defScope s_coprime_base) := ⟨rfl, rfl, rfl, by decide +kernel, rfl, by decide +kernel, by decide +kernel⟩
theorem ok_coprime_base (T : Txt K mg c a) (B : Bnd K c a) (kf : KF K c) : FnG P w K mg base 6 a.a_coprime_base a.d_coprime_base ["ratios"] (spL K (sp_coprime_base K c)) := by
  have hb : BodyD P w K mg base ["ratios", "ratio"] "coprime_base" s_coprime_base 5 (w_coprime_base K c) := fun f cdv A outer s H E ck => by
    have nd := ck.nd
    exact (sone (sret (ecallF ((ok_base_of T B kf).mono (by decide)) ck.toCal T.g_base_of T.k_base_of B.b_base_of (dcons (dlcX (own := [("ratio", 1)]) (W0 := noW) ck.toCal.tk rfl rfl ck.toCal.calm nd (dit (dtake 0)) (blk_of (N := ["ratios", "ratio"]) (sc := defScope s_coprime_base) (by decide +kernel)) (fun _ _ _ _ _ => (gname (wpR_ok (vs := [1])) nd (by decide) (i := 1))) (fun _ _ _ _ _ => dyes) (fun _ _ _ _ _ _ _ tk => (ecallF ((ok_told_above T B kf).mono (by decide)) (ck.toCal.bx tk) T.g_told_above T.k_told_above B.b_told_above (dcons (dtake 1) (dcons dstr dnil))))) dnil))))
  exact fnG B.u_coprime_base c_coprime_base hb (len_coprime_base K c) (h_coprime_base K c kf)
theorem c_relations : FnScope ["ratios", "pairs", "base", "ratio"] ["ratios"] (defScope s_relations) := ⟨rfl, rfl, rfl, by decide +kernel, rfl, by decide +kernel, by decide +kernel⟩
theorem ok_relations (T : Txt K mg c a) (B : Bnd K c a) (kf : KF K c) : FnG P w K mg base 6 a.a_relations a.d_relations ["ratios"] (spL K (sp_relations K c)) := by
  have hb : BodyD P w K mg base ["ratios", "pairs", "base", "ratio"] "relations" s_relations 5 (w_relations K c) := fun f cdv A outer s H E ck => by
    have nd := ck.nd
    exact (scons (slcX (i := 1) (own := [("ratio", 3)]) (W0 := noW) ck.toCal.tk rfl rfl ck.toCal.calm nd rfl rfl rfl (dit (dtake 0)) (blk_of (N := ["ratios", "pairs", "base", "ratio"]) (sc := defScope s_relations) (by decide +kernel)) (fun _ _ _ _ _ => (gname (wpR_ok (vs := [3])) nd (by decide) (i := 3))) (fun _ _ _ _ _ => dyes) (fun _ _ _ _ _ _ _ tk => (ecallF ((ok_told_above T B kf).mono (by decide)) (ck.toCal.bx tk) T.g_told_above T.k_told_above B.b_told_above (dcons (dtake 3) (dcons dstr dnil))))) (scons sno (sone sno)))
  exact fnG B.u_relations c_relations hb (len_relations K c) (h_relations K c kf)
theorem c_as_powers : FnScope ["ratio", "ratios", "roots", "aim", "pairs", "base", "zeros", "rows", "right", "spot", "weights", "item"] ["ratio", "ratios", "roots"] (defScope s_as_powers) := ⟨rfl, rfl, rfl, by decide +kernel, rfl, by decide +kernel, by decide +kernel⟩
theorem ok_as_powers (T : Txt K mg c a) (B : Bnd K c a) (kf : KF K c) : FnG P w K mg base 6 a.a_as_powers a.d_as_powers ["ratio", "ratios", "roots"] (spL K (sp_as_powers K c)) := by
  have hb : BodyD P w K mg base ["ratio", "ratios", "roots", "aim", "pairs", "base", "zeros", "rows", "right", "spot", "weights", "item"] "as_powers" s_as_powers 5 (w_as_powers K c) := fun f cdv A outer s H E ck => by
    have nd := ck.nd
    exact (scons (sset (i := 3) nd (ecallF ((ok_told_above T B kf).mono (by decide)) ck.toCal T.g_told_above T.k_told_above B.b_told_above (dcons (dtake 0) (dcons dstr dnil)))) (scons (slcX (i := 4) (own := [("item", 11)]) (W0 := noW) ck.toCal.tk rfl rfl ck.toCal.calm nd rfl rfl rfl (dit (dtake 1)) (blk_of (N := ["ratio", "ratios", "roots", "aim", "pairs", "base", "zeros", "rows", "right", "spot", "weights", "item"]) (sc := defScope s_as_powers) (by decide +kernel)) (fun _ _ _ _ _ => (gname (wpR_ok (vs := [11])) nd (by decide) (i := 11))) (fun _ _ _ _ _ => dyes) (fun _ _ _ _ _ _ _ tk => (ecallF ((ok_told_above T B kf).mono (by decide)) (ck.toCal.bx tk) T.g_told_above T.k_told_above B.b_told_above (dcons (dtake 11) (dcons dstr dnil))))) (scons sno (scons sno (scons sno (scons sno (sone sno)))))))
  exact fnGD B.u_as_powers c_as_powers hb (len_as_powers K c) (h_as_powers K c kf)
theorem c__law_pen : FnScope ["_law_script", "_law_fold", "_law_cell"] ["_law_script"] (defScope s__law_pen) := ⟨rfl, rfl, rfl, by decide +kernel, rfl, by decide +kernel, by decide +kernel⟩
theorem ok__law_pen (T : Txt K mg c a) (B : Bnd K c a) (kf : KF K c) : FnG P w K mg base 2 a.a__law_pen a.d__law_pen ["_law_script"] (spL K (sp__law_pen K c)) := by
  have hb : BodyD P w K mg base ["_law_script", "_law_fold", "_law_cell"] "_law_pen" s__law_pen 1 (w__law_pen K c) := fun f cdv A outer s H E ck => by
    have nd := ck.nd
    exact (scons (sset (i := 1) nd dint) (scons (sfor ck.po ck.calm (dit (dtake 0)) (gname (anyR_ok (is := [2])) nd (.head _) (i := 2)) (sone (sset (i := 1) nd (dbin oMod (dcallTy cIntX T.n_int (dcons (dbin oAdd (dbin oMul (dtake 1) dint) (dtake 2)) dnil)) dint)))) (sone (sret (ddisp (.cons (dcallTy (cListX ck.toCal.calm) T.n_list (dcons (dtake 0) dnil)) (.cons dint (.cons dint (.cons dint (.cons (dtake 1) .nil))))))))))
  exact fnG B.u__law_pen c__law_pen hb (len__law_pen K c) (h__law_pen K c kf)
theorem c__law_draw : FnScope ["_law_pen_here", "_law_many", "_law_cell", "_law_digit", "_law_blend"] ["_law_pen_here", "_law_many"] (defScope s__law_draw) := ⟨rfl, rfl, rfl, by decide +kernel, rfl, by decide +kernel, by decide +kernel⟩
theorem ok__law_draw (T : Txt K mg c a) (B : Bnd K c a) (kf : KF K c) : FnG P w K mg base 2 a.a__law_draw a.d__law_draw ["_law_pen_here", "_law_many"] (spL K (sp__law_draw K c)) := by
  have hb : BodyD P w K mg base ["_law_pen_here", "_law_many", "_law_cell", "_law_digit", "_law_blend"] "_law_draw" s__law_draw 1 (w__law_draw K c) := fun f cdv A outer s H E ck => by
    have nd := ck.nd
    exact (scons (ssub ck.toCal.hu (dvar 0) dstr (dbin oAdd (dix ck.toCal.hu (dvar 0) dstr) dint)) (scons (sif ((dand (dtcmp (oEqv ck.toCal.hu64) (dix ck.toCal.hu (dvar 0) dstr) dint) (dand1 (dtcmp oLt (dix ck.toCal.hu (dvar 0) dstr) (dcallB cLen T.n_len (dcons (dix ck.toCal.hu (dvar 0) dstr) dnil)))))).pt (scons (sset (i := 2) nd (dix ck.toCal.hu (dix ck.toCal.hu (dvar 0) dstr) (dix ck.toCal.hu (dvar 0) dstr))) (scons (ssub ck.toCal.hu (dvar 0) dstr (dbin oAdd (dix ck.toCal.hu (dvar 0) dstr) dint)) (sone (sif (dtcmp oGe (dtake 2) (dbin oPow dint dint)) (sone (ssub ck.toCal.hu (dvar 0) dstr (dbin oSub (dtake 2) (dbin oPow dint dint)))) (sone (ssub ck.toCal.hu (dvar 0) dstr (dbin oMod (dcallTy cIntX T.n_int (dcons (dbin oAdd (dbin oMul (dix ck.toCal.hu (dvar 0) dstr) dint) (dtake 2)) dnil)) dint))))))) snil) (scons (sif (dtcmp oGt (dix ck.toCal.hu (dvar 0) dstr) dint) (scons (sset (i := 3) nd (dbin oMod (dcallTy cIntX T.n_int (dcons (dix ck.toCal.hu (dvar 0) dstr) dnil)) (dtake 1))) (scons (ssub ck.toCal.hu (dvar 0) dstr (dbin oFdiv (dix ck.toCal.hu (dvar 0) dstr) (dtake 1))) (sone (sret (dmove 3))))) snil) (scons (sset (i := 4) nd (dbin oAdd (dbin oAdd (dix ck.toCal.hu (dvar 0) dstr) (dbin oMul (dix ck.toCal.hu (dvar 0) dstr) dint)) dint)) (sone (sret (dbin oMod (dbin oFdiv (dcallTy cIntX T.n_int (dcons (dbin oMod (dbin oPow (dtake 4) dint) dint) dnil)) dint) (dtake 1))))))))
  exact fnG B.u__law_draw c__law_draw hb (len__law_draw K c) (h__law_draw K c kf)
theorem c__law_pick : FnScope ["_law_pen_here", "_law_some"] ["_law_pen_here", "_law_some"] (defScope s__law_pick) := ⟨rfl, rfl, rfl, by decide +kernel, rfl, by decide +kernel, by decide +kernel⟩
theorem ok__law_pick (T : Txt K mg c a) (B : Bnd K c a) (kf : KF K c) : FnG P w K mg base 3 a.a__law_pick a.d__law_pick ["_law_pen_here", "_law_some"] (spL K (sp__law_pick K c)) := by
  have hb : BodyD P w K mg base ["_law_pen_here", "_law_some"] "_law_pick" s__law_pick 2 (w__law_pick K c) := fun f cdv A outer s H E ck => by
    have nd := ck.nd
    exact (sone (sret (dix ck.toCal.hu (dtake 1) (ecallF ((ok__law_draw T B kf).mono (by decide)) ck.toCal T.g__law_draw T.k__law_draw B.b__law_draw (dcons (dvar 0) (dcons (dcallB cLen T.n_len (dcons (dtake 1) dnil)) dnil))))))
  exact fnG B.u__law_pick c__law_pick hb (len__law_pick K c) (h__law_pick K c kf)
theorem c__law_big : FnScope ["_law_pen_here", "_law_figures", "_law_total", "_law_k"] ["_law_pen_here", "_law_figures"] (defScope s__law_big) := ⟨rfl, rfl, rfl, by decide +kernel, rfl, by decide +kernel, by decide +kernel⟩
theorem ok__law_big (T : Txt K mg c a) (B : Bnd K c a) (kf : KF K c) : FnG P w K mg base 4 a.a__law_big a.d__law_big ["_law_pen_here", "_law_figures"] (spL K (sp__law_big K c)) := by
  have hb : BodyD P w K mg base ["_law_pen_here", "_law_figures", "_law_total", "_law_k"] "_law_big" s__law_big 3 (w__law_big K c) := fun f cdv A outer s H E ck => by
    have nd := ck.nd
    exact (scons (sset (i := 2) nd dint) (scons (sfor ck.po ck.calm (drng1 T.n_range (dcons (ecallF ((ok__law_pick T B kf).mono (by decide)) ck.toCal T.g__law_pick T.k__law_pick B.b__law_pick (dcons (dvar 0) (dcons (dlst (dcons dint (dcons dint (dcons dint (dcons dint (dcons dint (dcons (dbin oFdiv (dbin oAdd (dtake 1) dint) dint) dnil))))))) dnil))) dnil)) (gname (anyR_ok (is := [3])) nd (.head _) (i := 3)) (sone (sset (i := 2) nd (dbin oAdd (dbin oMul (dtake 2) dint) (ecallF ((ok__law_draw T B kf).mono (by decide)) ck.toCal T.g__law_draw T.k__law_draw B.b__law_draw (dcons (dvar 0) (dcons dint dnil))))))) (sone (sret (dcallTy cIntX T.n_int (dcons (dslice (dcallTy cStr T.n_str (dcons (dtake 2) dnil)) (dosome (dun oNeg (dtake 1))) dono) dnil))))))
  exact fnG B.u__law_big c__law_big hb (len__law_big K c) (h__law_big K c kf)
theorem c__law_gcd : FnScope ["_law_one", "_law_two", "_law_lap"] ["_law_one", "_law_two"] (defScope s__law_gcd) := ⟨rfl, rfl, rfl, by decide +kernel, rfl, by decide +kernel, by decide +kernel⟩
theorem ok__law_gcd (T : Txt K mg c a) (B : Bnd K c a) (kf : KF K c) : FnG P w K mg base 2 a.a__law_gcd a.d__law_gcd ["_law_one", "_law_two"] (spL K (sp__law_gcd K c)) := by
  have hb : BodyD P w K mg base ["_law_one", "_law_two", "_law_lap"] "_law_gcd" s__law_gcd 1 (w__law_gcd K c) := fun f cdv A outer s H E ck => by
    have nd := ck.nd
    exact (scons (spar (i := 0) (j := 1) ck.calm nd (dcons (dcallB cAbs T.n_abs (dcons (dtake 0) dnil)) (dcons (dcallB cAbs T.n_abs (dcons (dtake 1) dnil)) dnil))) (scons (sfor ck.po ck.calm (drng1 T.n_range (dcons dint dnil)) (gname (anyR_ok (is := [2])) nd (.head _) (i := 2)) (scons (sif (dtcmp (oEqv ck.toCal.hu64) (dtake 1) dint) (sone sbrk) snil) (sone (spar (i := 0) (j := 1) ck.calm nd (dcons (dtake 1) (dcons (dbin oMod (dcallTy cIntX T.n_int (dcons (dtake 0) dnil)) (dtake 1)) dnil)))))) (sone (sret (dmove 0)))))
  exact fnG B.u__law_gcd c__law_gcd hb (len__law_gcd K c) (h__law_gcd K c kf)
theorem c__law_q : FnScope ["_law_top", "_law_bottom", "_law_by"] ["_law_top", "_law_bottom"] (defScope s__law_q) := ⟨rfl, rfl, rfl, by decide +kernel, rfl, by decide +kernel, by decide +kernel⟩
theorem ok__law_q (T : Txt K mg c a) (B : Bnd K c a) (kf : KF K c) : FnG P w K mg base 3 a.a__law_q a.d__law_q ["_law_top", "_law_bottom"] (spL K (sp__law_q K c)) := by
  have hb : BodyD P w K mg base ["_law_top", "_law_bottom", "_law_by"] "_law_q" s__law_q 2 (w__law_q K c) := fun f cdv A outer s H E ck => by
    have nd := ck.nd
    exact (scons (sset (i := 2) nd (ecallF ((ok__law_gcd T B kf).mono (by decide)) ck.toCal T.g__law_gcd T.k__law_gcd B.b__law_gcd (dcons (dtake 0) (dcons (dtake 1) dnil)))) (scons (sif (dtcmp oLt (dtake 1) dint) (sone (sset (i := 2) nd (dun oNeg (dtake 2)))) snil) (sone (sret (dtup (dcons (dbin oFdiv (dtake 0) (dtake 2)) (dcons (dbin oFdiv (dtake 1) (dtake 2)) dnil)))))))
  exact fnG B.u__law_q c__law_q hb (len__law_q K c) (h__law_q K c kf)
theorem c__law_times : FnScope ["_law_one", "_law_two"] ["_law_one", "_law_two"] (defScope s__law_times) := ⟨rfl, rfl, rfl, by decide +kernel, rfl, by decide +kernel, by decide +kernel⟩
theorem ok__law_times (T : Txt K mg c a) (B : Bnd K c a) (kf : KF K c) : FnG P w K mg base 4 a.a__law_times a.d__law_times ["_law_one", "_law_two"] (spL K (sp__law_times K c)) := by
  have hb : BodyD P w K mg base ["_law_one", "_law_two"] "_law_times" s__law_times 3 (w__law_times K c) := fun f cdv A outer s H E ck => by
    have nd := ck.nd
    exact (sone (sret (ecallF ((ok__law_q T B kf).mono (by decide)) ck.toCal T.g__law_q T.k__law_q B.b__law_q (dcons (dbin oMul (dix ck.toCal.hu (dtake 0) dint) (dix ck.toCal.hu (dtake 1) dint)) (dcons (dbin oMul (dix ck.toCal.hu (dtake 0) dint) (dix ck.toCal.hu (dtake 1) dint)) dnil)))))
  exact fnG B.u__law_times c__law_times hb (len__law_times K c) (h__law_times K c kf)
theorem c__law_is_whole : FnScope ["_law_value"] ["_law_value"] (defScope s__law_is_whole) := ⟨rfl, rfl, rfl, by decide +kernel, rfl, by decide +kernel, by decide +kernel⟩
theorem ok__law_is_whole (T : Txt K mg c a) (B : Bnd K c a) (kf : KF K c) : FnG P w K mg base 2 a.a__law_is_whole a.d__law_is_whole ["_law_value"] (spL K (sp__law_is_whole K c)) := by
  have hb : BodyD P w K mg base ["_law_value"] "_law_is_whole" s__law_is_whole 1 (w__law_is_whole K c) := fun f cdv A outer s H E ck => by
    have nd := ck.nd
    exact (sone (sret (dandV (dcallB cIsi T.n_isinstance (dcons (dtake 0) (dcons (ety T.n_int) dnil))) (done1 (dnotV (dcallB cIsi T.n_isinstance (dcons (dtake 0) (dcons (ety T.n_bool) dnil))))))))
  exact fnG B.u__law_is_whole c__law_is_whole hb (len__law_is_whole K c) (h__law_is_whole K c kf)
theorem c__law_passed : FnScope ["_law_pen_here", "_law_ratio", "_law_way", "_law_by"] ["_law_pen_here", "_law_ratio"] (defScope s__law_passed) := ⟨rfl, rfl, rfl, by decide +kernel, rfl, by decide +kernel, by decide +kernel⟩
theorem ok__law_passed (T : Txt K mg c a) (B : Bnd K c a) (kf : KF K c) : FnG P w K mg base 3 a.a__law_passed a.d__law_passed ["_law_pen_here", "_law_ratio"] (spL K (sp__law_passed K c)) := by
  have hb : BodyD P w K mg base ["_law_pen_here", "_law_ratio", "_law_way", "_law_by"] "_law_passed" s__law_passed 2 (w__law_passed K c) := fun f cdv A outer s H E ck => by
    have nd := ck.nd
    exact (scons (sset (i := 2) nd (ecallF ((ok__law_draw T B kf).mono (by decide)) ck.toCal T.g__law_draw T.k__law_draw B.b__law_draw (dcons (dvar 0) (dcons dint dnil)))) (scons (sif ((dand (dtcmp (oEqv ck.toCal.hu64) (dtake 2) dint) (dand1 (dtcmp (oEqv ck.toCal.hu64) (dix ck.toCal.hu (dtake 1) dint) dint)))).pt (sone (sret (dix ck.toCal.hu (dtake 1) dint))) snil) (scons (sif (dtcmp (oEqv ck.toCal.hu64) (dtake 2) dint) (scons (sset (i := 3) nd (dbin oAdd dint (ecallF ((ok__law_draw T B kf).mono (by decide)) ck.toCal T.g__law_draw T.k__law_draw B.b__law_draw (dcons (dvar 0) (dcons dint dnil))))) (sone (sret (dtup (dcons (dbin oMul (dix ck.toCal.hu (dtake 1) dint) (dtake 3)) (dcons (dbin oMul (dix ck.toCal.hu (dtake 1) dint) (dtake 3)) dnil)))))) snil) (sone (sret (dmove 1))))))
  exact fnG B.u__law_passed c__law_passed hb (len__law_passed K c) (h__law_passed K c kf)
theorem c__law_power : FnScope ["_law_one", "_law_n", "_law_found", "_law_lap"] ["_law_one", "_law_n"] (defScope s__law_power) := ⟨rfl, rfl, rfl, by decide +kernel, rfl, by decide +kernel, by decide +kernel⟩
theorem ok__law_power (T : Txt K mg c a) (B : Bnd K c a) (kf : KF K c) : FnG P w K mg base 4 a.a__law_power a.d__law_power ["_law_one", "_law_n"] (spL K (sp__law_power K c)) := by
  have hb : BodyD P w K mg base ["_law_one", "_law_n", "_law_found", "_law_lap"] "_law_power" s__law_power 3 (w__law_power K c) := fun f cdv A outer s H E ck => by
    have nd := ck.nd
    exact (scons (sset (i := 2) nd (dtup (dcons dint (dcons dint dnil)))) (scons (sfor ck.po ck.calm (drng1 T.n_range (dcons (dcallB cAbs T.n_abs (dcons (dtake 1) dnil)) dnil)) (gname (anyR_ok (is := [3])) nd (.head _) (i := 3)) (sone (sset (i := 2) nd (dtup (dcons (dbin oMul (dix ck.toCal.hu (dtake 2) dint) (dix ck.toCal.hu (dtake 0) dint)) (dcons (dbin oMul (dix ck.toCal.hu (dtake 2) dint) (dix ck.toCal.hu (dtake 0) dint)) dnil)))))) (sone (sret (difE (dtcmp oGe (dtake 1) dint) (dtake 2) (ecallF ((ok__law_q T B kf).mono (by decide)) ck.toCal T.g__law_q T.k__law_q B.b__law_q (dcons (dix ck.toCal.hu (dtake 2) dint) (dcons (dix ck.toCal.hu (dtake 2) dint) dnil))))))))
  exact fnG B.u__law_power c__law_power hb (len__law_power K c) (h__law_power K c kf)
theorem c__law_powers : FnScope ["_law_ratios_here", "_law_exponents", "_law_found", "_law_one", "_law_n"] ["_law_ratios_here", "_law_exponents"] (defScope s__law_powers) := ⟨rfl, rfl, rfl, by decide +kernel, rfl, by decide +kernel, by decide +kernel⟩
theorem ok__law_powers (T : Txt K mg c a) (B : Bnd K c a) (kf : KF K c) : FnG P w K mg base 5 a.a__law_powers a.d__law_powers ["_law_ratios_here", "_law_exponents"] (spL K (sp__law_powers K c)) := by
  have hb : BodyD P w K mg base ["_law_ratios_here", "_law_exponents", "_law_found", "_law_one", "_law_n"] "_law_powers" s__law_powers 4 (w__law_powers K c) := fun f cdv A outer s H E ck => by
    have nd := ck.nd
    exact (scons (sset (i := 2) nd (dtup (dcons dint (dcons dint dnil)))) (scons (sfor ck.po ck.calm (dzip T.n_zip (dcons (dtake 0) (dcons (dtake 1) dnil))) (gtup ck.toCal.calm (gcons (anyR_ok (is := [])) (gname (anyR_ok (is := [3])) nd (.head _) (i := 3)) (gcons (anyR_ok (is := [])) (gname (anyR_ok (is := [4])) nd (.head _) (i := 4)) (gnil (anyR_ok (is := [])))))) (sone (sset (i := 2) nd (ecallF ((ok__law_times T B kf).mono (by decide)) ck.toCal T.g__law_times T.k__law_times B.b__law_times (dcons (dtake 2) (dcons (ecallF ((ok__law_power T B kf).mono (by decide)) ck.toCal T.g__law_power T.k__law_power B.b__law_power (dcons (dtake 3) (dcons (dtake 4) dnil))) dnil)))))) (sone (sret (dmove 2)))))
  exact fnG B.u__law_powers c__law_powers hb (len__law_powers K c) (h__law_powers K c kf)
theorem c__law_base_powers : FnScope ["_law_base", "_law_ratio", "_law_found", "_law_rest", "_law_number", "_law_count", "_law_side", "_law_lap"] ["_law_base", "_law_ratio"] (defScope s__law_base_powers) := ⟨rfl, rfl, rfl, by decide +kernel, rfl, by decide +kernel, by decide +kernel⟩
theorem ok__law_base_powers (T : Txt K mg c a) (B : Bnd K c a) (kf : KF K c) : FnG P w K mg base 2 a.a__law_base_powers a.d__law_base_powers ["_law_base", "_law_ratio"] (spL K (sp__law_base_powers K c)) := by
  have hb : BodyD P w K mg base ["_law_base", "_law_ratio", "_law_found", "_law_rest", "_law_number", "_law_count", "_law_side", "_law_lap"] "_law_base_powers" s__law_base_powers 1 (w__law_base_powers K c) := fun f cdv A outer s H E ck => by
    have nd := ck.nd
    exact (scons (spar (i := 2) (j := 3) ck.calm nd (dcons (dlst dnil) (dcons (dlst (dcons (dix ck.toCal.hu (dtake 1) dint) (dcons (dix ck.toCal.hu (dtake 1) dint) dnil))) dnil))) (scons (sfor ck.po ck.calm (dit (dtake 0)) (gname (anyR_ok (is := [4])) nd (.head _) (i := 4)) (scons (sset (i := 5) nd dint) (scons (sfor ck.po ck.calm (drng1 T.n_range (dcons dint dnil)) (gname (anyR_ok (is := [6])) nd (.head _) (i := 6)) (sone (sfor ck.po ck.calm (drng1 T.n_range (dcons dint dnil)) (gname (anyR_ok (is := [7])) nd (.head _) (i := 7)) (scons (sif (dtcmp (oNev ck.toCal.hu64) (dbin oMod (dcallTy cIntX T.n_int (dcons (dix ck.toCal.hu (dvar 3) (dtake 6)) dnil)) (dtake 4)) dint) (sone sbrk) snil) (sone (sasg (dtup (dcons (dbin oFdiv (dix ck.toCal.hu (dvar 3) (dtake 6)) (dtake 4)) (dcons (dbin oSub (dbin oAdd (dtake 5) dint) (dbin oMul dint (dtake 6))) dnil))) (gtup ck.toCal.calm (gcons (anyR_ok (is := [])) (gsub (W := wxE E) (anyR_ok (is := [])) ck.toCal.hu (dvar 3) (dtake 6)) (gcons (anyR_ok (is := [])) (gname (anyR_ok (is := [5])) nd (.head _) (i := 5)) (gnil (anyR_ok (is := [])))))))))))) (sone (sexp (dapp (dvar 2) (dtake 5))))))) (sone (sret (difE (dtcmp (oEqv ck.toCal.hu64) (dvar 3) (dlst (dcons dint (dcons dint dnil)))) (dtake 2) dnon)))))
  exact fnG B.u__law_base_powers c__law_base_powers hb (len__law_base_powers K c) (h__law_base_powers K c kf)
theorem c__law_is_base : FnScope ["_law_base", "_law_ratios_here", "_law_k", "_law_one", "_law_other"] ["_law_base", "_law_ratios_here"] (defScope s__law_is_base) := ⟨rfl, rfl, rfl, by decide +kernel, rfl, by decide +kernel, by decide +kernel⟩
theorem ok__law_is_base (T : Txt K mg c a) (B : Bnd K c a) (kf : KF K c) : FnG P w K mg base 3 a.a__law_is_base a.d__law_is_base ["_law_base", "_law_ratios_here"] (spL K (sp__law_is_base K c)) := by
  have hb : BodyD P w K mg base ["_law_base", "_law_ratios_here", "_law_k", "_law_one", "_law_other"] "_law_is_base" s__law_is_base 2 (w__law_is_base K c) := fun f cdv A outer s H E ck => by
    have nd := ck.nd
    exact (scons (sif ((dor (dnot (dtru (dcallB cIsi T.n_isinstance (dcons (dtake 0) (dcons (ety T.n_tuple) dnil))))) (dor1 (dtcmp (oNev ck.toCal.hu64) (dlc (own := [("_law_one", 3)]) (W0 := noW) ck.toCal.calm nd (dit (dtake 0)) (blk_of (N := ["_law_base", "_law_ratios_here", "_law_k", "_law_one", "_law_other"]) (sc := defScope s__law_is_base) (by decide +kernel)) (fun _ _ _ _ _ => (gname (wpR_ok (vs := [3])) nd (by decide) (i := 3))) (fun _ _ _ _ _ => (dtest ((dor (dnot (dtru (ecallF ((ok__law_is_whole T B kf).mono (by decide)) ck.toCal.blk T.g__law_is_whole T.k__law_is_whole B.b__law_is_whole (dcons (dtake 3) dnil)))) (dor1 (dtcmp oLt (dtake 3) dint)))).pt)) (fun _ _ _ _ _ => (dtake 3))) (dlst dnil))))).pt (sone (sret dbl)) snil) (scons (sfor ck.po ck.calm (drng1 T.n_range (dcons (dcallB cLen T.n_len (dcons (dtake 0) dnil)) dnil)) (gname (anyR_ok (is := [2])) nd (.head _) (i := 2)) (scons (sif ((dand (dtcmp oGt (dtake 2) dint) (dand1 (dtcmp oGe (dix ck.toCal.hu (dtake 0) (dbin oSub (dtake 2) dint)) (dix ck.toCal.hu (dtake 0) (dtake 2)))))).pt (sone (sret dbl)) snil) (sone (sif (dtcmp (oNev ck.toCal.hu64) (dlc (own := [("_law_other", 4)]) (W0 := noW) ck.toCal.calm nd (dit (dslice (dtake 0) dono (dosome (dtake 2)))) (blk_of (N := ["_law_base", "_law_ratios_here", "_law_k", "_law_one", "_law_other"]) (sc := defScope s__law_is_base) (by decide +kernel)) (fun _ _ _ _ _ => (gname (wpR_ok (vs := [4])) nd (by decide) (i := 4))) (fun _ _ _ _ _ => (dtest (dtcmp (oNev ck.toCal.blk.hu64) (ecallF ((ok__law_gcd T B kf).mono (by decide)) ck.toCal.blk T.g__law_gcd T.k__law_gcd B.b__law_gcd (dcons (dtake 4) (dcons (dix ck.toCal.blk.hu (dtake 0) (dtake 2)) dnil))) dint))) (fun _ _ _ _ _ => dint)) (dlst dnil)) (sone (sret dbl)) snil)))) (sone (sret (dcmp (oEqv ck.toCal.hu64) (dlc (own := [("_law_one", 3)]) (W0 := noW) ck.toCal.calm nd (dit (dtake 1)) (blk_of (N := ["_law_base", "_law_ratios_here", "_law_k", "_law_one", "_law_other"]) (sc := defScope s__law_is_base) (by decide +kernel)) (fun _ _ _ _ _ => (gname (wpR_ok (vs := [3])) nd (by decide) (i := 3))) (fun _ _ _ _ _ => (dtest (dtcmp oIsN (ecallF ((ok__law_base_powers T B kf).mono (by decide)) ck.toCal.blk T.g__law_base_powers T.k__law_base_powers B.b__law_base_powers (dcons (dtake 0) (dcons (dtake 3) dnil))) dnon))) (fun _ _ _ _ _ => (dtake 3))) (dlst dnil))))))
  exact fnG B.u__law_is_base c__law_is_base hb (len__law_is_base K c) (h__law_is_base K c kf)
theorem c__law_ratios : FnScope ["_law_pen_here", "_law_lots", "_law_found", "_law_lap", "_law_powers_here", "_law_k", "_law_one"] ["_law_pen_here"] (defScope s__law_ratios) := ⟨rfl, rfl, rfl, by decide +kernel, rfl, by decide +kernel, by decide +kernel⟩
theorem ok__law_ratios (T : Txt K mg c a) (B : Bnd K c a) (kf : KF K c) : FnG P w K mg base 6 a.a__law_ratios a.d__law_ratios ["_law_pen_here"] (spL K (sp__law_ratios K c)) := by
  have hb : BodyD P w K mg base ["_law_pen_here", "_law_lots", "_law_found", "_law_lap", "_law_powers_here", "_law_k", "_law_one"] "_law_ratios" s__law_ratios 5 (w__law_ratios K c) := fun f cdv A outer s H E ck => by
    have nd := ck.nd
    exact (scons (slc (i := 1) (own := [("_law_k", 5)]) (W0 := noW) ck.toCal.calm nd rfl rfl rfl (drng1 T.n_range (dcons dint dnil)) (blk_of (N := ["_law_pen_here", "_law_lots", "_law_found", "_law_lap", "_law_powers_here", "_law_k", "_law_one"]) (sc := defScope s__law_ratios) (by decide +kernel)) (fun _ _ _ _ _ => (gname (wpR_ok (vs := [5])) nd (by decide) (i := 5))) (fun _ _ _ _ _ => dyes) (fun _ _ _ _ _ => (dix ck.toCal.blk.hu (ecallF ((ok__law_q T B kf).mono (by decide)) ck.toCal.blk T.g__law_q T.k__law_q B.b__law_q (dcons (dbin oAdd dint (ecallF ((ok__law_big T B kf).mono (by decide)) ck.toCal.blk T.g__law_big T.k__law_big B.b__law_big (dcons (dvar 0) (dcons (ecallF ((ok__law_pick T B kf).mono (by decide)) ck.toCal.blk T.g__law_pick T.k__law_pick B.b__law_pick (dcons (dvar 0) (dcons (dlst (dcons dint (dcons dint (dcons dint dnil)))) dnil))) dnil)))) (dcons dint dnil))) dint))) (scons (sset (i := 1) nd (dbin oAdd (dtake 1) (dlst (dcons (ecallF ((ok__law_pick T B kf).mono (by decide)) ck.toCal T.g__law_pick T.k__law_pick B.b__law_pick (dcons (dvar 0) (dcons (dlst (dcons dint (dcons dint (dcons dint (dcons dint dnil))))) dnil))) (dcons (ecallF ((ok__law_pick T B kf).mono (by decide)) ck.toCal T.g__law_pick T.k__law_pick B.b__law_pick (dcons (dvar 0) (dcons (dlst (dcons (dbin oAdd (dbin oPow dint dint) dint) (dcons dint dnil))) dnil))) dnil))))) (scons (sset (i := 2) nd (dlst dnil)) (scons (sfor ck.po ck.calm (drng1 T.n_range (dcons (ecallF ((ok__law_draw T B kf).mono (by decide)) ck.toCal T.g__law_draw T.k__law_draw B.b__law_draw (dcons (dvar 0) (dcons dint dnil))) dnil)) (gname (anyR_ok (is := [3])) nd (.head _) (i := 3)) (scons (slc (i := 4) (own := [("_law_one", 6)]) (W0 := noW) ck.toCal.calm nd rfl rfl rfl (dit (dtake 1)) (blk_of (N := ["_law_pen_here", "_law_lots", "_law_found", "_law_lap", "_law_powers_here", "_law_k", "_law_one"]) (sc := defScope s__law_ratios) (by decide +kernel)) (fun _ _ _ _ _ => (gname (wpR_ok (vs := [6])) nd (by decide) (i := 6))) (fun _ _ _ _ _ => dyes) (fun _ _ _ _ _ => (difE (dtcmp (oEqv ck.toCal.blk.hu64) (ecallF ((ok__law_draw T B kf).mono (by decide)) ck.toCal.blk T.g__law_draw T.k__law_draw B.b__law_draw (dcons (dvar 0) (dcons dint dnil))) dint) (dbin oSub (ecallF ((ok__law_draw T B kf).mono (by decide)) ck.toCal.blk T.g__law_draw T.k__law_draw B.b__law_draw (dcons (dvar 0) (dcons dint dnil))) dint) dint))) (sone (sexp (dapp (dvar 2) (ecallF ((ok__law_powers T B kf).mono (by decide)) ck.toCal T.g__law_powers T.k__law_powers B.b__law_powers (dcons (dlc (own := [("_law_one", 6)]) (W0 := noW) ck.toCal.calm nd (dit (dtake 1)) (blk_of (N := ["_law_pen_here", "_law_lots", "_law_found", "_law_lap", "_law_powers_here", "_law_k", "_law_one"]) (sc := defScope s__law_ratios) (by decide +kernel)) (fun _ _ _ _ _ => (gname (wpR_ok (vs := [6])) nd (by decide) (i := 6))) (fun _ _ _ _ _ => dyes) (fun _ _ _ _ _ => (dtup (dcons (dtake 6) (dcons dint dnil))))) (dcons (dtake 4) dnil)))))))) (sone (sret (dmove 2)))))))
  exact fnG B.u__law_ratios c__law_ratios hb (len__law_ratios K c) (h__law_ratios K c kf)
theorem c__law_refused : FnScope ["_law_kind", "_law_values", "e"] ["_law_kind", "_law_values"] (defScope s__law_refused) := ⟨rfl, rfl, rfl, by decide +kernel, rfl, by decide +kernel, by decide +kernel⟩
theorem ok__law_refused (T : Txt K mg c a) (B : Bnd K c a) (kf : KF K c) : FnG P w K mg base 7 a.a__law_refused a.d__law_refused ["_law_kind", "_law_values"] (spL K (sp__law_refused K c)) := by
  have hb : BodyD P w K mg base ["_law_kind", "_law_values", "e"] "_law_refused" s__law_refused 6 (w__law_refused K c) := fun f cdv A outer s H E ck => by
    have nd := ck.nd
    exact (scons (dtry ck rfl rfl (fun _ _ _ ck => (sone (sif (dtcmp (oEqv ck.toCal.hu64) (dtake 0) dint) (sone (sexp (ecallF ((ok_coprime_base T B kf).mono (by decide)) ck.toCal T.g_coprime_base T.k_coprime_base B.b_coprime_base (dcons (dtake 1) dnil)))) (sone (sif (dtcmp (oEqv ck.toCal.hu64) (dtake 0) dint) (sone (sexp (ecallF ((ok_relations T B kf).mono (by decide)) ck.toCal T.g_relations T.k_relations B.b_relations (dcons (dtake 1) dnil)))) (sone (sexp (ecallFD (b := false) ((ok_as_powers T B kf).mono (by decide)) ck.toCal T.g_as_powers T.k_as_powers B.b_as_powers (dcons (dix ck.toCal.hu (dtake 1) dint) (dcons (dslice (dtake 1) (dosome dint) dono) dnil)))))))))) (.cons (i := 2) rfl rfl ⟨rfl, by decide, .inl T.g_BadNumber⟩ (fun xa xo xc xd xp hz hf => (sone (sret (dtup (dcons (dxf hz hf (dvar 2)) (dcons (dcallB (cRepr ck.toCal.gds ck.toCal.hu64) T.n_repr (dcons (dxf hz hf (dvar 2)) dnil)) dnil)))))) .nil)) (sone (sret dnon)))
  exact fnG B.u__law_refused c__law_refused hb (len__law_refused K c) (h__law_refused K c kf)
theorem c_law : FnScope ["_law_script", "_law_pen_here", "_law_turn", "_law_ratios_here", "_law_passed_here", "_law_told", "_law_wrong", "_law_last", "_law_kind", "_law_one"] ["_law_script"] (defScope s_law) := ⟨rfl, rfl, rfl, by decide +kernel, rfl, by decide +kernel, by decide +kernel⟩
theorem ok_law (T : Txt K mg c a) (B : Bnd K c a) (kf : KF K c) : FnG P w K mg base 8 a.a_law a.d_law ["_law_script"] (spL K (sp_law K c)) := by
  have hb : BodyD P w K mg base ["_law_script", "_law_pen_here", "_law_turn", "_law_ratios_here", "_law_passed_here", "_law_told", "_law_wrong", "_law_last", "_law_kind", "_law_one"] "law" s_law 7 (w_law K c) := fun f cdv A outer s H E ck => by
    have nd := ck.nd
    exact (scons (sset (i := 1) nd (ecallF ((ok__law_pen T B kf).mono (by decide)) ck.toCal T.g__law_pen T.k__law_pen B.b__law_pen (dcons (dtake 0) dnil))) (scons (sfor ck.po ck.calm (drng1 T.n_range (dcons dint dnil)) (gname (anyR_ok (is := [2])) nd (.head _) (i := 2)) (scons (sset (i := 3) nd (ecallF ((ok__law_ratios T B kf).mono (by decide)) ck.toCal T.g__law_ratios T.k__law_ratios B.b__law_ratios (dcons (dvar 1) dnil))) (scons (slc (i := 4) (own := [("_law_one", 9)]) (W0 := noW) ck.toCal.calm nd rfl rfl rfl (dit (dtake 3)) (blk_of (N := ["_law_script", "_law_pen_here", "_law_turn", "_law_ratios_here", "_law_passed_here", "_law_told", "_law_wrong", "_law_last", "_law_kind", "_law_one"]) (sc := defScope s_law) (by decide +kernel)) (fun _ _ _ _ _ => (gname (wpR_ok (vs := [9])) nd (by decide) (i := 9))) (fun _ _ _ _ _ => dyes) (fun _ _ _ _ _ => (ecallF ((ok__law_passed T B kf).mono (by decide)) ck.toCal.blk T.g__law_passed T.k__law_passed B.b__law_passed (dcons (dvar 1) (dcons (dtake 9) dnil))))) (scons (sset (i := 5) nd (ecallF ((ok_coprime_base T B kf).mono (by decide)) ck.toCal T.g_coprime_base T.k_coprime_base B.b_coprime_base (dcons (ecallF ((ok__law_pick T B kf).mono (by decide)) ck.toCal T.g__law_pick T.k__law_pick B.b__law_pick (dcons (dvar 1) (dcons (dlst (dcons (dtake 4) (dcons (dcallTy cTup T.n_tuple (dcons (dtake 4) dnil)) dnil))) dnil))) dnil))) (scons (sif (dnot (dtru (ecallF ((ok__law_is_base T B kf).mono (by decide)) ck.toCal T.g__law_is_base T.k__law_is_base B.b__law_is_base (dcons (dtake 5) (dcons (dtake 3) dnil))))) (sone (sret dbl)) snil) (scons (sif ((dand (dtcmp (oEqv ck.toCal.hu64) (dlc (own := [("_law_one", 9)]) (W0 := noW) ck.toCal.calm nd (dit (dtake 3)) (blk_of (N := ["_law_script", "_law_pen_here", "_law_turn", "_law_ratios_here", "_law_passed_here", "_law_told", "_law_wrong", "_law_last", "_law_kind", "_law_one"]) (sc := defScope s_law) (by decide +kernel)) (fun _ _ _ _ _ => (gname (wpR_ok (vs := [9])) nd (by decide) (i := 9))) (fun _ _ _ _ _ => (dtest (dtcmp (oNev ck.toCal.blk.hu64) (dtake 9) (dtup (dcons dint (dcons dint dnil)))))) (fun _ _ _ _ _ => (dtake 9))) (dlst dnil)) (dand1 (dtcmp (oNev ck.toCal.hu64) (dtake 5) (dtup dnil))))).pt (sone (sret dbl)) snil) (scons (sset (i := 6) nd (dix ck.toCal.hu (dlst (dcons dnon (dcons dint (dcons (dun oNeg dint) (dcons (dtup (dcons (dun oNeg dint) (dcons dint dnil))) (dcons (dtup (dcons dint (dcons dint dnil))) (dcons dstr (dcons dbl (dcons (dlst (dcons dint (dcons dint dnil))) (dcons (dtup (dcons dint (dcons dint dnil))) dnil)))))))))) (ecallF ((ok__law_draw T B kf).mono (by decide)) ck.toCal T.g__law_draw T.k__law_draw B.b__law_draw (dcons (dvar 1) (dcons dint dnil))))) (scons (sset (i := 7) nd (dix ck.toCal.hu (dlst (dcons dnon (dcons dint (dcons dstr dnil)))) (ecallF ((ok__law_draw T B kf).mono (by decide)) ck.toCal T.g__law_draw T.k__law_draw B.b__law_draw (dcons (dvar 1) (dcons dint dnil))))) (sone (sfor ck.po ck.calm (drng1 T.n_range (dcons dint dnil)) (gname (anyR_ok (is := [8])) nd (.head _) (i := 8)) (scons (sif (dtcmp (oNev ck.toCal.hu64) (ecallF ((ok__law_refused T B kf).mono (by decide)) ck.toCal T.g__law_refused T.k__law_refused B.b__law_refused (dcons (dtake 8) (dcons (dlst (dcons dint (dcons (dtake 6) (dcons (dtake 7) dnil)))) dnil))) (dtup (dcons dstr (dcons (dcallB (cRepr ck.toCal.gds ck.toCal.hu64) T.n_repr (dcons (dtake 6) dnil)) dnil)))) (sone (sret dbl)) snil) (sone (sif (dtcmp (oNev ck.toCal.hu64) (ecallF ((ok__law_refused T B kf).mono (by decide)) ck.toCal T.g__law_refused T.k__law_refused B.b__law_refused (dcons (dtake 8) (dcons (dlst (dcons (dtake 6) (dcons (dtake 7) dnil))) dnil))) (dtup (dcons dstr (dcons (dcallB (cRepr ck.toCal.gds ck.toCal.hu64) T.n_repr (dcons (dtake 6) dnil)) dnil)))) (sone (sret dbl)) snil))))))))))))) (sone (sret (dandV (dcmp (oEqv ck.toCal.hu64) (ecallF ((ok_coprime_base T B kf).mono (by decide)) ck.toCal T.g_coprime_base T.k_coprime_base B.b_coprime_base (dcons (dlst dnil) dnil)) (dtup dnil)) (done1 (dcmp (oEqv ck.toCal.hu64) (ecallF ((ok_coprime_base T B kf).mono (by decide)) ck.toCal T.g_coprime_base T.k_coprime_base B.b_coprime_base (dcons (dlst (dcons dint (dcons (dtup (dcons dint (dcons dint dnil))) dnil))) dnil)) (dtup dnil))))))))
  exact fnG B.u_law c_law hb (len_law K c) (h_law K c kf)
end K90

end K90_B
section K90_E
set_option Elab.async false
set_option linter.all false
set_option maxRecDepth 100000
set_option maxHeartbeats 4000000
/-! K90_E: what the top has written, the head (written by dlgen.py). -/
namespace K90
open PySem PySem.Spec PyProof.Rows L2 DL
theorem all_mk {l : PySem.W.OpenLaw} {w : World} {K : PySem.W.Frag} {h : Heap} {mg : Str → Option Value} {fa C_BadNumber f0 f1 f2 f3 f4 f5 f6 f7 f8 f9 f10 f11 f12 f13 f14 f15 f16 f17 f18 f19 f20 f21 f22 f23 f24 f25 f26 f27 : Addr} {od0 an0 od1 an1 od2 an2 od3 an3 od4 an4 od5 an5 od6 an6 od7 an7 od8 an8 od9 an9 od10 an10 od11 an11 od12 an12 od13 an13 od14 an14 od15 an15 od16 an16 od17 an17 od18 an18 od19 an19 od20 an20 od21 an21 od22 an22 od23 an23 od24 an24 od25 an25 od26 an26 od27 an27 : Option Addr} {sl0 sl1 sl2 sl3 sl4 sl5 sl6 sl7 sl8 sl9 sl10 sl11 sl12 sl13 sl14 sl15 sl16 sl17 sl18 sl19 sl20 sl21 sl22 sl23 sl24 sl25 sl26 sl27 : Array (Option Value)} {oc0 kV0 dc0 pm0 cd0 ct0 oc1 kV1 dc1 pm1 cd1 ct1 oc2 kV2 dc2 pm2 cd2 ct2 oc3 kV3 dc3 pm3 cd3 ct3 oc4 kV4 dc4 pm4 cd4 ct4 oc5 kV5 dc5 pm5 cd5 ct5 oc6 kV6 dc6 pm6 cd6 ct6 oc7 kV7 dc7 pm7 cd7 ct7 oc8 kV8 dc8 pm8 cd8 ct8 oc9 kV9 dc9 pm9 cd9 ct9 oc10 kV10 dc10 pm10 cd10 ct10 oc11 kV11 dc11 pm11 cd11 ct11 oc12 kV12 dc12 pm12 cd12 ct12 oc13 kV13 dc13 pm13 cd13 ct13 oc14 kV14 dc14 pm14 cd14 ct14 oc15 kV15 dc15 pm15 cd15 ct15 oc16 kV16 dc16 pm16 cd16 ct16 oc17 kV17 dc17 pm17 cd17 ct17 oc18 kV18 dc18 pm18 cd18 ct18 oc19 kV19 dc19 pm19 cd19 ct19 oc20 kV20 dc20 pm20 cd20 ct20 oc21 kV21 dc21 pm21 cd21 ct21 oc22 kV22 dc22 pm22 cd22 ct22 oc23 kV23 dc23 pm23 cd23 ct23 oc24 kV24 dc24 pm24 cd24 ct24 oc25 kV25 dc25 pm25 cd25 ct25 oc26 kV26 dc26 pm26 cd26 ct26 oc27 kV27 dc27 pm27 cd27 ct27 : Value} {ft11 : Addr} {oct11 : Value} {odt11 : Option Addr} {nt11 : Nat} {slt11 : Array (Option Value)} {fx_BadNumber N_BadNumber : Addr} {nm_BadNumber q_BadNumber : Str} {bs_BadNumber bm_BadNumber sub_BadNumber : List Value} {sn_BadNumber : List Str} {ab_BadNumber : Bool} {col_BadNumber : Option Bool} {dd_BadNumber odx_BadNumber anx_BadNumber : Option Addr} {k0_BadNumber k1_BadNumber k2_BadNumber k3_BadNumber k5_BadNumber : Option Value} {slx_BadNumber : Array (Option Value)} {ocx_BadNumber kVx_BadNumber dcx_BadNumber pmx_BadNumber cdx_BadNumber ctx_BadNumber : Value} (X : K.In h) (G : h.Ns mainGlobals mg) (hfa : mg "law" = some (.ref fa))
    (a0 : PySem.W.nsIn K mainGlobals "common_divisor" = some (some (.ref f0)))
    (l0 : K.lookup f0 = some ⟨oc0, od0, .func (PySem.W.fnOf "common_divisor" "common_divisor" (defArgs s_common_divisor) (defBody s_common_divisor) (defScope s_common_divisor) .none kV0 dc0 pm0 an0 cd0 ct0), sl0⟩)
    (c0 : PySem.W.codeIn K cd0 "common_divisor" = true)
    (k0 : PySem.W.keepIn K (.ref f0) = true)
    (a1 : PySem.W.nsIn K mainGlobals "lowest" = some (some (.ref f1)))
    (l1 : K.lookup f1 = some ⟨oc1, od1, .func (PySem.W.fnOf "lowest" "lowest" (defArgs s_lowest) (defBody s_lowest) (defScope s_lowest) .none kV1 dc1 pm1 an1 cd1 ct1), sl1⟩)
    (c1 : PySem.W.codeIn K cd1 "lowest" = true)
    (k1 : PySem.W.keepIn K (.ref f1) = true)
    (a2 : PySem.W.nsIn K mainGlobals "is_whole" = some (some (.ref f2)))
    (l2 : K.lookup f2 = some ⟨oc2, od2, .func (PySem.W.fnOf "is_whole" "is_whole" (defArgs s_is_whole) (defBody s_is_whole) (defScope s_is_whole) .none kV2 dc2 pm2 an2 cd2 ct2), sl2⟩)
    (c2 : PySem.W.codeIn K cd2 "is_whole" = true)
    (k2 : PySem.W.keepIn K (.ref f2) = true)
    (a3 : PySem.W.nsIn K mainGlobals "is_ratio" = some (some (.ref f3)))
    (l3 : K.lookup f3 = some ⟨oc3, od3, .func (PySem.W.fnOf "is_ratio" "is_ratio" (defArgs s_is_ratio) (defBody s_is_ratio) (defScope s_is_ratio) .none kV3 dc3 pm3 an3 cd3 ct3), sl3⟩)
    (c3 : PySem.W.codeIn K cd3 "is_ratio" = true)
    (k3 : PySem.W.keepIn K (.ref f3) = true)
    (a4 : PySem.W.nsIn K mainGlobals "told" = some (some (.ref f4)))
    (l4 : K.lookup f4 = some ⟨oc4, od4, .func (PySem.W.fnOf "told" "told" (defArgs s_told) (defBody s_told) (defScope s_told) .none kV4 dc4 pm4 an4 cd4 ct4), sl4⟩)
    (c4 : PySem.W.codeIn K cd4 "told" = true)
    (k4 : PySem.W.keepIn K (.ref f4) = true)
    (a5 : PySem.W.nsIn K mainGlobals "times" = some (some (.ref f5)))
    (l5 : K.lookup f5 = some ⟨oc5, od5, .func (PySem.W.fnOf "times" "times" (defArgs s_times) (defBody s_times) (defScope s_times) .none kV5 dc5 pm5 an5 cd5 ct5), sl5⟩)
    (c5 : PySem.W.codeIn K cd5 "times" = true)
    (k5 : PySem.W.keepIn K (.ref f5) = true)
    (a6 : PySem.W.nsIn K mainGlobals "told_above" = some (some (.ref f6)))
    (l6 : K.lookup f6 = some ⟨oc6, od6, .func (PySem.W.fnOf "told_above" "told_above" (defArgs s_told_above) (defBody s_told_above) (defScope s_told_above) .none kV6 dc6 pm6 an6 cd6 ct6), sl6⟩)
    (c6 : PySem.W.codeIn K cd6 "told_above" = true)
    (k6 : PySem.W.keepIn K (.ref f6) = true)
    (a7 : PySem.W.nsIn K mainGlobals "refined" = some (some (.ref f7)))
    (l7 : K.lookup f7 = some ⟨oc7, od7, .func (PySem.W.fnOf "refined" "refined" (defArgs s_refined) (defBody s_refined) (defScope s_refined) .none kV7 dc7 pm7 an7 cd7 ct7), sl7⟩)
    (c7 : PySem.W.codeIn K cd7 "refined" = true)
    (k7 : PySem.W.keepIn K (.ref f7) = true)
    (a8 : PySem.W.nsIn K mainGlobals "base_of" = some (some (.ref f8)))
    (l8 : K.lookup f8 = some ⟨oc8, od8, .func (PySem.W.fnOf "base_of" "base_of" (defArgs s_base_of) (defBody s_base_of) (defScope s_base_of) .none kV8 dc8 pm8 an8 cd8 ct8), sl8⟩)
    (c8 : PySem.W.codeIn K cd8 "base_of" = true)
    (k8 : PySem.W.keepIn K (.ref f8) = true)
    (a9 : PySem.W.nsIn K mainGlobals "coprime_base" = some (some (.ref f9)))
    (l9 : K.lookup f9 = some ⟨oc9, od9, .func (PySem.W.fnOf "coprime_base" "coprime_base" (defArgs s_coprime_base) (defBody s_coprime_base) (defScope s_coprime_base) .none kV9 dc9 pm9 an9 cd9 ct9), sl9⟩)
    (c9 : PySem.W.codeIn K cd9 "coprime_base" = true)
    (k9 : PySem.W.keepIn K (.ref f9) = true)
    (a10 : PySem.W.nsIn K mainGlobals "relations" = some (some (.ref f10)))
    (l10 : K.lookup f10 = some ⟨oc10, od10, .func (PySem.W.fnOf "relations" "relations" (defArgs s_relations) (defBody s_relations) (defScope s_relations) .none kV10 dc10 pm10 an10 cd10 ct10), sl10⟩)
    (c10 : PySem.W.codeIn K cd10 "relations" = true)
    (k10 : PySem.W.keepIn K (.ref f10) = true)
    (a11 : PySem.W.nsIn K mainGlobals "as_powers" = some (some (.ref f11)))
    (l11 : K.lookup f11 = some ⟨oc11, od11, .func (PySem.W.fnOf "as_powers" "as_powers" (defArgs s_as_powers) (defBody s_as_powers) (defScope s_as_powers) (.ref ft11) kV11 dc11 pm11 an11 cd11 ct11), sl11⟩)
    (c11 : PySem.W.codeIn K cd11 "as_powers" = true)
    (k11 : PySem.W.keepIn K (.ref f11) = true)
    (a12 : PySem.W.nsIn K mainGlobals "_law_pen" = some (some (.ref f12)))
    (l12 : K.lookup f12 = some ⟨oc12, od12, .func (PySem.W.fnOf "_law_pen" "_law_pen" (defArgs s__law_pen) (defBody s__law_pen) (defScope s__law_pen) .none kV12 dc12 pm12 an12 cd12 ct12), sl12⟩)
    (c12 : PySem.W.codeIn K cd12 "_law_pen" = true)
    (k12 : PySem.W.keepIn K (.ref f12) = true)
    (a13 : PySem.W.nsIn K mainGlobals "_law_draw" = some (some (.ref f13)))
    (l13 : K.lookup f13 = some ⟨oc13, od13, .func (PySem.W.fnOf "_law_draw" "_law_draw" (defArgs s__law_draw) (defBody s__law_draw) (defScope s__law_draw) .none kV13 dc13 pm13 an13 cd13 ct13), sl13⟩)
    (c13 : PySem.W.codeIn K cd13 "_law_draw" = true)
    (k13 : PySem.W.keepIn K (.ref f13) = true)
    (a14 : PySem.W.nsIn K mainGlobals "_law_pick" = some (some (.ref f14)))
    (l14 : K.lookup f14 = some ⟨oc14, od14, .func (PySem.W.fnOf "_law_pick" "_law_pick" (defArgs s__law_pick) (defBody s__law_pick) (defScope s__law_pick) .none kV14 dc14 pm14 an14 cd14 ct14), sl14⟩)
    (c14 : PySem.W.codeIn K cd14 "_law_pick" = true)
    (k14 : PySem.W.keepIn K (.ref f14) = true)
    (a15 : PySem.W.nsIn K mainGlobals "_law_big" = some (some (.ref f15)))
    (l15 : K.lookup f15 = some ⟨oc15, od15, .func (PySem.W.fnOf "_law_big" "_law_big" (defArgs s__law_big) (defBody s__law_big) (defScope s__law_big) .none kV15 dc15 pm15 an15 cd15 ct15), sl15⟩)
    (c15 : PySem.W.codeIn K cd15 "_law_big" = true)
    (k15 : PySem.W.keepIn K (.ref f15) = true)
    (a16 : PySem.W.nsIn K mainGlobals "_law_gcd" = some (some (.ref f16)))
    (l16 : K.lookup f16 = some ⟨oc16, od16, .func (PySem.W.fnOf "_law_gcd" "_law_gcd" (defArgs s__law_gcd) (defBody s__law_gcd) (defScope s__law_gcd) .none kV16 dc16 pm16 an16 cd16 ct16), sl16⟩)
    (c16 : PySem.W.codeIn K cd16 "_law_gcd" = true)
    (k16 : PySem.W.keepIn K (.ref f16) = true)
    (a17 : PySem.W.nsIn K mainGlobals "_law_q" = some (some (.ref f17)))
    (l17 : K.lookup f17 = some ⟨oc17, od17, .func (PySem.W.fnOf "_law_q" "_law_q" (defArgs s__law_q) (defBody s__law_q) (defScope s__law_q) .none kV17 dc17 pm17 an17 cd17 ct17), sl17⟩)
    (c17 : PySem.W.codeIn K cd17 "_law_q" = true)
    (k17 : PySem.W.keepIn K (.ref f17) = true)
    (a18 : PySem.W.nsIn K mainGlobals "_law_times" = some (some (.ref f18)))
    (l18 : K.lookup f18 = some ⟨oc18, od18, .func (PySem.W.fnOf "_law_times" "_law_times" (defArgs s__law_times) (defBody s__law_times) (defScope s__law_times) .none kV18 dc18 pm18 an18 cd18 ct18), sl18⟩)
    (c18 : PySem.W.codeIn K cd18 "_law_times" = true)
    (k18 : PySem.W.keepIn K (.ref f18) = true)
    (a19 : PySem.W.nsIn K mainGlobals "_law_is_whole" = some (some (.ref f19)))
    (l19 : K.lookup f19 = some ⟨oc19, od19, .func (PySem.W.fnOf "_law_is_whole" "_law_is_whole" (defArgs s__law_is_whole) (defBody s__law_is_whole) (defScope s__law_is_whole) .none kV19 dc19 pm19 an19 cd19 ct19), sl19⟩)
    (c19 : PySem.W.codeIn K cd19 "_law_is_whole" = true)
    (k19 : PySem.W.keepIn K (.ref f19) = true)
    (a20 : PySem.W.nsIn K mainGlobals "_law_passed" = some (some (.ref f20)))
    (l20 : K.lookup f20 = some ⟨oc20, od20, .func (PySem.W.fnOf "_law_passed" "_law_passed" (defArgs s__law_passed) (defBody s__law_passed) (defScope s__law_passed) .none kV20 dc20 pm20 an20 cd20 ct20), sl20⟩)
    (c20 : PySem.W.codeIn K cd20 "_law_passed" = true)
    (k20 : PySem.W.keepIn K (.ref f20) = true)
    (a21 : PySem.W.nsIn K mainGlobals "_law_power" = some (some (.ref f21)))
    (l21 : K.lookup f21 = some ⟨oc21, od21, .func (PySem.W.fnOf "_law_power" "_law_power" (defArgs s__law_power) (defBody s__law_power) (defScope s__law_power) .none kV21 dc21 pm21 an21 cd21 ct21), sl21⟩)
    (c21 : PySem.W.codeIn K cd21 "_law_power" = true)
    (k21 : PySem.W.keepIn K (.ref f21) = true)
    (a22 : PySem.W.nsIn K mainGlobals "_law_powers" = some (some (.ref f22)))
    (l22 : K.lookup f22 = some ⟨oc22, od22, .func (PySem.W.fnOf "_law_powers" "_law_powers" (defArgs s__law_powers) (defBody s__law_powers) (defScope s__law_powers) .none kV22 dc22 pm22 an22 cd22 ct22), sl22⟩)
    (c22 : PySem.W.codeIn K cd22 "_law_powers" = true)
    (k22 : PySem.W.keepIn K (.ref f22) = true)
    (a23 : PySem.W.nsIn K mainGlobals "_law_base_powers" = some (some (.ref f23)))
    (l23 : K.lookup f23 = some ⟨oc23, od23, .func (PySem.W.fnOf "_law_base_powers" "_law_base_powers" (defArgs s__law_base_powers) (defBody s__law_base_powers) (defScope s__law_base_powers) .none kV23 dc23 pm23 an23 cd23 ct23), sl23⟩)
    (c23 : PySem.W.codeIn K cd23 "_law_base_powers" = true)
    (k23 : PySem.W.keepIn K (.ref f23) = true)
    (a24 : PySem.W.nsIn K mainGlobals "_law_is_base" = some (some (.ref f24)))
    (l24 : K.lookup f24 = some ⟨oc24, od24, .func (PySem.W.fnOf "_law_is_base" "_law_is_base" (defArgs s__law_is_base) (defBody s__law_is_base) (defScope s__law_is_base) .none kV24 dc24 pm24 an24 cd24 ct24), sl24⟩)
    (c24 : PySem.W.codeIn K cd24 "_law_is_base" = true)
    (k24 : PySem.W.keepIn K (.ref f24) = true)
    (a25 : PySem.W.nsIn K mainGlobals "_law_ratios" = some (some (.ref f25)))
    (l25 : K.lookup f25 = some ⟨oc25, od25, .func (PySem.W.fnOf "_law_ratios" "_law_ratios" (defArgs s__law_ratios) (defBody s__law_ratios) (defScope s__law_ratios) .none kV25 dc25 pm25 an25 cd25 ct25), sl25⟩)
    (c25 : PySem.W.codeIn K cd25 "_law_ratios" = true)
    (k25 : PySem.W.keepIn K (.ref f25) = true)
    (a26 : PySem.W.nsIn K mainGlobals "_law_refused" = some (some (.ref f26)))
    (l26 : K.lookup f26 = some ⟨oc26, od26, .func (PySem.W.fnOf "_law_refused" "_law_refused" (defArgs s__law_refused) (defBody s__law_refused) (defScope s__law_refused) .none kV26 dc26 pm26 an26 cd26 ct26), sl26⟩)
    (c26 : PySem.W.codeIn K cd26 "_law_refused" = true)
    (k26 : PySem.W.keepIn K (.ref f26) = true)
    (a27 : PySem.W.nsIn K mainGlobals "law" = some (some (.ref f27)))
    (l27 : K.lookup f27 = some ⟨oc27, od27, .func (PySem.W.fnOf "law" "law" (defArgs s_law) (defBody s_law) (defScope s_law) .none kV27 dc27 pm27 an27 cd27 ct27), sl27⟩)
    (c27 : PySem.W.codeIn K cd27 "law" = true)
    (k27 : PySem.W.keepIn K (.ref f27) = true)
    (lt11 : K.lookup ft11 = some ⟨oct11, odt11, .seq [Value.bool false].toArray nt11, slt11⟩)
    (aC_BadNumber : PySem.W.nsIn K mainGlobals "BadNumber" = some (some (.ref C_BadNumber)))
    (xl_BadNumber : K.lookup C_BadNumber = some (excClassObj nm_BadNumber q_BadNumber C_BadNumber N_BadNumber bs_BadNumber bm_BadNumber true sn_BadNumber sub_BadNumber ab_BadNumber col_BadNumber dd_BadNumber k0_BadNumber k1_BadNumber k2_BadNumber k3_BadNumber k5_BadNumber "ValueError.__new__"))
    (xr_BadNumber : PySem.HandSPX.refsVE bm_BadNumber = true)
    (xs_BadNumber : PySem.W.findIn K (.ref C_BadNumber) "__setattr__" = some (some (.builtin "object.__setattr__")))
    (xb_BadNumber : PySem.W.subIn K (.ref C_BadNumber) (.type "BaseException") = some true)
    (xy_BadNumber : PySem.W.typeIn K (.ref C_BadNumber) = some (.type "type"))
    (xk_BadNumber : PySem.W.keepIn K (.ref C_BadNumber) = true)
    (xga_BadNumber : PySem.W.findIn K (.ref C_BadNumber) "__getattribute__" = some (some (.builtin "BaseException.__getattribute__")))
    (xgg_BadNumber : PySem.W.findIn K (.ref C_BadNumber) "__getattr__" = some none)
    (xhd_BadNumber : PySem.W.hasDictIn K C_BadNumber = true)
    (xi_BadNumber : PySem.W.findIn K (.ref C_BadNumber) "__init__" = some (some (.ref fx_BadNumber)))
    (xt_BadNumber : PySem.W.typeIn K (.ref fx_BadNumber) = some (.type "function"))
    (lx_BadNumber : K.lookup fx_BadNumber = some ⟨ocx_BadNumber, odx_BadNumber, .func (PySem.W.fnOf "__init__" "BadNumber.__init__" (defArgs s_BadNumber) (defBody s_BadNumber) (defScope s_BadNumber) .none kVx_BadNumber dcx_BadNumber pmx_BadNumber anx_BadNumber cdx_BadNumber ctx_BadNumber), slx_BadNumber⟩)
    (cx_BadNumber : PySem.W.codeIn K cdx_BadNumber "BadNumber.__init__" = true)
    (kx_BadNumber : PySem.W.keepIn K (.ref fx_BadNumber) = true)
    (xn_BadNumber_what : PySem.W.findIn K (.ref C_BadNumber) "what" = some none)
    (xn_BadNumber_number : PySem.W.findIn K (.ref C_BadNumber) "number" = some none)
    (xm_BadNumber_BadNumber : PySem.W.exmOne K (.ref C_BadNumber) (.ref C_BadNumber) = some true)
    (z_abs : PySem.W.nsIn K mainGlobals "abs" = some none)
    (z_bool : PySem.W.nsIn K mainGlobals "bool" = some none)
    (z_int : PySem.W.nsIn K mainGlobals "int" = some none)
    (z_isinstance : PySem.W.nsIn K mainGlobals "isinstance" = some none)
    (z_len : PySem.W.nsIn K mainGlobals "len" = some none)
    (z_list : PySem.W.nsIn K mainGlobals "list" = some none)
    (z_range : PySem.W.nsIn K mainGlobals "range" = some none)
    (z_repr : PySem.W.nsIn K mainGlobals "repr" = some none)
    (z_sorted : PySem.W.nsIn K mainGlobals "sorted" = some none)
    (z_str : PySem.W.nsIn K mainGlobals "str" = some none)
    (z_tuple : PySem.W.nsIn K mainGlobals "tuple" = some none)
    (z_zip : PySem.W.nsIn K mainGlobals "zip" = some none)
    : ∃ fd : FuncData, (∀ (s : Shared) (v : Value), BindsTo s fd ⟨[v], []⟩ [("_law_script", v)]) ∧ ∃ sp : DSp, (∀ ns : List Int, ns.length ≤ 63 → spScript sp ns) ∧ ∀ base : Heap, K.In base → base.Ns mainGlobals mg → FnG l.prog w K mg base 8 fa fd ["_law_script"] (@spL ⟨[]⟩ K sp) := by
  have e := hfa.symm.trans (PySem.W.mg_of X G a27)
  cases e
  have F0 := L2.fun_mk (st := s_common_divisor) l0 c0 k0
  have F1 := L2.fun_mk (st := s_lowest) l1 c1 k1
  have F2 := L2.fun_mk (st := s_is_whole) l2 c2 k2
  have F3 := L2.fun_mk (st := s_is_ratio) l3 c3 k3
  have F4 := L2.fun_mk (st := s_told) l4 c4 k4
  have F5 := L2.fun_mk (st := s_times) l5 c5 k5
  have F6 := L2.fun_mk (st := s_told_above) l6 c6 k6
  have F7 := L2.fun_mk (st := s_refined) l7 c7 k7
  have F8 := L2.fun_mk (st := s_base_of) l8 c8 k8
  have F9 := L2.fun_mk (st := s_coprime_base) l9 c9 k9
  have F10 := L2.fun_mk (st := s_relations) l10 c10 k10
  have F11 := DL.funD_mk (st := s_as_powers) l11 c11 k11 lt11 rfl (.cons (show L2.RelV (.bl false) (Value.bool false) from rfl) .nil) (List.cons_ne_nil _ _)
  have F12 := L2.fun_mk (st := s__law_pen) l12 c12 k12
  have F13 := L2.fun_mk (st := s__law_draw) l13 c13 k13
  have F14 := L2.fun_mk (st := s__law_pick) l14 c14 k14
  have F15 := L2.fun_mk (st := s__law_big) l15 c15 k15
  have F16 := L2.fun_mk (st := s__law_gcd) l16 c16 k16
  have F17 := L2.fun_mk (st := s__law_q) l17 c17 k17
  have F18 := L2.fun_mk (st := s__law_times) l18 c18 k18
  have F19 := L2.fun_mk (st := s__law_is_whole) l19 c19 k19
  have F20 := L2.fun_mk (st := s__law_passed) l20 c20 k20
  have F21 := L2.fun_mk (st := s__law_power) l21 c21 k21
  have F22 := L2.fun_mk (st := s__law_powers) l22 c22 k22
  have F23 := L2.fun_mk (st := s__law_base_powers) l23 c23 k23
  have F24 := L2.fun_mk (st := s__law_is_base) l24 c24 k24
  have F25 := L2.fun_mk (st := s__law_ratios) l25 c25 k25
  have F26 := L2.fun_mk (st := s__law_refused) l26 c26 k26
  have F27 := L2.fun_mk (st := s_law) l27 c27 k27
  have Fx_BadNumber := L2.fun_mk (st := s_BadNumber) lx_BadNumber cx_BadNumber kx_BadNumber
  let c : Cl := ⟨C_BadNumber⟩
  let ad : Ad := {
    a_common_divisor := f0
    a_lowest := f1
    a_is_whole := f2
    a_is_ratio := f3
    a_told := f4
    a_times := f5
    a_told_above := f6
    a_refined := f7
    a_base_of := f8
    a_coprime_base := f9
    a_relations := f10
    a_as_powers := f11
    a__law_pen := f12
    a__law_draw := f13
    a__law_pick := f14
    a__law_big := f15
    a__law_gcd := f16
    a__law_q := f17
    a__law_times := f18
    a__law_is_whole := f19
    a__law_passed := f20
    a__law_power := f21
    a__law_powers := f22
    a__law_base_powers := f23
    a__law_is_base := f24
    a__law_ratios := f25
    a__law_refused := f26
    a_law := fa
    d_common_divisor := PySem.W.fnOf "common_divisor" "common_divisor" (defArgs s_common_divisor) (defBody s_common_divisor) (defScope s_common_divisor) .none kV0 dc0 pm0 an0 cd0 ct0
    d_lowest := PySem.W.fnOf "lowest" "lowest" (defArgs s_lowest) (defBody s_lowest) (defScope s_lowest) .none kV1 dc1 pm1 an1 cd1 ct1
    d_is_whole := PySem.W.fnOf "is_whole" "is_whole" (defArgs s_is_whole) (defBody s_is_whole) (defScope s_is_whole) .none kV2 dc2 pm2 an2 cd2 ct2
    d_is_ratio := PySem.W.fnOf "is_ratio" "is_ratio" (defArgs s_is_ratio) (defBody s_is_ratio) (defScope s_is_ratio) .none kV3 dc3 pm3 an3 cd3 ct3
    d_told := PySem.W.fnOf "told" "told" (defArgs s_told) (defBody s_told) (defScope s_told) .none kV4 dc4 pm4 an4 cd4 ct4
    d_times := PySem.W.fnOf "times" "times" (defArgs s_times) (defBody s_times) (defScope s_times) .none kV5 dc5 pm5 an5 cd5 ct5
    d_told_above := PySem.W.fnOf "told_above" "told_above" (defArgs s_told_above) (defBody s_told_above) (defScope s_told_above) .none kV6 dc6 pm6 an6 cd6 ct6
    d_refined := PySem.W.fnOf "refined" "refined" (defArgs s_refined) (defBody s_refined) (defScope s_refined) .none kV7 dc7 pm7 an7 cd7 ct7
    d_base_of := PySem.W.fnOf "base_of" "base_of" (defArgs s_base_of) (defBody s_base_of) (defScope s_base_of) .none kV8 dc8 pm8 an8 cd8 ct8
    d_coprime_base := PySem.W.fnOf "coprime_base" "coprime_base" (defArgs s_coprime_base) (defBody s_coprime_base) (defScope s_coprime_base) .none kV9 dc9 pm9 an9 cd9 ct9
    d_relations := PySem.W.fnOf "relations" "relations" (defArgs s_relations) (defBody s_relations) (defScope s_relations) .none kV10 dc10 pm10 an10 cd10 ct10
    d_as_powers := PySem.W.fnOf "as_powers" "as_powers" (defArgs s_as_powers) (defBody s_as_powers) (defScope s_as_powers) (.ref ft11) kV11 dc11 pm11 an11 cd11 ct11
    d__law_pen := PySem.W.fnOf "_law_pen" "_law_pen" (defArgs s__law_pen) (defBody s__law_pen) (defScope s__law_pen) .none kV12 dc12 pm12 an12 cd12 ct12
    d__law_draw := PySem.W.fnOf "_law_draw" "_law_draw" (defArgs s__law_draw) (defBody s__law_draw) (defScope s__law_draw) .none kV13 dc13 pm13 an13 cd13 ct13
    d__law_pick := PySem.W.fnOf "_law_pick" "_law_pick" (defArgs s__law_pick) (defBody s__law_pick) (defScope s__law_pick) .none kV14 dc14 pm14 an14 cd14 ct14
    d__law_big := PySem.W.fnOf "_law_big" "_law_big" (defArgs s__law_big) (defBody s__law_big) (defScope s__law_big) .none kV15 dc15 pm15 an15 cd15 ct15
    d__law_gcd := PySem.W.fnOf "_law_gcd" "_law_gcd" (defArgs s__law_gcd) (defBody s__law_gcd) (defScope s__law_gcd) .none kV16 dc16 pm16 an16 cd16 ct16
    d__law_q := PySem.W.fnOf "_law_q" "_law_q" (defArgs s__law_q) (defBody s__law_q) (defScope s__law_q) .none kV17 dc17 pm17 an17 cd17 ct17
    d__law_times := PySem.W.fnOf "_law_times" "_law_times" (defArgs s__law_times) (defBody s__law_times) (defScope s__law_times) .none kV18 dc18 pm18 an18 cd18 ct18
    d__law_is_whole := PySem.W.fnOf "_law_is_whole" "_law_is_whole" (defArgs s__law_is_whole) (defBody s__law_is_whole) (defScope s__law_is_whole) .none kV19 dc19 pm19 an19 cd19 ct19
    d__law_passed := PySem.W.fnOf "_law_passed" "_law_passed" (defArgs s__law_passed) (defBody s__law_passed) (defScope s__law_passed) .none kV20 dc20 pm20 an20 cd20 ct20
    d__law_power := PySem.W.fnOf "_law_power" "_law_power" (defArgs s__law_power) (defBody s__law_power) (defScope s__law_power) .none kV21 dc21 pm21 an21 cd21 ct21
    d__law_powers := PySem.W.fnOf "_law_powers" "_law_powers" (defArgs s__law_powers) (defBody s__law_powers) (defScope s__law_powers) .none kV22 dc22 pm22 an22 cd22 ct22
    d__law_base_powers := PySem.W.fnOf "_law_base_powers" "_law_base_powers" (defArgs s__law_base_powers) (defBody s__law_base_powers) (defScope s__law_base_powers) .none kV23 dc23 pm23 an23 cd23 ct23
    d__law_is_base := PySem.W.fnOf "_law_is_base" "_law_is_base" (defArgs s__law_is_base) (defBody s__law_is_base) (defScope s__law_is_base) .none kV24 dc24 pm24 an24 cd24 ct24
    d__law_ratios := PySem.W.fnOf "_law_ratios" "_law_ratios" (defArgs s__law_ratios) (defBody s__law_ratios) (defScope s__law_ratios) .none kV25 dc25 pm25 an25 cd25 ct25
    d__law_refused := PySem.W.fnOf "_law_refused" "_law_refused" (defArgs s__law_refused) (defBody s__law_refused) (defScope s__law_refused) .none kV26 dc26 pm26 an26 cd26 ct26
    d_law := PySem.W.fnOf "law" "law" (defArgs s_law) (defBody s_law) (defScope s_law) .none kV27 dc27 pm27 an27 cd27 ct27
    a_BadNumber := fx_BadNumber
    d_BadNumber := PySem.W.fnOf "__init__" "BadNumber.__init__" (defArgs s_BadNumber) (defBody s_BadNumber) (defScope s_BadNumber) .none kVx_BadNumber dcx_BadNumber pmx_BadNumber anx_BadNumber cdx_BadNumber ctx_BadNumber }
  have B : Bnd K c ad := {
    u_common_divisor := F0, b_common_divisor := F0.binds (ps := ["one", "two"]) fun _ _ _ _ _ _ us hl => match us, hl with | [_, _], _ => rfl
    u_lowest := F1, b_lowest := F1.binds (ps := ["top", "bottom"]) fun _ _ _ _ _ _ us hl => match us, hl with | [_, _], _ => rfl
    u_is_whole := F2, b_is_whole := F2.binds (ps := ["value"]) fun _ _ _ _ _ _ us hl => match us, hl with | [_], _ => rfl
    u_is_ratio := F3, b_is_ratio := F3.binds (ps := ["value"]) fun _ _ _ _ _ _ us hl => match us, hl with | [_], _ => rfl
    u_told := F4, b_told := F4.binds (ps := ["value", "what"]) fun _ _ _ _ _ _ us hl => match us, hl with | [_, _], _ => rfl
    u_times := F5, b_times := F5.binds (ps := ["one", "two"]) fun _ _ _ _ _ _ us hl => match us, hl with | [_, _], _ => rfl
    u_told_above := F6, b_told_above := F6.binds (ps := ["value", "what"]) fun _ _ _ _ _ _ us hl => match us, hl with | [_, _], _ => rfl
    u_refined := F7, b_refined := F7.binds (ps := ["numbers"]) fun _ _ _ _ _ _ us hl => match us, hl with | [_], _ => rfl
    u_base_of := F8, b_base_of := F8.binds (ps := ["ratios"]) fun _ _ _ _ _ _ us hl => match us, hl with | [_], _ => rfl
    u_coprime_base := F9, b_coprime_base := F9.binds (ps := ["ratios"]) fun _ _ _ _ _ _ us hl => match us, hl with | [_], _ => rfl
    u_relations := F10, b_relations := F10.binds (ps := ["ratios"]) fun _ _ _ _ _ _ us hl => match us, hl with | [_], _ => rfl
    u_as_powers := F11, b_as_powers := F11.binds1 (ps := ["ratio", "ratios", "roots"]) 2 0 (List.cons_ne_nil _ _) rfl fun _ _ _ _ _ _ _ us its hu hi => match us, its, hu, hi with | [_, _], [_], _, _ => ⟨_, rfl, rfl⟩
    u__law_pen := F12, b__law_pen := F12.binds (ps := ["_law_script"]) fun _ _ _ _ _ _ us hl => match us, hl with | [_], _ => rfl
    u__law_draw := F13, b__law_draw := F13.binds (ps := ["_law_pen_here", "_law_many"]) fun _ _ _ _ _ _ us hl => match us, hl with | [_, _], _ => rfl
    u__law_pick := F14, b__law_pick := F14.binds (ps := ["_law_pen_here", "_law_some"]) fun _ _ _ _ _ _ us hl => match us, hl with | [_, _], _ => rfl
    u__law_big := F15, b__law_big := F15.binds (ps := ["_law_pen_here", "_law_figures"]) fun _ _ _ _ _ _ us hl => match us, hl with | [_, _], _ => rfl
    u__law_gcd := F16, b__law_gcd := F16.binds (ps := ["_law_one", "_law_two"]) fun _ _ _ _ _ _ us hl => match us, hl with | [_, _], _ => rfl
    u__law_q := F17, b__law_q := F17.binds (ps := ["_law_top", "_law_bottom"]) fun _ _ _ _ _ _ us hl => match us, hl with | [_, _], _ => rfl
    u__law_times := F18, b__law_times := F18.binds (ps := ["_law_one", "_law_two"]) fun _ _ _ _ _ _ us hl => match us, hl with | [_, _], _ => rfl
    u__law_is_whole := F19, b__law_is_whole := F19.binds (ps := ["_law_value"]) fun _ _ _ _ _ _ us hl => match us, hl with | [_], _ => rfl
    u__law_passed := F20, b__law_passed := F20.binds (ps := ["_law_pen_here", "_law_ratio"]) fun _ _ _ _ _ _ us hl => match us, hl with | [_, _], _ => rfl
    u__law_power := F21, b__law_power := F21.binds (ps := ["_law_one", "_law_n"]) fun _ _ _ _ _ _ us hl => match us, hl with | [_, _], _ => rfl
    u__law_powers := F22, b__law_powers := F22.binds (ps := ["_law_ratios_here", "_law_exponents"]) fun _ _ _ _ _ _ us hl => match us, hl with | [_, _], _ => rfl
    u__law_base_powers := F23, b__law_base_powers := F23.binds (ps := ["_law_base", "_law_ratio"]) fun _ _ _ _ _ _ us hl => match us, hl with | [_, _], _ => rfl
    u__law_is_base := F24, b__law_is_base := F24.binds (ps := ["_law_base", "_law_ratios_here"]) fun _ _ _ _ _ _ us hl => match us, hl with | [_, _], _ => rfl
    u__law_ratios := F25, b__law_ratios := F25.binds (ps := ["_law_pen_here"]) fun _ _ _ _ _ _ us hl => match us, hl with | [_], _ => rfl
    u__law_refused := F26, b__law_refused := F26.binds (ps := ["_law_kind", "_law_values"]) fun _ _ _ _ _ _ us hl => match us, hl with | [_, _], _ => rfl
    u_law := F27, b_law := F27.binds (ps := ["_law_script"]) fun _ _ _ _ _ _ us hl => match us, hl with | [_], _ => rfl
    u_BadNumber := Fx_BadNumber, b_BadNumber := Fx_BadNumber.binds (ps := ["self", "what", "number"]) fun _ _ _ _ _ _ us hl => match us, hl with | [_, _, _], _ => rfl
  }
  have T : Txt K mg c ad := {
    g_common_divisor := PySem.W.mg_of X G a0
    k_common_divisor := k0
    g_lowest := PySem.W.mg_of X G a1
    k_lowest := k1
    g_is_whole := PySem.W.mg_of X G a2
    k_is_whole := k2
    g_is_ratio := PySem.W.mg_of X G a3
    k_is_ratio := k3
    g_told := PySem.W.mg_of X G a4
    k_told := k4
    g_times := PySem.W.mg_of X G a5
    k_times := k5
    g_told_above := PySem.W.mg_of X G a6
    k_told_above := k6
    g_refined := PySem.W.mg_of X G a7
    k_refined := k7
    g_base_of := PySem.W.mg_of X G a8
    k_base_of := k8
    g_coprime_base := PySem.W.mg_of X G a9
    k_coprime_base := k9
    g_relations := PySem.W.mg_of X G a10
    k_relations := k10
    g_as_powers := PySem.W.mg_of X G a11
    k_as_powers := k11
    g__law_pen := PySem.W.mg_of X G a12
    k__law_pen := k12
    g__law_draw := PySem.W.mg_of X G a13
    k__law_draw := k13
    g__law_pick := PySem.W.mg_of X G a14
    k__law_pick := k14
    g__law_big := PySem.W.mg_of X G a15
    k__law_big := k15
    g__law_gcd := PySem.W.mg_of X G a16
    k__law_gcd := k16
    g__law_q := PySem.W.mg_of X G a17
    k__law_q := k17
    g__law_times := PySem.W.mg_of X G a18
    k__law_times := k18
    g__law_is_whole := PySem.W.mg_of X G a19
    k__law_is_whole := k19
    g__law_passed := PySem.W.mg_of X G a20
    k__law_passed := k20
    g__law_power := PySem.W.mg_of X G a21
    k__law_power := k21
    g__law_powers := PySem.W.mg_of X G a22
    k__law_powers := k22
    g__law_base_powers := PySem.W.mg_of X G a23
    k__law_base_powers := k23
    g__law_is_base := PySem.W.mg_of X G a24
    k__law_is_base := k24
    g__law_ratios := PySem.W.mg_of X G a25
    k__law_ratios := k25
    g__law_refused := PySem.W.mg_of X G a26
    k__law_refused := k26
    g_law := PySem.W.mg_of X G a27
    k_law := k27
    g_BadNumber := PySem.W.mg_of X G aC_BadNumber
    n_abs := PySem.W.mg_none_of X G z_abs
    n_bool := PySem.W.mg_none_of X G z_bool
    n_int := PySem.W.mg_none_of X G z_int
    n_isinstance := PySem.W.mg_none_of X G z_isinstance
    n_len := PySem.W.mg_none_of X G z_len
    n_list := PySem.W.mg_none_of X G z_list
    n_range := PySem.W.mg_none_of X G z_range
    n_repr := PySem.W.mg_none_of X G z_repr
    n_sorted := PySem.W.mg_none_of X G z_sorted
    n_str := PySem.W.mg_none_of X G z_str
    n_tuple := PySem.W.mg_none_of X G z_tuple
    n_zip := PySem.W.mg_none_of X G z_zip
    xi_BadNumber := xi_BadNumber
    xt_BadNumber := xt_BadNumber
  }
  have kf : KF K c := { xo_BadNumber := ⟨⟨_, _, _, _, _, _, _, _, _, _, _, _, _, _, _, xl_BadNumber, xr_BadNumber⟩, xs_BadNumber, xb_BadNumber, xy_BadNumber, xk_BadNumber⟩, xf_BadNumber_what := ⟨⟨xga_BadNumber, xgg_BadNumber, xb_BadNumber, xhd_BadNumber⟩, xn_BadNumber_what⟩, xf_BadNumber_number := ⟨⟨xga_BadNumber, xgg_BadNumber, xb_BadNumber, xhd_BadNumber⟩, xn_BadNumber_number⟩, xm_BadNumber_BadNumber := xm_BadNumber_BadNumber }
  exact ⟨_, fun s v => .of_eq rfl, sp_law K c, script_ok K c, fun base _ _ => @ok_law ⟨[]⟩ _ _ _ _ _ _ _ T B kf⟩
end K90
open PySem PySem.W PyProof.Rows
set_option maxRecDepth 100000 in
set_option maxHeartbeats 0 in
theorem PySem.Challenge.cw_allscales_k90_whole_coprime_bases_holds : PySem.Challenge.rw_allscales_k90_whole_coprime_bases.Holds := by
  w_on; o_law; k_head; (case hw => w_witness2)
  k_fill
  refine DL.walkX (l := PySem.Challenge.rw_allscales_k90_whole_coprime_bases) (n := 63) (k := 8) (x := "_law_script") rfl (by decide) rfl ⟨rfl, by decide, by decide⟩ (fun w h Y => PySem.W.kIn_of Y) ?F
  case F =>
    intro w mg fa h KX G hmg
    refine' K90.all_mk KX G hmg ?a0 ?l0 ?c0 ?k0 ?a1 ?l1 ?c1 ?k1 ?a2 ?l2 ?c2 ?k2 ?a3 ?l3 ?c3 ?k3 ?a4 ?l4 ?c4 ?k4 ?a5 ?l5 ?c5 ?k5 ?a6 ?l6 ?c6 ?k6 ?a7 ?l7 ?c7 ?k7 ?a8 ?l8 ?c8 ?k8 ?a9 ?l9 ?c9 ?k9 ?a10 ?l10 ?c10 ?k10 ?a11 ?l11 ?c11 ?k11 ?a12 ?l12 ?c12 ?k12 ?a13 ?l13 ?c13 ?k13 ?a14 ?l14 ?c14 ?k14 ?a15 ?l15 ?c15 ?k15 ?a16 ?l16 ?c16 ?k16 ?a17 ?l17 ?c17 ?k17 ?a18 ?l18 ?c18 ?k18 ?a19 ?l19 ?c19 ?k19 ?a20 ?l20 ?c20 ?k20 ?a21 ?l21 ?c21 ?k21 ?a22 ?l22 ?c22 ?k22 ?a23 ?l23 ?c23 ?k23 ?a24 ?l24 ?c24 ?k24 ?a25 ?l25 ?c25 ?k25 ?a26 ?l26 ?c26 ?k26 ?a27 ?l27 ?c27 ?k27 ?lt11 ?aC_BadNumber ?xl_BadNumber ?xr_BadNumber ?xs_BadNumber ?xb_BadNumber ?xy_BadNumber ?xk_BadNumber ?xga_BadNumber ?xgg_BadNumber ?xhd_BadNumber ?xi_BadNumber ?xt_BadNumber ?lx_BadNumber ?cx_BadNumber ?kx_BadNumber ?xn_BadNumber_what ?xn_BadNumber_number ?xm_BadNumber_BadNumber ?z_abs ?z_bool ?z_int ?z_isinstance ?z_len ?z_list ?z_range ?z_repr ?z_sorted ?z_str ?z_tuple ?z_zip
    (case a0 => k_is)
    (case l0 => k_is)
    (case c0 => k_is)
    (case k0 => k_is)
    (case a1 => k_is)
    (case l1 => k_is)
    (case c1 => k_is)
    (case k1 => k_is)
    (case a2 => k_is)
    (case l2 => k_is)
    (case c2 => k_is)
    (case k2 => k_is)
    (case a3 => k_is)
    (case l3 => k_is)
    (case c3 => k_is)
    (case k3 => k_is)
    (case a4 => k_is)
    (case l4 => k_is)
    (case c4 => k_is)
    (case k4 => k_is)
    (case a5 => k_is)
    (case l5 => k_is)
    (case c5 => k_is)
    (case k5 => k_is)
    (case a6 => k_is)
    (case l6 => k_is)
    (case c6 => k_is)
    (case k6 => k_is)
    (case a7 => k_is)
    (case l7 => k_is)
    (case c7 => k_is)
    (case k7 => k_is)
    (case a8 => k_is)
    (case l8 => k_is)
    (case c8 => k_is)
    (case k8 => k_is)
    (case a9 => k_is)
    (case l9 => k_is)
    (case c9 => k_is)
    (case k9 => k_is)
    (case a10 => k_is)
    (case l10 => k_is)
    (case c10 => k_is)
    (case k10 => k_is)
    (case a11 => k_is)
    (case l11 => k_is)
    (case c11 => k_is)
    (case k11 => k_is)
    (case a12 => k_is)
    (case l12 => k_is)
    (case c12 => k_is)
    (case k12 => k_is)
    (case a13 => k_is)
    (case l13 => k_is)
    (case c13 => k_is)
    (case k13 => k_is)
    (case a14 => k_is)
    (case l14 => k_is)
    (case c14 => k_is)
    (case k14 => k_is)
    (case a15 => k_is)
    (case l15 => k_is)
    (case c15 => k_is)
    (case k15 => k_is)
    (case a16 => k_is)
    (case l16 => k_is)
    (case c16 => k_is)
    (case k16 => k_is)
    (case a17 => k_is)
    (case l17 => k_is)
    (case c17 => k_is)
    (case k17 => k_is)
    (case a18 => k_is)
    (case l18 => k_is)
    (case c18 => k_is)
    (case k18 => k_is)
    (case a19 => k_is)
    (case l19 => k_is)
    (case c19 => k_is)
    (case k19 => k_is)
    (case a20 => k_is)
    (case l20 => k_is)
    (case c20 => k_is)
    (case k20 => k_is)
    (case a21 => k_is)
    (case l21 => k_is)
    (case c21 => k_is)
    (case k21 => k_is)
    (case a22 => k_is)
    (case l22 => k_is)
    (case c22 => k_is)
    (case k22 => k_is)
    (case a23 => k_is)
    (case l23 => k_is)
    (case c23 => k_is)
    (case k23 => k_is)
    (case a24 => k_is)
    (case l24 => k_is)
    (case c24 => k_is)
    (case k24 => k_is)
    (case a25 => k_is)
    (case l25 => k_is)
    (case c25 => k_is)
    (case k25 => k_is)
    (case a26 => k_is)
    (case l26 => k_is)
    (case c26 => k_is)
    (case k26 => k_is)
    (case a27 => k_is)
    (case l27 => k_is)
    (case c27 => k_is)
    (case k27 => k_is)
    (case lt11 => k_is)
    (case aC_BadNumber => k_is)
    (case xl_BadNumber => k_is)
    (case xr_BadNumber => exact rfl)
    (case xs_BadNumber => k_is)
    (case xb_BadNumber => k_is)
    (case xy_BadNumber => k_is)
    (case xk_BadNumber => k_is)
    (case xga_BadNumber => k_is)
    (case xgg_BadNumber => k_is)
    (case xhd_BadNumber => k_is)
    (case xi_BadNumber => k_is)
    (case xt_BadNumber => k_is)
    (case lx_BadNumber => k_is)
    (case cx_BadNumber => k_is)
    (case kx_BadNumber => k_is)
    (case xn_BadNumber_what => k_is)
    (case xn_BadNumber_number => k_is)
    (case xm_BadNumber_BadNumber => kts_exm)
    (case z_abs => k_is)
    (case z_bool => k_is)
    (case z_int => k_is)
    (case z_isinstance => k_is)
    (case z_len => k_is)
    (case z_list => k_is)
    (case z_range => k_is)
    (case z_repr => k_is)
    (case z_sorted => k_is)
    (case z_str => k_is)
    (case z_tuple => k_is)
    (case z_zip => k_is)

end K90_E
