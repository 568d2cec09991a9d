import PyProof.Rows.All
import Wide.All
import OpenK.AllK
import Wide.FinOn
import HandS.Lambda
import HandS.ForMost
import HandS.ForExc
import HandS.ExcOwn
import HandS.TupAny
import HandS.TupMul
import HandS.TupLe
import HandS.Wide
import HandS.Gcd
import HandS.Style
import HandS.More
import HandS.Flow
import HandS.Iter
import HandS.Zip
import HandS.Comp
import KE.SortKeyHeap
import HandS.Conv
import KE.KDictSum
import HandS.DictComp
import HandS.TupSets
import HandS.Strs
import KE.KSortKey
import KE.DataFind
import PyProof.DictStraight
import PyProof.Rows.CallKwBuiltin
import HandS.EndTab
import HandS.Head2
import HandS.HeadHook4
import HandS.HeadNt
import HandS.Head3
import PySem.Challenge.RW_whyblank_k82_whole_which_weights_a_chang
set_option Elab.async false
set_option linter.all false
set_option maxRecDepth 100000
/-! value trees, the store, what stands for what -/
namespace PL
open PySem PySem.Spec PyProof.Rows L2

/-- a value as a tree. cell: a thing that changes, by its number; fld: the list or dict at a place of such a thing, of an edition -/
inductive T where
  | non | bl (b : Bool) | int (i : Int) | str (s : Str)
  | tup (xs : List T) | lst (xs : List T)
  | dct (ks : List T) (vs : List T)
  | obj (cn : String) (ns : List String) (fs : List T)
  | cell (i : Nat) | fld (i k ed : Nat)
  /-- the law's script: only cut -/
  | scr (xs : List Int)
  /-- a tuple that a loop makes -/
  | par (xs : List T)
instance : Inhabited T := ⟨.non⟩

/-- a list, a dict that changes -/
inductive M0 where
  | lst (xs : List T) | dct (ks vs : List T)
/-- at a place: what is only replaced; a list or dict of the owner's own -/
inductive FM where
  | val (t : T) | own (ed : Nat) (m : M0)
/-- what stands in a cell; frz: it changes no more -/
inductive MO where
  | one (m : M0) | rcl (fs : List FM) | ins (cn : String) (ns : List String) (fs : List FM) | frz (t : T)
abbrev Store := List MO

mutual
def T.pure : T → Bool
  | .non | .bl _ | .int _ | .str _ => true
  | .tup xs => T.pures xs
  | .par xs => T.pures xs
  | .lst xs => T.pures xs
  | .dct ks vs => T.pures ks && T.pures vs
  | .obj _ _ fs => T.pures fs
  | .cell _ | .fld _ _ _ | .scr _ => false
def T.pures : List T → Bool
  | [] => true
  | x :: xs => T.pure x && T.pures xs
end

structure Gh where
  F : Hp
  μ : List Addr
  ν : Nat → Nat → Nat → Option Addr
  ow : Addr → Option (Nat × Option Nat)
  /-- what nobody else touches for now -/
  L : Hp
structure Gh.Le0 (G G' : Gh) : Prop where
  f : ∀ a o, G.F a = some o → G'.F a = some o
  m : ∀ (i : Nat) (a : Addr), G.μ[i]? = some a → G'.μ[i]? = some a
  n : ∀ i k e a, G.ν i k e = some a → G'.ν i k e = some a
structure Gh.Le (G G' : Gh) : Prop extends Gh.Le0 G G' where
  l : ∀ a o, G.L a = some o → G'.L a = some o
theorem Gh.Le0.refl (G : Gh) : G.Le0 G := ⟨fun _ _ h => h, fun _ _ h => h, fun _ _ _ _ h => h⟩
theorem Gh.Le0.trans {A B C : Gh} (h : A.Le0 B) (k : B.Le0 C) : A.Le0 C := ⟨fun a o e => k.f a o (h.f a o e), fun i a e => k.m i a (h.m i a e), fun i j e a x => k.n i j e a (h.n i j e a x)⟩
theorem Gh.Le.refl (G : Gh) : G.Le G := ⟨Gh.Le0.refl G, fun _ _ h => h⟩
theorem Gh.Le.trans {A B C : Gh} (h : A.Le B) (k : B.Le C) : A.Le C := ⟨h.toLe0.trans k.toLe0, fun a o e => k.l a o (h.l a o e)⟩

mutual
def hashT (w : World) : T → Int
  | .int i => hashInt i
  | .str x => hashStr w x
  | .tup xs => reduceHash (Builtin.Tuple.tupleHashOf (hashTs w xs))
  | _ => 0
def hashTs (w : World) : List T → List Int
  | [] => []
  | x :: xs => hashT w x :: hashTs w xs
end
/-- a dict whose keys are trees of tuples, at ka -/
def DictT (w : World) (a : Addr) (ks : List T) (ka : List Addr) (vs : List V) : Heap → Prop := fun h =>
  (a == sysModules) = false ∧ ks.length ≤ 1000000 ∧ ∃ (us : List Value) (o : Obj) (es : Array DictEntry) (ep : Nat), Vals vs us ∧ h.get? a = some o ∧ o.ExactDict ∧ o.data = .dict es ep ∧
    es.toList = (ks.zip (ka.zip us)).map fun x => (⟨hashT w x.1, .ref x.2.1, x.2.2⟩ : DictEntry)
mutual
/-- what may be such a key, of a depth -/
def T.key : Nat → T → Bool
  | _, .int _ => true
  | _, .str s => PyData.strOk s
  | n + 1, .tup xs => T.keys n xs
  | _, _ => false
def T.keys : Nat → List T → Bool
  | _, [] => true
  | n, x :: xs => T.key n x && T.keys n xs
end
def T.isTup : T → Bool
  | .tup _ => true
  | _ => false
/-- keys of a dict by tuples -/
def keysOk (ks : List T) : Prop := (∀ k ∈ ks, k.isTup = true ∧ k.key 7 = true) ∧ ks.Nodup

/-- the static part -/
structure PX where
  w : World
  K : PySem.W.Frag
  mg : Str → Option Value
  base : Heap
/-- the table of code objects of the one def that makes lambdas -/
def lamD : Str := "by_blanks"
def lamQ : Str := "by_blanks.<locals>.<lambda>"
def PX.TabAt (P : PX) (p : Addr) : Prop := ∃ (f : Addr) (oc : Value) (od : Option Addr) (fd : FuncData) (osl : Array (Option Value)) (c : Addr), P.mg lamD = some (.ref f) ∧ P.K.lookup f = some ⟨oc, od, .func fd, osl⟩ ∧ fd.code = .ref c ∧ PySem.W.CodeHd P.base c p
/-- what such a table at p holds -/
structure TabR (G : Gh) (H : Hp) (p : Addr) : Prop where
  f : G.F p = none
  o : G.ow p = none
  l : G.L p = none
  h : ∃ ps : Array Value, H p = some (.tbl ps) ∧ TriplesOk ps.toList ∧ ∀ (pos : Pos) (cv : Value), codeAmong pos ps.toList = some cv → ∃ c, cv = .ref c ∧ G.F c = some (LamX.CodeO c lamQ)
theorem TabR.stay {G G' : Gh} {H H' : Hp} {p : Addr} (t : TabR G H p) (f : ∀ a o, G.F a = some o → G'.F a = some o) (h : H' p = H p) (h1 : G'.F p = none) (h2 : G'.ow p = none) (h3 : G'.L p = none) : TabR G' H' p := by
  obtain ⟨ps, e1, e2, e3⟩ := t.h
  refine ⟨h1, h2, h3, ps, by rw [h]; exact e1, e2, fun pos cv q => ?_⟩
  obtain ⟨c, e4, e5⟩ := e3 pos cv q
  exact ⟨c, e4, f _ _ e5⟩
theorem TabR.ne {G : Gh} {H : Hp} {p a : Addr} (t : TabR G H p) (n : H a = none) : p ≠ a := fun z => by
  obtain ⟨ps, e1, _⟩ := t.h
  rw [z, n] at e1; cases e1
theorem TabR.neO {G : Gh} {H : Hp} {p a : Addr} {i : Nat × Option Nat} (t : TabR G H p) (n : G.ow a = some i) : p ≠ a := fun z => by
  have := t.o
  rw [z, n] at this; cases this
theorem TabR.neL {G : Gh} {H : Hp} {p a : Addr} {o : HO} (t : TabR G H p) (n : G.L a = some o) : p ≠ a := fun z => by
  have := t.l
  rw [z, n] at this; cases this

def strKey : T → Option Key
  | .str s => some (.inr s)
  | .int i => some (.inl i)
  | _ => none

/-- a tuple without a dict of its own -/
def SqN (K : PySem.W.Frag) (H : Hp) (a : Addr) (xs : List V) : Prop := (∃ o : Obj, H a = some (.frz o (.tup xs)) ∧ o.dict = none) ∨
  ∃ (o : Obj) (its : Array Value) (n : Nat), K.lookup a = some o ∧ o.cls = .type "tuple" ∧ o.dict = none ∧ o.data = .seq its n ∧ its.size ≤ sizeLine ∧ Vals xs its.toList
theorem SqN.t {K : PySem.W.Frag} {H : Hp} {a : Addr} {xs : List V} : SqN K H a xs → SqT K H a xs
  | .inl ⟨o, e, _⟩ => .inl (.inr ⟨o, e⟩)
  | .inr ⟨o, its, n, e1, e2, _, e3⟩ => .inr ⟨o, its, n, e1, e2, e3⟩
theorem SqN.grow {K : PySem.W.Frag} {H H' : Hp} (h : ∀ a o, H a = some o → H' a = some o) {a : Addr} {xs : List V} : SqN K H a xs → SqN K H' a xs
  | .inl ⟨o, e, d⟩ => .inl ⟨o, h _ _ e, d⟩
  | .inr q => .inr q
mutual
/-- v stands for the tree -/
def Rp (P : PX) (G : Gh) : T → V → Prop
  | .non, v => v = .non
  | .bl b, v => v = .bl b
  | .int i, v => v = .int i
  | .str s, v => v = .str s
  | .tup xs, v => ∃ a vs, v = .ref a ∧ SqN P.K G.F a vs ∧ Rps P G xs vs
  | .par xs, v => ∃ a vs, v = .ref a ∧ SqT P.K G.F a vs ∧ Rps P G xs vs
  | .lst xs, v => ∃ a vs, v = .ref a ∧ G.F a = some (.lst vs) ∧ Rps P G xs vs
  | .dct ks vs, v => ∃ a us, v = .ref a ∧ Rps P G vs us ∧ ∃ ka : List Addr, G.F a = some (.ext (DictT P.w a ks ka us)) ∧ Rps P G ks (ka.map V.ref) ∧ keysOk ks ∧ ks.length = us.length
  | .obj cn ns fs, v => ∃ a C dx vs, v = .ref a ∧ P.mg (Str.ofString cn) = some (.ref C) ∧ G.F a = some (.ins C dx ((ns.map Str.ofString).zip vs)) ∧ ns.length = vs.length ∧ Rps P G fs vs
  | .cell i, v => ∃ a, v = .ref a ∧ G.μ[i]? = some a
  | .fld i k e, v => ∃ a, v = .ref a ∧ G.ν i k e = some a
  | .scr xs, v => ∃ a, v = .ref a ∧ SqL P.K G.F a (xs.map V.int)
def Rps (P : PX) (G : Gh) : List T → List V → Prop
  | [], vs => vs = []
  | x :: xs, vs => ∃ v r, vs = v :: r ∧ Rp P G x v ∧ Rps P G xs r
end
end PL
/-! the store held by the heap; results, judgements -/
namespace PL
open PySem PySem.Spec PyProof.Rows L2

/-! ### growing ghosts -/
theorem SqT.grow {K : PySem.W.Frag} {H H' : Hp} (h : ∀ a o, H a = some o → H' a = some o) {a : Addr} {xs : List V} (q : SqT K H a xs) : SqT K H' a xs := by
  rcases q with (q | ⟨o, q⟩) | q
  · exact .inl (.inl (h _ _ q))
  · exact .inl (.inr ⟨o, h _ _ q⟩)
  · exact .inr q
theorem SqL.grow {K : PySem.W.Frag} {H H' : Hp} (h : ∀ a o, H a = some o → H' a = some o) {a : Addr} {xs : List V} (q : SqL K H a xs) : SqL K H' a xs := by
  rcases q with (q | ⟨o, q⟩) | q
  · exact .inl (.inl (h _ _ q))
  · exact .inl (.inr ⟨o, h _ _ q⟩)
  · exact .inr q
mutual
theorem Rp.mono0 {P : PX} {G G' : Gh} (h : G.Le0 G') : ∀ {t : T} {v : V}, Rp P G t v → Rp P G' t v
  | .non, _, q => q
  | .bl _, _, q => q
  | .int _, _, q => q
  | .str _, _, q => q
  | .tup xs, _, q => by
    simp only [Rp] at q ⊢
    obtain ⟨a, vs, e, q1, q2⟩ := q
    exact ⟨a, vs, e, SqN.grow h.f q1, Rps.mono0 h q2⟩
  | .par xs, _, q => by
    simp only [Rp] at q ⊢
    obtain ⟨a, vs, e, q1, q2⟩ := q
    exact ⟨a, vs, e, SqT.grow h.f q1, Rps.mono0 h q2⟩
  | .lst xs, _, q => by
    simp only [Rp] at q ⊢
    obtain ⟨a, vs, e, q1, q2⟩ := q
    exact ⟨a, vs, e, h.f _ _ q1, Rps.mono0 h q2⟩
  | .dct ks vs, _, q => by
    simp only [Rp] at q ⊢
    obtain ⟨a, us, e, q1, q2⟩ := q
    refine ⟨a, us, e, Rps.mono0 h q1, ?_⟩
    obtain ⟨ka, f, q3, q4⟩ := q2
    exact ⟨ka, h.f _ _ f, Rps.mono0 h q3, q4⟩
  | .obj cn ns fs, _, q => by
    simp only [Rp] at q ⊢
    obtain ⟨a, C, dx, vs, e, m, f, l, q1⟩ := q
    exact ⟨a, C, dx, vs, e, m, h.f _ _ f, l, Rps.mono0 h q1⟩
  | .cell i, _, q => by
    simp only [Rp] at q ⊢
    obtain ⟨a, e, m⟩ := q
    exact ⟨a, e, h.m _ _ m⟩
  | .fld i k e, _, q => by
    simp only [Rp] at q ⊢
    obtain ⟨a, e, m⟩ := q
    exact ⟨a, e, h.n _ _ _ _ m⟩
  | .scr xs, _, q => by
    simp only [Rp] at q ⊢
    obtain ⟨a, e, m⟩ := q
    exact ⟨a, e, SqL.grow h.f m⟩
theorem Rps.mono0 {P : PX} {G G' : Gh} (h : G.Le0 G') : ∀ {ts : List T} {vs : List V}, Rps P G ts vs → Rps P G' ts vs
  | [], _, q => q
  | x :: xs, _, q => by
    simp only [Rps] at q ⊢
    obtain ⟨v, r, e, q1, q2⟩ := q
    exact ⟨v, r, e, Rp.mono0 h q1, Rps.mono0 h q2⟩
end
theorem Rp.mono {P : PX} {G G' : Gh} (h : G.Le G') {t : T} {v : V} (r : Rp P G t v) : Rp P G' t v := Rp.mono0 h.toLe0 r
theorem Rps.mono {P : PX} {G G' : Gh} (h : G.Le G') {t : List T} {v : List V} (r : Rps P G t v) : Rps P G' t v := Rps.mono0 h.toLe0 r
theorem Rps.nil {P : PX} {G : Gh} : Rps P G [] [] := by simp [Rps]
theorem Rps.cons {P : PX} {G : Gh} {t : T} {ts : List T} {v : V} {vs : List V} (h : Rp P G t v) (k : Rps P G ts vs) : Rps P G (t :: ts) (v :: vs) := by
  simp only [Rps]; exact ⟨v, vs, rfl, h, k⟩
theorem Rps.length {P : PX} {G : Gh} : ∀ {ts : List T} {vs : List V}, Rps P G ts vs → vs.length = ts.length
  | [], _, q => by simp only [Rps] at q; subst q; rfl
  | x :: xs, _, q => by
    simp only [Rps] at q
    obtain ⟨v, r, e, _, q2⟩ := q
    subst e
    simp [Rps.length q2]
theorem Rps.get {P : PX} {G : Gh} : ∀ {ts : List T} {vs : List V} {i : Nat} {t : T}, Rps P G ts vs → ts[i]? = some t → ∃ v, vs[i]? = some v ∧ Rp P G t v
  | [], _, i, t, _, e => by simp at e
  | x :: xs, _, i, t, q, e => by
    simp only [Rps] at q
    obtain ⟨v, r, e1, q1, q2⟩ := q
    subst e1
    cases i with
    | zero => simp at e; subst e; exact ⟨v, by simp, q1⟩
    | succ i => simpa using Rps.get (i := i) q2 (by simpa using e)
theorem Rps.append {P : PX} {G : Gh} : ∀ {ts ss : List T} {vs us : List V}, Rps P G ts vs → Rps P G ss us → Rps P G (ts ++ ss) (vs ++ us)
  | [], _, _, _, q, r => by simp only [Rps] at q; subst q; simpa using r
  | x :: xs, _, _, _, q, r => by
    simp only [Rps] at q
    obtain ⟨v, w, e1, q1, q2⟩ := q
    subst e1
    exact Rps.cons q1 (Rps.append q2 r)
theorem Rps.take {P : PX} {G : Gh} : ∀ {ts : List T} {vs : List V} (n : Nat), Rps P G ts vs → Rps P G (ts.take n) (vs.take n)
  | _, _, 0, _ => by simp [Rps]
  | [], _, n + 1, q => by simp only [Rps] at q; subst q; simp [Rps]
  | x :: xs, _, n + 1, q => by
    simp only [Rps] at q
    obtain ⟨v, w, e1, q1, q2⟩ := q
    subst e1
    exact Rps.cons q1 (Rps.take n q2)
theorem Rps.drop {P : PX} {G : Gh} : ∀ {ts : List T} {vs : List V} (n : Nat), Rps P G ts vs → Rps P G (ts.drop n) (vs.drop n)
  | _, _, 0, q => by simpa using q
  | [], _, n + 1, q => by simp only [Rps] at q; subst q; simp [Rps]
  | x :: xs, _, n + 1, q => by
    simp only [Rps] at q
    obtain ⟨v, w, e1, q1, q2⟩ := q
    subst e1
    simpa using Rps.drop n q2
theorem Rps.set {P : PX} {G : Gh} {t : T} {v : V} (h : Rp P G t v) : ∀ {ts : List T} {vs : List V} (n : Nat), Rps P G ts vs → Rps P G (ts.set n t) (vs.set n v)
  | [], _, n, q => by simp only [Rps] at q; subst q; simp [Rps]
  | x :: xs, _, 0, q => by
    simp only [Rps] at q
    obtain ⟨v, w, e1, q1, q2⟩ := q
    subst e1
    exact Rps.cons h q2
  | x :: xs, _, n + 1, q => by
    simp only [Rps] at q
    obtain ⟨v, w, e1, q1, q2⟩ := q
    subst e1
    exact Rps.cons q1 (Rps.set h n q2)
theorem Rps.reverse {P : PX} {G : Gh} : ∀ {ts : List T} {vs : List V}, Rps P G ts vs → Rps P G ts.reverse vs.reverse
  | [], _, q => by simp only [Rps] at q; subst q; simp [Rps]
  | x :: xs, _, q => by
    simp only [Rps] at q
    obtain ⟨v, w, e1, q1, q2⟩ := q
    subst e1
    rw [List.reverse_cons, List.reverse_cons]
    exact Rps.append (Rps.reverse q2) (Rps.cons q1 Rps.nil)
theorem Rps.eraseIdx {P : PX} {G : Gh} : ∀ {ts : List T} {vs : List V} (n : Nat), Rps P G ts vs → Rps P G (ts.eraseIdx n) (vs.eraseIdx n)
  | [], _, n, q => by simp only [Rps] at q; subst q; simp [Rps]
  | x :: xs, _, 0, q => by
    simp only [Rps] at q
    obtain ⟨v, w, e1, q1, q2⟩ := q
    subst e1
    simpa using q2
  | x :: xs, _, n + 1, q => by
    simp only [Rps] at q
    obtain ⟨v, w, e1, q1, q2⟩ := q
    subst e1
    exact Rps.cons q1 (Rps.eraseIdx n q2)
theorem Rps.mem {P : PX} {G : Gh} {ts : List T} {vs : List V} (q : Rps P G ts vs) {v : V} (hv : v ∈ vs) : ∃ t ∈ ts, Rp P G t v := by
  induction ts generalizing vs with
  | nil => simp only [Rps] at q; subst q; simp at hv
  | cons x xs ih =>
    simp only [Rps] at q
    obtain ⟨u, w, e1, q1, q2⟩ := q
    subst e1
    rcases List.mem_cons.mp hv with e | hv
    · subst e; exact ⟨x, List.mem_cons_self, q1⟩
    · obtain ⟨t, ht, h⟩ := ih q2 hv
      exact ⟨t, List.mem_cons_of_mem _ ht, h⟩


mutual
/-- a tree without cells leans on what is frozen alone -/
theorem Rp.pure {P : PX} {G G' : Gh} (h : ∀ a o, G.F a = some o → G'.F a = some o) : ∀ {t : T} {v : V}, t.pure = true → Rp P G t v → Rp P G' t v
  | .non, _, _, q => q
  | .bl _, _, _, q => q
  | .int _, _, _, q => q
  | .str _, _, _, q => q
  | .tup xs, _, p, q => by
    simp only [Rp, T.pure] at p q ⊢
    obtain ⟨a, vs, e, q1, q2⟩ := q
    exact ⟨a, vs, e, SqN.grow h q1, Rps.pure h p q2⟩
  | .par xs, _, p, q => by
    simp only [Rp, T.pure] at p q ⊢
    obtain ⟨a, vs, e, q1, q2⟩ := q
    exact ⟨a, vs, e, SqT.grow h q1, Rps.pure h p q2⟩
  | .lst xs, _, p, q => by
    simp only [Rp, T.pure] at p q ⊢
    obtain ⟨a, vs, e, q1, q2⟩ := q
    exact ⟨a, vs, e, h _ _ q1, Rps.pure h p q2⟩
  | .dct ks vs, _, p, q => by
    simp only [Rp, T.pure, Bool.and_eq_true] at p q ⊢
    obtain ⟨a, us, e, q1, q2⟩ := q
    refine ⟨a, us, e, Rps.pure h p.2 q1, ?_⟩
    obtain ⟨ka, f, q3, q4⟩ := q2
    exact ⟨ka, h _ _ f, Rps.pure h p.1 q3, q4⟩
  | .obj cn ns fs, _, p, q => by
    simp only [Rp, T.pure] at p q ⊢
    obtain ⟨a, C, dx, vs, e, m, f, l, q1⟩ := q
    exact ⟨a, C, dx, vs, e, m, h _ _ f, l, Rps.pure h p q1⟩
  | .cell i, _, p, q => by simp [T.pure] at p
  | .fld i k e, _, p, q => by simp [T.pure] at p
  | .scr xs, _, p, q => by simp [T.pure] at p
theorem Rps.pure {P : PX} {G G' : Gh} (h : ∀ a o, G.F a = some o → G'.F a = some o) : ∀ {ts : List T} {vs : List V}, T.pures ts = true → Rps P G ts vs → Rps P G' ts vs
  | [], _, _, q => q
  | x :: xs, _, p, q => by
    simp only [Rps, T.pures, Bool.and_eq_true] at p q ⊢
    obtain ⟨v, r, e, q1, q2⟩ := q
    exact ⟨v, r, e, Rp.pure h p.1 q1, Rps.pure h p.2 q2⟩
end

/-! ### the heap holds the store -/
def M0.pure : M0 → Bool
  | .lst xs => T.pures xs
  | .dct ks vs => T.pures ks && T.pures vs
/-- what the object of a list, a dict is -/
def Ho0 (P : PX) (G : Gh) (a : Addr) (o : HO) : M0 → Prop
  | .lst xs => ∃ vs, o = .lst vs ∧ Rps P G xs vs
  | .dct ks vs => ∃ us, Rps P G vs us ∧ ∃ ka : List Addr, o = .ext (DictT P.w a ks ka us) ∧ Rps P G ks (ka.map V.ref) ∧ keysOk ks ∧ ks.length = us.length
/-- a thing of one's own, at a place -/
def Own1 (P : PX) (G : Gh) (H : Hp) (a : Addr) (p : Nat × Option Nat) (m : M0) : Prop := G.F a = none ∧ G.ow a = some p ∧ m.pure = true ∧ ∃ o, H a = some o ∧ Ho0 P G a o m
/-- the places of a cell, from k on -/
def Fms (P : PX) (G : Gh) (H : Hp) (i : Nat) : Nat → List FM → List V → Prop
  | _, [], vs => vs = []
  | k, .val t :: fs, vs => ∃ v r, vs = v :: r ∧ t.pure = true ∧ Rp P G t v ∧ Fms P G H i (k + 1) fs r
  | k, .own e m :: fs, vs => ∃ b r, vs = .ref b :: r ∧ G.ν i k e = some b ∧ (∀ e', e < e' → G.ν i k e' = none) ∧ Own1 P G H b (i, some k) m ∧ Fms P G H i (k + 1) fs r
def CellOk (P : PX) (G : Gh) (H : Hp) (i : Nat) (a : Addr) : MO → Prop
  | .frz t => (G.F a).isSome = true ∧ t.pure = true ∧ Rp P G t (.ref a)
  | .one m => Own1 P G H a (i, none) m
  | .rcl fs => G.F a = none ∧ G.ow a = some (i, none) ∧ ∃ vs, H a = some (.lst vs) ∧ Fms P G H i 0 fs vs
  | .ins cn ns fs => G.F a = none ∧ G.ow a = some (i, none) ∧ ∃ C dx vs, P.mg (Str.ofString cn) = some (.ref C) ∧ H a = some (.ins C dx ((ns.map Str.ofString).zip vs)) ∧ ns.length = vs.length ∧ Fms P G H i 0 fs vs
structure Rel (P : PX) (G : Gh) (st : Store) (H : Hp) : Prop where
  fro : ∀ a o, G.F a = some o → H a = some o
  len : st.length = G.μ.length
  nu : ∀ i k e, G.μ.length ≤ i → G.ν i k e = none
  lck : ∀ a o, G.L a = some o → H a = some o ∧ G.ow a = none ∧ G.F a = none
  cel : ∀ (i : Nat) (m : MO) (a : Addr), st[i]? = some m → G.μ[i]? = some a → CellOk P G H i a m
  tab : ∀ p, P.TabAt p → TabR G H p

theorem Ho0.pure {P : PX} {G G' : Gh} (h : ∀ a o, G.F a = some o → G'.F a = some o) {a : Addr} {o : HO} {m : M0} (p : m.pure = true) (q : Ho0 P G a o m) : Ho0 P G' a o m := by
  cases m with
  | lst xs => obtain ⟨vs, e, q⟩ := q; exact ⟨vs, e, Rps.pure h p q⟩
  | dct ks vs =>
    obtain ⟨us, q, r⟩ := q
    simp only [M0.pure, Bool.and_eq_true] at p
    refine ⟨us, Rps.pure h p.2 q, ?_⟩
    obtain ⟨ka, e, r, q4⟩ := r
    exact ⟨ka, e, Rps.pure h p.1 r, q4⟩
theorem Ho0.mono {P : PX} {G G' : Gh} (h : G.Le G') {a : Addr} {o : HO} {m : M0} (q : Ho0 P G a o m) : Ho0 P G' a o m := by
  cases m with
  | lst xs => obtain ⟨vs, e, q⟩ := q; exact ⟨vs, e, Rps.mono h q⟩
  | dct ks vs =>
    obtain ⟨us, q, r⟩ := q
    refine ⟨us, Rps.mono h q, ?_⟩
    obtain ⟨ka, e, r, q4⟩ := r
    exact ⟨ka, e, Rps.mono h r, q4⟩
/-- what may change around a cell that stays: at its own things -/
structure Stay (G G' : Gh) (H H' : Hp) (i : Nat) : Prop where
  f : ∀ a o, G.F a = some o → G'.F a = some o
  ν : ∀ k e, G'.ν i k e = G.ν i k e
  h : ∀ a p o, G.ow a = some p → p.1 = i → G.F a = none → H a = some o → H' a = some o ∧ G'.F a = none ∧ G'.ow a = some p
theorem Own1.stay {P : PX} {G G' : Gh} {H H' : Hp} {i : Nat} (s : Stay G G' H H' i) {a : Addr} {p : Nat × Option Nat} {m : M0} (hp : p.1 = i) (q : Own1 P G H a p m) : Own1 P G' H' a p m := by
  obtain ⟨f, w, pu, o, e, q⟩ := q
  obtain ⟨s1, s2, s3⟩ := s.h a p o w hp f e
  exact ⟨s2, s3, pu, o, s1, q.pure s.f pu⟩
theorem Fms.stay {P : PX} {G G' : Gh} {H H' : Hp} {i : Nat} (s : Stay G G' H H' i) : ∀ {k : Nat} {fs : List FM} {vs : List V}, Fms P G H i k fs vs → Fms P G' H' i k fs vs
  | _, [], _, q => q
  | _, .val t :: fs, _, q => by
    obtain ⟨v, r, e, p, q1, q2⟩ := q
    exact ⟨v, r, e, p, Rp.pure s.f p q1, Fms.stay s q2⟩
  | k, .own e m :: fs, _, q => by
    obtain ⟨b, r, x, n, nn, q1, q2⟩ := q
    exact ⟨b, r, x, by rw [s.ν]; exact n, fun e' he => by rw [s.ν]; exact nn e' he, q1.stay s rfl, Fms.stay s q2⟩
theorem CellOk.stay {P : PX} {G G' : Gh} {H H' : Hp} {i : Nat} {a : Addr} {m : MO} (s : Stay G G' H H' i) (q : CellOk P G H i a m) : CellOk P G' H' i a m := by
  cases m with
  | frz t =>
    obtain ⟨e, p, r⟩ := q
    obtain ⟨o, e⟩ := Option.isSome_iff_exists.mp e
    exact ⟨by rw [s.f a o e]; rfl, p, Rp.pure s.f p r⟩
  | one m => exact Own1.stay s rfl q
  | rcl fs =>
    obtain ⟨f, w, vs, e, q⟩ := q
    obtain ⟨s1, s2, s3⟩ := s.h a _ _ w rfl f e
    exact ⟨s2, s3, vs, s1, q.stay s⟩
  | ins cn ns fs =>
    obtain ⟨f, w, C, dx, vs, m, e, l, q⟩ := q
    obtain ⟨s1, s2, s3⟩ := s.h a _ _ w rfl f e
    exact ⟨s2, s3, C, dx, vs, m, s1, l, q.stay s⟩

theorem Rel.addr {P : PX} {G : Gh} {st : Store} {H : Hp} (R : Rel P G st H) {i : Nat} {m : MO} (e : st[i]? = some m) : ∃ a, G.μ[i]? = some a ∧ CellOk P G H i a m := by
  have hi : i < st.length := (List.getElem?_eq_some_iff.mp e).1
  have hi' : i < G.μ.length := by rw [← R.len]; exact hi
  exact ⟨G.μ[i], List.getElem?_eq_getElem hi', R.cel i m _ e (List.getElem?_eq_getElem hi')⟩
theorem Rel.nofro {P : PX} {G : Gh} {st : Store} {H : Hp} (R : Rel P G st H) {p : Addr} (np : H p = none) : G.F p = none := by
  cases e : G.F p with
  | none => rfl
  | some o => rw [R.fro p o e] at np; cases np

/-- the ghost with one more frozen thing -/
def Gh.frz (G : Gh) (p : Addr) (o : HO) : Gh := { G with F := upd G.F p o }
theorem Gh.frz_f {G : Gh} {p : Addr} {o : HO} (h : G.F p = none) : ∀ a x, G.F a = some x → (G.frz p o).F a = some x := fun a x e => by
  show upd G.F p o a = some x; rw [upd_ne (ne_of_none e h)]; exact e
theorem Gh.frz_le {G : Gh} {p : Addr} {o : HO} (h : G.F p = none) : G.Le (G.frz p o) := ⟨⟨Gh.frz_f h, fun _ _ e => e, fun _ _ _ _ e => e⟩, fun _ _ e => e⟩
/-- a new thing that never changes -/
theorem Rel.new {P : PX} {G : Gh} {st : Store} {H : Hp} (R : Rel P G st H) {p : Addr} {o : HO} (np : H p = none) : Rel P (G.frz p o) st (upd H p o) where
  fro := fun a x e => by
    by_cases h : a = p
    · subst h
      rw [show (G.frz a o).F a = some o from upd_same] at e
      rw [upd_same]; exact e
    · rw [show (G.frz p o).F a = G.F a from upd_ne h] at e
      rw [upd_ne h]; exact R.fro a x e
  len := R.len
  nu := R.nu
  lck := fun a x e => ⟨by rw [upd_ne (fun z => by have := (R.lck a x e).1; rw [z, np] at this; cases this)]; exact (R.lck a x e).1, (R.lck a x e).2.1, by show upd G.F p o a = none; rw [upd_ne (fun z => by have := (R.lck a x e).1; rw [z, np] at this; cases this)]; exact (R.lck a x e).2.2⟩
  cel := fun i m a e1 e2 => by
    have key : ∀ {b : Addr} {x : HO}, H b = some x → b ≠ p := fun e z => by rw [z, np] at e; cases e
    refine (R.cel i m a e1 e2).stay ⟨Gh.frz_f (R.nofro np), fun _ _ => rfl, fun b q x w _ f hb => ⟨?_, ?_, w⟩⟩
    · rw [upd_ne (key hb)]; exact hb
    · show upd G.F p o b = none; rw [upd_ne (key hb)]; exact f
  tab := fun b hb => (R.tab b hb).stay (Gh.frz_f (R.nofro np)) (upd_ne ((R.tab b hb).ne np)) (by show upd G.F p o b = none; rw [upd_ne ((R.tab b hb).ne np)]; exact (R.tab b hb).f) (R.tab b hb).o (R.tab b hb).l
/-- a thing that is not ours comes -/
theorem Rel.more {P : PX} {G : Gh} {st : Store} {H : Hp} (R : Rel P G st H) {p : Addr} {o : HO} (np : H p = none) : Rel P G st (upd H p o) where
  fro := fun a x e => by
    have h : a ≠ p := fun z => by rw [z] at e; rw [R.nofro np] at e; cases e
    rw [upd_ne h]; exact R.fro a x e
  len := R.len
  nu := R.nu
  lck := fun a x e => ⟨by rw [upd_ne (fun z => by have := (R.lck a x e).1; rw [z, np] at this; cases this)]; exact (R.lck a x e).1, (R.lck a x e).2⟩
  cel := fun i m a e1 e2 => by
    have key : ∀ {b : Addr} {x : HO}, H b = some x → b ≠ p := fun e z => by rw [z, np] at e; cases e
    exact (R.cel i m a e1 e2).stay ⟨fun _ _ h => h, fun _ _ => rfl, fun b q x w _ f hb => ⟨by rw [upd_ne (key hb)]; exact hb, f, w⟩⟩
  tab := fun b hb => (R.tab b hb).stay (fun _ _ h => h) (upd_ne ((R.tab b hb).ne np)) (R.tab b hb).f (R.tab b hb).o (R.tab b hb).l
/-- the ghost with one more cell -/
def Gh.cellNew (G : Gh) (p : Addr) : Gh := { G with μ := G.μ ++ [p], ow := fun a => if a = p then some (G.μ.length, none) else G.ow a }
theorem Gh.cellNew_le {G : Gh} {p : Addr} : G.Le (G.cellNew p) := ⟨⟨fun _ _ h => h, fun i a e => by
  have := (List.getElem?_eq_some_iff.mp e).1
  show (G.μ ++ [p])[i]? = some a
  rw [List.getElem?_append_left this]; exact e, fun _ _ _ _ h => h⟩, fun _ _ e => e⟩
theorem Gh.cellNew_at {G : Gh} {p : Addr} : (G.cellNew p).μ[G.μ.length]? = some p := by
  show (G.μ ++ [p])[G.μ.length]? = some p
  simp
/-- a new cell; the thing stands already, and nobody knows it -/
theorem Rel.cellPush {P : PX} {G : Gh} {st : Store} {H H1 : Hp} (R : Rel P G st H) {p : Addr} {m : MO} (np : H p = none) (h1 : ∀ a, a ≠ p → H1 a = H a) (hm : CellOk P (G.cellNew p) H1 st.length p m) : Rel P (G.cellNew p) (st ++ [m]) H1 := by
  have key : ∀ {b : Addr} {x : HO}, H b = some x → b ≠ p := fun e z => by rw [z, np] at e; cases e
  refine ⟨fun a x e => ?_, by simp [R.len, Gh.cellNew], fun i k e hi => R.nu i k e (by simp [Gh.cellNew] at hi; omega), fun a x e => ?_, fun i x a e1 e2 => ?_, fun b hb => (R.tab b hb).stay (fun _ _ h => h) (h1 b ((R.tab b hb).ne np)) (R.tab b hb).f (by show (if b = p then some (G.μ.length, none) else G.ow b) = none; rw [if_neg ((R.tab b hb).ne np)]; exact (R.tab b hb).o) (R.tab b hb).l⟩
  · have := R.fro a x e
    rw [h1 a (key this)]; exact this
  · obtain ⟨l1, l2, l3⟩ := R.lck a x e
    refine ⟨by rw [h1 a (key l1)]; exact l1, ?_, l3⟩
    show (if a = p then some (G.μ.length, none) else G.ow a) = none
    rw [if_neg (key l1)]; exact l2
  · by_cases hi : i < st.length
    · rw [List.getElem?_append_left hi] at e1
      have e2' : G.μ[i]? = some a := by
        have : (G.μ ++ [p])[i]? = some a := e2
        rwa [List.getElem?_append_left (by rw [← R.len]; exact hi)] at this
      refine CellOk.stay (G := G) (H := H) ⟨fun _ _ h => h, fun _ _ => rfl, fun b q y w _ f hb => ⟨?_, f, ?_⟩⟩ (R.cel i x a e1 e2')
      · rw [h1 b (key hb)]; exact hb
      · show (if b = p then some (G.μ.length, none) else G.ow b) = some q
        rw [if_neg (key hb)]; exact w
    · have hi2 : i = st.length := by
        have := (List.getElem?_eq_some_iff.mp e1).1
        simp at this
        omega
      subst hi2
      rw [List.getElem?_append_right (Nat.le_refl _)] at e1
      simp at e1
      subst e1
      have e2' : (G.μ ++ [p])[st.length]? = some a := e2
      rw [R.len, List.getElem?_append_right (Nat.le_refl _)] at e2'
      simp at e2'
      subst e2'
      exact hm
/-- a list or dict as a new cell -/
theorem Rel.cellOne {P : PX} {G : Gh} {st : Store} {H : Hp} (R : Rel P G st H) {p : Addr} {o : HO} {m : M0} (np : H p = none) (pu : m.pure = true) (hm : Ho0 P G p o m) : Rel P (G.cellNew p) (st ++ [.one m]) (upd H p o) :=
  R.cellPush np (fun a ha => upd_ne ha) ⟨R.nofro np, by
    show (if p = p then some (G.μ.length, none) else G.ow p) = some (st.length, none)
    rw [if_pos rfl, R.len], pu, o, upd_same, Ho0.pure (G := G) (G' := G.cellNew p) (fun _ _ h => h) pu hm⟩
/-- the content of the list or dict cell changes -/
theorem Rel.setOne {P : PX} {G : Gh} {st : Store} {H : Hp} (R : Rel P G st H) {i : Nat} {a : Addr} {o : HO} {m m' : M0} (e : st[i]? = some (.one m)) (ha : G.μ[i]? = some a) (pu : m'.pure = true) (hm : Ho0 P G a o m') : Rel P G (st.set i (.one m')) (upd H a o) := by
  obtain ⟨f, w, _, o0, eo, _⟩ := (R.cel i _ a e ha : Own1 P G H a (i, none) m)
  refine ⟨fun b x q => ?_, by rw [List.length_set]; exact R.len, R.nu, fun b x q => ⟨by rw [upd_ne (fun z => by have := (R.lck b x q).2.1; rw [z, w] at this; cases this)]; exact (R.lck b x q).1, (R.lck b x q).2⟩, fun j x b e1 e2 => ?_, fun b hb => (R.tab b hb).stay (fun _ _ h => h) (upd_ne ((R.tab b hb).neO w)) (R.tab b hb).f (R.tab b hb).o (R.tab b hb).l⟩
  · have h : b ≠ a := fun z => by rw [z, f] at q; cases q
    rw [upd_ne h]; exact R.fro b x q
  · by_cases hj : j = i
    · subst hj
      rw [ha] at e2; cases e2
      rw [List.getElem?_set_self (List.getElem?_eq_some_iff.mp e).1] at e1
      cases e1
      exact ⟨f, w, pu, o, upd_same, hm⟩
    · rw [List.getElem?_set_ne (Ne.symm hj)] at e1
      refine (R.cel j x b e1 e2).stay ⟨fun _ _ h => h, fun _ _ => rfl, fun c q y wc hq fc hc => ⟨?_, fc, wc⟩⟩
      have hne : c ≠ a := fun z => by
        subst z
        rw [w] at wc; cases wc
        exact hj hq.symm
      rw [upd_ne hne]; exact hc
/-- a list or dict cell freezes -/
theorem Rel.freeze {P : PX} {G : Gh} {st : Store} {H : Hp} (R : Rel P G st H) {i : Nat} {a : Addr} {o : HO} {m : M0} {t : T} (e : st[i]? = some (.one m)) (ha : G.μ[i]? = some a) (hH : H a = some o) (pt : t.pure = true) (ht : Rp P (G.frz a o) t (.ref a)) : Rel P (G.frz a o) (st.set i (.frz t)) H := by
  obtain ⟨f, w, _, o0, eo, _⟩ := (R.cel i _ a e ha : Own1 P G H a (i, none) m)
  refine ⟨fun b x q => ?_, by rw [List.length_set]; exact R.len, R.nu, fun b x q => ⟨(R.lck b x q).1, (R.lck b x q).2.1, by show upd G.F a o b = none; rw [upd_ne (fun z => by have := (R.lck b x q).2.1; rw [z, w] at this; cases this)]; exact (R.lck b x q).2.2⟩, fun j x b e1 e2 => ?_, fun b hb => (R.tab b hb).stay (Gh.frz_f f) rfl (by show upd G.F a o b = none; rw [upd_ne ((R.tab b hb).neO w)]; exact (R.tab b hb).f) (R.tab b hb).o (R.tab b hb).l⟩
  · by_cases h : b = a
    · subst h
      rw [show (G.frz b o).F b = some o from upd_same] at q
      cases q; exact hH
    · rw [show (G.frz a o).F b = G.F b from upd_ne h] at q
      exact R.fro b x q
  · have e2 : G.μ[j]? = some b := e2
    by_cases hj : j = i
    · subst hj
      rw [ha] at e2; cases e2
      rw [List.getElem?_set_self (List.getElem?_eq_some_iff.mp e).1] at e1
      cases e1
      exact ⟨by rw [show (G.frz a o).F a = some o from upd_same]; rfl, pt, ht⟩
    · rw [List.getElem?_set_ne (Ne.symm hj)] at e1
      refine (R.cel j x b e1 e2).stay ⟨Gh.frz_f f, fun _ _ => rfl, fun c q y wc hq fc hc => ⟨hc, ?_, wc⟩⟩
      have hne : c ≠ a := fun z => by
        subst z
        rw [w] at wc; cases wc
        exact hj hq.symm
      show upd G.F a o c = none; rw [upd_ne hne]; exact fc
/-- the ghost with the first cells alone -/
def Gh.take (G : Gh) (n : Nat) : Gh := { G with μ := G.μ.take n, ν := fun i k e => if i < n then G.ν i k e else none }
theorem Gh.take_le {G0 G : Gh} (h : G0.Le G) {st : Store} {P : PX} {H : Hp} (R : Rel P G0 st H) : G0.Le (G.take st.length) where
  l := h.l
  f := h.f
  m := fun i a e => by
    show (G.μ.take st.length)[i]? = some a
    have hi := (List.getElem?_eq_some_iff.mp e).1
    rw [List.getElem?_take_of_lt (by rw [R.len]; exact hi)]
    exact h.m i a e
  n := fun i k e a x => by
    have hi : i < st.length := by
      by_cases z : i < st.length
      · exact z
      · rw [R.nu i k e (by rw [← R.len]; omega)] at x; cases x
    show (if i < st.length then G.ν i k e else none) = some a
    rw [if_pos hi]
    exact h.n i k e a x
theorem Rel.take {P : PX} {G : Gh} {st : Store} {H : Hp} (R : Rel P G st H) {n : Nat} (hn : n ≤ st.length) : Rel P (G.take n) (st.take n) H where
  fro := R.fro
  lck := R.lck
  len := by show _ = (G.μ.take n).length; rw [List.length_take, List.length_take, R.len]
  nu := fun i k e hi => by
    have : ¬ i < n := by
      have : (G.μ.take n).length ≤ i := hi
      rw [List.length_take, ← R.len] at this
      omega
    show (if i < n then G.ν i k e else none) = none
    rw [if_neg this]
  cel := fun i m a e1 e2 => by
    have hi : i < n := by
      have := (List.getElem?_eq_some_iff.mp e1).1
      rw [List.length_take] at this; omega
    have e2 : (G.μ.take n)[i]? = some a := e2
    rw [List.getElem?_take_of_lt hi] at e1 e2
    refine CellOk.stay (G := G) (H := H) ⟨fun _ _ h => h, fun k e => ?_, fun b q y w _ f hb => ⟨hb, f, w⟩⟩ (R.cel i m a e1 e2)
    show (if i < n then G.ν i k e else none) = _
    rw [if_pos hi]
  tab := fun b hb => (R.tab b hb).stay (fun _ _ h => h) rfl (R.tab b hb).f (R.tab b hb).o (R.tab b hb).l
/-- the ghost with p locked -/
def Gh.lock (G : Gh) (p : Addr) (o : HO) : Gh := { G with L := upd G.L p o, ow := fun a => if a = p then none else G.ow a }
theorem Gh.lock_le0 {G : Gh} {p : Addr} {o : HO} : G.Le0 (G.lock p o) := ⟨fun _ _ h => h, fun _ _ h => h, fun _ _ _ _ h => h⟩
/-- a new thing, locked -/
theorem Rel.lock {P : PX} {G : Gh} {st : Store} {H : Hp} (R : Rel P G st H) {p : Addr} {o : HO} (np : H p = none) : Rel P (G.lock p o) st (upd H p o) := by
  have key : ∀ {b : Addr} {x : HO}, H b = some x → b ≠ p := fun e z => by rw [z, np] at e; cases e
  have R1 := R.more (o := o) np
  refine ⟨R1.fro, R.len, R.nu, fun a x e => ?_, fun i m a e1 e2 => ?_, fun b hb => (R.tab b hb).stay (fun _ _ h => h) (upd_ne ((R.tab b hb).ne np)) (R.tab b hb).f (by show (if b = p then none else G.ow b) = none; rw [if_neg ((R.tab b hb).ne np)]; exact (R.tab b hb).o) (by show upd G.L p o b = none; rw [upd_ne ((R.tab b hb).ne np)]; exact (R.tab b hb).l)⟩
  · have e : upd G.L p o a = some x := e
    by_cases h : a = p
    · subst h
      rw [upd_same] at e
      refine ⟨by rw [upd_same]; exact e, ?_, R.nofro np⟩
      show (if a = a then none else G.ow a) = none
      rw [if_pos rfl]
    · rw [upd_ne h] at e
      obtain ⟨l1, l2, l3⟩ := R1.lck a x e
      refine ⟨l1, ?_, l3⟩
      show (if a = p then none else G.ow a) = none
      rw [if_neg h]; exact l2
  · refine CellOk.stay (G := G) (H := H) ⟨fun _ _ h => h, fun _ _ => rfl, fun b q y w _ f hb => ⟨?_, f, ?_⟩⟩ (R.cel i m a e1 e2)
    · rw [upd_ne (key hb)]; exact hb
    · show (if b = p then none else G.ow b) = some q
      rw [if_neg (key hb)]; exact w
/-- the locked thing changes -/
theorem Rel.relock {P : PX} {G : Gh} {st : Store} {H : Hp} (R : Rel P G st H) {p : Addr} {o o' : HO} (h : G.L p = some o) : Rel P { G with L := upd G.L p o' } st (upd H p o') := by
  obtain ⟨l1, l2, hF⟩ := R.lck p o h
  refine ⟨fun a x e => ?_, R.len, R.nu, fun a x e => ?_, fun i m a e1 e2 => ?_, fun b hb => (R.tab b hb).stay (fun _ _ h => h) (upd_ne ((R.tab b hb).neL h)) (R.tab b hb).f (R.tab b hb).o (by show upd G.L p o' b = none; rw [upd_ne ((R.tab b hb).neL h)]; exact (R.tab b hb).l)⟩
  · have hne : a ≠ p := fun z => by rw [z] at e; rw [show G.F p = none from hF] at e; cases e
    rw [upd_ne hne]; exact R.fro a x e
  · have e : upd G.L p o' a = some x := e
    by_cases z : a = p
    · subst z
      rw [upd_same] at e
      exact ⟨by rw [upd_same]; exact e, l2, hF⟩
    · rw [upd_ne z] at e
      rw [upd_ne z]; exact R.lck a x e
  · refine CellOk.stay (G := G) (H := H) ⟨fun _ _ h => h, fun _ _ => rfl, fun b q y w _ f hb => ⟨?_, f, w⟩⟩ (R.cel i m a e1 e2)
    have hne : b ≠ p := fun z => by rw [z, l2] at w; cases w
    rw [upd_ne hne]; exact hb
/-- the locked thing is let go: nobody knows it -/
theorem Rel.unlock {P : PX} {G : Gh} {st : Store} {H : Hp} (R : Rel P G st H) {p : Addr} {o : HO} (h : G.L p = some o) : Rel P { G with L := fun a => if a = p then none else G.L a } st (fun a => if a = p then none else H a) := by
  obtain ⟨l1, l2, hF⟩ := R.lck p o h
  refine ⟨fun a x e => ?_, R.len, R.nu, fun a x e => ?_, fun i m a e1 e2 => ?_, fun b hb => (R.tab b hb).stay (fun _ _ h => h) (if_neg ((R.tab b hb).neL h)) (R.tab b hb).f (R.tab b hb).o (by show (if b = p then none else G.L b) = none; rw [if_neg ((R.tab b hb).neL h)]; exact (R.tab b hb).l)⟩
  · have hne : a ≠ p := fun z => by rw [z] at e; rw [show G.F p = none from hF] at e; cases e
    show (if a = p then none else H a) = some x
    rw [if_neg hne]; exact R.fro a x e
  · have e : (if a = p then none else G.L a) = some x := e
    by_cases z : a = p
    · rw [if_pos z] at e; cases e
    · rw [if_neg z] at e
      refine ⟨?_, (R.lck a x e).2⟩
      show (if a = p then none else H a) = some x
      rw [if_neg z]; exact (R.lck a x e).1
  · refine CellOk.stay (G := G) (H := H) ⟨fun _ _ h => h, fun _ _ => rfl, fun b q y w _ f hb => ⟨?_, f, w⟩⟩ (R.cel i m a e1 e2)
    have hne : b ≠ p := fun z => by rw [z, l2] at w; cases w
    show (if b = p then none else H b) = some y
    rw [if_neg hne]; exact hb
end PL
/-! results, judgements, the first rules -/
namespace PL
open PySem PySem.Spec PyProof.Rows L2

/-- an error of the program's own: its class, its attributes -/
structure Exn where
  cn : String
  ns : List String
  fs : List T
inductive R (α : Type) where
  | ok (a : α) | ex (e : Exn)
/-- none: nothing is known -/
abbrev Res (α : Type) := Option (R α × Store)
abbrev En := List (Option T)
abbrev M (α : Type) := En → Store → Res α
abbrev Sem1 := List T → Store → Res T

def Res.bnd {α β : Type} (r : Res α) (k : α → Store → Res β) : Res β :=
  match r with
  | none => none
  | some (.ok a, st) => k a st
  | some (.ex e, st) => some (.ex e, st)
def Res.ofO {α : Type} (o : Option α) (st : Store) : Res α :=
  match o with
  | none => none
  | some a => some (.ok a, st)
def ok {α : Type} (a : α) (st : Store) : Res α := some (.ok a, st)
@[simp] theorem bnd_ok {α β : Type} (a : α) (st : Store) (k : α → Store → Res β) : Res.bnd (some (.ok a, st)) k = k a st := rfl
@[simp] theorem bnd_ok' {α β : Type} (a : α) (st : Store) (k : α → Store → Res β) : Res.bnd (ok a st) k = k a st := rfl
@[simp] theorem bnd_none {α β : Type} (k : α → Store → Res β) : Res.bnd (none : Res α) k = none := rfl
@[simp] theorem bnd_ex {α β : Type} (e : Exn) (st : Store) (k : α → Store → Res β) : Res.bnd (some (.ex e, st) : Res α) k = some (.ex e, st) := rfl
@[simp] theorem ofO_some {α : Type} (a : α) (st : Store) : Res.ofO (some a) st = ok a st := rfl
@[simp] theorem ofO_none {α : Type} (st : Store) : Res.ofO (none : Option α) st = none := rfl

def mBnd {α β : Type} (m : M α) (k : α → M β) : M β := fun env st => (m env st).bnd fun a st => k a env st

/-- the raised thing: its class, its own dict -/
def ExR (P : PX) (G : Gh) (H : Hp) (e : Exn) (c : Value) (d : Option Addr) : Prop :=
  ∃ C vs, P.mg (Str.ofString e.cn) = some (.ref C) ∧ c = .ref C ∧ Rps P G e.fs vs ∧ T.pures e.fs = true ∧ e.ns.length = vs.length ∧
    ((e.ns = [] ∧ d = none) ∨ ∃ dd, d = some dd ∧ H dd = some (.xd ((e.ns.map Str.ofString).zip vs)) ∧ G.F dd = none)

/-- what follows -/
def Po {α β : Type} (P : PX) (rel : Gh → Store → Hp → α → β → Prop) (G : Gh) (W : XK) (r : Res α) (Q : β → Hp → Prop) : Prop :=
  match r with
  | none => False
  | some (.ok a, st) => ∀ G' H' b, G.Le G' → rel G' st H' a b → Q b H'
  | some (.ex e, st) => ∀ G' H' c d, G.Le G' → Rel P G' st H' → ExR P G' H' e c d → W c d H'
theorem Po.mono {α β : Type} {P : PX} {rel : Gh → Store → Hp → α → β → Prop} {G G1 : Gh} {W : XK} {r : Res α} {Q : β → Hp → Prop} (le : G.Le G1) (h : Po P rel G W r Q) : Po P rel G1 W r Q := by
  match r, h with
  | some (.ok a, st), h => exact fun G' H' b l q => h G' H' b (le.trans l) q
  | some (.ex e, st), h => exact fun G' H' c d l q x => h G' H' c d (le.trans l) q x
theorem Po.bnd {α β γ δ : Type} {P : PX} {rel : Gh → Store → Hp → α → β → Prop} {rel2 : Gh → Store → Hp → γ → δ → Prop} {G : Gh} {W : XK} {r : Res α} {k : α → Store → Res γ} {Q : δ → Hp → Prop}
    (h : Po P rel2 G W (r.bnd k) Q) : Po P rel G W r fun b H' => ∃ G' st a, G.Le G' ∧ rel G' st H' a b ∧ Po P rel2 G' W (k a st) Q := by
  match r, h with
  | some (.ok a, st), h => exact fun G' H' b le q => ⟨G', st, a, le, q, Po.mono le h⟩
  | some (.ex e, st), h => exact h
/-- the ways on where the result is known -/
theorem Po.imp {α β : Type} {P : PX} {rel : Gh → Store → Hp → α → β → Prop} {G : Gh} {W : XK} {r : Res α} {Q Q' : β → Hp → Prop} (h : Po P rel G W r Q) (i : ∀ b H', Q b H' → Q' b H') : Po P rel G W r Q' := by
  match r, h with
  | some (.ok a, st), h => exact fun G' H' b le q => i _ _ (h G' H' b le q)
  | some (.ex e, st), h => exact h
theorem Po.okI {α β : Type} {P : PX} {rel : Gh → Store → Hp → α → β → Prop} {G : Gh} {W : XK} {a : α} {st : Store} {Q : β → Hp → Prop} (h : Po P rel G W (ok a st) Q) {H' : Hp} {b : β} (q : rel G st H' a b) : Q b H' := h G H' b (Gh.Le.refl G) q

def relT (P : PX) : Gh → Store → Hp → T → V → Prop := fun G st H t v => Rel P G st H ∧ Rp P G t v
def relTs (P : PX) : Gh → Store → Hp → List T → List V → Prop := fun G st H t v => Rel P G st H ∧ Rps P G t v
def relB (P : PX) : Gh → Store → Hp → Bool → Bool → Prop := fun G st H t v => Rel P G st H ∧ t = v
/-- a new list or dict that nobody knows yet -/
def relN (P : PX) : Gh → Store → Hp → M0 → V → Prop := fun G st H m v => ∃ p o H1, v = .ref p ∧ H1 p = none ∧ Rel P G st H1 ∧ H = upd H1 p o ∧ Ho0 P G p o m
def relU (P : PX) : Gh → Store → Hp → Unit → V → Prop := fun G st H _ v => Rel P G st H ∧ v = .non

/-- the frame's names -/
def RelE (P : PX) (G : Gh) (env : En) (σ : L2.St) : Prop := env.length = σ.length ∧ ∀ (i : Nat) (t : T), env[i]? = some (some t) → ∃ v, σ[i]? = some (some v) ∧ Rp P G t v
theorem RelE.mono {P : PX} {G G' : Gh} (h : G.Le G') {env : En} {σ : L2.St} (q : RelE P G env σ) : RelE P G' env σ := ⟨q.1, fun i t e => by
  obtain ⟨v, e1, r⟩ := q.2 i t e
  exact ⟨v, e1, Rp.mono h r⟩⟩
theorem RelE.set {P : PX} {G : Gh} {env : En} {σ : L2.St} {t : T} {v : V} (q : RelE P G env σ) (r : Rp P G t v) (i : Nat) : RelE P G (env.set i (some t)) (σ.set i (some v)) := ⟨by simp [q.1], fun j u e => by
  by_cases h : i = j
  · subst h
    have hi : i < env.length := by
      have := (List.getElem?_eq_some_iff.mp e).1
      simpa using this
    rw [List.getElem?_set_self hi] at e
    cases e
    exact ⟨v, List.getElem?_set_self (by rw [← q.1]; exact hi), r⟩
  · rw [List.getElem?_set_ne h] at e
    obtain ⟨w, e1, e2⟩ := q.2 j u e
    exact ⟨w, by rw [List.getElem?_set_ne h]; exact e1, e2⟩⟩
theorem RelE.forget {P : PX} {G : Gh} {env : En} {σ : L2.St} {o : Option V} (q : RelE P G env σ) (i : Nat) : RelE P G (env.set i none) (σ.set i o) := ⟨by simp [q.1], fun j u e => by
  by_cases h : i = j
  · subst h
    have hi : i < env.length := by
      have := (List.getElem?_eq_some_iff.mp e).1
      simpa using this
    rw [List.getElem?_set_self hi] at e
    cases e
  · rw [List.getElem?_set_ne h] at e
    obtain ⟨w, e1, e2⟩ := q.2 j u e
    exact ⟨w, by rw [List.getElem?_set_ne h]; exact e1, e2⟩⟩

def pxOf (X : Cx) : PX := ⟨X.w, X.K, X.mg, X.base⟩
/-- the reading of m -/
def tG {α β : Type} (P : PX) (rel : Gh → Store → Hp → α → β → Prop) (W : WX) (m : M α) : L2.St → Hp → (β → Hp → Prop) → Prop := fun σ H Q =>
  ∃ G env st, Rel P G st H ∧ RelE P G env σ ∧ Po P rel G (WE W σ) (m env st) Q
abbrev tM (P : PX) (W : WX) (m : M T) : TE := tG P (relT P) W m
abbrev tMs (P : PX) (W : WX) (m : M (List T)) : TA := tG P (relTs P) W m
abbrev tMb (P : PX) (W : WX) (m : M Bool) : TT := tG P (relB P) W m
abbrev tMn (P : PX) (W : WX) (m : M M0) : TE := tG P (relN P) W m

def SE (X : Cx) (W : WX) (e : Expr) (m : M T) : Prop := PE X e (tM (pxOf X) W m)
def SEn (X : Cx) (W : WX) (e : Expr) (m : M M0) : Prop := PE X e (tMn (pxOf X) W m)
def SB (X : Cx) (W : WX) (e : Expr) (m : M Bool) : Prop := PT X e (tMb (pxOf X) W m)
def SA (X : Cx) (W : WX) (es : List Expr) (m : M (List T)) : Prop := PA X es (tMs (pxOf X) W m)

theorem pe_mono {X : Cx} {e : Expr} {t t' : TE} (h : PE X e t) (i : ∀ σ H Q, t' σ H Q → t σ H Q) : PE X e t' := ⟨fun pins s σ H Q I q => h.run pins s σ H Q I (i σ H Q q)⟩
theorem pt_mono {X : Cx} {e : Expr} {t t' : TT} (h : PT X e t) (i : ∀ σ H Q, t' σ H Q → t σ H Q) : PT X e t' := ⟨fun pins s σ H Q I q => h.run pins s σ H Q I (i σ H Q q)⟩
theorem pa_mono {X : Cx} {e : List Expr} {t t' : TA} (h : PA X e t) (i : ∀ σ H Q, t' σ H Q → t σ H Q) : PA X e t' := ⟨fun pos pins s σ H Q I q => h.run pos pins s σ H Q I (i σ H Q q)⟩

/-- from a reading to the next -/
theorem tG.bnd {α β γ δ : Type} {P : PX} {rel : Gh → Store → Hp → α → β → Prop} {rel2 : Gh → Store → Hp → γ → δ → Prop} {W : WX} {m : M α} {k : α → M γ} {σ : L2.St} {H : Hp} {Q : δ → Hp → Prop}
    (h : tG P rel2 W (mBnd m k) σ H Q) :
    tG P rel W m σ H fun b H' => ∃ a G env st, rel G st H' a b ∧ RelE P G env σ ∧ Po P rel2 G (WE W σ) (k a env st) Q := by
  obtain ⟨G, env, st, R, E, q⟩ := h
  exact ⟨G, env, st, R, E, (Po.bnd q).imp fun b H' ⟨G', st', a, le, r, q⟩ => ⟨a, G', env, st', r, E.mono le, q⟩⟩
theorem tG.imp {α β : Type} {P : PX} {rel : Gh → Store → Hp → α → β → Prop} {W : WX} {m : M α} {σ : L2.St} {H : Hp} {Q Q' : β → Hp → Prop} (h : tG P rel W m σ H Q) (i : ∀ b H', Q b H' → Q' b H') : tG P rel W m σ H Q' := by
  obtain ⟨G, env, st, R, E, q⟩ := h
  exact ⟨G, env, st, R, E, q.imp i⟩

/-! ### names and constants -/
/-- a frozen cell is what it holds -/
def deref (st : Store) (t : T) : T :=
  match t with
  | .cell i => (match st[i]? with | some (.frz u) => u | _ => t)
  | t => t
theorem deref_ok {P : PX} {G : Gh} {st : Store} {H : Hp} (R : Rel P G st H) {t : T} {v : V} (r : Rp P G t v) : Rp P G (deref st t) v := by
  unfold deref
  split
  · rename_i i
    split
    · rename_i u e
      simp only [Rp] at r
      obtain ⟨a, e1, e2⟩ := r
      subst e1
      exact (R.cel i _ a e e2).2.2
    · exact r
  · exact r
def mVar (i : Nat) : M T := fun env st => match env[i]? with | some (some t) => ok (deref st t) st | _ => none
def mC (t : T) : M T := fun _ st => ok t st
section
variable {X : Cx} {W : WX}
theorem se_var {i : Nat} {x : Str} {pos : Pos} (hN : X.N[i]? = some x) (hv : Vis X.env.scope x) (hd : (x == ("__debug__" : Str)) = false) (hcd : (x == ("__classdict__" : Str)) = false) : SE X W (.Name x pos) (mVar i) := by
  refine pe_mono (pe_var hN hv hd hcd) fun σ H Q ⟨G, env, st, Rl, E, q⟩ => ?_
  unfold mVar at q
  split at q
  · rename_i t e
    obtain ⟨v, e1, r⟩ := E.2 i t e
    exact ⟨v, e1, q.okI ⟨Rl, deref_ok Rl r⟩⟩
  · exact q.elim
/-- a constant thing -/
theorem se_const {e : Expr} {v : V} {t : T} (h : PE X e (tC v)) (r : ∀ G, Rp (pxOf X) G t v) : SE X W e (mC t) :=
  pe_mono h fun σ H Q ⟨G, env, st, Rl, E, q⟩ => q.okI ⟨Rl, r G⟩
theorem se_int {i : Int} {j pos} : SE X W (.Constant (.int i) j pos) (mC (.int i)) := se_const pe_int fun _ => by simp [Rp]
theorem se_bl {b j pos} : SE X W (.Constant (.bool b) j pos) (mC (.bl b)) := se_const pe_bl fun _ => by simp [Rp]
theorem se_non {j pos} : SE X W (.Constant .none j pos) (mC .non) := se_const pe_non fun _ => by simp [Rp]
theorem se_str {x : Str} {j pos} : SE X W (.Constant (.str x) j pos) (mC (.str x)) := se_const pe_str fun _ => by simp [Rp]
/-! ### lists of expressions, displays -/
def mNil : M (List T) := fun _ st => ok [] st
def mCons (a : M T) (r : M (List T)) : M (List T) := mBnd a fun t => mBnd r fun ts _ st => ok (t :: ts) st
theorem sa_nil : SA X W [] mNil := pa_mono pa_nil fun σ H Q ⟨G, env, st, Rl, E, q⟩ => q.okI ⟨Rl, Rps.nil⟩
theorem sa_cons {e : Expr} {es : List Expr} {m : M T} {ms : M (List T)} (h : SE X W e m) (hs : SA X W es ms) (hst : starEach (e :: es) X.env = (false, eval e X.env) :: starEach es X.env) : SA X W (e :: es) (mCons m ms) := by
  refine pa_mono (pa_cons h hs hst) fun σ H Q q => ?_
  refine (tG.bnd q).imp fun v H1 ⟨t, G, env, st, ⟨R1, r1⟩, E, q1⟩ => ?_
  refine ⟨G, env, st, R1, E, (Po.bnd q1).imp fun vs H2 ⟨G2, st2, ts, le, ⟨R2, r2⟩, q2⟩ => ?_⟩
  exact q2.okI ⟨R2, Rps.cons (r1.mono le) r2⟩
def szOk (n : Nat) : Bool := decide (n ≤ sizeLine)
def mTup (a : M (List T)) : M T := mBnd a fun ts _ st => if ts.length ≤ 1000000 then ok (.tup ts) st else none
theorem line_le {n : Nat} (h : n ≤ 1000000) : n ≤ sizeLine := by rw [sizeLine_eq]; omega
theorem line_lt {n : Nat} (h : n ≤ 1000000) : n < sizeLine := by rw [sizeLine_eq]; omega
theorem Rp.tupI {P : PX} {G : Gh} {a : Addr} {o : Obj} {ts : List T} {vs : List V} (r : Rps P G ts vs) (h : G.F a = some (.frz o (.tup vs))) (hd : o.dict = none) : Rp P G (.tup ts) (.ref a) := by
  simp only [Rp]; exact ⟨a, vs, rfl, .inl ⟨o, h, hd⟩, r⟩
theorem Rp.parI {P : PX} {G : Gh} {a : Addr} {ts : List T} {vs : List V} (r : Rps P G ts vs) (h : G.F a = some (.tup vs)) : Rp P G (.par ts) (.ref a) := by
  simp only [Rp]; exact ⟨a, vs, rfl, .inl (.inl h), r⟩
theorem Rp.lstI {P : PX} {G : Gh} {a : Addr} {ts : List T} {vs : List V} (r : Rps P G ts vs) (h : G.F a = some (.lst vs)) : Rp P G (.lst ts) (.ref a) := by
  simp only [Rp]; exact ⟨a, vs, rfl, h, r⟩
/-- a tuple is written: its object is known -/
def tTupN (t : TA) : TE := fun σ H Q => t σ H fun xs H1 => xs.length ≤ sizeLine ∧ ∀ (p : Addr) (o : Obj), H1 p = none → o.dict = none → Q (.ref p) (upd H1 p (.frz o (.tup xs)))
/-- a tuple is laid -/
theorem tup_laid {X : Cx} {pins : List (Addr × Obj)} {σ : L2.St} {H : Hp} {s : Shared} {xs : List V} {us : List Value} {Q : VK} {o : Obj} {n : Nat} (I : Inv X pins σ H s) (r : Vals xs us) (z : xs.length ≤ sizeLine) (hc : o.cls = .type "tuple") (hd : o.data = .seq us.toArray n) (hn : o.dict = none)
    (q : ∀ (p : Addr) (o : Obj), H p = none → o.dict = none → Q (.ref p) (upd H p (.frz o (.tup xs)))) : EP X pins σ Q (.ref s.heap.objs.size) { s with heap := s.heap.push o } := by
  have hf : H s.heap.objs.size = none := I.hok.fresh (Nat.le_refl _)
  have at_ : (s.heap.push o).get? s.heap.objs.size = some o := Heap.get?_push_size _ (by cases o; simp only at hd; subst hd; rfl)
  exact ⟨.ref s.heap.objs.size, _, I.laid (t' := s.toks) (o := .frz o (.tup xs)) (fun b u e => Heap.get?_push_of_some _ e) (Nat.le_refl _) ⟨at_, z, us, r, o, at_, hc, n, hd⟩, rfl, q _ o hf hn⟩
theorem pe_tupN {X : Cx} {es : List Expr} {t : TA} {k : Nat} {pos : Pos} (h : PA X es t) : PE X (.Tuple es k pos) (tTupN t) :=
  ⟨fun pins s σ H Q I hq => wpAny_Tuple_spliced (thn (h.run pos pins s σ H _ I hq) fun us s1 ⟨xs, H1, I1, r, z, q⟩ => ⟨by rw [← r.length]; exact z, tup_laid (n := 0) I1 r z rfl rfl rfl q⟩)⟩
/-- a new tuple -/
theorem newTup {P : PX} {G : Gh} {st : Store} {H : Hp} {ts : List T} {vs : List V} {W : XK} {Q : VK} (R : Rel P G st H) (r : Rps P G ts vs) (q : Po P (relT P) G W (ok (.tup ts) st) Q) {p : Addr} {o : Obj} (np : H p = none) (hd : o.dict = none) : Q (.ref p) (upd H p (.frz o (.tup vs))) :=
  q _ _ _ (Gh.frz_le (R.nofro np)) ⟨R.new np, Rp.tupI (Rps.mono (Gh.frz_le (R.nofro np)) r) upd_same hd⟩
theorem se_tup {es : List Expr} {ms : M (List T)} {k : Nat} {pos : Pos} (h : SA X W es ms) : SE X W (.Tuple es k pos) (mTup ms) := by
  refine pe_mono (pe_tupN h) fun σ H Q q => ?_
  refine (tG.bnd q).imp fun vs H1 ⟨ts, G, env, st, ⟨R1, r1⟩, E, q1⟩ => ?_
  split at q1
  · rename_i hz
    exact ⟨line_le (by rw [Rps.length r1]; exact hz), fun p o np hd => newTup R1 r1 q1 np hd⟩
  · exact q1.elim
/-- what a new list or dict is once it is known -/
def M0.t : M0 → T
  | .lst xs => .lst xs
  | .dct ks vs => .dct ks vs
theorem Ho0.rp {P : PX} {G : Gh} {a : Addr} {o : HO} {m : M0} (h : Ho0 P G a o m) (e : G.F a = some o) : Rp P G m.t (.ref a) := by
  cases m with
  | lst xs => obtain ⟨vs, e1, r⟩ := h; subst e1; exact Rp.lstI r e
  | dct ks vs =>
    obtain ⟨us, r, h⟩ := h
    simp only [M0.t, Rp]
    refine ⟨a, us, rfl, r, ?_⟩
    obtain ⟨ka, e1, h⟩ := h
    subst e1; exact ⟨ka, e, h⟩
def mKnown (m : M M0) : M T := mBnd m fun x _ st => ok x.t st
theorem relN_known {P : PX} {G : Gh} {st : Store} {H : Hp} {m : M0} {v : V} {W : XK} {Q : VK} (h : relN P G st H m v) (q : Po P (relT P) G W (ok m.t st) Q) : Q v H := by
  obtain ⟨p, o, H1, rfl, np, R, rfl, ho⟩ := h
  have le := Gh.frz_le (o := o) (R.nofro np)
  exact q _ _ _ le ⟨R.new np, (ho.mono le).rp upd_same⟩
/-- a new list or dict as a value -/
theorem se_known {e : Expr} {m : M M0} (h : SEn X W e m) : SE X W e (mKnown m) := by
  refine pe_mono h fun σ H Q q => ?_
  exact (tG.bnd q).imp fun v H1 ⟨x, G, env, st, r, E, q1⟩ => relN_known r q1
/-- a new list or dict as a cell -/
def mCell (m : M M0) : M T := mBnd m fun x _ st => if x.pure then ok (.cell st.length) (st ++ [.one x]) else none
theorem se_cell {e : Expr} {m : M M0} (h : SEn X W e m) : SE X W e (mCell m) := by
  refine pe_mono h fun σ H Q q => ?_
  refine (tG.bnd q).imp fun v H1 ⟨x, G, env, st, r, E, q1⟩ => ?_
  obtain ⟨p, o, H2, rfl, np, R, rfl, ho⟩ := r
  split at q1
  · rename_i pu
    refine q1 _ _ _ Gh.cellNew_le ⟨R.cellOne np pu ho, ?_⟩
    simp only [Rp]
    exact ⟨p, rfl, by rw [R.len]; exact Gh.cellNew_at⟩
  · exact q1.elim
def mLst (a : M (List T)) : M M0 := mBnd a fun ts _ st => if ts.length ≤ 1000000 then ok (.lst ts) st else none
theorem sn_lst {es : List Expr} {ms : M (List T)} {pos : Pos} (h : SA X W es ms) : SEn X W (.List es pos) (mLst ms) := by
  refine pe_mono (pe_lst h) fun σ H Q q => ?_
  refine (tG.bnd q).imp fun vs H1 ⟨ts, G, env, st, ⟨R1, r1⟩, E, q1⟩ => ?_
  split at q1
  · rename_i hz
    exact ⟨line_le (by rw [Rps.length r1]; exact hz), fun p np => q1.okI ⟨p, _, H1, rfl, np, R1, rfl, vs, rfl, r1⟩⟩
  · exact q1.elim
end
end PL
/-! data; what a cell holds; operators -/
namespace PL
open PySem PySem.Spec PyProof.Rows L2

/-! ### data -/
mutual
def T.data : T → PyData
  | .bl b => .bool b | .int i => .int i | .str s => .str s
  | .tup xs => .tuple (T.datas xs) | .lst xs => .list (T.datas xs)
  | _ => .none
def T.datas : List T → List PyData
  | [] => []
  | x :: xs => x.data :: T.datas xs
end
mutual
/-- data of a depth -/
def T.dat : Nat → T → Bool
  | _, .non | _, .bl _ | _, .int _ => true
  | _, .str s => PyData.strOk s
  | n + 1, .tup xs => T.dats n xs
  | n + 1, .lst xs => T.dats n xs
  | _, _ => false
def T.dats : Nat → List T → Bool
  | _, [] => true
  | n, x :: xs => T.dat n x && T.dats n xs
end
mutual
theorem dat_lay : ∀ (n : Nat) (t : T), t.dat n = true → t.data.canLay0 = true ∧ t.data.depth ≤ n
  | n, .non, _ => by simp [T.data, PyData.canLay0, PyData.depth]
  | n, .bl _, _ => by simp [T.data, PyData.canLay0, PyData.depth]
  | n, .int _, _ => by simp [T.data, PyData.canLay0, PyData.depth]
  | n, .str s, h => by
    have h : PyData.strOk s = true := by cases n <;> simpa [T.dat] using h
    simp [T.data, PyData.canLay0, PyData.depth, h]
  | 0, .tup _, h => by simp [T.dat] at h
  | 0, .lst _, h => by simp [T.dat] at h
  | n + 1, .tup xs, h => by
    obtain ⟨a, b⟩ := dats_lay n xs (by simpa [T.dat] using h)
    exact ⟨by simpa [T.data, PyData.canLay0] using a, by simp [T.data, PyData.depth]; omega⟩
  | n + 1, .lst xs, h => by
    obtain ⟨a, b⟩ := dats_lay n xs (by simpa [T.dat] using h)
    exact ⟨by simpa [T.data, PyData.canLay0] using a, by simp [T.data, PyData.depth]; omega⟩
  | n, .dct _ _, h => by cases n <;> simp [T.dat] at h
  | n, .obj _ _ _, h => by cases n <;> simp [T.dat] at h
  | n, .cell _, h => by cases n <;> simp [T.dat] at h
  | n, .fld _ _ _, h => by cases n <;> simp [T.dat] at h
  | n, .scr _, h => by cases n <;> simp [T.dat] at h
  | n, .par _, h => by cases n <;> simp [T.dat] at h
theorem dats_lay : ∀ (n : Nat) (ts : List T), T.dats n ts = true → PyData.canLayAll0 (T.datas ts) = true ∧ PyData.depthAll (T.datas ts) ≤ n
  | n, [], _ => by simp [T.datas, PyData.canLayAll0, PyData.depthAll]
  | n, t :: ts, h => by
    simp only [T.dats, Bool.and_eq_true] at h
    obtain ⟨a, b⟩ := dat_lay n t h.1
    obtain ⟨c, d⟩ := dats_lay n ts h.2
    exact ⟨by simp [T.datas, PyData.canLayAll0, a, c], by simp [T.datas, PyData.depthAll]; omega⟩
end
theorem dat_shaped {t : T} (h : t.dat 60 = true) : SeqAt.shaped t.data = true := by
  obtain ⟨a, b⟩ := dat_lay 60 t h
  unfold SeqAt.shaped
  rw [a]; simp; omega
/-- what is read now: of a container, the heap itself -/
def Rh (P : PX) (G : Gh) (H : Hp) : T → V → Prop
  | .tup xs, v => ∃ a vs, v = .ref a ∧ SqT P.K H a vs ∧ Rps P G xs vs
  | .lst xs, v => ∃ a vs, v = .ref a ∧ H a = some (.lst vs) ∧ Rps P G xs vs
  | .dct ks vs, v => ∃ a o, v = .ref a ∧ H a = some o ∧ Ho0 P G a o (.dct ks vs)
  | t, v => Rp P G t v
theorem Rp.h {P : PX} {G : Gh} {st : Store} {H : Hp} (R : Rel P G st H) {t : T} {v : V} (r : Rp P G t v) : Rh P G H t v := by
  cases t with
  | tup xs => simp only [Rp] at r; obtain ⟨a, vs, e, q, s⟩ := r; exact ⟨a, vs, e, SqT.grow R.fro q.t, s⟩
  | lst xs => simp only [Rp] at r; obtain ⟨a, vs, e, q, s⟩ := r; exact ⟨a, vs, e, R.fro _ _ q, s⟩
  | dct ks vs =>
    simp only [Rp] at r
    obtain ⟨a, us, e, q, s⟩ := r
    obtain ⟨ka, f, s⟩ := s
    exact ⟨a, _, e, R.fro _ _ f, us, q, ka, rfl, s⟩
  | _ => exact r
/-- a cell's content -/
def MO.look : MO → T → T
  | .one m, _ => m.t
  | .frz u, _ => u
  | _, t => t
def fmAt (fs : List FM) (k e : Nat) : Option M0 := match fs[k]? with | some (.own e' m) => if e' = e then some m else none | _ => none
def MO.fms : MO → List FM
  | .rcl fs => fs
  | .ins _ _ fs => fs
  | _ => []
def look (st : Store) (t : T) : T :=
  match t with
  | .cell i => (match st[i]? with | some m => m.look t | none => t)
  | .fld i k e => (match st[i]? with | some m => (match fmAt m.fms k e with | some m0 => m0.t | none => t) | none => t)
  | .par xs => .tup xs
  | t => t
theorem fms_at {P : PX} {G : Gh} {H : Hp} {i : Nat} : ∀ {k0 k e : Nat} {fs : List FM} {vs : List V} {m : M0}, Fms P G H i k0 fs vs → fmAt fs k e = some m → ∃ b, vs[k]? = some (.ref b) ∧ G.ν i (k0 + k) e = some b ∧ (∀ e', e < e' → G.ν i (k0 + k) e' = none) ∧ Own1 P G H b (i, some (k0 + k)) m
  | _, _, _, [], _, _, _, h => by simp [fmAt] at h
  | k0, 0, e, .val t :: fs, _, m, _, h => by simp [fmAt] at h
  | k0, 0, e, .own e' m' :: fs, vs, m, q, h => by
    simp only [fmAt, List.getElem?_cons_zero] at h
    split at h
    · rename_i e1
      cases h; subst e1
      obtain ⟨b, r, rfl, n, nn, o, _⟩ := q
      exact ⟨b, rfl, n, nn, o⟩
    · cases h
  | k0, k + 1, e, .val t :: fs, vs, m, q, h => by
    obtain ⟨v, r, rfl, _, _, q⟩ := q
    have := fms_at (k := k) q (by simpa [fmAt] using h)
    rw [show k0 + 1 + k = k0 + (k + 1) by omega] at this
    simpa using this
  | k0, k + 1, e, .own e' m' :: fs, vs, m, q, h => by
    obtain ⟨b, r, rfl, _, _, _, q⟩ := q
    have := fms_at (k := k) q (by simpa [fmAt] using h)
    rw [show k0 + 1 + k = k0 + (k + 1) by omega] at this
    simpa using this
theorem Rel.fms {P : PX} {G : Gh} {st : Store} {H : Hp} (R : Rel P G st H) {i k e : Nat} {m : MO} {m0 : M0} (e1 : st[i]? = some m) (e2 : fmAt m.fms k e = some m0) : ∃ b, G.ν i k e = some b ∧ (∀ e', e < e' → G.ν i k e' = none) ∧ Own1 P G H b (i, some k) m0 := by
  obtain ⟨a, ha, c⟩ := R.addr e1
  cases m with
  | one m => simp [MO.fms, fmAt] at e2
  | frz m => simp [MO.fms, fmAt] at e2
  | rcl fs =>
    obtain ⟨_, _, vs, _, q⟩ := c
    obtain ⟨b, _, h1, h2, h3⟩ := fms_at q e2
    rw [Nat.zero_add] at h1 h2 h3
    exact ⟨b, h1, h2, h3⟩
  | ins cn ns fs =>
    obtain ⟨_, _, C, dx, vs, _, _, _, q⟩ := c
    obtain ⟨b, _, h1, h2, h3⟩ := fms_at q e2
    rw [Nat.zero_add] at h1 h2 h3
    exact ⟨b, h1, h2, h3⟩
theorem Own1.h {P : PX} {G : Gh} {H : Hp} {a : Addr} {p : Nat × Option Nat} {m : M0} (o : Own1 P G H a p m) : Rh P G H m.t (.ref a) := by
  obtain ⟨_, _, _, o, e, h⟩ := o
  cases m with
  | lst xs => obtain ⟨vs, e1, r⟩ := h; subst e1; exact ⟨a, vs, rfl, e, r⟩
  | dct ks vs => exact ⟨a, o, rfl, e, h⟩
theorem Rp.cellI {P : PX} {G : Gh} {i : Nat} {a : Addr} (h : G.μ[i]? = some a) : Rp P G (.cell i) (.ref a) := by simp only [Rp]; exact ⟨a, rfl, h⟩
theorem look_cell (st : Store) (i : Nat) : look st (.cell i) = (match st[i]? with | some m => m.look (.cell i) | none => .cell i) := rfl
theorem look_fld (st : Store) (i k e : Nat) : look st (.fld i k e) = (match st[i]? with | some m => (match fmAt m.fms k e with | some m0 => m0.t | none => .fld i k e) | none => .fld i k e) := rfl
theorem look_ok {P : PX} {G : Gh} {st : Store} {H : Hp} (R : Rel P G st H) {t : T} {v : V} (r : Rp P G t v) : Rh P G H (look st t) v := by
  cases t with
  | par xs => simp only [Rp] at r; obtain ⟨a, vs, e, q, s⟩ := r; exact ⟨a, vs, e, SqT.grow R.fro q, s⟩
  | cell i =>
    simp only [Rp] at r
    obtain ⟨a, rfl, ha⟩ := r
    rw [look_cell]
    split
    · rename_i m e
      have c := R.cel i m a e ha
      cases m with
      | one m => exact Own1.h c
      | frz u => exact Rp.h R c.2.2
      | rcl fs => exact Rp.cellI (P := P) ha
      | ins cn ns fs => exact Rp.cellI (P := P) ha
    · exact Rp.cellI (P := P) ha
  | fld i k e =>
    have r0 := r
    simp only [Rp] at r
    obtain ⟨a, rfl, ha⟩ := r
    rw [look_fld]
    split
    · rename_i m e1
      split
      · rename_i m0 e2
        obtain ⟨b, h1, _, h2⟩ := R.fms e1 e2
        rw [ha] at h1; cases h1
        exact h2.h
      · exact r0
    · exact r0
  | _ => exact Rp.h R r
mutual
theorem Rp.dp {P : PX} {G : Gh} {H : Hp} (fro : ∀ a o, G.F a = some o → H a = some o) : ∀ (n : Nat) (t : T) (v : V), t.dat n = true → Rp P G t v → Dp P.K H v t.data
  | _, .non, v, _, r => by simp only [Rp] at r; subst r; exact .non
  | _, .bl b, v, _, r => by simp only [Rp] at r; subst r; exact .bl b
  | _, .int i, v, _, r => by simp only [Rp] at r; subst r; exact .int i
  | _, .str s, v, _, r => by simp only [Rp] at r; subst r; exact .str s
  | 0, .tup _, _, h, _ => by simp [T.dat] at h
  | 0, .lst _, _, h, _ => by simp [T.dat] at h
  | n + 1, .tup xs, v, h, r => by
    simp only [Rp] at r
    obtain ⟨a, vs, rfl, q, s⟩ := r
    exact .tup (SqT.grow fro q.t) (Rps.dp fro n xs vs (by simpa [T.dat] using h) s)
  | n + 1, .lst xs, v, h, r => by
    simp only [Rp] at r
    obtain ⟨a, vs, rfl, q, s⟩ := r
    exact .lst (.inl (.inl (fro _ _ q))) (Rps.dp fro n xs vs (by simpa [T.dat] using h) s)
  | n, .dct _ _, _, h, _ => by cases n <;> simp [T.dat] at h
  | n, .obj _ _ _, _, h, _ => by cases n <;> simp [T.dat] at h
  | n, .cell _, _, h, _ => by cases n <;> simp [T.dat] at h
  | n, .fld _ _ _, _, h, _ => by cases n <;> simp [T.dat] at h
  | n, .scr _, _, h, _ => by cases n <;> simp [T.dat] at h
  | n, .par _, _, h, _ => by cases n <;> simp [T.dat] at h
theorem Rps.dp {P : PX} {G : Gh} {H : Hp} (fro : ∀ a o, G.F a = some o → H a = some o) : ∀ (n : Nat) (ts : List T) (vs : List V), T.dats n ts = true → Rps P G ts vs → DpAll P.K H vs (T.datas ts)
  | _, [], vs, _, r => by simp only [Rps] at r; subst r; exact .nil
  | n, t :: ts, vs, h, r => by
    simp only [Rps] at r
    obtain ⟨v, w, rfl, r1, r2⟩ := r
    simp only [T.dats, Bool.and_eq_true] at h
    exact .cons (Rp.dp fro n t v h.1 r1) (Rps.dp fro n ts w h.2 r2)
end
theorem Rh.dp {P : PX} {G : Gh} {st : Store} {H : Hp} (R : Rel P G st H) {n : Nat} {t : T} {v : V} (h : t.dat n = true) (r : Rh P G H t v) : Dp P.K H v t.data := by
  cases t with
  | tup xs =>
    obtain ⟨a, vs, rfl, q, s⟩ := r
    cases n with
    | zero => simp [T.dat] at h
    | succ n => exact .tup q (Rps.dp R.fro n xs vs (by simpa [T.dat] using h) s)
  | lst xs =>
    obtain ⟨a, vs, rfl, q, s⟩ := r
    cases n with
    | zero => simp [T.dat] at h
    | succ n => exact .lst (.inl (.inl q)) (Rps.dp R.fro n xs vs (by simpa [T.dat] using h) s)
  | dct _ _ => cases n <;> simp [T.dat] at h
  | _ => exact Rp.dp R.fro n _ v h r

/-! ### operators -/
/-- f of two values gives o of two trees -/
def Op2 (X : Cx) (f : Value → Value → Sem Value) (o : Store → T → T → Option T) : Prop :=
  ∀ (pins : List (Addr × Obj)) (s : Shared) (σ : L2.St) (H : Hp) (x y : V) (v u : Value) (Q : VK) (G : Gh) (st : Store) (a b t : T), Inv X pins σ H s → RelV x v → RelV y u → Rel (pxOf X) G st H → Rp (pxOf X) G a x → Rp (pxOf X) G b y →
    o st a b = some t → (∀ G' H' r, G.Le G' → relT (pxOf X) G' st H' t r → Q r H') → wpAny (model X.prog X.w) X.A (f v u) (EP X pins σ Q) X.xe s
def rOp2 (X : Cx) (W : WX) (σ : L2.St) (o : Store → T → T → Option T) : R2 := fun x y H Q => ∃ G st a b t, Rel (pxOf X) G st H ∧ Rp (pxOf X) G a x ∧ Rp (pxOf X) G b y ∧ o st a b = some t ∧ ∀ G' H' r, G.Le G' → relT (pxOf X) G' st H' t r → Q r H'
def mOp2 (o : Store → T → T → Option T) (a b : M T) : M T := mBnd a fun x => mBnd b fun y _ st => Res.ofO (o st x y) st
section
variable {X : Cx} {W : WX} {a b : Expr} {ma mb : M T} {pos : Pos} {o : Store → T → T → Option T}
theorem Op2.r {f : Value → Value → Sem Value} (h : Op2 X f o) : OpR X f (rOp2 X W [] o) := fun pins s σ H x y v u Q I rx ry ⟨G, st, a, b, t, R, ra, rb, e, q⟩ => h pins s σ H x y v u Q G st a b t I rx ry R ra rb e q
theorem mOp2_pre {σ : L2.St} {H : Hp} {Q : VK} (q : tM (pxOf X) W (mOp2 o ma mb) σ H Q) : tOp (rOp2 X W [] o) (tM (pxOf X) W ma) (tM (pxOf X) W mb) σ H Q := by
  refine (tG.bnd q).imp fun x H1 ⟨tx, G, env, st, ⟨R1, r1⟩, E, q1⟩ => ?_
  refine ⟨G, env, st, R1, E, (Po.bnd q1).imp fun y H2 ⟨G2, st2, ty, le, ⟨R2, r2⟩, q2⟩ => ?_⟩
  have q2 : Po (pxOf X) (relT (pxOf X)) G2 (WE W σ) (Res.ofO (o st2 tx ty) st2) Q := q2
  cases e : o st2 tx ty with
  | none => rw [e] at q2; exact q2.elim
  | some t =>
    rw [e] at q2
    exact ⟨G2, st2, tx, ty, t, R2, r1.mono le, r2, e, fun G' H' r l q => q2 G' H' r l q⟩
theorem se_op {op : Operator} (h : Op2 X (binaryOp op) o) (ha : SE X W a ma) (hb : SE X W b mb) : SE X W (.BinOp a op b pos) (mOp2 o ma mb) :=
  pe_mono (pe_op (h.r (W := W)) ha hb) fun _ _ _ q => mOp2_pre q
theorem se_cmp {op : CmpOp} (h : Op2 X (compareOp op) o) (ha : SE X W a ma) (hb : SE X W b mb) (hm : behindInMarks op b = false) : SE X W (.Compare a [op] [b] pos) (mOp2 o ma mb) :=
  pe_mono (pe_cmpR (h.r (W := W)) ha hb hm) fun _ _ _ q => mOp2_pre q
/-- a test that is a bool -/
def mBool (m : M T) : M Bool := mBnd m fun t _ st => match t with | .bl c => ok c st | _ => none
theorem relT_bl {G : Gh} {st : Store} {H : Hp} {c : Bool} {v : V} (r : relT (pxOf X) G st H (.bl c) v) : v = .bl c := by
  have := r.2; simpa only [Rp] using this
theorem mBool_pre {m : M T} {σ : L2.St} {H : Hp} {Q : Bool → Hp → Prop} (q : tMb (pxOf X) W (mBool m) σ H Q) : tM (pxOf X) W m σ H fun x H' => ∃ k, x = .bl k ∧ Q k H' := by
  refine (tG.bnd q).imp fun x H1 ⟨t, G, env, st, r, E, q1⟩ => ?_
  split at q1
  · rename_i c
    exact ⟨c, relT_bl r, q1.okI ⟨r.1, rfl⟩⟩
  · exact q1.elim
theorem sb_cmp {op : CmpOp} (h : Op2 X (compareOp op) o) (ha : SE X W a ma) (hb : SE X W b mb) (hm : behindInMarks op b = false) : SB X W (.Compare a [op] [b] pos) (mBool (mOp2 o ma mb)) := by
  refine pt_mono (pt_cmpR (h.r (W := W)) ha hb hm) fun σ H Q q => ?_
  have q1 := mBool_pre q
  -- the comparison's value, then the bool
  exact mOp2_pre (W := W) (show tM (pxOf X) W (mOp2 o ma mb) σ H _ from q1)

/-! ### arithmetic, sums -/
def mulOk (i j : Int) : Bool := decide (i.natAbs.log2 + j.natAbs.log2 < 1000000)
def divOk (j : Int) : Bool := decide (0 < j) && decide (j.natAbs.log2 < 9000)
/-- t + u; the new tuple's object is known -/
def rCatN (K : PySem.W.Frag) : R2 := fun x y H Q => ∃ a b xs ys, x = .ref a ∧ y = .ref b ∧ SqT K H a xs ∧ SqT K H b ys ∧ xs.length + ys.length ≤ sizeLine ∧
  (xs = [] → Q (.ref b) H) ∧ (xs ≠ [] → ys = [] → Q (.ref a) H) ∧ (xs ≠ [] → ys ≠ [] → ∀ (p : Addr) (o : Obj), H p = none → o.dict = none → Q (.ref p) (upd H p (.frz o (.tup (xs ++ ys)))))
theorem op_catN {X : Cx} : OpR X (binaryOp .Add) (rCatN X.K) := by
  intro pins s σ H x y v u Q I rx ry h
  obtain ⟨a, b, xs, ys, ex, ey, ha, hb, hz, q0, q1, q2⟩ := h
  by_cases hx : xs = [] ∨ ys = []
  · exact op_catA pins s σ H x y v u Q I rx ry ⟨a, b, xs, ys, ex, ey, ha, hb, hz, q0, q1, fun h1 h2 => (hx.elim h1 h2).elim⟩
  · subst ex ey
    cases rx
    cases ry
    have h1 : xs ≠ [] := fun z => hx (.inl z)
    have h2 : ys ≠ [] := fun z => hx (.inr z)
    obtain ⟨us, r1, p1, _⟩ := I.tuple ha
    obtain ⟨ws, r2, p2, _⟩ := I.tuple hb
    refine HT.cat_tup p1 p2 (fun z => h1 (r1.nil_iff.mp z)) (fun z => (h2 (r2.nil_iff.mp z)).elim) (fun _ => ?_) (by rw [← r1.length, ← r2.length]; exact hz)
    exact tup_laid (n := 0) I (r1.append r2) (by rw [List.length_append]; exact hz) rfl rfl rfl (q2 h1 h2)
def addT (_ : Store) (a b : T) : Option T :=
  match a, b with
  | .int i, .int j => some (.int (i + j))
  | .str x, .str y => if x.length + y.length ≤ 1000000 then some (.str (x ++ y)) else none
  | .lst x, .lst y => if x.length + y.length ≤ 1000000 then some (.lst (x ++ y)) else none
  | .tup x, .tup y => if x.length + y.length ≤ 1000000 then some (.tup (x ++ y)) else none
  | _, _ => none
def subT (_ : Store) (a b : T) : Option T := match a, b with | .int i, .int j => some (.int (i - j)) | _, _ => none
def mulT (_ : Store) (a b : T) : Option T := match a, b with | .int i, .int j => if mulOk i j then some (.int (i * j)) else none | _, _ => none
def fdivT (_ : Store) (a b : T) : Option T := match a, b with | .int i, .int j => if divOk j then some (.int (i / j)) else none | _, _ => none
def modT (_ : Store) (a b : T) : Option T := match a, b with | .int i, .int j => if 0 < j then some (.int (i % j)) else none | _, _ => none
def powT (_ : Store) (a b : T) : Option T := match a, b with | .int i, .int j => if 0 ≤ j ∧ j ≤ 1000 ∧ i.natAbs ≤ 1000 then some (.int (i ^ j.toNat)) else none | _, _ => none
/-- a new thing by a rule of the layer -/
theorem new_frz {G : Gh} {st : Store} {H : Hp} {t : T} {o : HO} {Q : VK} (R : Rel (pxOf X) G st H) (q : ∀ G' H' r, G.Le G' → relT (pxOf X) G' st H' t r → Q r H') {p : Addr} (np : H p = none) (h : Rp (pxOf X) (G.frz p o) t (.ref p)) : Q (.ref p) (upd H p o) :=
  q _ _ _ (Gh.frz_le (R.nofro np)) ⟨R.new np, h⟩
theorem Op2.ints {f : Value → Value → Sem Value} {C : Int → Int → Prop} {g : Int → Int → V} (h : OpR X f (rI C g)) {o : Store → T → T → Option T}
    (ho : ∀ st a b t, o st a b = some t → ∃ i j, a = .int i ∧ b = .int j ∧ C i j ∧ ∀ G, Rp (pxOf X) G t (g i j)) : Op2 X f o := by
  intro pins s σ H x y v u Q G st a b t I rx ry R ra rb e q
  obtain ⟨i, j, rfl, rfl, c, hr⟩ := ho st a b t e
  simp only [Rp] at ra rb
  exact h pins s σ H x y v u Q I rx ry ⟨i, j, ra, rb, c, q G H _ (Gh.Le.refl G) ⟨R, hr G⟩⟩
theorem op2_add : Op2 X (binaryOp .Add) addT := by
  intro pins s σ H x y v u Q G st a b t I rx ry R ra rb e q
  unfold addT at e
  split at e
  · cases e
    simp only [Rp] at ra rb
    exact op_add pins s σ H x y v u Q I rx ry ⟨_, _, ra, rb, q G H _ (Gh.Le.refl G) ⟨R, by simp [Rp]⟩⟩
  · split at e
    · rename_i hz
      cases e
      simp only [Rp] at ra rb
      exact op_add_str pins s σ H x y v u Q I rx ry ⟨_, _, ra, rb, line_le hz, q G H _ (Gh.Le.refl G) ⟨R, by simp [Rp]⟩⟩
    · cases e
  · split at e
    · rename_i hz
      cases e
      obtain ⟨l, vs, e1, h1, r1⟩ := Rp.h R ra
      obtain ⟨l2, us, e2, h2, r2⟩ := Rp.h R rb
      refine op_cat pins s σ H x y v u Q I rx ry ⟨l, l2, vs, us, e1, e2, h1, h2, line_le (by rw [Rps.length r1, Rps.length r2]; exact hz), fun p np => new_frz R q np ?_⟩
      exact Rp.lstI (Rps.mono (Gh.frz_le (R.nofro np)) (Rps.append r1 r2)) upd_same
    · cases e
  · split at e
    · rename_i x1 y1 hz
      cases e
      obtain ⟨l, vs, e1, h1, r1⟩ := Rp.h R ra
      obtain ⟨l2, us, e2, h2, r2⟩ := Rp.h R rb
      refine op_catN pins s σ H x y v u Q I rx ry ⟨l, l2, vs, us, e1, e2, h1, h2, line_le (by rw [Rps.length r1, Rps.length r2]; exact hz), ?_⟩
      refine ⟨fun z => ?_, fun _ z => ?_, fun _ _ p o np hd => new_frz R q np (Rp.tupI (Rps.mono (Gh.frz_le (R.nofro np)) (Rps.append r1 r2)) upd_same hd)⟩
      · subst z
        have e0 := Rps.length r1
        cases x1 with
        | nil => subst e2; exact q G H _ (Gh.Le.refl G) ⟨R, rb⟩
        | cons _ _ => simp at e0
      · subst z
        have e0 := Rps.length r2
        cases y1 with
        | nil => subst e1; exact q G H _ (Gh.Le.refl G) ⟨R, by rw [List.append_nil]; exact ra⟩
        | cons _ _ => simp at e0
    · cases e
  · cases e
theorem op2_sub : Op2 X (binaryOp .Sub) subT := .ints (C := fun _ _ => True) (fun pins s σ H x y v u Q I rx ry ⟨i, j, e1, e2, _, q⟩ => op_sub pins s σ H x y v u Q I rx ry ⟨i, j, e1, e2, q⟩) fun st a b t e => by
  unfold subT at e; split at e
  · cases e; exact ⟨_, _, rfl, rfl, trivial, fun _ => by simp [Rp]⟩
  · cases e
theorem op2_mul : Op2 X (binaryOp .Mult) mulT := .ints op_mulW fun st a b t e => by
  unfold mulT at e; split at e
  · split at e
    · rename_i h; cases e; exact ⟨_, _, rfl, rfl, by simpa [mulOk, CMulW] using h, fun _ => by simp [Rp]⟩
    · cases e
  · cases e
theorem op2_fdiv : Op2 X (binaryOp .FloorDiv) fdivT := .ints op_fdivW fun st a b t e => by
  unfold fdivT at e; split at e
  · split at e
    · rename_i h
      simp only [divOk, Bool.and_eq_true, decide_eq_true_eq] at h
      cases e; exact ⟨_, _, rfl, rfl, h, fun _ => by simp [Rp]⟩
    · cases e
  · cases e
theorem op2_mod : Op2 X (binaryOp .Mod) modT := .ints op_mod fun st a b t e => by
  unfold modT at e; split at e
  · split at e
    · rename_i h; cases e; exact ⟨_, _, rfl, rfl, h, fun _ => by simp [Rp]⟩
    · cases e
  · cases e
theorem op2_pow : Op2 X (binaryOp .Pow) powT := .ints op_pow fun st a b t e => by
  unfold powT at e; split at e
  · split at e
    · rename_i h; cases e; exact ⟨_, _, rfl, rfl, ⟨h.1, by omega, Nat.lt_of_le_of_lt h.2.2 (by decide)⟩, fun _ => by simp [Rp]⟩
    · cases e
  · cases e
/-! ### minus -/
def mNeg (a : M T) : M T := mBnd a fun t _ st => match t with | .int i => ok (.int (-i)) st | _ => none
theorem se_neg (ha : SE X W a ma) : SE X W (.UnaryOp .USub a pos) (mNeg ma) := by
  refine pe_mono (pe_un un_neg ha) fun σ H Q q => ?_
  refine (tG.bnd q).imp fun x H1 ⟨t, G, env, st, ⟨R, r⟩, E, q1⟩ => ?_
  split at q1
  · rename_i i
    simp only [Rp] at r
    exact ⟨i, r, q1.okI ⟨R, by simp [Rp]⟩⟩
  · exact q1.elim

/-! ### comparisons -/
/-- two data are equal -/
def T.eqv (a b : T) : Bool := PyData.eqv a.data b.data
def eqO (st : Store) (a b : T) : Option Bool :=
  let a := look st a; let b := look st b
  if a.dat 60 && b.dat 60 then some (T.eqv a b) else none
def eqT (st : Store) (a b : T) : Option T := (eqO st a b).map .bl
def neT (st : Store) (a b : T) : Option T := (eqO st a b).map fun c => .bl (!c)
theorem bl_of {o : Option Bool} {f : Bool → T} {t : T} (h : o.map f = some t) : ∃ c, o = some c ∧ t = f c := by
  cases o with
  | none => simp at h
  | some c => simp at h; exact ⟨c, rfl, h.symm⟩
theorem op2_eq (hu : X.A.units + 64 < cLine) : Op2 X (compareOp .Eq) eqT := by
  intro pins s σ H x y v u Q G st a b t I rx ry R ra rb e q
  unfold eqT at e
  obtain ⟨c, e2, rfl⟩ := bl_of e
  clear e
  unfold eqO at e2
  dsimp only at e2
  split at e2
  · rename_i h
    simp only [Bool.and_eq_true] at h
    obtain rfl := Option.some.inj e2
    exact op_eqD hu pins s σ H x y v u Q I rx ry ⟨_, _, Rh.dp R h.1 (look_ok R ra), Rh.dp R h.2 (look_ok R rb), dat_shaped h.1, dat_shaped h.2, q G H _ (Gh.Le.refl G) ⟨R, by simp [Rp]; rfl⟩⟩
  · cases e2
theorem op2_ne (hu : X.A.units + 64 < cLine) : Op2 X (compareOp .NotEq) neT := by
  intro pins s σ H x y v u Q G st a b t I rx ry R ra rb e q
  unfold neT at e
  obtain ⟨c, e2, rfl⟩ := bl_of e
  clear e
  unfold eqO at e2
  dsimp only at e2
  split at e2
  · rename_i h
    simp only [Bool.and_eq_true] at h
    obtain rfl := Option.some.inj e2
    exact op_neD hu pins s σ H x y v u Q I rx ry ⟨_, _, Rh.dp R h.1 (look_ok R ra), Rh.dp R h.2 (look_ok R rb), dat_shaped h.1, dat_shaped h.2, q G H _ (Gh.Le.refl G) ⟨R, by simp [Rp]; rfl⟩⟩
  · cases e2

/-! ### order -/
mutual
def T.lt : T → T → Option Bool
  | .int i, .int j => some (decide (i < j))
  | .str x, .str y => some (decide (x.cps.toList < y.cps.toList))
  | .tup xs, .tup ys => T.lts xs ys
  | _, _ => none
def T.lts : List T → List T → Option Bool
  | [], [] => some false
  | [], _ :: _ => some true
  | _ :: _, [] => some false
  | x :: xs, y :: ys => (T.lts xs ys).bind fun c => if T.eqv x y then some c else T.lt x y
end
mutual
def T.le : T → T → Option Bool
  | .int i, .int j => some (decide (i ≤ j))
  | .str x, .str y => some (!decide (y.cps.toList < x.cps.toList))
  | .tup xs, .tup ys => T.les xs ys
  | _, _ => none
def T.les : List T → List T → Option Bool
  | [], [] => some true
  | [], _ :: _ => some true
  | _ :: _, [] => some false
  | x :: xs, y :: ys => (T.les xs ys).bind fun c => if T.eqv x y then some c else T.le x y
end

theorem lexAt_succ' (e r : Nat → Bool) (z : Bool) : ∀ (k i : Nat), Ob.lexAt e r z (i + 1) k = Ob.lexAt (fun j => e (j + 1)) (fun j => r (j + 1)) z i k
  | 0, i => rfl
  | k + 1, i => by rw [Ob.lexAt_succ, Ob.lexAt_succ, lexAt_succ' e r z k (i + 1)]
/-- two rows compared, by the first unequal pair -/
def lexO (f : T → T → Option Bool) (z : Nat → Nat → Bool) : List T → List T → Option Bool
  | [], ys => some (z 0 ys.length)
  | x :: xs, [] => some (z (xs.length + 1) 0)
  | x :: xs, y :: ys => (lexO f z xs ys).bind fun c => if T.eqv x y then some c else f x y
theorem lexO_at {f : T → T → Option Bool} {z : Nat → Nat → Bool} (hz : ∀ m n, z (m + 1) (n + 1) = z m n) : ∀ {xs ys : List T} {c : Bool}, lexO f z xs ys = some c →
    (∀ (j : Nat) (x y : T), xs[j]? = some x → ys[j]? = some y → T.eqv x y = false → ∃ d, f x y = some d) ∧
    c = Ob.lexAt (fun j => T.eqv (xs.getD j .non) (ys.getD j .non)) (fun j => (f (xs.getD j .non) (ys.getD j .non)).getD false) (z xs.length ys.length) 0 (min xs.length ys.length)
  | [], ys, c, h => by
    simp only [lexO] at h; cases h
    exact ⟨fun j x y e _ _ => by simp at e, by simp [Ob.lexAt]⟩
  | x :: xs, [], c, h => by
    simp only [lexO] at h; cases h
    exact ⟨fun j x y _ e _ => by simp at e, by simp [Ob.lexAt]⟩
  | x :: xs, y :: ys, c, h => by
    simp only [lexO] at h
    cases e : lexO f z xs ys with
    | none => rw [e] at h; simp at h
    | some c' =>
      rw [e] at h
      simp only [Option.bind_some] at h
      obtain ⟨h1, h2⟩ := lexO_at hz e
      refine ⟨fun j x' y' e1 e2 ne => ?_, ?_⟩
      · cases j with
        | zero =>
          simp at e1 e2; subst e1 e2
          rw [if_neg (by rw [ne]; simp)] at h
          exact ⟨c, h⟩
        | succ j => exact h1 j x' y' (by simpa using e1) (by simpa using e2) ne
      · have em : min (x :: xs).length (y :: ys).length = min xs.length ys.length + 1 := by simp only [List.length_cons]; omega
        rw [em, Ob.lexAt_succ, lexAt_succ']
        simp only [List.getD_cons_zero, List.getD_cons_succ, List.length_cons, hz]
        split
        · rename_i q; rw [if_pos q] at h; cases h; exact h2
        · rename_i q; rw [if_neg q] at h; rw [h]; rfl
theorem lts_lexO : ∀ xs ys : List T, T.lts xs ys = lexO T.lt (fun m n => decide (m < n)) xs ys
  | [], [] => by simp [T.lts, lexO]
  | [], y :: ys => by simp [T.lts, lexO]
  | x :: xs, [] => by simp [T.lts, lexO]
  | x :: xs, y :: ys => by simp only [T.lts, lexO, lts_lexO xs ys]
theorem les_lexO : ∀ xs ys : List T, T.les xs ys = lexO T.le (fun m n => decide (m ≤ n)) xs ys
  | [], [] => by simp [T.les, lexO]
  | [], y :: ys => by simp [T.les, lexO]
  | x :: xs, [] => by simp [T.les, lexO]
  | x :: xs, y :: ys => by simp only [T.les, lexO, les_lexO xs ys]
end
section
variable {X : Cx} {pins : List (Addr × Obj)} {σ : L2.St} {H : Hp} {s : Shared} {G : Gh} {st : Store}
theorem Rps.reads (I : Inv X pins σ H s) (R : Rel (pxOf X) G st H) {n : Nat} {ts : List T} {vs : List V} {us : List Value} (d : T.dats n ts = true) (r : Rps (pxOf X) G ts vs) (rv : Vals vs us) : ∃ as, ReadsAll s.heap us (T.datas ts) as :=
  Dp.readsAll I _ _ _ (Rps.dp (P := pxOf X) R.fro n ts vs d r) rv
theorem datas_getD : ∀ (ts : List T) (j : Nat), (T.datas ts).getD j .none = (ts.getD j .non).data
  | [], j => by simp [T.datas, T.data]
  | t :: ts, 0 => by simp [T.datas]
  | t :: ts, j + 1 => by simpa [T.datas] using datas_getD ts j
theorem datas_len : ∀ ts : List T, (T.datas ts).length = ts.length
  | [] => rfl
  | t :: ts => by simp [T.datas, datas_len ts]
theorem dats_get {n : Nat} : ∀ {ts : List T} {j : Nat} {t : T}, T.dats n ts = true → ts[j]? = some t → t.dat n = true := by
  intro ts
  induction ts with
  | nil => intro j t _ e; simp at e
  | cons a r ih =>
    intro j t h e
    simp only [T.dats, Bool.and_eq_true] at h
    cases j with
    | zero => simp at e; subst e; exact h.1
    | succ j => exact ih h.2 (by simpa using e)
/-- the items of two rows are equal as the trees are -/
theorem items_eq (I : Inv X pins σ H s) (R : Rel (pxOf X) G st H) {A : Around} {n : Nat} {xs ys : List T} {vs ws : List V} {us zs : List Value} (dx : T.dats n xs = true) (dy : T.dats n ys = true) (rx : Rps (pxOf X) G xs vs) (ry : Rps (pxOf X) G ys ws) (ru : Vals vs us) (rz : Vals ws zs)
    (hu : A.units + n < cLine) : ∀ j (h1 : j < us.length) (h2 : j < zs.length), SeqAt.EqAt A s us[j] zs[j] (T.eqv (xs.getD j .non) (ys.getD j .non)) := fun j h1 h2 => by
  have l1 : us.length = xs.length := by rw [← ru.length, Rps.length rx]
  have l2 : zs.length = ys.length := by rw [← rz.length, Rps.length ry]
  have hx : xs[j]? = some (xs.getD j .non) := by rw [List.getD_eq_getElem?_getD, List.getElem?_eq_getElem (by omega)]; rfl
  have hy : ys[j]? = some (ys.getD j .non) := by rw [List.getD_eq_getElem?_getD, List.getElem?_eq_getElem (by omega)]; rfl
  obtain ⟨v, ev, rv⟩ := Rps.get rx hx
  obtain ⟨w, ew, rw'⟩ := Rps.get ry hy
  obtain ⟨u, eu, r1⟩ := ru.get ev
  obtain ⟨z, ez, r2⟩ := rz.get ew
  have e1 : us[j] = u := by rw [List.getElem?_eq_getElem h1] at eu; exact Option.some.inj eu
  have e2 : zs[j] = z := by rw [List.getElem?_eq_getElem h2] at ez; exact Option.some.inj ez
  have d1 := dats_get dx hx
  have d2 := dats_get dy hy
  obtain ⟨as, q1⟩ := Dp.reads I _ _ _ (Rp.dp (P := pxOf X) R.fro n _ _ d1 rv) r1
  obtain ⟨bs, q2⟩ := Dp.reads I _ _ _ (Rp.dp (P := pxOf X) R.fro n _ _ d2 rw') r2
  obtain ⟨c1, c2⟩ := dat_lay n _ d1
  obtain ⟨c3, c4⟩ := dat_lay n _ d2
  rw [e1, e2]
  exact SeqAt.eqAt_reads _ _ A s _ _ as bs q1 q2 c1 c3 (by omega)
/-- the strings' order, as a rich comparison -/
theorem rc_str_lt {A : Around} {s : Shared} (x y : Str) (t u : Tok) : Ob.RcOp .Lt A s (.str x t) (.str y u) (decide (x.cps.toList < y.cps.toList)) := fun prog w E Q h => by
  show wpAny (model prog w) A (compareOp .Lt (.str x t) (.str y u)) Q E s
  exact PyProof.Rows.lt_str h
theorem rc_str_le {A : Around} {s : Shared} (x y : Str) (t u : Tok) : Ob.RcOp .LtE A s (.str x t) (.str y u) (!decide (y.cps.toList < x.cps.toList)) := fun prog w E Q h => by
  show wpAny (model prog w) A (compareOp .LtE (.str x t) (.str y u)) Q E s
  exact PySem.P.le_str h
/-- order of trees: the run -/
theorem lt_run (I : Inv X pins σ H s) (R : Rel (pxOf X) G st H) : ∀ (n : Nat) (A : Around) (a b : T) (x y : V) (v u : Value) (c : Bool), A.units + n < cLine → a.dat n = true → b.dat n = true → Rp (pxOf X) G a x → Rp (pxOf X) G b y → RelV x v → RelV y u →
    T.lt a b = some c → Ob.RcOp .Lt A s v u c := by
  intro n
  induction n with
  | zero =>
    intro A a b x y v u c hu da db ra rb rv ru h
    unfold T.lt at h
    split at h
    · simp only [Rp] at ra rb; subst ra rb
      obtain ⟨t, rfl⟩ := rv; obtain ⟨t', rfl⟩ := ru
      cases h; exact Ob.RcOp.lt_int _ _ _ _
    · simp only [Rp] at ra rb; subst ra rb
      obtain ⟨t, rfl⟩ := rv; obtain ⟨t', rfl⟩ := ru
      cases h; exact rc_str_lt _ _ _ _
    · simp [T.dat] at da
    · cases h
  | succ n ih =>
    intro A a b x y v u c hu da db ra rb rv ru h
    unfold T.lt at h
    split at h
    · simp only [Rp] at ra rb; subst ra rb
      obtain ⟨t, rfl⟩ := rv; obtain ⟨t', rfl⟩ := ru
      cases h; exact Ob.RcOp.lt_int _ _ _ _
    · simp only [Rp] at ra rb; subst ra rb
      obtain ⟨t, rfl⟩ := rv; obtain ⟨t', rfl⟩ := ru
      cases h; exact rc_str_lt _ _ _ _
    · rename_i xs ys
      obtain ⟨p, vs, rfl, h1, r1⟩ := Rp.h R ra
      obtain ⟨q, ws, rfl, h2, r2⟩ := Rp.h R rb
      cases rv; cases ru
      simp only [T.dat] at da db
      obtain ⟨us, k1, p1, _⟩ := I.tuple h1
      obtain ⟨zs, k2, p2, _⟩ := I.tuple h2
      rw [lts_lexO] at h
      obtain ⟨g1, g2⟩ := lexO_at (fun m n => by simp) h
      have l1 : us.length = xs.length := by rw [← k1.length, Rps.length r1]
      have l2 : zs.length = ys.length := by rw [← k2.length, Rps.length r2]
      have := Ob.RcOp.tuples_lt (A := A) (s := s) (e := fun j => T.eqv (xs.getD j .non) (ys.getD j .non)) (r := fun j => (T.lt (xs.getD j .non) (ys.getD j .non)).getD false) p1 p2 (by omega)
        (fun j h1 h2 => by
          have := items_eq I R (A := A.in1) da db r1 r2 k1 k2 (by show A.units + 1 + n < cLine; omega) j (by simpa using h1) (by simpa using h2)
          simpa using this)
        (fun j h1 h2 ne => by
          have hx : xs[j]? = some (xs.getD j .non) := by rw [List.getD_eq_getElem?_getD, List.getElem?_eq_getElem (by simp at h1; omega)]; rfl
          have hy : ys[j]? = some (ys.getD j .non) := by rw [List.getD_eq_getElem?_getD, List.getElem?_eq_getElem (by simp at h2; omega)]; rfl
          obtain ⟨d, hd⟩ := g1 j _ _ hx hy ne
          obtain ⟨v, ev, rv⟩ := Rps.get r1 hx
          obtain ⟨w, ew, rw'⟩ := Rps.get r2 hy
          obtain ⟨u, eu, q1⟩ := k1.get ev
          obtain ⟨z, ez, q2⟩ := k2.get ew
          have e1 : us.toArray[j] = u := by
            have : us[j]? = some us.toArray[j] := by simp at h1; rw [List.getElem?_eq_getElem h1]; simp
            rw [this] at eu; exact Option.some.inj eu
          have e2 : zs.toArray[j] = z := by
            have : zs[j]? = some zs.toArray[j] := by simp at h2; rw [List.getElem?_eq_getElem h2]; simp
            rw [this] at ez; exact Option.some.inj ez
          rw [e1, e2, hd]
          exact ih A.in1 _ _ _ _ _ _ d (by show A.units + 1 + n < cLine; omega) (dats_get da hx) (dats_get db hy) rv rw' q1 q2 hd)
      rw [g2]
      rw [List.size_toArray, List.size_toArray, l1, l2] at this
      exact this
    · cases h
/-- .. at most -/
theorem le_run (I : Inv X pins σ H s) (R : Rel (pxOf X) G st H) : ∀ (n : Nat) (A : Around) (a b : T) (x y : V) (v u : Value) (c : Bool), A.units + n < cLine → a.dat n = true → b.dat n = true → Rp (pxOf X) G a x → Rp (pxOf X) G b y → RelV x v → RelV y u →
    T.le a b = some c → Ob.RcOp .LtE A s v u c := by
  intro n
  induction n with
  | zero =>
    intro A a b x y v u c hu da db ra rb rv ru h
    unfold T.le at h
    split at h
    · simp only [Rp] at ra rb; subst ra rb
      obtain ⟨t, rfl⟩ := rv; obtain ⟨t', rfl⟩ := ru
      cases h; exact Ob.RcOp.le_int _ _ _ _
    · simp only [Rp] at ra rb; subst ra rb
      obtain ⟨t, rfl⟩ := rv; obtain ⟨t', rfl⟩ := ru
      cases h; exact rc_str_le _ _ _ _
    · simp [T.dat] at da
    · cases h
  | succ n ih =>
    intro A a b x y v u c hu da db ra rb rv ru h
    unfold T.le at h
    split at h
    · simp only [Rp] at ra rb; subst ra rb
      obtain ⟨t, rfl⟩ := rv; obtain ⟨t', rfl⟩ := ru
      cases h; exact Ob.RcOp.le_int _ _ _ _
    · simp only [Rp] at ra rb; subst ra rb
      obtain ⟨t, rfl⟩ := rv; obtain ⟨t', rfl⟩ := ru
      cases h; exact rc_str_le _ _ _ _
    · rename_i xs ys
      obtain ⟨p, vs, rfl, h1, r1⟩ := Rp.h R ra
      obtain ⟨q, ws, rfl, h2, r2⟩ := Rp.h R rb
      cases rv; cases ru
      simp only [T.dat] at da db
      obtain ⟨us, k1, p1, _⟩ := I.tuple h1
      obtain ⟨zs, k2, p2, _⟩ := I.tuple h2
      rw [les_lexO] at h
      obtain ⟨g1, g2⟩ := lexO_at (fun m n => by simp) h
      have l1 : us.length = xs.length := by rw [← k1.length, Rps.length r1]
      have l2 : zs.length = ys.length := by rw [← k2.length, Rps.length r2]
      have := Ob.RcOp.tuples_le (A := A) (s := s) (e := fun j => T.eqv (xs.getD j .non) (ys.getD j .non)) (r := fun j => (T.le (xs.getD j .non) (ys.getD j .non)).getD false) p1 p2 (by omega)
        (fun j h1 h2 => by
          have := items_eq I R (A := A.in1) da db r1 r2 k1 k2 (by show A.units + 1 + n < cLine; omega) j (by simpa using h1) (by simpa using h2)
          simpa using this)
        (fun j h1 h2 ne => by
          have hx : xs[j]? = some (xs.getD j .non) := by rw [List.getD_eq_getElem?_getD, List.getElem?_eq_getElem (by simp at h1; omega)]; rfl
          have hy : ys[j]? = some (ys.getD j .non) := by rw [List.getD_eq_getElem?_getD, List.getElem?_eq_getElem (by simp at h2; omega)]; rfl
          obtain ⟨d, hd⟩ := g1 j _ _ hx hy ne
          obtain ⟨v, ev, rv⟩ := Rps.get r1 hx
          obtain ⟨w, ew, rw'⟩ := Rps.get r2 hy
          obtain ⟨u, eu, q1⟩ := k1.get ev
          obtain ⟨z, ez, q2⟩ := k2.get ew
          have e1 : us.toArray[j] = u := by
            have : us[j]? = some us.toArray[j] := by simp at h1; rw [List.getElem?_eq_getElem h1]; simp
            rw [this] at eu; exact Option.some.inj eu
          have e2 : zs.toArray[j] = z := by
            have : zs[j]? = some zs.toArray[j] := by simp at h2; rw [List.getElem?_eq_getElem h2]; simp
            rw [this] at ez; exact Option.some.inj ez
          rw [e1, e2, hd]
          exact ih A.in1 _ _ _ _ _ _ d (by show A.units + 1 + n < cLine; omega) (dats_get da hx) (dats_get db hy) rv rw' q1 q2 hd)
      rw [g2]
      rw [List.size_toArray, List.size_toArray, l1, l2] at this
      exact this
    · cases h
theorem dat_mono : ∀ {m n : Nat} {t : T}, m ≤ n → t.dat m = true → t.dat n = true := by
  intro m
  induction m with
  | zero => intro n t _ h; cases t <;> simp [T.dat] at h ⊢ <;> (cases n <;> simp [T.dat, h])
  | succ m ih =>
    intro n t hn h
    obtain ⟨n, rfl⟩ : ∃ k, n = k + 1 := ⟨n - 1, by omega⟩
    have all : ∀ xs : List T, T.dats m xs = true → T.dats n xs = true := by
      intro xs
      induction xs with
      | nil => intro _; rfl
      | cons x r ihx =>
        intro h
        simp only [T.dats, Bool.and_eq_true] at h ⊢
        exact ⟨ih (by omega) h.1, ihx h.2⟩
    cases t <;> simp [T.dat] at h ⊢ <;> first | exact h | exact all _ h
def ltT (_ : Store) (a b : T) : Option T := if a.dat 60 && b.dat 60 then (T.lt a b).map .bl else none
def leT (_ : Store) (a b : T) : Option T := if a.dat 60 && b.dat 60 then (T.le a b).map .bl else none
def gtT (_ : Store) (a b : T) : Option T := match a, b with | .int i, .int j => some (.bl (decide (j < i))) | _, _ => none
def geT (_ : Store) (a b : T) : Option T := match a, b with | .int i, .int j => some (.bl (decide (j ≤ i))) | _, _ => none
theorem op2_lt (hu : X.A.units + 64 < cLine) : Op2 X (compareOp .Lt) ltT := by
  intro pins s σ H x y v u Q G st a b t I rx ry R ra rb e q
  unfold ltT at e
  split at e
  · rename_i h
    simp only [Bool.and_eq_true] at h
    obtain ⟨c, e2, rfl⟩ := bl_of e
    exact lt_run I R 60 X.A a b x y v u c (by omega) h.1 h.2 ra rb rx ry e2 X.prog X.w X.xe (EP X pins σ Q) ⟨.bl c, H, I, rfl, q G H _ (Gh.Le.refl G) ⟨R, by simp [Rp]⟩⟩
  · cases e
theorem op2_le (hu : X.A.units + 64 < cLine) : Op2 X (compareOp .LtE) leT := by
  intro pins s σ H x y v u Q G st a b t I rx ry R ra rb e q
  unfold leT at e
  split at e
  · rename_i h
    simp only [Bool.and_eq_true] at h
    obtain ⟨c, e2, rfl⟩ := bl_of e
    exact le_run I R 60 X.A a b x y v u c (by omega) h.1 h.2 ra rb rx ry e2 X.prog X.w X.xe (EP X pins σ Q) ⟨.bl c, H, I, rfl, q G H _ (Gh.Le.refl G) ⟨R, by simp [Rp]⟩⟩
  · cases e
theorem op2_gt : Op2 X (compareOp .Gt) gtT := .ints (C := fun _ _ => True) (fun pins s σ H x y v u Q I rx ry ⟨i, j, e1, e2, _, q⟩ => op_gt pins s σ H x y v u Q I rx ry ⟨i, j, e1, e2, q⟩) fun st a b t e => by
  unfold gtT at e; split at e
  · cases e; exact ⟨_, _, rfl, rfl, trivial, fun _ => by simp [Rp]⟩
  · cases e
theorem op2_ge : Op2 X (compareOp .GtE) geT := .ints (C := fun _ _ => True) (fun pins s σ H x y v u Q I rx ry ⟨i, j, e1, e2, _, q⟩ => op_ge pins s σ H x y v u Q I rx ry ⟨i, j, e1, e2, q⟩) fun st a b t e => by
  unfold geT at e; split at e
  · cases e; exact ⟨_, _, rfl, rfl, trivial, fun _ => by simp [Rp]⟩
  · cases e

/-! ### in, is -/
def inO (st : Store) (a b : T) : Option Bool :=
  match look st b with
  | .lst xs => if (look st a).dat 60 && (T.lst xs).dat 60 then some (xs.any fun y => T.eqv y (look st a)) else none
  | .tup xs => if (look st a).dat 60 && (T.tup xs).dat 60 then some (xs.any fun y => T.eqv y (look st a)) else none
  | .str s => (match a with | .str x => if x.cps.size = 1 then some (decide (x.cps.getD 0 0 ∈ s.cps.toList)) else none | _ => none)
  | _ => none
def inT (st : Store) (a b : T) : Option T := (inO st a b).map .bl
def ninT (st : Store) (a b : T) : Option T := (inO st a b).map fun c => .bl (!c)
theorem one_sign {x : Str} (h : x.cps.size = 1) : x = ⟨#[x.cps.getD 0 0]⟩ := by
  obtain ⟨⟨l⟩⟩ := x
  match l, h with
  | [c], _ => rfl
theorem any_datas (f : PyData → Bool) : ∀ ts : List T, (T.datas ts).any f = ts.any fun t => f t.data
  | [] => rfl
  | t :: ts => by simp [T.datas, any_datas f ts]
theorem op2_in (hu : X.A.units + 66 < cLine) : Op2 X (compareOp .In) inT := by
  intro pins s σ H x y v u Q G st a b t I rx ry R ra rb e q
  unfold inT at e
  obtain ⟨c, e2, rfl⟩ := bl_of e
  clear e
  have fin : ∀ c', c' = c → EP X pins σ Q (.bool c') s := fun c' z => by subst z; exact ⟨.bl _, H, I, rfl, q G H _ (Gh.Le.refl G) ⟨R, by simp [Rp]⟩⟩
  have rb' := look_ok R rb
  unfold inO at e2
  split at e2
  · rename_i xs hb
    split at e2
    · rename_i h
      simp only [Bool.and_eq_true] at h
      rw [hb] at rb'
      obtain ⟨as, q1⟩ := Dp.reads I _ _ _ (Rh.dp R h.1 (look_ok R ra)) rx
      obtain ⟨bs, q2⟩ := Dp.reads I _ _ _ (Rh.dp R h.2 rb') ry
      have d1 := dat_shaped h.1
      have d2 := dat_shaped h.2
      simp only [T.data] at q2 d2
      refine SeqAt.in_list_reads q2 q1 (SeqAt.canLay_of_shaped d2) (SeqAt.canLay_of_shaped d1) (PyProof.Rows.room_in_shaped d1 (by omega)) (fin _ ?_)
      rw [any_datas]; exact Option.some.inj e2
    · cases e2
  · rename_i xs hb
    split at e2
    · rename_i h
      simp only [Bool.and_eq_true] at h
      rw [hb] at rb'
      obtain ⟨as, q1⟩ := Dp.reads I _ _ _ (Rh.dp R h.1 (look_ok R ra)) rx
      obtain ⟨bs, q2⟩ := Dp.reads I _ _ _ (Rh.dp R h.2 rb') ry
      have d1 := dat_shaped h.1
      have d2 := dat_shaped h.2
      simp only [T.data] at q2 d2
      refine SeqAt.in_tuple_reads q2 q1 (SeqAt.canLay_of_shaped d2) (SeqAt.canLay_of_shaped d1) (PyProof.Rows.room_in_shaped d1 (by omega)) (fin _ ?_)
      rw [any_datas]; exact Option.some.inj e2
    · cases e2
  · rename_i z hb
    split at e2
    · rename_i x0
      split at e2
      · rename_i h1
        rw [hb] at rb'
        have rb' : y = .str z := by simpa only [Rh, Rp] using rb'
        simp only [Rp] at ra
        obtain rfl := Option.some.inj e2
        exact op_in_sign pins s σ H x y v u Q I rx ry ⟨x0.cps.getD 0 0, z, by rw [ra]; exact congrArg V.str (one_sign h1), rb', q G H _ (Gh.Le.refl G) ⟨R, by simp [Rp]⟩⟩
      · cases e2
    · cases e2
  · cases e2
theorem op2_nin (hu : X.A.units + 66 < cLine) : Op2 X (compareOp .NotIn) ninT := by
  intro pins s σ H x y v u Q G st a b t I rx ry R ra rb e q
  unfold ninT at e
  obtain ⟨c, e2, rfl⟩ := bl_of e
  clear e
  have fin : ∀ c', c' = c → EP X pins σ Q (.bool (!c')) s := fun c' z => by subst z; exact ⟨.bl _, H, I, rfl, q G H _ (Gh.Le.refl G) ⟨R, by simp [Rp]⟩⟩
  have rb' := look_ok R rb
  unfold inO at e2
  split at e2
  · rename_i xs hb
    split at e2
    · rename_i h
      simp only [Bool.and_eq_true] at h
      rw [hb] at rb'
      obtain ⟨as, q1⟩ := Dp.reads I _ _ _ (Rh.dp R h.1 (look_ok R ra)) rx
      obtain ⟨bs, q2⟩ := Dp.reads I _ _ _ (Rh.dp R h.2 rb') ry
      have d1 := dat_shaped h.1
      have d2 := dat_shaped h.2
      simp only [T.data] at q2 d2
      refine SeqAt.notIn_list_reads q2 q1 (SeqAt.canLay_of_shaped d2) (SeqAt.canLay_of_shaped d1) (PyProof.Rows.room_in_shaped d1 (by omega)) (fin _ ?_)
      rw [any_datas]; exact Option.some.inj e2
    · cases e2
  · rename_i xs hb
    split at e2
    · rename_i h
      simp only [Bool.and_eq_true] at h
      rw [hb] at rb'
      obtain ⟨as, q1⟩ := Dp.reads I _ _ _ (Rh.dp R h.1 (look_ok R ra)) rx
      obtain ⟨bs, q2⟩ := Dp.reads I _ _ _ (Rh.dp R h.2 rb') ry
      have d1 := dat_shaped h.1
      have d2 := dat_shaped h.2
      simp only [T.data] at q2 d2
      refine SeqAt.notIn_tuple_reads q2 q1 (SeqAt.canLay_of_shaped d2) (SeqAt.canLay_of_shaped d1) (PyProof.Rows.room_in_shaped d1 (by omega)) (fin _ ?_)
      rw [any_datas]; exact Option.some.inj e2
    · cases e2
  · rename_i z hb
    split at e2
    · rename_i x0
      split at e2
      · rename_i h1
        rw [hb] at rb'
        have rb' : y = .str z := by simpa only [Rh, Rp] using rb'
        simp only [Rp] at ra
        obtain rfl := Option.some.inj e2
        exact op_notIn_sign pins s σ H x y v u Q I rx ry ⟨x0.cps.getD 0 0, z, by rw [ra]; exact congrArg V.str (one_sign h1), rb', q G H _ (Gh.Le.refl G) ⟨R, by simp [Rp]⟩⟩
      · cases e2
    · cases e2
  · cases e2
/-- x is None, True, False -/
def isT (neg : Bool) (_ : Store) (a b : T) : Option T :=
  match b with
  | .non => (match a with | .non => some (.bl (!neg)) | .bl _ | .int _ | .str _ | .tup _ | .lst _ | .obj _ _ _ | .dct _ _ => some (.bl neg) | _ => none)
  | .bl c => (match a with | .bl d => some (.bl (if d = c then !neg else neg)) | _ => none)
  | _ => none
theorem Rp.nonN {G : Gh} {t : T} {v : V} (r : Rp (pxOf X) G t v) (h : (match t with | .bl _ | .int _ | .str _ | .tup _ | .lst _ | .obj _ _ _ | .dct _ _ => true | _ => false) = true) : v ≠ .non := by
  cases t <;> simp at h <;> simp only [Rp] at r
  · subst r; exact fun z => by cases z
  · subst r; exact fun z => by cases z
  · subst r; exact fun z => by cases z
  · obtain ⟨a, vs, rfl, _⟩ := r; exact fun z => by cases z
  · obtain ⟨a, vs, rfl, _⟩ := r; exact fun z => by cases z
  · obtain ⟨a, vs, rfl, _⟩ := r; exact fun z => by cases z
  · obtain ⟨a, C, dx, vs, rfl, _⟩ := r; exact fun z => by cases z
theorem op2_is : Op2 X (compareOp .Is) (isT false) := by
  intro pins s σ H x y v u Q G st a b t I rx ry R ra rb e q
  unfold isT at e
  split at e
  · simp only [Rp] at rb; subst rb
    refine op_isN pins s σ H x _ v u Q I rx ry ⟨rfl, ?_⟩
    cases a <;> simp at e <;> try (subst e; rw [decide_eq_false (Rp.nonN ra rfl)]; exact q G H _ (Gh.Le.refl G) ⟨R, by simp [Rp]⟩)
    subst e; simp only [Rp] at ra; subst ra
    exact q G H _ (Gh.Le.refl G) ⟨R, by simp [Rp]⟩
  · split at e
    · simp only [Rp] at ra rb; subst ra rb; cases e
      refine op_is_bl pins s σ H _ _ v u Q I rx ry ⟨_, _, rfl, rfl, q G H _ (Gh.Le.refl G) ⟨R, ?_⟩⟩
      simp [Rp]
    · cases e
  · cases e
theorem op2_isnot : Op2 X (compareOp .IsNot) (isT true) := by
  intro pins s σ H x y v u Q G st a b t I rx ry R ra rb e q
  unfold isT at e
  split at e
  · simp only [Rp] at rb; subst rb
    refine op_notN pins s σ H x _ v u Q I rx ry ⟨rfl, ?_⟩
    cases a <;> simp at e <;> try (subst e; rw [decide_eq_false (Rp.nonN ra rfl)]; exact q G H _ (Gh.Le.refl G) ⟨R, by simp [Rp]⟩)
    subst e; simp only [Rp] at ra; subst ra
    exact q G H _ (Gh.Le.refl G) ⟨R, by simp [Rp]⟩
  · split at e
    · simp only [Rp] at ra rb; subst ra rb; cases e
      refine op_isnot_bl pins s σ H _ _ v u Q I rx ry ⟨_, _, rfl, rfl, q G H _ (Gh.Le.refl G) ⟨R, ?_⟩⟩
      simp [Rp]
    · cases e
  · cases e
end
end PL
/-! tests, places, cuts, built-in calls -/
namespace PL
open PySem PySem.Spec PyProof.Rows L2

section
variable {X : Cx} {W : WX} {a b c : Expr} {ma mb mc : M T} {pos : Pos}
/-! ### truth -/
def truO (st : Store) (t : T) : Option Bool :=
  match look st t with
  | .non => some false
  | .bl b => some b
  | .int i => some (i != 0)
  | .str s => if s.length ≤ 1000000 then some (s.length != 0) else none
  | .lst xs => some (!xs.isEmpty)
  | .tup xs => some (!xs.isEmpty)
  | _ => none
theorem Rps.isEmpty {P : PX} {G : Gh} {ts : List T} {vs : List V} (r : Rps P G ts vs) : vs.isEmpty = ts.isEmpty := by
  have := Rps.length r
  cases ts <;> cases vs <;> simp at this ⊢
theorem truO_ok {G : Gh} {st : Store} {H : Hp} {t : T} {v : V} {k : Bool} (R : Rel (pxOf X) G st H) (r : Rp (pxOf X) G t v) (e : truO st t = some k) : TruV X.K v H k := by
  have r' := look_ok R r
  unfold truO at e
  split at e
  · rename_i h; rw [h] at r'; have : v = .non := by simpa only [Rh, Rp] using r'
    subst this; cases e; rfl
  · rename_i b0 h; rw [h] at r'; have : v = .bl b0 := by simpa only [Rh, Rp] using r'
    subst this; cases e; rfl
  · rename_i b0 h; rw [h] at r'; have : v = .int b0 := by simpa only [Rh, Rp] using r'
    subst this; cases e; rfl
  · rename_i s h; rw [h] at r'; have : v = .str s := by simpa only [Rh, Rp] using r'
    subst this
    split at e
    · rename_i hz; cases e
      refine ⟨line_le hz, ?_⟩
      cases s.length <;> rfl
    · cases e
  · rename_i h; rw [h] at r'; obtain ⟨p, vs, rfl, h1, r1⟩ := r'
    cases e; exact .inl ⟨vs, .inl (.inl h1), by rw [Rps.isEmpty r1]⟩
  · rename_i h; rw [h] at r'; obtain ⟨p, vs, rfl, h1, r1⟩ := r'
    cases e; exact .inr (.inl ⟨vs, h1, by rw [Rps.isEmpty r1]⟩)
  · cases e
def mTru (m : M T) : M Bool := mBnd m fun t _ st => Res.ofO (truO st t) st
theorem Po.ofO {α β : Type} {P : PX} {rel : Gh → Store → Hp → α → β → Prop} {G : Gh} {W : XK} {o : Option α} {st : Store} {Q : β → Hp → Prop} (h : Po P rel G W (Res.ofO o st) Q) : ∃ a, o = some a ∧ Po P rel G W (ok a st) Q := by
  cases o with
  | none => exact h.elim
  | some a => exact ⟨a, rfl, h⟩
theorem sb_truth (ha : SE X W a ma) (he : ∀ whole, isTrue a X.env whole = (do let v ← whole; standAt a.pos; holding [v] (truthy v))) : SB X W a (mTru ma) := by
  refine pt_mono (pt_truth ha he) fun σ H Q q => ?_
  refine (tG.bnd q).imp fun x H1 ⟨t, G, env, st, ⟨R, r⟩, E, q1⟩ => ?_
  obtain ⟨k, e, q1⟩ := Po.ofO q1
  exact ⟨k, truO_ok R r e, q1.okI ⟨R, rfl⟩⟩

/-! ### and, or, not -/
/-- a test whatever its whole is -/
def SBw (X : Cx) (W : WX) (e : Expr) (m : M Bool) : Prop := PW X e (tMb (pxOf X) W m)
theorem pw_mono {e : Expr} {t t' : TT} (h : PW X e t) (i : ∀ σ H Q, t' σ H Q → t σ H Q) : PW X e t' := ⟨fun wh pins s σ H Q I q => h.run wh pins s σ H Q I (i σ H Q q)⟩
def bAnd (m n : M Bool) : M Bool := mBnd m fun c => if c then n else fun _ st => ok false st
def bOr (m n : M Bool) : M Bool := mBnd m fun c => if c then fun _ st => ok true st else n
def bNot (m : M Bool) : M Bool := mBnd m fun c _ st => ok (!c) st
variable {na nb : M Bool} {rest : List Expr}
theorem sw_one_and (ha : SB X W a na) : SBw X W (.BoolOp .And [a] pos) na := pw_and1 ha
theorem sw_one_or (ha : SB X W a na) : SBw X W (.BoolOp .Or [a] pos) na := pw_or1 ha
theorem sw_and (ha : SB X W a na) (hb : SBw X W (.BoolOp .And (b :: rest) pos) nb) : SBw X W (.BoolOp .And (a :: b :: rest) pos) (bAnd na nb) := by
  refine pw_mono (pw_and ha hb) fun σ H Q q => ?_
  refine (tG.bnd q).imp fun k H1 ⟨t, G, env, st, ⟨R, r⟩, E, q1⟩ => ?_
  subst r
  cases t with
  | true => exact ⟨G, env, st, R, E, q1⟩
  | false => exact q1.okI ⟨R, rfl⟩
theorem sw_or (ha : SB X W a na) (hb : SBw X W (.BoolOp .Or (b :: rest) pos) nb) : SBw X W (.BoolOp .Or (a :: b :: rest) pos) (bOr na nb) := by
  refine pw_mono (pw_or ha hb) fun σ H Q q => ?_
  refine (tG.bnd q).imp fun k H1 ⟨t, G, env, st, ⟨R, r⟩, E, q1⟩ => ?_
  subst r
  cases t with
  | true => exact q1.okI ⟨R, rfl⟩
  | false => exact ⟨G, env, st, R, E, q1⟩
theorem sb_w {e : Expr} {n : M Bool} (h : SBw X W e n) : SB X W e n := h.pt
theorem sb_not (ha : SB X W a na) : SB X W (.UnaryOp .Not a pos) (bNot na) := by
  refine pt_mono (pt_not ha) fun σ H Q q => ?_
  refine (tG.bnd q).imp fun k H1 ⟨t, G, env, st, ⟨R, r⟩, E, q1⟩ => ?_
  subst r
  exact q1.okI ⟨R, rfl⟩
/-- .. as values -/
def mAnd (m n : M T) : M T := mBnd m fun t env st => match truO st t with | some true => n env st | some false => ok t st | none => none
def mOr (m n : M T) : M T := mBnd m fun t env st => match truO st t with | some true => ok t st | some false => n env st | none => none
def mNot (m : M T) : M T := mBnd m fun t _ st => Res.ofO ((truO st t).map fun c => .bl (!c)) st
theorem se_one {op} (h : SE X W a ma) : SE X W (.BoolOp op [a] pos) ma := pe_one h
theorem se_and (ha : SE X W a ma) (hb : SE X W (.BoolOp .And (b :: rest) pos) mb) : SE X W (.BoolOp .And (a :: b :: rest) pos) (mAnd ma mb) := by
  refine pe_mono (pe_andT ha hb) fun σ H Q q => ?_
  refine (tG.bnd q).imp fun x H1 ⟨t, G, env, st, ⟨R, r⟩, E, q1⟩ => ?_
  split at q1
  · rename_i e
    exact ⟨true, truO_ok R r e, by rw [if_pos rfl]; exact ⟨G, env, st, R, E, q1⟩⟩
  · rename_i e
    exact ⟨false, truO_ok R r e, by rw [if_neg (by decide)]; exact q1.okI ⟨R, r⟩⟩
  · exact q1.elim
theorem se_or (ha : SE X W a ma) (hb : SE X W (.BoolOp .Or (b :: rest) pos) mb) : SE X W (.BoolOp .Or (a :: b :: rest) pos) (mOr ma mb) := by
  refine pe_mono (pe_orT ha hb) fun σ H Q q => ?_
  refine (tG.bnd q).imp fun x H1 ⟨t, G, env, st, ⟨R, r⟩, E, q1⟩ => ?_
  split at q1
  · rename_i e
    exact ⟨true, truO_ok R r e, by rw [if_pos rfl]; exact q1.okI ⟨R, r⟩⟩
  · rename_i e
    exact ⟨false, truO_ok R r e, by rw [if_neg (by decide)]; exact ⟨G, env, st, R, E, q1⟩⟩
  · exact q1.elim
theorem se_not (ha : SE X W a ma) : SE X W (.UnaryOp .Not a pos) (mNot ma) := by
  refine pe_mono (pe_notT ha) fun σ H Q q => ?_
  refine (tG.bnd q).imp fun x H1 ⟨t, G, env, st, ⟨R, r⟩, E, q1⟩ => ?_
  obtain ⟨u, e, q1⟩ := Po.ofO q1
  obtain ⟨k, e2, rfl⟩ := bl_of e
  exact ⟨k, truO_ok R r e2, q1.okI ⟨R, by simp [Rp]⟩⟩
/-- a if c else b -/
def mIte (n : M Bool) (m1 m2 : M T) : M T := mBnd n fun k => if k then m1 else m2
theorem se_ite (hc : SB X W c na) (ha : SE X W a ma) (hb : SE X W b mb) : SE X W (.IfExp c a b pos) (mIte na ma mb) := by
  refine pe_mono (pe_ifExp hc ha hb) fun σ H Q q => ?_
  refine (tG.bnd q).imp fun k H1 ⟨t, G, env, st, ⟨R, r⟩, E, q1⟩ => ?_
  subst r
  cases t with
  | true => exact ⟨G, env, st, R, E, q1⟩
  | false => exact ⟨G, env, st, R, E, q1⟩
theorem sb_ite {n1 n2 : M Bool} (hc : SB X W c na) (ha : SB X W a n1) (hb : SB X W b n2) : SB X W (.IfExp c a b pos) (mBnd na fun k => if k then n1 else n2) := by
  refine ⟨fun pins s σ H Q I h => ?_⟩
  show wpAny _ _ (do if ← isTrue c X.env (eval c X.env) then isTrue a X.env (eval a X.env) else isTrue b X.env (eval b X.env)) _ _ _
  refine wpAny_bind (thn (hc.run pins s σ H _ I (tG.bnd h)) fun d s1 ⟨H1, I1, t, G, env, st, ⟨R, r⟩, E, q1⟩ => ?_)
  subst r
  cases t with
  | true => exact ha.run pins s1 σ H1 Q I1 ⟨G, env, st, R, E, q1⟩
  | false => exact hb.run pins s1 σ H1 Q I1 ⟨G, env, st, R, E, q1⟩
/-- one comparison behind the other -/
def mChain (o o' : Store → T → T → Option T) (a b c : M T) : M T := mBnd a fun x => mBnd b fun y env st => (Res.ofO (o st x y) st).bnd fun t st => match t with
  | .bl true => mBnd c (fun z _ st => Res.ofO (o' st y z) st) env st
  | .bl false => ok (.bl false) st
  | _ => none
theorem chain_pre {o o' : Store → T → T → Option T} {σ : L2.St} {H : Hp} {Q : VK} (q : tM (pxOf X) W (mChain o o' ma mb mc) σ H Q) : tChain (rOp2 X W [] o) (rOp2 X W [] o') (tM (pxOf X) W ma) (tM (pxOf X) W mb) (tM (pxOf X) W mc) σ H Q := by
  refine (tG.bnd q).imp fun x H1 ⟨tx, G, env, st, ⟨R1, r1⟩, E, q1⟩ => ?_
  refine ⟨G, env, st, R1, E, (Po.bnd q1).imp fun y H2 ⟨G2, st2, ty, le, ⟨R2, r2⟩, q2⟩ => ?_⟩
  have q2 : Po (pxOf X) (relT (pxOf X)) G2 (WE W σ) ((Res.ofO (o st2 tx ty) st2).bnd _) Q := q2
  cases e : o st2 tx ty with
  | none => rw [e] at q2; exact q2.elim
  | some t =>
    rw [e] at q2
    refine ⟨G2, st2, tx, ty, t, R2, r1.mono le, r2, e, fun G3 H3 r l ⟨R3, r3⟩ => ?_⟩
    have q2 := Po.mono l q2
    simp only [ofO_some, bnd_ok'] at q2
    split at q2
    · simp only [Rp] at r3; subst r3
      refine ⟨true, rfl, ?_⟩
      rw [if_pos rfl]
      refine ⟨G3, env, st2, R3, E.mono (le.trans l), (Po.bnd q2).imp fun z H4 ⟨G4, st4, tz, l4, ⟨R4, r4⟩, q4⟩ => ?_⟩
      obtain ⟨u, e4, q4⟩ := Po.ofO q4
      exact ⟨G4, st4, ty, tz, u, R4, r2.mono (l.trans l4), r4, e4, fun G' H' r l q => q4 G' H' r l q⟩
    · simp only [Rp] at r3; subst r3
      refine ⟨false, rfl, ?_⟩
      rw [if_neg (by decide)]
      exact q2.okI ⟨R3, by simp [Rp]⟩
    · exact q2.elim
theorem se_chain {o o' : Store → T → T → Option T} {op op' : CmpOp} (h : Op2 X (compareOp op) o) (h' : Op2 X (compareOp op') o') (ha : SE X W a ma) (hb : SE X W b mb) (hc : SE X W c mc) (hm : lastMarks [op, op'] [b, c] = false) : SE X W (.Compare a [op, op'] [b, c] pos) (mChain o o' ma mb mc) :=
  pe_mono (pe_chain (h.r (W := W)) (h'.r (W := W)) ha hb hc hm) fun _ _ _ q => chain_pre q
theorem sb_chain {o o' : Store → T → T → Option T} {op op' : CmpOp} (h : Op2 X (compareOp op) o) (h' : Op2 X (compareOp op') o') (ha : SE X W a ma) (hb : SE X W b mb) (hc : SE X W c mc) (hm : lastMarks [op, op'] [b, c] = false) : SB X W (.Compare a [op, op'] [b, c] pos) (mBool (mChain o o' ma mb mc)) := by
  refine pt_mono (pt_chain (h.r (W := W)) (h'.r (W := W)) ha hb hc hm) fun σ H Q q => ?_
  exact chain_pre (W := W) (show tM (pxOf X) W (mChain o o' ma mb mc) σ H _ from mBool_pre q)
end
end PL
/-! dicts whose keys are trees of tuples -/
namespace PL
open PySem PySem.Spec PyProof.Rows L2

mutual
/-- v is the tree, in the heap itself -/
def TreeI (h : Heap) : T → Value → Prop
  | .int i, v => ∃ t, v = .int i t
  | .str x, v => ∃ t, v = .str x t
  | .tup xs, v => ∃ (a : Addr) (o : Obj) (its : Array Value) (n : Nat), v = .ref a ∧ h.get? a = some o ∧ o.cls = .type "tuple" ∧ o.data = .seq its n ∧ TreeIs h xs its.toList
  | _, _ => False
def TreeIs (h : Heap) : List T → List Value → Prop
  | [], us => us = []
  | x :: xs, us => ∃ u r, us = u :: r ∧ TreeI h x u ∧ TreeIs h xs r
end
mutual
theorem TreeI.inj {h : Heap} : ∀ {x y : T} {v : Value}, TreeI h x v → TreeI h y v → x = y
  | .int i, y, v, hx, hy => by
    simp only [TreeI] at hx; obtain ⟨t, rfl⟩ := hx
    cases y <;> simp only [TreeI] at hy
    · obtain ⟨t', e⟩ := hy; cases e; rfl
    · obtain ⟨t', e⟩ := hy; cases e
    · obtain ⟨a, o, its, n, e, _⟩ := hy; cases e
  | .str i, y, v, hx, hy => by
    simp only [TreeI] at hx; obtain ⟨t, rfl⟩ := hx
    cases y <;> simp only [TreeI] at hy
    · obtain ⟨t', e⟩ := hy; cases e
    · obtain ⟨t', e⟩ := hy; cases e; rfl
    · obtain ⟨a, o, its, n, e, _⟩ := hy; cases e
  | .tup xs, y, v, hx, hy => by
    simp only [TreeI] at hx; obtain ⟨a, o, its, n, rfl, e1, _, e2, h1⟩ := hx
    cases y <;> simp only [TreeI] at hy
    · obtain ⟨t', e⟩ := hy; cases e
    · obtain ⟨t', e⟩ := hy; cases e
    · obtain ⟨a', o', its', n', e, e3, _, e4, h2⟩ := hy
      cases e
      rw [e1] at e3; cases e3
      rw [e2] at e4; cases e4
      rw [TreeIs.inj h1 h2]
  | .non, _, _, hx, _ => by simp [TreeI] at hx
  | .bl _, _, _, hx, _ => by simp [TreeI] at hx
  | .lst _, _, _, hx, _ => by simp [TreeI] at hx
  | .dct _ _, _, _, hx, _ => by simp [TreeI] at hx
  | .obj _ _ _, _, _, hx, _ => by simp [TreeI] at hx
  | .cell _, _, _, hx, _ => by simp [TreeI] at hx
  | .fld _ _ _, _, _, hx, _ => by simp [TreeI] at hx
  | .scr _, _, _, hx, _ => by simp [TreeI] at hx
  | .par _, _, _, hx, _ => by simp [TreeI] at hx
theorem TreeIs.inj {h : Heap} : ∀ {xs ys : List T} {us : List Value}, TreeIs h xs us → TreeIs h ys us → xs = ys
  | [], [], _, _, _ => rfl
  | [], y :: ys, us, hx, hy => by
    simp only [TreeIs] at hx hy
    subst hx
    obtain ⟨u, r, e, _⟩ := hy
    cases e
  | x :: xs, [], us, hx, hy => by
    simp only [TreeIs] at hx hy
    subst hy
    obtain ⟨u, r, e, _⟩ := hx
    cases e
  | x :: xs, y :: ys, us, hx, hy => by
    simp only [TreeIs] at hx hy
    obtain ⟨u, r, rfl, h1, h2⟩ := hx
    obtain ⟨u', r', e, h3, h4⟩ := hy
    cases e
    rw [TreeI.inj h1 h3, TreeIs.inj h2 h4]
end
mutual
theorem TreeI.keep {h h' : Heap} {d : Addr} (hd : ∀ o its n, h.get? d = some o → o.data ≠ .seq its n) (k : ∀ b, b ≠ d → ∀ o, h.get? b = some o → h'.get? b = some o) : ∀ {x : T} {v : Value}, TreeI h x v → TreeI h' x v
  | .int i, v, q => by simpa only [TreeI] using q
  | .str i, v, q => by simpa only [TreeI] using q
  | .tup xs, v, q => by
    simp only [TreeI] at q ⊢
    obtain ⟨a, o, its, n, rfl, e1, c, e2, h1⟩ := q
    have hne : a ≠ d := fun z => hd o its n (z ▸ e1) e2
    exact ⟨a, o, its, n, rfl, k a hne o e1, c, e2, TreeIs.keep hd k h1⟩
  | .non, _, hx => by simp [TreeI] at hx
  | .bl _, _, hx => by simp [TreeI] at hx
  | .lst _, _, hx => by simp [TreeI] at hx
  | .dct _ _, _, hx => by simp [TreeI] at hx
  | .obj _ _ _, _, hx => by simp [TreeI] at hx
  | .cell _, _, hx => by simp [TreeI] at hx
  | .fld _ _ _, _, hx => by simp [TreeI] at hx
  | .scr _, _, hx => by simp [TreeI] at hx
  | .par _, _, hx => by simp [TreeI] at hx
theorem TreeIs.keep {h h' : Heap} {d : Addr} (hd : ∀ o its n, h.get? d = some o → o.data ≠ .seq its n) (k : ∀ b, b ≠ d → ∀ o, h.get? b = some o → h'.get? b = some o) : ∀ {xs : List T} {us : List Value}, TreeIs h xs us → TreeIs h' xs us
  | [], us, q => by simpa only [TreeIs] using q
  | x :: xs, us, q => by
    simp only [TreeIs] at q ⊢
    obtain ⟨u, r, rfl, h1, h2⟩ := q
    exact ⟨u, r, rfl, TreeI.keep hd k h1, TreeIs.keep hd k h2⟩
end
mutual
def T.draws : T → Nat
  | .tup xs => T.drawss xs + 1
  | _ => 1
def T.drawss : List T → Nat
  | [] => 0
  | x :: xs => x.draws + T.drawss xs
end
section
variable {prog : Program} {w : World} {E : Value → Shared → Prop}
theorem TreeIs.length {h : Heap} : ∀ {xs : List T} {us : List Value}, TreeIs h xs us → us.length = xs.length
  | [], us, q => by simp only [TreeIs] at q; subst q; rfl
  | x :: xs, us, q => by
    simp only [TreeIs] at q
    obtain ⟨u, r, rfl, _, h2⟩ := q
    simp [TreeIs.length h2]
theorem hashTs_len (w : World) : ∀ xs : List T, (hashTs w xs).length = xs.length
  | [] => rfl
  | x :: xs => by simp [hashTs, hashTs_len w xs]
theorem hashTs_app (w : World) : ∀ xs ys : List T, hashTs w (xs ++ ys) = hashTs w xs ++ hashTs w ys
  | [], ys => rfl
  | x :: xs, ys => by simp [hashTs, hashTs_app w xs ys]
theorem drawss_app : ∀ xs ys : List T, T.drawss (xs ++ ys) = T.drawss xs + T.drawss ys
  | [], ys => by simp [T.drawss]
  | x :: xs, ys => by simp [T.drawss, drawss_app xs ys]; omega
/-- hash(v) -/
theorem hash_run : ∀ (n : Nat) (t : T) (v : Value) (A : Around) (s : Shared) (Q : Int → Shared → Prop), A.units + n < cLine → t.key n = true → TreeI s.heap t v → Q (hashT w t) { s with toks := s.toks + t.draws } → wpAny (model prog w) A (pyHash v) Q E s := by
  intro n
  induction n with
  | zero =>
    intro t v A s Q hu hk ht h
    cases t <;> simp [T.key] at hk <;> simp only [TreeI] at ht
    · obtain ⟨t', rfl⟩ := ht; exact wpAny_pyHash_int h
    · obtain ⟨t', rfl⟩ := ht; exact wpAny_pyHash_str h
  | succ n ih =>
    intro t v A s Q hu hk ht h
    cases t <;> simp [T.key] at hk <;> simp only [TreeI] at ht
    · obtain ⟨t', rfl⟩ := ht; exact wpAny_pyHash_int h
    · obtain ⟨t', rfl⟩ := ht; exact wpAny_pyHash_str h
    · rename_i xs
      obtain ⟨a, o, its, m, rfl, ho, hc, hd, hi⟩ := ht
      have hT : s.TypeIs (.ref a) "tuple" := ⟨o, ho, hc⟩
      unfold pyHash
      first | unfold pyHashByItsType | skip
      refine wpAny_bind (wpAny_cRoomFor_or (.inr (by omega)) ?_)
      refine wpAny_bind (wpAny_specialOf hT F.slot_tuple_hash.lookup ?_)
      rw [if_neg (by rw [beq_builtin_none]; exact Bool.false_ne_true)]
      refine wpAny_bind (wpAny_specialOf hT F.slot_tuple_hash.lookup ?_)
      refine wpAny_bind (wpAny_callSpecialIfBoundUnlessNone?_slot hT F.slot_tuple_hash (wpAny_call_entry F.slot_tuple_hash hT F.entry_tuple_hash ?_ (F.args_tuple_hash_1 _)))
      show wpAny _ A.in1 (Builtin.Tuple.tupleItemsOf (.ref a) >>= _) _ _ s
      refine wpAny_bind (wpAny_tupleItemsOf ho hd (wpAny_bind ?_))
      rw [← Array.forIn_toList]
      refine wpAny_forIn_list _ (fun rest (acc : Array Int) s1 => ∃ l1 l2, xs = l1 ++ l2 ∧ TreeIs s.heap l2 rest ∧ acc.toList = hashTs w l1 ∧ T.keys n l2 = true ∧ s1 = { s with toks := s.toks + T.drawss l1 }) _ ?_ ?_ _ _
        ⟨[], xs, rfl, hi, rfl, hk, by simp [T.drawss]⟩
      · rintro u rest acc s1 ⟨l1, l2, rfl, h2, ha, k2, rfl⟩
        cases l2 with
        | nil => simp only [TreeIs] at h2; cases h2
        | cons y l2 =>
          simp only [TreeIs] at h2
          obtain ⟨u', r', e, h3, h4⟩ := h2
          cases e
          simp only [T.keys, Bool.and_eq_true] at k2
          refine wpAny_bind (ih y u A.in1 _ _ (by show A.units + 1 + n < cLine; omega) k2.1 h3 ?_)
          have fin : ∃ a b, l1 ++ y :: l2 = a ++ b ∧ TreeIs s.heap b rest ∧ (acc.push (hashT w y)).toList = hashTs w a ∧ T.keys n b = true ∧ ({ s with toks := s.toks + T.drawss l1 + y.draws } : Shared) = { s with toks := s.toks + T.drawss a } :=
            ⟨l1 ++ [y], l2, by simp, h4, by rw [Array.toList_push, ha, hashTs_app]; rfl, k2.2, by rw [drawss_app]; simp [T.drawss, Nat.add_assoc]⟩
          first
            | exact wpAny_pure fin
            | exact wpAny_bind (wpAny_pure (wpAny_pure fin))
      · rintro acc s1 ⟨l1, l2, rfl, h2, ha, _, rfl⟩
        cases l2 with
        | cons y l2 => simp only [TreeIs] at h2; obtain ⟨_, _, e, _⟩ := h2; cases e
        | nil =>
          rw [List.append_nil] at h
          show wpAny _ _ (retInt (Builtin.Tuple.tupleHashOf acc.toList)) _ _ _
          rw [ha]
          refine wpAny_ret_mkInt ?_
          have hq : ∀ d, d = T.drawss l1 + 1 → Q (reduceHash (Builtin.Tuple.tupleHashOf (hashTs w l1))) { s with toks := s.toks + d } := fun d e => by rw [e]; simpa [hashT, T.draws] using h
          unfold reduceHash at hq
          show wpAny _ _ (if (decide (-(2 : Int) ^ 63 ≤ Builtin.Tuple.tupleHashOf (hashTs w l1)) && decide (Builtin.Tuple.tupleHashOf (hashTs w l1) < 2 ^ 63)) = true then _ else _) Q E _
          split
          · rename_i hr
            rw [if_pos hr] at hq
            exact wpAny_pure (by simpa [Nat.add_assoc] using hq _ rfl)
          · rename_i hr
            rw [if_neg hr] at hq
            exact wpAny_bind (wpAny_rule (wpAny_pure (by simpa [Nat.add_assoc] using hq _ rfl)))
/-! ### equality of keys -/
mutual
theorem TreeI.reads {h : Heap} : ∀ {t : T} {v : Value}, TreeI h t v → ∃ as, Reads h v t.data as
  | .int i, v, q => by simp only [TreeI] at q; obtain ⟨t, rfl⟩ := q; exact ⟨_, .int i t⟩
  | .str i, v, q => by simp only [TreeI] at q; obtain ⟨t, rfl⟩ := q; exact ⟨_, .str i t⟩
  | .tup xs, v, q => by
    simp only [TreeI] at q
    obtain ⟨a, o, its, n, rfl, e1, c, e2, h1⟩ := q
    obtain ⟨as, r⟩ := TreeIs.reads h1
    exact ⟨_, Reads.tuple e1 c e2 r⟩
  | .non, _, hx => by simp [TreeI] at hx
  | .bl _, _, hx => by simp [TreeI] at hx
  | .lst _, _, hx => by simp [TreeI] at hx
  | .dct _ _, _, hx => by simp [TreeI] at hx
  | .obj _ _ _, _, hx => by simp [TreeI] at hx
  | .cell _, _, hx => by simp [TreeI] at hx
  | .fld _ _ _, _, hx => by simp [TreeI] at hx
  | .scr _, _, hx => by simp [TreeI] at hx
  | .par _, _, hx => by simp [TreeI] at hx
theorem TreeIs.reads {h : Heap} : ∀ {ts : List T} {us : List Value}, TreeIs h ts us → ∃ as, ReadsAll h us (T.datas ts) as
  | [], us, q => by simp only [TreeIs] at q; subst q; exact ⟨_, .nil⟩
  | x :: xs, us, q => by
    simp only [TreeIs] at q
    obtain ⟨u, r, rfl, h1, h2⟩ := q
    obtain ⟨as, r1⟩ := TreeI.reads h1
    obtain ⟨bs, r2⟩ := TreeIs.reads h2
    exact ⟨_, .cons r1 r2⟩
end
mutual
theorem key_eqv : ∀ (n : Nat) (a b : T), a.key n = true → b.key n = true → (T.eqv a b = true ↔ a = b)
  | n, .int i, .int j, _, _ => by simp [T.eqv, T.data, PyData.eqv]
  | n, .str i, .str j, _, _ => by simp [T.eqv, T.data, PyData.eqv]
  | n, .int i, .str j, _, _ => by simp [T.eqv, T.data, PyData.eqv]
  | n, .str i, .int j, _, _ => by simp [T.eqv, T.data, PyData.eqv]
  | n, .int i, .tup ys, _, _ => by simp [T.eqv, T.data, PyData.eqv]
  | n, .str i, .tup ys, _, _ => by simp [T.eqv, T.data, PyData.eqv]
  | n, .tup ys, .int i, _, _ => by simp [T.eqv, T.data, PyData.eqv]
  | n, .tup ys, .str i, _, _ => by simp [T.eqv, T.data, PyData.eqv]
  | 0, .tup _, _, h, _ => by simp [T.key] at h
  | n + 1, .tup xs, .tup ys, h, k => by
    have := keys_eqv n xs ys (by simpa [T.key] using h) (by simpa [T.key] using k)
    simpa [T.eqv, T.data, PyData.eqv] using this
  | n, .non, _, h, _ => by cases n <;> simp [T.key] at h
  | n, .bl _, _, h, _ => by cases n <;> simp [T.key] at h
  | n, .lst _, _, h, _ => by cases n <;> simp [T.key] at h
  | n, .dct _ _, _, h, _ => by cases n <;> simp [T.key] at h
  | n, .obj _ _ _, _, h, _ => by cases n <;> simp [T.key] at h
  | n, .cell _, _, h, _ => by cases n <;> simp [T.key] at h
  | n, .fld _ _ _, _, h, _ => by cases n <;> simp [T.key] at h
  | n, .scr _, _, h, _ => by cases n <;> simp [T.key] at h
  | n, .par _, _, h, _ => by cases n <;> simp [T.key] at h
  | n, _, .non, _, h => by cases n <;> simp [T.key] at h
  | n, _, .bl _, _, h => by cases n <;> simp [T.key] at h
  | n, _, .lst _, _, h => by cases n <;> simp [T.key] at h
  | n, _, .dct _ _, _, h => by cases n <;> simp [T.key] at h
  | n, _, .obj _ _ _, _, h => by cases n <;> simp [T.key] at h
  | n, _, .cell _, _, h => by cases n <;> simp [T.key] at h
  | n, _, .fld _ _ _, _, h => by cases n <;> simp [T.key] at h
  | n, _, .scr _, _, h => by cases n <;> simp [T.key] at h
  | n, _, .par _, _, h => by cases n <;> simp [T.key] at h
theorem keys_eqv : ∀ (n : Nat) (xs ys : List T), T.keys n xs = true → T.keys n ys = true → (PyData.eqvAll (T.datas xs) (T.datas ys) = true ↔ xs = ys)
  | n, [], [], _, _ => by simp [T.datas, PyData.eqvAll]
  | n, [], y :: ys, _, _ => by simp [T.datas, PyData.eqvAll]
  | n, x :: xs, [], _, _ => by simp [T.datas, PyData.eqvAll]
  | n, x :: xs, y :: ys, h, k => by
    simp only [T.keys, Bool.and_eq_true] at h k
    have h1 := key_eqv n x y h.1 k.1
    have h2 := keys_eqv n xs ys h.2 k.2
    simp only [T.eqv] at h1
    simp only [T.datas, PyData.eqvAll, Bool.and_eq_true, List.cons.injEq, h1, h2]
end
end

mutual
theorem key_dat : ∀ (n : Nat) (t : T), t.key n = true → t.dat n = true
  | n, .int _, _ => by cases n <;> rfl
  | n, .str s, h => by cases n <;> simpa [T.key, T.dat] using h
  | 0, .tup _, h => by simp [T.key] at h
  | n + 1, .tup xs, h => by
    have := keys_dat n xs (by simpa [T.key] using h)
    simpa [T.dat] using this
  | n, .non, h => by cases n <;> simp [T.key] at h
  | n, .bl _, h => by cases n <;> simp [T.key] at h
  | n, .lst _, h => by cases n <;> simp [T.key] at h
  | n, .dct _ _, h => by cases n <;> simp [T.key] at h
  | n, .obj _ _ _, h => by cases n <;> simp [T.key] at h
  | n, .cell _, h => by cases n <;> simp [T.key] at h
  | n, .fld _ _ _, h => by cases n <;> simp [T.key] at h
  | n, .scr _, h => by cases n <;> simp [T.key] at h
  | n, .par _, h => by cases n <;> simp [T.key] at h
theorem keys_dat : ∀ (n : Nat) (ts : List T), T.keys n ts = true → T.dats n ts = true
  | _, [], _ => rfl
  | n, t :: ts, h => by
    simp only [T.keys, Bool.and_eq_true] at h
    simp only [T.dats, Bool.and_eq_true]
    exact ⟨key_dat n t h.1, keys_dat n ts h.2⟩
end
section
variable {prog : Program} {w : World} {E : Value → Shared → Prop}
theorem quiet_run : ∀ (n m : Nat) (t : T) (v : Value) (A : Around) (s : Shared) (Q : Bool → Shared → Prop), n ≤ m → t.key n = true → TreeI s.heap t v → Q true s → wpAny (model prog w) A (eqIsQuiet m v) Q E s := by
  intro n
  induction n with
  | zero =>
    intro m t v A s Q _ hk ht h
    cases t <;> simp [T.key] at hk <;> simp only [TreeI] at ht
    · obtain ⟨t', rfl⟩ := ht; rw [eqIsQuiet_byValue _ rfl]; exact wpAny_pure h
    · obtain ⟨t', rfl⟩ := ht; rw [eqIsQuiet_byValue _ rfl]; exact wpAny_pure h
  | succ n ih =>
    intro m t v A s Q hm hk ht h
    cases t <;> simp [T.key] at hk <;> simp only [TreeI] at ht
    · obtain ⟨t', rfl⟩ := ht; rw [eqIsQuiet_byValue _ rfl]; exact wpAny_pure h
    · obtain ⟨t', rfl⟩ := ht; rw [eqIsQuiet_byValue _ rfl]; exact wpAny_pure h
    · rename_i xs
      obtain ⟨a, o, its, k, rfl, ho, hc, hd, hi⟩ := ht
      have hT : s.TypeIs (.ref a) "tuple" := ⟨o, ho, hc⟩
      obtain ⟨m, rfl⟩ : ∃ j, m = j + 1 := ⟨m - 1, by omega⟩
      unfold eqIsQuiet
      refine wpAny_bind (wpAny_specialOf hT F.slot_tuple_eq.lookup ?_)
      show wpAny _ _ (isInstance (.ref a) (.type "tuple") >>= _) _ _ _
      refine wpAny_bind (wpAny_isInstance hT isSubtype_tuple_tuple ?_)
      simp only [Bool.not_true, Bool.false_eq_true, if_false]
      refine wpAny_bind (wpAny_seqItems ho hd (wpAny_bind ?_))
      show wpAny _ _ (forIn its _ _) _ _ s
      rw [← Array.forIn_toList]
      refine wpAny_forIn_list _ (fun rest r s1 => r.1 = none ∧ s1 = s ∧ ∃ l, T.keys n l = true ∧ TreeIs s.heap l rest) _ ?_ ?_ _ _ ⟨rfl, rfl, xs, hk, hi⟩
      · rintro u rest r s1 ⟨hr, rfl, l, hl, hh⟩
        cases l with
        | nil => simp only [TreeIs] at hh; cases hh
        | cons y l =>
          simp only [TreeIs] at hh
          obtain ⟨u', r', e, h3, h4⟩ := hh
          cases e
          simp only [T.keys, Bool.and_eq_true] at hl
          refine wpAny_bind (ih m y u _ _ _ (by omega) hl.1 h3 ?_)
          simp only [Bool.not_true, Bool.false_eq_true, if_false]
          exact wpAny_pure ⟨rfl, rfl, l, hl.2, h4⟩
      · rintro ⟨r1, r2⟩ s1 ⟨hr, rfl, _⟩
        simp only at hr
        subst hr
        exact wpAny_pure h
end
open Classical in
noncomputable instance instDT : DecidableEq T := fun a b => Classical.propDecidable _
/-- keys that are tuples of ints, texts, tuples, at most seven deep -/
noncomputable def tkind (prog : Program) (w : World) : HeapKind prog w T where
  is := fun h t a => t.isTup = true ∧ t.key 7 = true ∧ TreeI h t (.ref a)
  hash := hashT w
  draws := T.draws
  room := fun A => A.units + 9 < cLine
  inj := fun hx hy => TreeI.inj hx.2.2 hy.2.2
  keeps := fun {h h' k a d o es ep} hk ho hd hs => ⟨hk.1, hk.2.1, TreeI.keep (d := d) (fun o' its n e z => by rw [ho] at e; cases e; rw [hd] at z; cases z) (fun b hb o' e => (hs.2 b hb).trans e) hk.2.2⟩
  pyHash := fun {A E s k a Q} hr hk h => hash_run 7 k _ A s Q (by omega) hk.2.1 hk.2.2 h
  eqBool := fun {A E s x y a b Q} hr hx hy h => by
    obtain ⟨as, r1⟩ := TreeI.reads hx.2.2
    obtain ⟨bs, r2⟩ := TreeI.reads hy.2.2
    obtain ⟨c1, c2⟩ := dat_lay 7 x (key_dat 7 x hx.2.1)
    obtain ⟨c3, c4⟩ := dat_lay 7 y (key_dat 7 y hy.2.1)
    have e : PyData.eqv x.data y.data = decide (x = y) := by
      have := key_eqv 7 x y hx.2.1 hy.2.1
      rw [Bool.eq_iff_iff, decide_eq_true_iff]
      exact this
    refine SeqAt.eqAt_reads x.data y.data A s _ _ as bs r1 r2 c1 c3 (by omega) prog w E Q ?_
    rw [e]; exact h
  quiet := fun {A E s k a Q} hk h => quiet_run 7 8 k _ A s Q (by omega) hk.2.1 hk.2.2 h
end PL
/-! dicts by trees: look-ups, stores -/
namespace PL
open PySem PySem.Spec PyProof.Rows L2

def dGet : List T → List T → T → Option T
  | k :: ks, v :: vs, x => if T.eqv k x then some v else dGet ks vs x
  | _, _, _ => none
/-- the values, one of them another -/
def dSetV : List T → List T → T → T → List T
  | k :: ks, v :: vs, x, y => if T.eqv k x then y :: vs else v :: dSetV ks vs x y
  | _, vs, _, _ => vs
def dHas (ks : List T) (x : T) : Bool := ks.any fun k => T.eqv k x
/-- a dict with one more -/
def dPut (ks vs : List T) (x y : T) : List T × List T := if dHas ks x then (ks, dSetV ks vs x y) else (ks ++ [x], vs ++ [y])
/-- what may be asked of a dict by tuples -/
def T.dkey (x : T) : Bool := x.isTup && x.key 7

mutual
theorem ti_of {X : Cx} {pins : List (Addr × Obj)} {σ : L2.St} {H : Hp} {s : Shared} {G : Gh} (I : Inv X pins σ H s) (fro : ∀ a o, G.F a = some o → H a = some o) : ∀ (n : Nat) (t : T) (v : V) (u : Value), t.key n = true → Rp (pxOf X) G t v → RelV v u → TreeI s.heap t u
  | _, .int i, v, u, _, r, rv => by simp only [Rp] at r; subst r; obtain ⟨t, rfl⟩ := rv; simp [TreeI]
  | _, .str i, v, u, _, r, rv => by simp only [Rp] at r; subst r; obtain ⟨t, rfl⟩ := rv; simp [TreeI]
  | 0, .tup _, _, _, h, _, _ => by simp [T.key] at h
  | n + 1, .tup xs, v, u, h, r, rv => by
    simp only [Rp] at r
    obtain ⟨a, vs, rfl, q, r⟩ := r
    cases rv
    obtain ⟨its, k1, ⟨o, e1, c, m, e2⟩, _⟩ := I.tuple (SqT.grow fro q.t)
    simp only [TreeI]
    exact ⟨a, o, its.toArray, m, rfl, e1, c, e2, by simpa using tis_of I fro n xs vs its (by simpa [T.key] using h) r k1⟩
  | n, .non, _, _, h, _, _ => by cases n <;> simp [T.key] at h
  | n, .bl _, _, _, h, _, _ => by cases n <;> simp [T.key] at h
  | n, .lst _, _, _, h, _, _ => by cases n <;> simp [T.key] at h
  | n, .dct _ _, _, _, h, _, _ => by cases n <;> simp [T.key] at h
  | n, .obj _ _ _, _, _, h, _, _ => by cases n <;> simp [T.key] at h
  | n, .cell _, _, _, h, _, _ => by cases n <;> simp [T.key] at h
  | n, .fld _ _ _, _, _, h, _, _ => by cases n <;> simp [T.key] at h
  | n, .scr _, _, _, h, _, _ => by cases n <;> simp [T.key] at h
  | n, .par _, _, _, h, _, _ => by cases n <;> simp [T.key] at h
theorem tis_of {X : Cx} {pins : List (Addr × Obj)} {σ : L2.St} {H : Hp} {s : Shared} {G : Gh} (I : Inv X pins σ H s) (fro : ∀ a o, G.F a = some o → H a = some o) : ∀ (n : Nat) (ts : List T) (vs : List V) (us : List Value), T.keys n ts = true → Rps (pxOf X) G ts vs → Vals vs us → TreeIs s.heap ts us
  | _, [], vs, us, _, r, rv => by simp only [Rps] at r; subst r; cases rv; simp [TreeIs]
  | n, t :: ts, vs, us, h, r, rv => by
    simp only [Rps] at r
    obtain ⟨v, w, rfl, r1, r2⟩ := r
    cases rv with
    | cons q1 q2 =>
      simp only [T.keys, Bool.and_eq_true] at h
      simp only [TreeIs]
      exact ⟨_, _, rfl, ti_of I fro n t v _ h.1 r1 q1, tis_of I fro n ts w _ h.2 r2 q2⟩
end
section
variable {X : Cx} {pins : List (Addr × Obj)} {σ : L2.St} {H : Hp} {s : Shared} {G : Gh} {st : Store}
/-- entries, from the lists -/
def ents (ks : List T) (ka : List Addr) (us : List Value) : List (T × Addr × Value) := ks.zip (ka.zip us)
theorem dict_of (I : Inv X pins σ H s) (fro : ∀ a o, G.F a = some o → H a = some o) {a : Addr} {ks : List T} {ka : List Addr} {vs : List V} (h : H a = some (.ext (DictT X.w a ks ka vs))) (rk : Rps (pxOf X) G ks (ka.map V.ref)) (kok : keysOk ks) :
    (a == sysModules) = false ∧ ks.length ≤ 1000000 ∧ ∃ us, Vals vs us ∧ s.heap.DictOfH (tkind X.prog X.w) a (ents ks ka us) := by
  obtain ⟨⟨z, ln, us, o, es, ep, rv, h1, h2, h3, h4⟩, _⟩ := (show ObjOk X.prog X.w H s.heap a (.ext _) from I.hok a _ h)
  refine ⟨z, ln, us, rv, o, es, ep, h1, h2, h3, ?_, fun x hx => ?_, ?_⟩
  · rw [h4]; rfl
  · -- the key at its address
    obtain ⟨i, hi⟩ := List.mem_iff_getElem?.mp hx
    unfold ents at hi
    rw [List.getElem?_zip_eq_some] at hi
    obtain ⟨hi1, hi2⟩ := hi
    rw [List.getElem?_zip_eq_some] at hi2
    obtain ⟨v, ev, rv'⟩ := Rps.get rk hi1
    rw [List.getElem?_map, hi2.1] at ev
    simp at ev
    have km := kok.1 _ (List.mem_of_getElem? hi1)
    exact ⟨km.1, km.2, ti_of I fro 7 _ _ _ km.2 rv' (by rw [← ev]; rfl)⟩
  · -- no key twice
    have : (ents ks ka us).map (·.1) = ks.take (ents ks ka us).length := by
      unfold ents
      apply List.ext_getElem?
      intro i
      rw [List.getElem?_map]
      by_cases hi : i < (ks.zip (ka.zip us)).length
      · rw [List.getElem?_eq_getElem hi, List.getElem?_take_of_lt hi]
        simp only [Option.map_some]
        have hk : i < ks.length := by rw [List.length_zip] at hi; omega
        rw [List.getElem?_eq_getElem hk]
        simp
      · rw [List.getElem?_eq_none (by omega)]
        rw [List.getElem?_take_eq_none (by omega)]
        rfl
    rw [this]
    exact kok.2.sublist (List.take_sublist _ _)
theorem ents_cons (k : T) (ks : List T) (b : Addr) (ka : List Addr) (u : Value) (us : List Value) : ents (k :: ks) (b :: ka) (u :: us) = (k, b, u) :: ents ks ka us := rfl
theorem eqv_dec {k x : T} (hk : k.key 7 = true) (hx : x.key 7 = true) : T.eqv k x = decide (k = x) := by
  rw [Bool.eq_iff_iff, decide_eq_true_iff]
  exact key_eqv 7 k x hk hx
/-- a look-up -/
theorem at_get {ks : List T} {ka : List Addr} {vs : List T} {ws : List V} {us : List Value} {x : T} (hx : x.key 7 = true) (hk : ∀ k ∈ ks, k.isTup = true ∧ k.key 7 = true) (la : ka.length = ks.length) (rv : Rps (pxOf X) G vs ws) (ru : Vals ws us) (lv : ks.length = ws.length) :
    (∀ t, dGet ks vs x = some t → ∃ b u v, atKey (ents ks ka us) x = some (b, u) ∧ Rp (pxOf X) G t v ∧ RelV v u) ∧ (dGet ks vs x = none → atKey (ents ks ka us) x = none) ∧ (atKey (ents ks ka us) x).isSome = dHas ks x := by
  induction ks generalizing ka vs ws us with
  | nil => exact ⟨fun t h => by simp [dGet] at h, fun _ => by simp [ents, atKey], by simp [ents, atKey, dHas]⟩
  | cons k ks ih =>
    cases ka with
    | nil => simp at la
    | cons b ka =>
      cases ru with
      | nil => simp at lv
      | @cons w u ws us r1 ru =>
        cases vs with
        | nil => simp only [Rps] at rv; cases rv
        | cons y vs =>
          simp only [Rps] at rv
          obtain ⟨v', r', e, q1, q2⟩ := rv
          cases e
          have hk0 := hk k List.mem_cons_self
          have ih' := ih (ka := ka) (vs := vs) (ws := ws) (us := us) (fun k' h => hk k' (List.mem_cons_of_mem _ h)) (by simpa using la) q2 ru (by simpa using lv)
          rw [ents_cons]
          simp only [dGet, dHas, List.any_cons, eqv_dec hk0.2 hx]
          by_cases e : k = x
          · subst e
            have ea : atKey ((k, b, u) :: ents ks ka us) k = some (b, u) := by simp [atKey]
            rw [ea]
            refine ⟨fun t h => ?_, fun h => ?_, by simp⟩
            · simp at h; subst h
              exact ⟨b, u, w, rfl, q1, r1⟩
            · simp at h
          · have ea : atKey ((k, b, u) :: ents ks ka us) x = atKey (ents ks ka us) x := by simp [atKey, e]
            rw [ea, decide_eq_false e]
            simpa [dHas] using ih'
theorem dSetV_len : ∀ (ks vs : List T) (x y : T), (dSetV ks vs x y).length = vs.length
  | [], vs, _, _ => by simp [dSetV]
  | _ :: _, [], _, _ => by simp [dSetV]
  | k :: ks, v :: vs, x, y => by
    simp only [dSetV]
    split
    · rfl
    · simp [dSetV_len ks vs x y]
/-- the values, one of them another, as they stand -/
def vSet : List T → List V → T → V → List V
  | k :: ks, w :: ws, x, y => if T.eqv k x then y :: ws else w :: vSet ks ws x y
  | _, ws, _, _ => ws
theorem vSet_rps {ks : List T} {vs : List T} {ws : List V} {x y : T} {v : V} (rv : Rps (pxOf X) G vs ws) (ry : Rp (pxOf X) G y v) : Rps (pxOf X) G (dSetV ks vs x y) (vSet ks ws x v) := by
  induction ks generalizing vs ws with
  | nil => simpa [dSetV, vSet] using rv
  | cons k ks ih =>
    cases vs with
    | nil => simp only [Rps] at rv; subst rv; simpa [dSetV, vSet] using Rps.nil
    | cons z vs =>
      simp only [Rps] at rv
      obtain ⟨w, r, rfl, q1, q2⟩ := rv
      simp only [dSetV, vSet]
      split
      · exact Rps.cons ry q2
      · exact Rps.cons q1 (ih q2)
theorem putAt_none {ks : List T} {ka : List Addr} {us : List Value} {x : T} {u : Value} (h : x ∉ ks) : (ents ks ka us).map (putAt x u) = ents ks ka us := by
  refine map_putAt_of_not_mem _ _ _ fun hm => h ?_
  obtain ⟨e, he, rfl⟩ := List.mem_map.mp hm
  exact (List.of_mem_zip he).1
theorem putAt_set {ks : List T} {ka : List Addr} {ws : List V} {us : List Value} {x : T} {v : V} {u : Value} (hx : x.key 7 = true) (hk : ∀ k ∈ ks, k.isTup = true ∧ k.key 7 = true) (nd : ks.Nodup) (la : ka.length = ks.length) (ru : Vals ws us) (r : RelV v u) :
    ∃ us', Vals (vSet ks ws x v) us' ∧ (ents ks ka us).map (putAt x u) = ents ks ka us' := by
  induction ks generalizing ka ws us with
  | nil => exact ⟨us, by simpa [vSet] using ru, by simp [ents]⟩
  | cons k ks ih =>
    cases ka with
    | nil => simp at la
    | cons b ka =>
      cases ru with
      | nil => exact ⟨[], by simp [vSet]; exact .nil, by simp [ents]⟩
      | @cons w u0 ws us r1 ru =>
        have hk0 := hk k List.mem_cons_self
        rw [List.nodup_cons] at nd
        rw [ents_cons, List.map_cons]
        simp only [vSet, eqv_dec hk0.2 hx]
        by_cases e : k = x
        · subst e
          rw [decide_eq_true rfl, if_pos rfl, putAt_none nd.1]
          exact ⟨u :: us, .cons r ru, by simp [putAt, ents_cons]⟩
        · rw [decide_eq_false e, if_neg (by decide)]
          obtain ⟨us', q1, q2⟩ := ih (ka := ka) (fun k' h => hk k' (List.mem_cons_of_mem _ h)) nd.2 (by simpa using la) ru
          exact ⟨u0 :: us', .cons r1 q1, by rw [q2]; simp [putAt, e, ents_cons]⟩
theorem ents_snoc {ks : List T} {ka : List Addr} {us : List Value} {x : T} {b : Addr} {u : Value} (h1 : ka.length = ks.length) (h2 : us.length = ks.length) : ents ks ka us ++ [(x, b, u)] = ents (ks ++ [x]) (ka ++ [b]) (us ++ [u]) := by
  unfold ents
  rw [List.zip_append (by omega), List.zip_append (by rw [List.length_zip]; omega)]
  rfl
/-- the things of the dict at a, in the abstract heap -/
structure DAt (X : Cx) (G : Gh) (H : Hp) (a : Addr) (ks vs : List T) (ka : List Addr) (ws : List V) : Prop where
  at_ : H a = some (.ext (DictT X.w a ks ka ws))
  rk : Rps (pxOf X) G ks (ka.map V.ref)
  rv : Rps (pxOf X) G vs ws
  ok : keysOk ks
  len : ks.length = ws.length
theorem DAt.la {a : Addr} {ks vs : List T} {ka : List Addr} {ws : List V} (d : DAt X G H a ks vs ka ws) : ka.length = ks.length := by
  have := Rps.length d.rk
  simpa using this
theorem Rh.dat {v : V} {ks vs : List T} (r : Rh (pxOf X) G H (.dct ks vs) v) : ∃ a ka ws, v = .ref a ∧ DAt X G H a ks vs ka ws := by
  obtain ⟨a, o, rfl, e, us, q1, ka, e2, q2, q3, q4⟩ := r
  subst e2
  exact ⟨a, ka, us, rfl, ⟨e, q2, q1, q3, q4⟩⟩
variable {a : Addr} {ks vs : List T} {ka : List Addr} {ws : List V} {x y : T} {b : Addr} {u r : Value} {v : V} {A : Around} {E : Value → Shared → Prop}
theorem tk_is (I : Inv X pins σ H s) (fro : ∀ a o, G.F a = some o → H a = some o) (hx : x.dkey = true) (rx : Rp (pxOf X) G x (.ref b)) : (tkind X.prog X.w).is s.heap x b := by
  simp only [T.dkey, Bool.and_eq_true] at hx
  exact ⟨hx.1, hx.2, ti_of I fro 7 x _ _ hx.2 rx rfl⟩
theorem dkey_ref (hx : x.dkey = true) (rx : Rp (pxOf X) G x v) : ∃ b, v = .ref b := by
  cases x <;> simp [T.dkey, T.isTup] at hx
  simp only [Rp] at rx
  obtain ⟨a, vs, rfl, _⟩ := rx
  exact ⟨a, rfl⟩
/-- d[x], there -/
theorem dt_getItem {t : T} {Q : Value → Shared → Prop} (hu : A.units + 10 < cLine) (I : Inv X pins σ H s) (fro : ∀ a o, G.F a = some o → H a = some o) (d : DAt X G H a ks vs ka ws) (hx : x.dkey = true) (rx : Rp (pxOf X) G x v) (ru : RelV v u) (g : dGet ks vs x = some t)
    (h : ∀ w' z s', Inv X pins σ H s' → RelV z w' → Rp (pxOf X) G t z → Q w' s') : wpAny (model X.prog X.w) A (getItem (.ref a) u) Q E s := by
  obtain ⟨b, rfl⟩ := dkey_ref hx rx
  cases ru
  obtain ⟨hd, ln, us, rv, dd⟩ := dict_of I fro d.at_ d.rk d.ok
  have hx2 := hx
  simp only [T.dkey, Bool.and_eq_true] at hx2
  obtain ⟨p, u0, z, e, q1, q2⟩ := (at_get (X := X) (G := G) hx2.2 d.ok.1 d.la d.rv rv d.len).1 t g
  exact wpAny_getItem_heap (show A.in1.units + 9 < cLine by show A.units + 1 + 9 < cLine; omega) (tk_is I fro hx rx) dd e (h _ z _ (I.tok _) q2 q1)
theorem dt_in {Q : Value → Shared → Prop} (hu : A.units + 10 < cLine) (I : Inv X pins σ H s) (fro : ∀ a o, G.F a = some o → H a = some o) (d : DAt X G H a ks vs ka ws) (hx : x.dkey = true) (rx : Rp (pxOf X) G x v) (ru : RelV v u)
    (h : ∀ s', Inv X pins σ H s' → Q (.bool (dHas ks x)) s') : wpAny (model X.prog X.w) A (compareOp .In u (.ref a)) Q E s := by
  obtain ⟨b, rfl⟩ := dkey_ref hx rx
  cases ru
  obtain ⟨hd, ln, us, rv, dd⟩ := dict_of I fro d.at_ d.rk d.ok
  have hx2 := hx
  simp only [T.dkey, Bool.and_eq_true] at hx2
  refine wpAny_in_heap (show A.in1.units + 9 < cLine by show A.units + 1 + 9 < cLine; omega) (tk_is I fro hx rx) hd dd ?_
  rw [(at_get (X := X) (G := G) hx2.2 d.ok.1 d.la d.rv rv d.len).2.2]
  exact h _ (I.tok _)
theorem dt_notIn {Q : Value → Shared → Prop} (hu : A.units + 10 < cLine) (I : Inv X pins σ H s) (fro : ∀ a o, G.F a = some o → H a = some o) (d : DAt X G H a ks vs ka ws) (hx : x.dkey = true) (rx : Rp (pxOf X) G x v) (ru : RelV v u)
    (h : ∀ s', Inv X pins σ H s' → Q (.bool (!dHas ks x)) s') : wpAny (model X.prog X.w) A (compareOp .NotIn u (.ref a)) Q E s := by
  obtain ⟨b, rfl⟩ := dkey_ref hx rx
  cases ru
  obtain ⟨hd, ln, us, rv, dd⟩ := dict_of I fro d.at_ d.rk d.ok
  have hx2 := hx
  simp only [T.dkey, Bool.and_eq_true] at hx2
  refine wpAny_notIn_heap (show A.in1.units + 9 < cLine by show A.units + 1 + 9 < cLine; omega) (tk_is I fro hx rx) hd dd ?_
  rw [(at_get (X := X) (G := G) hx2.2 d.ok.1 d.la d.rv rv d.len).2.2]
  exact h _ (I.tok _)
/-- the dict behind a store: its new description -/
theorem dt_stored {z : V} {us : List Value} {h' : Heap} {tk : Nat} (I : Inv X pins σ H s) (fro : ∀ a o, G.F a = some o → H a = some o) (d : DAt X G H a ks vs ka ws) (hx : x.dkey = true) (rx : Rp (pxOf X) G x (.ref b)) (ry : Rp (pxOf X) G y z) (rz : RelV z r)
    (hl : ks.length < 1000000) (hd : (a == sysModules) = false) (ln : ks.length ≤ 1000000) (rv : Vals ws us) (dd' : h'.DictOfH (tkind X.prog X.w) a (storedH (ents ks ka us) x b r)) (hs : Heap.SameBut a s.heap h') :
    ∃ o, Inv X pins σ (upd H a o) { s with heap := h', toks := tk } ∧ Ho0 (pxOf X) G a o (.dct (dPut ks vs x y).1 (dPut ks vs x y).2) := by
  have hx2 := hx
  simp only [T.dkey, Bool.and_eq_true] at hx2
  have lus : us.length = ks.length := by rw [← rv.length, ← d.len]
  have has := (at_get (X := X) (G := G) hx2.2 d.ok.1 d.la d.rv rv d.len).2.2
  obtain ⟨q, es, ep, hq, h2, h3, h4, _, h5⟩ := dd'
  unfold storedH at h4 h5
  by_cases hh : dHas ks x = true
  · rw [if_pos (by rw [has]; exact hh)] at h4 h5
    obtain ⟨us', rv', e'⟩ := putAt_set hx2.2 d.ok.1 d.ok.2 d.la rv rz
    rw [e'] at h4 h5
    refine ⟨.ext (DictT X.w a ks ka (vSet ks ws x z)), d_write I (by rw [d.at_]; exact True.intro) hs ⟨q, hq⟩ ?_, ?_⟩
    · refine ⟨⟨hd, ln, us', q, es, ep, rv', hq, h2, h3, h4⟩, ⟨q, hq⟩, fun h1 h2 ⟨p1, p2, us1, o1, es1, ep1, p3, p4, p5, p6, p7⟩ k => ⟨p1, p2, us1, o1, es1, ep1, p3, k _ p4, p5, p6, p7⟩⟩
    · unfold dPut
      rw [if_pos hh]
      exact ⟨_, vSet_rps d.rv ry, ka, rfl, d.rk, d.ok, by
        have e1 := Rps.length (vSet_rps (X := X) (ks := ks) (x := x) d.rv ry)
        rw [dSetV_len] at e1
        have e2 := Rps.length d.rv
        have e3 := d.len
        show ks.length = (vSet ks ws x z).length
        omega⟩
  · have hno : dHas ks x = false := by simpa using hh
    rw [if_neg (by rw [has, hno]; decide)] at h4 h5
    rw [ents_snoc d.la lus] at h4 h5
    have nm : x ∉ ks := fun hm => by
      have : dHas ks x = true := List.any_eq_true.mpr ⟨x, hm, by rw [eqv_dec hx2.2 hx2.2]; simp⟩
      rw [hno] at this; cases this
    refine ⟨.ext (DictT X.w a (ks ++ [x]) (ka ++ [b]) (ws ++ [z])), d_write I (by rw [d.at_]; exact True.intro) hs ⟨q, hq⟩ ?_, ?_⟩
    · refine ⟨⟨hd, by simp; omega, us ++ [r], q, es, ep, rv.append (.cons rz .nil), hq, h2, h3, h4⟩, ⟨q, hq⟩, fun h1 h2 ⟨p1, p2, us1, o1, es1, ep1, p3, p4, p5, p6, p7⟩ k => ⟨p1, p2, us1, o1, es1, ep1, p3, k _ p4, p5, p6, p7⟩⟩
    · unfold dPut
      rw [if_neg hh]
      refine ⟨_, Rps.append d.rv (Rps.cons ry Rps.nil), ka ++ [b], rfl, ?_, ⟨fun k hk => ?_, ?_⟩, by simp [d.len]⟩
      · rw [List.map_append]; exact Rps.append d.rk (Rps.cons rx Rps.nil)
      · rcases List.mem_append.mp hk with hk | hk
        · exact d.ok.1 k hk
        · simp at hk; subst hk; exact hx2
      · rw [List.nodup_append]
        exact ⟨d.ok.2, by simp, fun k hk k' hk' e => by simp at hk'; subst hk' e; exact nm hk⟩
theorem ents_len {us : List Value} (ln : ks.length ≤ 1000000) : (ents ks ka us).length ≤ sizeLine := by
  refine line_le ?_
  unfold ents
  rw [List.length_zip]; omega
/-- d[x] = y -/
theorem dt_setItem {z : V} {Q : Unit → Shared → Prop} (hu : A.units + 10 < cLine) (I : Inv X pins σ H s) (fro : ∀ a o, G.F a = some o → H a = some o) (d : DAt X G H a ks vs ka ws) (hx : x.dkey = true) (rx : Rp (pxOf X) G x v) (ru : RelV v u) (ry : Rp (pxOf X) G y z) (rz : RelV z r)
    (hl : ks.length < 1000000) (h : ∀ s' o, Inv X pins σ (upd H a o) s' → Ho0 (pxOf X) G a o (.dct (dPut ks vs x y).1 (dPut ks vs x y).2) → Q () s') : wpAny (model X.prog X.w) A (setItem (.ref a) u r) Q E s := by
  obtain ⟨b, rfl⟩ := dkey_ref hx rx
  cases ru
  obtain ⟨hd, ln, us, rv, dd⟩ := dict_of I fro d.at_ d.rk d.ok
  refine wpAny_setItem_heap (hsz := ents_len ln) (show A.in1.units + 9 < cLine by show A.units + 1 + 9 < cLine; omega) (tk_is I fro hx rx) dd fun h' dd' hs => ?_
  obtain ⟨o, I', ho⟩ := dt_stored (tk := s.toks + (tkind X.prog X.w).draws x) I fro d hx rx ry rz hl hd ln rv dd' hs
  exact h _ o I' ho
/-- .. by a comprehension -/
theorem dt_dictSet {z : V} {Q : Unit → Shared → Prop} (hu : A.units + 10 < cLine) (I : Inv X pins σ H s) (fro : ∀ a o, G.F a = some o → H a = some o) (d : DAt X G H a ks vs ka ws) (hx : x.dkey = true) (rx : Rp (pxOf X) G x v) (ru : RelV v u) (ry : Rp (pxOf X) G y z) (rz : RelV z r)
    (hl : ks.length < 1000000) (h : ∀ s' o, Inv X pins σ (upd H a o) s' → Ho0 (pxOf X) G a o (.dct (dPut ks vs x y).1 (dPut ks vs x y).2) → Q () s') : wpAny (model X.prog X.w) A (dictSet a u r) Q E s := by
  obtain ⟨b, rfl⟩ := dkey_ref hx rx
  cases ru
  obtain ⟨hd, ln, us, rv, dd⟩ := dict_of I fro d.at_ d.rk d.ok
  refine wpAny_dictSet_heap (hsz := ents_len ln) (show A.units + 9 < cLine by omega) (tk_is I fro hx rx) dd fun h' dd' hs => ?_
  obtain ⟨o, I', ho⟩ := dt_stored (tk := s.toks + (tkind X.prog X.w).draws x) I fro d hx rx ry rz hl hd ln rv dd' hs
  exact h _ o I' ho
end
end PL
/-! statements, loops -/
namespace PL
open PySem PySem.Spec PyProof.Rows L2

inductive SR where
  | nx (env : En) | rt (t : T) | bk (env : En) | ct (env : En) | ex (e : Exn) (env : En)
abbrev SO := Option (SR × Store)
abbrev SM := En → Store → SO
/-- what follows a statement -/
def PoS (P : PX) (G : Gh) (W : WX) (r : SO) (D : Ends) : Prop :=
  match r with
  | none => False
  | some (.nx env, st) => ∀ G' H' σ', G.Le G' → Rel P G' st H' → RelE P G' env σ' → D.nx σ' H'
  | some (.rt t, st) => ∀ G' H' v, G.Le G' → Rel P G' st H' → Rp P G' t v → D.rt v H'
  | some (.bk env, st) => ∀ G' H' σ', G.Le G' → Rel P G' st H' → RelE P G' env σ' → D.bk σ' H'
  | some (.ct env, st) => ∀ G' H' σ', G.Le G' → Rel P G' st H' → RelE P G' env σ' → D.ct σ' H'
  | some (.ex e env, st) => ∀ G' H' σ' c d, G.Le G' → Rel P G' st H' → RelE P G' env σ' → ExR P G' H' e c d → W c d σ' H'
theorem PoS.mono {P : PX} {G G1 : Gh} {W : WX} {r : SO} {D : Ends} (le : G.Le G1) (h : PoS P G W r D) : PoS P G1 W r D := by
  match r, h with
  | some (.nx env, st), h => exact fun G' H' σ' l => h G' H' σ' (le.trans l)
  | some (.rt t, st), h => exact fun G' H' v l => h G' H' v (le.trans l)
  | some (.bk env, st), h => exact fun G' H' σ' l => h G' H' σ' (le.trans l)
  | some (.ct env, st), h => exact fun G' H' σ' l => h G' H' σ' (le.trans l)
  | some (.ex e env, st), h => exact fun G' H' σ' c d l => h G' H' σ' c d (le.trans l)
def tS (P : PX) (W : WX) (m : SM) : TS := fun D σ H => ∃ G env st, Rel P G st H ∧ RelE P G env σ ∧ PoS P G W (m env st) D
def SS (X : Cx) (W : WX) (s : Stmt) (m : SM) : Prop := PS X s (tS (pxOf X) W m)
def SSs (X : Cx) (W : WX) (s : List Stmt) (m : SM) : Prop := PSs X s (tS (pxOf X) W m)
theorem ps_mono {X : Cx} {s : Stmt} {t t' : TS} (h : PS X s t) (i : ∀ D σ H, t' D σ H → t D σ H) : PS X s t' := ⟨fun pins st σ H D I q => h.run pins st σ H D I (i D σ H q)⟩
theorem pss_mono {X : Cx} {s : List Stmt} {t t' : TS} (h : PSs X s t) (i : ∀ D σ H, t' D σ H → t D σ H) : PSs X s t' := ⟨fun pins st σ H D I q => h.run pins st σ H D I (i D σ H q)⟩

/-- an expression's result, then k -/
def sE {α : Type} (m : M α) (k : α → SM) : SM := fun env st =>
  match m env st with
  | none => none
  | some (.ok a, st') => k a env st'
  | some (.ex e, st') => some (.ex e env, st')
/-- an expression's result at the store's end -/
theorem sE.run {α β : Type} {P : PX} {rel : Gh → Store → Hp → α → β → Prop} {W : WX} {m : M α} {k : α → SM} {D : Ends} {σ : L2.St} {H : Hp} (h : tS P W (sE m k) D σ H) :
    tG P rel W m σ H fun b H' => ∃ a G env st, rel G st H' a b ∧ RelE P G env σ ∧ PoS P G W (k a env st) D := by
  obtain ⟨G, env, st, R, E, q⟩ := h
  refine ⟨G, env, st, R, E, ?_⟩
  unfold sE at q
  match e : m env st, q with
  | some (.ok a, st'), q => exact fun G' H' b le r => ⟨a, G', env, st', r, E.mono le, q.mono le⟩
  | some (.ex x, st'), q => exact fun G' H' c d le R' x => q G' H' σ c d le R' (E.mono le) x
  | none, q => exact q.elim
def sSkip : SM := fun env st => some (.nx env, st)
def sSeq (m n : SM) : SM := fun env st =>
  match m env st with
  | some (.nx env', st') => n env' st'
  | r => r
section
variable {X : Cx} {W : WX} {pos : Pos}
theorem ss_nil : SSs X W [] sSkip := pss_mono pss_nil fun D σ H ⟨G, env, st, R, E, q⟩ => q G H σ (Gh.Le.refl G) R E
theorem seq_pre {m n : SM} {D : Ends} {σ : L2.St} {H : Hp} (h : tS (pxOf X) W (sSeq m n) D σ H) : tS (pxOf X) W m { D with nx := fun σ' H' => tS (pxOf X) W n D σ' H' } σ H := by
  obtain ⟨G, env, st, R, E, q⟩ := h
  refine ⟨G, env, st, R, E, ?_⟩
  unfold sSeq at q
  match e : m env st, q with
  | some (.nx env', st'), q => exact fun G' H' σ' le R' E' => ⟨G', env', st', R', E', q.mono le⟩
  | some (.rt t, st'), q => exact q
  | some (.bk t, st'), q => exact q
  | some (.ct t, st'), q => exact q
  | some (.ex x t, st'), q => exact q
  | none, q => exact q
theorem ss_cons {s : Stmt} {ss : List Stmt} {m n : SM} (h : SS X W s m) (k : SSs X W ss n) : SSs X W (s :: ss) (sSeq m n) := pss_mono (pss_cons h k) fun D σ H q => seq_pre q
theorem ss_one {s : Stmt} {m : SM} (h : SS X W s m) : SSs X W [s] m := pss_mono (pss_one h) fun D σ H q => q
theorem ss_pass : SS X W (.Pass pos) sSkip := ps_mono ps_pass fun D σ H ⟨G, env, st, R, E, q⟩ => q G H σ (Gh.Le.refl G) R E
theorem ss_break : SS X W (.Break pos) (fun env st => some (.bk env, st)) := ps_mono ps_break fun D σ H ⟨G, env, st, R, E, q⟩ => q G H σ (Gh.Le.refl G) R E
theorem ss_continue : SS X W (.Continue pos) (fun env st => some (.ct env, st)) := ps_mono ps_continue fun D σ H ⟨G, env, st, R, E, q⟩ => q G H σ (Gh.Le.refl G) R E
def sExpr (m : M T) : SM := sE m fun _ => sSkip
theorem ss_expr {e : Expr} {m : M T} (h : SE X W e m) (hs : swapsWith e none pos.line X.env = pure false) : SS X W (.Expr e pos) (sExpr m) :=
  ps_mono (ps_expr h hs) fun D σ H q => (sE.run q).imp fun v H1 ⟨t, G, env, st, r, E, q1⟩ => q1 G H1 σ (Gh.Le.refl G) r.1 E
def sRet (m : M T) : SM := sE m fun t _ st => some (.rt t, st)
theorem ss_ret {e : Expr} {m : M T} (h : SE X W e m) : SS X W (.Return (some e) pos) (sRet m) :=
  ps_mono (ps_ret h) fun D σ H q => (sE.run q).imp fun v H1 ⟨t, G, env, st, r, E, q1⟩ => q1 G H1 v (Gh.Le.refl G) r.1 r.2
def sRetN : SM := fun _ st => some (.rt .non, st)
theorem ss_retN : SS X W (.Return none pos) sRetN := ps_mono ps_retN fun D σ H ⟨G, env, st, R, E, q⟩ => q G H .non (Gh.Le.refl G) R (by simp [Rp])
def sIf (n : M Bool) (a b : SM) : SM := sE n fun c => if c then a else b
theorem ss_if {c : Expr} {n : M Bool} {as bs : List Stmt} {ma mb : SM} (hc : SB X W c n) (ha : SSs X W as ma) (hb : SSs X W bs mb) : SS X W (.If c as bs pos) (sIf n ma mb) := by
  refine ps_mono (ps_if hc ha hb) fun D σ H q => (sE.run q).imp fun k H1 ⟨t, G, env, st, ⟨R, r⟩, E, q1⟩ => ?_
  subst r
  cases t with
  | true => exact ⟨G, env, st, R, E, q1⟩
  | false => exact ⟨G, env, st, R, E, q1⟩

/-! ### targets -/
abbrev GM := T → En → Store → Option (En × Store)
def tT (P : PX) (g : GM) : TG := fun v σ H Q => ∃ G env st t, Rel P G st H ∧ RelE P G env σ ∧ Rp P G t v ∧ ∃ env' st', g t env st = some (env', st') ∧ ∀ G' H' σ', G.Le G' → Rel P G' st' H' → RelE P G' env' σ' → Q σ' H'
abbrev GMs := List T → En → Store → Option (En × Store)
def tTs (P : PX) (g : GMs) : TGs := fun vs σ H Q => ∃ G env st ts, Rel P G st H ∧ RelE P G env σ ∧ Rps P G ts vs ∧ ∃ env' st', g ts env st = some (env', st') ∧ ∀ G' H' σ', G.Le G' → Rel P G' st' H' → RelE P G' env' σ' → Q σ' H'
def SG (X : Cx) (tg : Expr) (g : GM) : Prop := PG X tg (tT (pxOf X) g)
def SGs (X : Cx) (tg : List Expr) (g : GMs) : Prop := PGs X tg (tTs (pxOf X) g)
theorem pg_mono {tg : Expr} {g g' : TG} (h : PG X tg g) (i : ∀ v σ H Q, g' v σ H Q → g v σ H Q) : PG X tg g' := ⟨fun pins s σ H v u Q I r q => h.run pins s σ H v u Q I r (i v σ H Q q)⟩
theorem pgs_mono {tg : List Expr} {g g' : TGs} (h : PGs X tg g) (i : ∀ v σ H Q, g' v σ H Q → g v σ H Q) : PGs X tg g' := ⟨fun pins s σ H v u Q I r q => h.run pins s σ H v u Q I r (i v σ H Q q)⟩
def gVar (i : Nat) : GM := fun t env st => some (env.set i (some t), st)
theorem sg_name {i : Nat} {x : Str} (hN : X.N.Nodup) (hi : X.N[i]? = some x) (hx : Loc X.env.scope x) (hf : X.fn x = true ∨ X.env.scope.names.lookup x = some .local) : SG X (.Name x pos) (gVar i) :=
  pg_mono (pg_name hN hi hx hf) fun v σ H Q ⟨G, env, st, t, R, E, r, env', st', e, q⟩ => by
    simp only [gVar, Option.some.injEq, Prod.mk.injEq] at e
    obtain ⟨rfl, rfl⟩ := e
    exact q G H _ (Gh.Le.refl G) R (E.set r i)
def gsNil : GMs := fun ts env st => match ts with | [] => some (env, st) | _ => none
def gsCons (g : GM) (h : GMs) : GMs := fun ts env st => match ts with | t :: r => (g t env st).bind fun p => h r p.1 p.2 | [] => none
theorem sgs_nil : SGs X [] gsNil := pgs_mono pgs_nil fun v σ H Q ⟨G, env, st, ts, R, E, r, env', st', e, q⟩ => by
  unfold gsNil at e
  split at e
  · cases e
    simp only [Rps] at r
    exact ⟨r, q G H σ (Gh.Le.refl G) R E⟩
  · cases e
theorem sgs_cons {e : Expr} {es : List Expr} {g : GM} {h : GMs} (h1 : SG X e g) (h2 : SGs X es h) (hs : (assignEach (e :: es) X.env).map (·.2) = assign e X.env :: (assignEach es X.env).map (·.2)) : SGs X (e :: es) (gsCons g h) :=
  pgs_mono (pgs_cons h1 h2 hs) fun v σ H Q ⟨G, env, st, ts, R, E, r, env', st', e, q⟩ => by
    unfold gsCons at e
    split at e
    · rename_i t ts
      simp only [Rps] at r
      obtain ⟨v1, vr, rfl, r1, r2⟩ := r
      cases e1 : g t env st with
      | none => rw [e1] at e; cases e
      | some p =>
        rw [e1] at e
        refine ⟨v1, vr, rfl, G, env, st, t, R, E, r1, p.1, p.2, e1, fun G' H' σ' le R' E' => ?_⟩
        exact ⟨G', p.1, p.2, ts, R', E', Rps.mono le r2, env', st', e, fun G2 H2 σ2 l2 => q G2 H2 σ2 (le.trans l2)⟩
    · cases e
/-- a tuple taken apart -/
def gTupT (n : Nat) (g : GMs) : GM := fun t env st => match look st t with | .tup ts => if ts.length = n then g ts env st else none | _ => none
theorem sg_tup {es : List Expr} {k : Nat} {g : GMs} {n : Nat} (hc : X.calm = true) (h : SGs X es g) (hn : (assignEach es X.env).length = n) (hst : (assignEach es X.env).findIdx? (·.1) = none) : SG X (.Tuple es k pos) (gTupT n g) :=
  pg_mono (pg_tup hc h hn hst) fun v σ H Q ⟨G, env, st, t, R, E, r, env', st', e, q⟩ => by
    unfold gTupT at e
    split at e
    · rename_i ts ht
      split at e
      · rename_i hl
        have r' := look_ok R r
        rw [ht] at r'
        obtain ⟨a, vs, rfl, h1, r1⟩ := r'
        exact ⟨a, vs, rfl, h1, by rw [Rps.length r1]; exact hl, G, env, st, ts, R, E, r1, env', st', e, q⟩
      · cases e
    · cases e
/-- target = value -/
def sAsg (m : M T) (g : GM) : SM := sE m fun t env st => match g t env st with | some (env', st') => some (.nx env', st') | none => none
theorem asg_k {g : GM} {t : T} {env : En} {st : Store} {G : Gh} {D : Ends} {σ : L2.St} {H : Hp} {v : V} (r : relT (pxOf X) G st H t v) (E : RelE (pxOf X) G env σ) (q : PoS (pxOf X) G W (match g t env st with | some (env', st') => some (.nx env', st') | none => none) D) : tT (pxOf X) g v σ H D.nx := by
  cases e : g t env st with
  | none => rw [e] at q; exact q.elim
  | some p =>
    rw [e] at q
    exact ⟨G, env, st, t, r.1, E, r.2, p.1, p.2, e, q⟩
theorem ss_asg {tg e : Expr} {m : M T} {g : GM} (he : SE X W e m) (hg : SG X tg g) (hs : swapsWithSole [tg] e pos.line X.env = pure false) (hw : swappedStores [tg] e X.env = pure none) (h1 : (assignEach [tg] X.env).map (·.2) = [assign tg X.env]) : SS X W (.Assign [tg] e pos) (sAsg m g) :=
  ps_mono (ps_asg he hg hs hw h1) fun D σ H q => (sE.run q).imp fun v H1 ⟨t, G, env, st, r, E, q1⟩ => asg_k r E q1
theorem ss_set {i : Nat} {x : Str} {e : Expr} {m : M T} {pos' : Pos} (hN : X.N.Nodup) (hi : X.N[i]? = some x) (hx : Loc X.env.scope x) (he : SE X W e m) (hs : swapsWith e (some (.Name x pos')) pos.line X.env = pure false) (hf : X.fn x = true ∨ X.env.scope.names.lookup x = some .local) : SS X W (.Assign [.Name x pos'] e pos) (sAsg m (gVar i)) :=
  ps_mono (ps_set hN hi hx he hs hf) fun D σ H q => (sE.run q).imp fun v H1 ⟨t, G, env, st, r, E, q1⟩ => q1 G H1 _ (Gh.Le.refl G) r.1 (E.set r.2 i)
/-- a, b = x, y -/
theorem ss_par {i j : Nat} {x y : Str} {a b : Expr} {ms : M (List T)} {px py pt : Pos} {kt k2 pt2} (hc : X.calm = true) (hN : X.N.Nodup) (hi : X.N[i]? = some x) (hj : X.N[j]? = some y) (hij : i ≠ j) (hx : X.env.scope.names.lookup x = some .local) (hy : X.env.scope.names.lookup y = some .local)
    (ha : SA X W [a, b] ms) (hw : swappedStores [.Tuple [.Name x px, .Name y py] kt pt] (.Tuple [a, b] k2 pt2) X.env = pure (some [x, y])) (hs : swapsWithSole [.Tuple [.Name x px, .Name y py] kt pt] (.Tuple [a, b] k2 pt2) pos.line X.env = pure false) :
    SS X W (.Assign [.Tuple [.Name x px, .Name y py] kt pt] (.Tuple [a, b] k2 pt2) pos) (sE ms fun ts env st => match gsCons (gVar i) (gsCons (gVar j) gsNil) ts env st with | some (env', st') => some (.nx env', st') | none => none) := by
  refine ps_mono (ps_par hc hN hi hj hij hx hy ha hw hs) fun D σ H q => (sE.run q).imp fun vs H1 ⟨ts, G, env, st, r, E, q1⟩ => ?_
  match ts, q1, r with
  | [t1, t2], q1, r =>
    have r2 := r.2
    simp only [Rps] at r2
    obtain ⟨v1, _, rfl, p1, v2, _, rfl, p2, rfl⟩ := r2
    exact ⟨v1, v2, rfl, q1 G H1 _ (Gh.Le.refl G) r.1 ((E.set p1 i).set p2 j)⟩
  | [], q1, r => exact q1.elim
  | [_], q1, r => exact q1.elim
  | _ :: _ :: _ :: _, q1, r => exact q1.elim

/-! ### for -/
/-- J walks these, at every heap to come -/
def Wk (P : PX) (G : Gh) (J : It) (items : List T) : Prop := ∀ (i : Nat) G1 st1 H1, G.Le0 G1 → Rel P G1 st1 H1 →
  (∀ t, items[i]? = some t → J.go i H1 ∧ ∀ x H2, J.yld i H1 x H2 → ∃ G2, G1.Le G2 ∧ Rel P G2 st1 H2 ∧ Rp P G2 t x) ∧ (items.length ≤ i → J.stop i H1)
theorem Wk.mono {P : PX} {G G1 : Gh} {J : It} {items : List T} (le : G.Le0 G1) (w : Wk P G J items) : Wk P G1 J items := fun i G2 st2 H2 l => w i G2 st2 H2 (le.trans l)
def relI (P : PX) : Gh → Store → Hp → List T → It → Prop := fun G st H items J => Rel P G st H ∧ Wk P G J items
def SI (X : Cx) (W : WX) (tg iter : Expr) (m : M (List T)) : Prop := PI X tg iter (tG (pxOf X) (relI (pxOf X)) W m)
def loopF (g : GM) (body : SM) : List T → SM
  | [] => sSkip
  | t :: ts => fun env st =>
    match g t env st with
    | none => none
    | some (env1, st1) =>
      match body env1 st1 with
      | some (.nx env2, st2) => loopF g body ts env2 st2
      | some (.ct env2, st2) => loopF g body ts env2 st2
      | some (.bk env2, st2) => some (.nx env2, st2)
      | r => r
def sFor (m : M (List T)) (g : GM) (body : SM) : SM := sE m fun items => loopF g body items
theorem ss_for {tg iter : Expr} {body : List Stmt} {m : M (List T)} {g : GM} {mb : SM} (hp : PassesOwn (model X.prog X.w) X.A X.env X.xe) (hc : X.calm = true) (hi : SI X W tg iter m) (hg : SG X tg g) (hb : SSs X W body mb) (hs : ∀ x, foldedSetIterable iter X.env x = pure x) :
    SS X W (.For tg iter body [] pos) (sFor m g mb) := by
  refine ps_mono (ps_for hp hc hi hg hb hs) fun D σ H q => (sE.run q).imp fun J H1 ⟨items, G0, env0, st0, ⟨R0, w⟩, E0, q0⟩ => ?_
  refine ⟨fun i m σ H => ∃ G env st, G0.Le G ∧ Rel (pxOf X) G st H ∧ RelE (pxOf X) G env σ ∧ m = items.length - i ∧ i ≤ items.length ∧ PoS (pxOf X) G W (loopF g mb (items.drop i) env st) D,
    ⟨items.length, G0, env0, st0, Gh.Le.refl _, R0, E0, rfl, Nat.zero_le _, by simpa using q0⟩, ?_⟩
  rintro i m σ H ⟨G, env, st, le, R, E, rfl, hi, q⟩
  obtain ⟨w1, w2⟩ := w i G st H le.toLe0 R
  by_cases hlt : i < items.length
  · have ht : items[i]? = some items[i] := List.getElem?_eq_getElem hlt
    obtain ⟨go, yld⟩ := w1 _ ht
    rw [List.drop_eq_getElem_cons hlt] at q
    unfold loopF at q
    refine .inr ⟨go, fun σ' H' => ∃ G' env' st', G0.Le G' ∧ Rel (pxOf X) G' st' H' ∧ RelE (pxOf X) G' env' σ' ∧ PoS (pxOf X) G' W (loopF g mb (items.drop (i + 1)) env' st') D, fun σ' H' ⟨G', env', st', l', R', E', q'⟩ => ⟨items.length - (i + 1), by omega, G', env', st', l', R', E', rfl, hlt, q'⟩, fun x H' hy => ?_⟩
    obtain ⟨G2, l2, R2, r2⟩ := yld x H' hy
    cases e : g items[i] env st with
    | none => simp only [e] at q; exact q.elim
    | some p =>
      obtain ⟨env1, st1⟩ := p
      simp only [e] at q
      refine ⟨G2, env, st, items[i], R2, E.mono l2, r2, env1, st1, e, fun G3 H3 σ3 l3 R3 E3 => ⟨G3, env1, st1, R3, E3, ?_⟩⟩
      have q := q.mono (l2.trans l3)
      match e2 : mb env1 st1, q with
      | some (.nx env2, st2), q => exact fun G4 H4 σ4 l4 R4 E4 => ⟨G4, env2, st2, (le.trans (l2.trans l3)).trans l4, R4, E4, q.mono l4⟩
      | some (.ct env2, st2), q => exact fun G4 H4 σ4 l4 R4 E4 => ⟨G4, env2, st2, (le.trans (l2.trans l3)).trans l4, R4, E4, q.mono l4⟩
      | some (.bk env2, st2), q => exact q
      | some (.rt t, st2), q => exact q
      | some (.ex x t, st2), q => exact q
      | none, q => exact q
  · have hd : items.drop i = [] := List.drop_eq_nil_of_le (by omega)
    rw [hd] at q
    exact .inl ⟨w2 (by omega), q G H σ (Gh.Le.refl G) R E⟩
/-! ### while -/
def loopW (n : M Bool) (body : SM) : Nat → SM
  | 0 => fun _ _ => none
  | k + 1 => sE n fun c => if c then (fun env st =>
      match body env st with
      | some (.nx env2, st2) => loopW n body k env2 st2
      | some (.ct env2, st2) => loopW n body k env2 st2
      | some (.bk env2, st2) => some (.nx env2, st2)
      | r => r) else sSkip
theorem ss_while {c : Expr} {body : List Stmt} {n : M Bool} {mb : SM} {k : Nat} (hp : PassesOwn (model X.prog X.w) X.A X.env X.xe) (hc : SB X W c n) (hb : SSs X W body mb) : SS X W (.While c body [] pos) (loopW n mb k) := by
  refine ps_mono (ps_while hp hc hb) fun D σ H q => ?_
  refine ⟨fun m σ H => tS (pxOf X) W (loopW n mb m) D σ H, ⟨k, q⟩, fun m σ H h => ?_⟩
  cases m with
  | zero => obtain ⟨G, env, st, R, E, q⟩ := h; exact q.elim
  | succ m =>
    refine (sE.run h).imp fun b H1 ⟨t, G, env, st, ⟨R, r⟩, E, q1⟩ => ?_
    subst r
    cases t with
    | false => rw [if_neg (by decide)]; exact q1 G H1 σ (Gh.Le.refl G) R E
    | true =>
      rw [if_pos rfl]
      rw [if_pos rfl] at q1
      refine ⟨fun σ' H' => tS (pxOf X) W (loopW n mb m) D σ' H', fun σ' H' h' => ⟨m, Nat.lt_succ_self m, h'⟩, G, env, st, R, E, ?_⟩
      match e2 : mb env st, q1 with
      | some (.nx env2, st2), q => exact fun G4 H4 σ4 l4 R4 E4 => ⟨G4, env2, st2, R4, E4, q.mono l4⟩
      | some (.ct env2, st2), q => exact fun G4 H4 σ4 l4 R4 E4 => ⟨G4, env2, st2, R4, E4, q.mono l4⟩
      | some (.bk env2, st2), q => exact q
      | some (.rt t, st2), q => exact q
      | some (.ex x t, st2), q => exact q
      | none, q => exact q
end
end PL
/-! what is walked; comprehensions -/
namespace PL
open PySem PySem.Spec PyProof.Rows L2

section
variable {X : Cx} {W : WX} {tg : Expr}
theorem pi_mono {iter : Expr} {w w' : TI} (h : PI X tg iter w) (i : ∀ σ H R, w' σ H R → w σ H R) : PI X tg iter w' := ⟨fun pins s σ H R I q => h.run pins s σ H R I (i σ H R q)⟩
theorem pi_or {iter : Expr} {w w' : TI} (h : PI X tg iter w) (h' : PI X tg iter w') : PI X tg iter fun σ H R => w σ H R ∨ w' σ H R := ⟨fun pins s σ H R I q => q.elim (fun q => h.run pins s σ H R I q) fun q => h'.run pins s σ H R I q⟩
theorem get_of {i : Nat} {ts : List T} {vs : List V} {G : Gh} {t : T} (r : Rps (pxOf X) G ts vs) (e : ts[i]? = some t) : ∃ v, vs[i]? = some v ∧ Rp (pxOf X) G t v := Rps.get r e
theorem wk_list {G : Gh} {a : Addr} {ts : List T} {vs : List V} (h : G.F a = some (.lst vs)) (r : Rps (pxOf X) G ts vs) : Wk (pxOf X) G (Itl X.K a) ts := by
  intro i G1 st1 H1 le R
  have q : SqL X.K H1 a vs := .inl (.inl (R.fro _ _ (le.f _ _ h)))
  refine ⟨fun t e => ?_, fun hi => ⟨vs, q, by rw [Rps.length r]; exact hi⟩⟩
  obtain ⟨v, ev, rv⟩ := Rps.get r e
  refine ⟨⟨vs, v, q, ev⟩, fun x H2 ⟨e2, hx⟩ => ?_⟩
  subst e2
  have := hx vs q
  rw [ev] at this; cases this
  exact ⟨G1, Gh.Le.refl _, R, rv.mono0 le⟩
theorem wk_tup {G : Gh} {a : Addr} {ts : List T} {vs : List V} (h : SqT X.K G.F a vs) (r : Rps (pxOf X) G ts vs) : Wk (pxOf X) G (Itt X.K a) ts := by
  intro i G1 st1 H1 le R
  have q : SqT X.K H1 a vs := SqT.grow R.fro (SqT.grow le.f h)
  refine ⟨fun t e => ?_, fun hi => ⟨vs, q, by rw [Rps.length r]; exact hi⟩⟩
  obtain ⟨v, ev, rv⟩ := Rps.get r e
  refine ⟨⟨vs, v, q, ev⟩, fun x H2 ⟨e2, hx⟩ => ?_⟩
  subst e2
  have := hx vs q
  rw [ev] at this; cases this
  exact ⟨G1, Gh.Le.refl _, R, rv.mono0 le⟩
theorem wk_range {G : Gh} {lo : Int} {n : Nat} : Wk (pxOf X) G (Itr lo n) ((List.range n).map fun i => T.int (lo + (i : Nat))) := by
  intro i G1 st1 H1 le R
  refine ⟨fun t e => ?_, fun hi => by simpa [Itr] using hi⟩
  rw [List.getElem?_map] at e
  have hi : i < n := by
    by_cases h : i < n
    · exact h
    · rw [List.getElem?_eq_none (by simpa using h)] at e; cases e
  rw [List.getElem?_range hi] at e
  simp only [Option.map_some, Option.some.injEq] at e
  refine ⟨hi, fun x H2 ⟨e2, hx⟩ => ⟨G1, Gh.Le.refl _, by rw [e2]; exact R, ?_⟩⟩
  rw [← e, hx]; simp [Rp]
/-- the signs of a text -/
def signs (s : Str) : List T := s.cps.toList.map fun c => .str ⟨#[c]⟩
theorem wk_str {G : Gh} {s : Str} : Wk (pxOf X) G (Its s) (signs s) := by
  intro i G1 st1 H1 le R
  refine ⟨fun t e => ?_, fun hi => by simpa [Its, signs] using hi⟩
  unfold signs at e
  rw [List.getElem?_map, Array.getElem?_toList] at e
  cases ec : s.cps[i]? with
  | none => rw [ec] at e; cases e
  | some c =>
    rw [ec] at e
    simp only [Option.map_some, Option.some.injEq] at e
    have hi := (Array.getElem?_eq_some_iff.mp ec).1
    refine ⟨hi, fun x H2 ⟨e2, c', hc', hx⟩ => ⟨G1, Gh.Le.refl _, by rw [e2]; exact R, ?_⟩⟩
    rw [ec] at hc'; cases hc'
    rw [← e, hx]; simp [Rp]
/-- the items of a thing that is walked -/
def itemsO (t : T) : Option (List T) :=
  match t with
  | .lst xs => some xs
  | .tup xs => some xs
  | .str s => some (signs s)
  | _ => none
def mIter (m : M T) : M (List T) := mBnd m fun t _ st => Res.ofO (itemsO t) st
theorem si_val {e : Expr} {m : M T} (h : SE X W e m) : SI X W tg e (mIter m) := by
  refine pi_mono (pi_or (pi_list h) (pi_or (pi_tup h) (pi_str h))) fun σ H R q => ?_
  obtain ⟨G, env, st, Rl, E, q⟩ := q
  -- the kind of the value tells which
  cases e1 : m env st with
  | none => exfalso; rw [show mIter m env st = (m env st).bnd _ from rfl, e1] at q; exact q
  | some p =>
    obtain ⟨r, st'⟩ := p
    have q : Po (pxOf X) (relI (pxOf X)) G (WE W σ) (Res.bnd (some (r, st') : Res T) fun t st => Res.ofO (itemsO t) st) R := by rw [← e1]; exact q
    have base : ∀ {Q : VK}, Po (pxOf X) (relT (pxOf X)) G (WE W σ) (some (r, st')) Q → tM (pxOf X) W m σ H Q := fun z => ⟨G, env, st, Rl, E, by rw [e1]; exact z⟩
    cases r with
    | ex x => exact .inl (base q)
    | ok t =>
      simp only [bnd_ok] at q
      cases t with
      | lst xs =>
        refine .inl (base fun G' H' v le ⟨R', r'⟩ => ?_)
        simp only [Rp] at r'
        obtain ⟨a, vs, rfl, h1, h2⟩ := r'
        exact ⟨a, rfl, ⟨vs, .inl (.inl (R'.fro _ _ h1))⟩, q G' H' _ le ⟨R', wk_list h1 h2⟩⟩
      | tup xs =>
        refine .inr (.inl (base fun G' H' v le ⟨R', r'⟩ => ?_))
        simp only [Rp] at r'
        obtain ⟨a, vs, rfl, h1, h2⟩ := r'
        exact ⟨a, rfl, ⟨vs, SqT.grow R'.fro h1.t⟩, q G' H' _ le ⟨R', wk_tup h1.t h2⟩⟩
      | str s =>
        refine .inr (.inr (base fun G' H' v le ⟨R', r'⟩ => ?_))
        simp only [Rp] at r'
        exact ⟨s, r', q G' H' _ le ⟨R', wk_str⟩⟩
      | _ => exact q.elim
/-- range(n), range(a, b) -/
def rangeT (lo hi : Int) : List T := (List.range (hi - lo).toNat).map fun i => T.int (lo + (i : Nat))
def mRange1 (m : M (List T)) : M (List T) := mBnd m fun ts _ st => match ts with | [.int j] => if -1000000000 ≤ j ∧ j < 1000000000 then ok (rangeT 0 j) st else none | _ => none
def mRange2 (m : M (List T)) : M (List T) := mBnd m fun ts _ st => match ts with | [.int i, .int j] => if -1000000000 ≤ i ∧ i < 1000000000 ∧ -1000000000 ≤ j ∧ j < 1000000000 then ok (rangeT i j) st else none | _ => none
theorem si_range1 {a : Expr} {ms : M (List T)} {p pos : Pos} (hg : Gl X "range") (hm : X.mg "range" = none) (ha : SA X W [a] ms) (hs : starEach [a] X.env = [(false, eval a X.env)]) : SI X W tg (.Call (.Name "range" p) [a] [] pos) (mRange1 ms) := by
  refine pi_mono (pi_range1 hg hm ha hs) fun σ H R q => ?_
  refine (tG.bnd q).imp fun vs H1 ⟨ts, G, env, st, ⟨R1, r1⟩, E, q1⟩ => ?_
  split at q1
  · rename_i j
    split at q1
    · rename_i hj
      simp only [Rps, Rp] at r1
      obtain ⟨v, r, rfl, rfl, rfl⟩ := r1
      refine ⟨j, rfl, by omega, by omega, q1.okI ⟨R1, ?_⟩⟩
      have := wk_range (X := X) (G := G) (lo := 0) (n := j.toNat)
      unfold rangeT
      rw [Int.sub_zero]
      exact this
    · exact q1.elim
  · exact q1.elim
theorem si_range2 {a b : Expr} {ms : M (List T)} {p pos : Pos} (hg : Gl X "range") (hm : X.mg "range" = none) (ha : SA X W [a, b] ms) (hs : starEach [a, b] X.env = [(false, eval a X.env), (false, eval b X.env)]) (hs2 : starEach [b] X.env = [(false, eval b X.env)]) : SI X W tg (.Call (.Name "range" p) [a, b] [] pos) (mRange2 ms) := by
  refine pi_mono (pi_range2 hg hm ha hs hs2) fun σ H R q => ?_
  refine (tG.bnd q).imp fun vs H1 ⟨ts, G, env, st, ⟨R1, r1⟩, E, q1⟩ => ?_
  split at q1
  · rename_i i j
    split at q1
    · rename_i hj
      simp only [Rps, Rp] at r1
      obtain ⟨v, r, rfl, rfl, v2, r2, rfl, rfl, rfl⟩ := r1
      exact ⟨i, j, rfl, ⟨by omega, by omega, by omega, by omega⟩, q1.okI ⟨R1, wk_range⟩⟩
    · exact q1.elim
  · exact q1.elim
/-! ### zip, enumerate -/
def zipT : List T → List T → List T
  | x :: xs, y :: ys => .par [x, y] :: zipT xs ys
  | _, _ => []
theorem zipT_get : ∀ (xs ys : List T) (i : Nat) (t : T), (zipT xs ys)[i]? = some t → ∃ x y, xs[i]? = some x ∧ ys[i]? = some y ∧ t = .par [x, y]
  | [], _, _, _, h => by simp [zipT] at h
  | _ :: _, [], _, _, h => by simp [zipT] at h
  | x :: xs, y :: ys, 0, t, h => by simp [zipT] at h; exact ⟨x, y, rfl, rfl, h.symm⟩
  | x :: xs, y :: ys, i + 1, t, h => by
    simp only [zipT, List.getElem?_cons_succ] at h ⊢
    exact zipT_get xs ys i t h
theorem zipT_len : ∀ (xs ys : List T), (zipT xs ys).length = min xs.length ys.length
  | [], _ => by simp [zipT]
  | _ :: _, [] => by simp [zipT]
  | x :: xs, y :: ys => by simp [zipT, zipT_len xs ys]
/-- a new pair at each turn -/
theorem pair_new {G : Gh} {st : Store} {H : Hp} {p : Addr} {vx vy : V} {x y : T} (R : Rel (pxOf X) G st H) (np : H p = none) (rx : Rp (pxOf X) G x vx) (ry : Rp (pxOf X) G y vy) : ∃ G2, G.Le G2 ∧ Rel (pxOf X) G2 st (upd H p (.tup [vx, vy])) ∧ Rp (pxOf X) G2 (.par [x, y]) (.ref p) := by
  have le := Gh.frz_le (o := .tup [vx, vy]) (R.nofro np)
  exact ⟨_, le, R.new np, Rp.parI (Rps.cons (rx.mono le) (Rps.cons (ry.mono le) Rps.nil)) upd_same⟩
theorem wk_zipL {G : Gh} {a b : Addr} {ts us : List T} {vs ws : List V} (h : G.F a = some (.lst vs)) (h' : G.F b = some (.lst ws)) (r : Rps (pxOf X) G ts vs) (r' : Rps (pxOf X) G us ws) : Wk (pxOf X) G (Itz X.K a b) (zipT ts us) := by
  intro i G1 st1 H1 le R
  have q : SqL X.K H1 a vs := .inl (.inl (R.fro _ _ (le.f _ _ h)))
  have q' : SqL X.K H1 b ws := .inl (.inl (R.fro _ _ (le.f _ _ h')))
  refine ⟨fun t e => ?_, fun hi => ⟨vs, ws, q, q', by rw [Rps.length r, Rps.length r']; rw [zipT_len] at hi; omega⟩⟩
  obtain ⟨x, y, e1, e2, rfl⟩ := zipT_get _ _ _ _ e
  obtain ⟨vx, ex, rx⟩ := Rps.get r e1
  obtain ⟨vy, ey, ry⟩ := Rps.get r' e2
  refine ⟨⟨vs, ws, vx, vy, q, q', ex, ey⟩, fun z H2 ⟨p, x', y', ez, np, eH, hx, hy⟩ => ?_⟩
  subst ez eH
  have e3 := hx vs q; have e4 := hy ws q'
  rw [ex] at e3; rw [ey] at e4; cases e3; cases e4
  exact pair_new R np (rx.mono0 le) (ry.mono0 le)
theorem wk_zipT {G : Gh} {a b : Addr} {ts us : List T} {vs ws : List V} (h : SqT X.K G.F a vs) (h' : SqT X.K G.F b ws) (r : Rps (pxOf X) G ts vs) (r' : Rps (pxOf X) G us ws) : Wk (pxOf X) G (RZ.ItzT X.K a b) (zipT ts us) := by
  intro i G1 st1 H1 le R
  have q : SqT X.K H1 a vs := SqT.grow R.fro (SqT.grow le.f h)
  have q' : SqT X.K H1 b ws := SqT.grow R.fro (SqT.grow le.f h')
  refine ⟨fun t e => ?_, fun hi => ⟨vs, ws, q, q', by rw [Rps.length r, Rps.length r']; rw [zipT_len] at hi; omega⟩⟩
  obtain ⟨x, y, e1, e2, rfl⟩ := zipT_get _ _ _ _ e
  obtain ⟨vx, ex, rx⟩ := Rps.get r e1
  obtain ⟨vy, ey, ry⟩ := Rps.get r' e2
  refine ⟨⟨vs, ws, vx, vy, q, q', ex, ey⟩, fun z H2 ⟨p, x', y', ez, np, eH, hx, hy⟩ => ?_⟩
  subst ez eH
  have e3 := hx vs q; have e4 := hy ws q'
  rw [ex] at e3; rw [ey] at e4; cases e3; cases e4
  exact pair_new R np (rx.mono0 le) (ry.mono0 le)
def mZip (m : M (List T)) : M (List T) := mBnd m fun ts _ st => match ts with | [.lst xs, .lst ys] => ok (zipT xs ys) st | [.tup xs, .tup ys] => ok (zipT xs ys) st | _ => none
theorem si_zip {e e2 : Expr} {ms : M (List T)} {p pos tpos : Pos} {elts : List Expr} {kk : Nat} (hg : Gl X "zip") (hm : X.mg "zip" = none) (ha : SA X W [e, e2] ms) (hs : starEach [e, e2] X.env = (false, eval e X.env) :: starEach [e2] X.env) (hpl : (backTo pos (starEach [e2] X.env)).any (·.1) = false) :
    SI X W (.Tuple elts kk tpos) (.Call (.Name "zip" p) [e, e2] [] pos) (mZip ms) := by
  refine pi_mono (RZ.pi_zipA hg hm ha hs hpl) fun σ H R q => ?_
  refine (tG.bnd q).imp fun vs H1 ⟨ts, G, env, st, ⟨R1, r1⟩, E, q1⟩ => ?_
  split at q1
  · simp only [Rps, Rp] at r1
    obtain ⟨v, r, rfl, ⟨a, vs1, rfl, h1, r2⟩, v2, r3, rfl, ⟨b, vs2, rfl, h2, r4⟩, rfl⟩ := r1
    exact ⟨a, b, vs1, vs2, rfl, .inl ⟨.inl (.inl (R1.fro _ _ h1)), .inl (.inl (R1.fro _ _ h2)), q1.okI ⟨R1, wk_zipL h1 h2 r2 r4⟩⟩⟩
  · simp only [Rps, Rp] at r1
    obtain ⟨v, r, rfl, ⟨a, vs1, rfl, h1, r2⟩, v2, r3, rfl, ⟨b, vs2, rfl, h2, r4⟩, rfl⟩ := r1
    exact ⟨a, b, vs1, vs2, rfl, .inr ⟨SqT.grow R1.fro h1.t, SqT.grow R1.fro h2.t, q1.okI ⟨R1, wk_zipT h1.t h2.t r2 r4⟩⟩⟩
  · exact q1.elim
def enumT : Nat → List T → List T
  | _, [] => []
  | k, x :: xs => .par [.int k, x] :: enumT (k + 1) xs
theorem enumT_get : ∀ (xs : List T) (k i : Nat) (t : T), (enumT k xs)[i]? = some t → ∃ x, xs[i]? = some x ∧ t = .par [.int ((k + i : Nat) : Int), x]
  | [], _, _, _, h => by simp [enumT] at h
  | x :: xs, k, 0, t, h => by simp [enumT] at h; exact ⟨x, rfl, by rw [← h]; simp⟩
  | x :: xs, k, i + 1, t, h => by
    simp only [enumT, List.getElem?_cons_succ] at h ⊢
    obtain ⟨y, e, h⟩ := enumT_get xs (k + 1) i t h
    exact ⟨y, e, by rw [h]; congr 3; omega⟩
theorem enumT_len : ∀ (xs : List T) (k : Nat), (enumT k xs).length = xs.length
  | [], _ => rfl
  | x :: xs, k => by simp [enumT, enumT_len xs]
theorem wk_enumL {G : Gh} {a : Addr} {ts : List T} {vs : List V} (h : G.F a = some (.lst vs)) (r : Rps (pxOf X) G ts vs) : Wk (pxOf X) G (Ite X.K a) (enumT 0 ts) := by
  intro i G1 st1 H1 le R
  have q : SqL X.K H1 a vs := .inl (.inl (R.fro _ _ (le.f _ _ h)))
  refine ⟨fun t e => ?_, fun hi => ⟨vs, q, by rw [Rps.length r]; rw [enumT_len] at hi; exact hi⟩⟩
  obtain ⟨x, e1, rfl⟩ := enumT_get _ _ _ _ e
  obtain ⟨vx, ex, rx⟩ := Rps.get r e1
  refine ⟨⟨vs, vx, q, ex⟩, fun z H2 ⟨p, x', ez, np, eH, hx⟩ => ?_⟩
  subst ez eH
  have e3 := hx vs q
  rw [ex] at e3; cases e3
  exact pair_new R np (by simp [Rp]) (rx.mono0 le)
def mEnumL (m : M (List T)) : M (List T) := mBnd m fun ts _ st => match ts with | [.lst xs] => ok (enumT 0 xs) st | _ => none
theorem si_enumL {e : Expr} {ms : M (List T)} {p pos tpos : Pos} {elts : List Expr} {kk : Nat} (hg : Gl X "enumerate") (hm : X.mg "enumerate" = none) (ha : SA X W [e] ms) (hs : starEach [e] X.env = [(false, eval e X.env)]) :
    SI X W (.Tuple elts kk tpos) (.Call (.Name "enumerate" p) [e] [] pos) (mEnumL ms) := by
  refine pi_mono (pi_enum hg hm ha hs) fun σ H R q => ?_
  refine (tG.bnd q).imp fun vs H1 ⟨ts, G, env, st, ⟨R1, r1⟩, E, q1⟩ => ?_
  split at q1
  · simp only [Rps, Rp] at r1
    obtain ⟨v, r, rfl, ⟨a, vs1, rfl, h1, r2⟩, rfl⟩ := r1
    exact ⟨a, vs1, rfl, .inl (.inl (R1.fro _ _ h1)), q1.okI ⟨R1, wk_enumL h1 r2⟩⟩
  · exact q1.elim
end
end PL
/-! list comprehensions -/
namespace PL
open PySem PySem.Spec PyProof.Rows L2

def W0 : WX := fun _ _ _ _ => False
/-- one turn: the target, the test, then k; else as it was -/
def lcTurn {α : Type} (g : GM) (n : M Bool) (k : En → Store → Option (α × Store)) (no : Store → Option (α × Store)) (t : T) : En → Store → Option (α × Store) := fun env st =>
  match g t env st with
  | none => none
  | some (env1, st1) =>
    match n env1 st1 with
    | some (.ok true, st2) => k env1 st2
    | some (.ok false, st2) => no st2
    | _ => none
def lcElt (me : M T) (acc : List T) : En → Store → Option (List T × Store) := fun env st =>
  match me env st with
  | some (.ok y, st2) => if acc.length < 1000000 then some (acc ++ [y], st2) else none
  | _ => none
def lcF (g : GM) (n : M Bool) (me : M T) : List T → List T → En → Store → Option (List T × Store)
  | [], acc, _, st => some (acc, st)
  | t :: ts, acc, env, st =>
    match lcTurn g n (lcElt me acc) (fun st => some (acc, st)) t env st with
    | some (acc2, st2) => lcF g n me ts acc2 env st2
    | none => none
def wipeE (env : En) : List Nat → En
  | [] => env
  | v :: vs => (wipeE env vs).set v none
/-- [elt for target in items if test] -/
def mLc (mi : M (List T)) (g : GM) (n : M Bool) (me : M T) (vs : List Nat) : M M0 := mBnd mi fun items env st =>
  match lcF g n me items [] (wipeE env vs) st with
  | some (acc, st2) => ok (.lst acc) st2
  | none => none
theorem RelE.wiped {P : PX} {G : Gh} {env : En} {σ : L2.St} (E : RelE P G env σ) : ∀ vs : List Nat, RelE P G (wipeE env vs) (L2.wipe σ vs)
  | [] => E
  | v :: vs => by
    show RelE P G ((wipeE env vs).set v none) ((L2.wipe σ vs).set v none)
    exact (RelE.wiped E vs).forget v
theorem RelE.mono0 {P : PX} {G G' : Gh} (h : G.Le0 G') {env : En} {σ : L2.St} (q : RelE P G env σ) : RelE P G' env σ := ⟨q.1, fun i t e => by
  obtain ⟨v, e1, r⟩ := q.2 i t e
  exact ⟨v, e1, Rp.mono0 h r⟩⟩
/-! ### targets of names and tuples -/
inductive Tg where
  | var (i : Nat) | tup (l : List Tg)
mutual
def Tg.sem : Tg → GM
  | .var i => gVar i
  | .tup l => gTupT (Tg.len l) (Tg.sems l)
def Tg.sems : List Tg → GMs
  | [] => gsNil
  | a :: l => gsCons a.sem (Tg.sems l)
def Tg.len : List Tg → Nat
  | [] => 0
  | _ :: l => Tg.len l + 1
end
mutual
def Tg.rd (K : PySem.W.Frag) : Tg → TG
  | .var i => gName i
  | .tup l => gTup K (Tg.len l) (Tg.rds K l)
def Tg.rds (K : PySem.W.Frag) : List Tg → TGs
  | [] => gNil
  | a :: l => gCons (a.rd K) (Tg.rds K l)
end
mutual
def Tg.slots : Tg → List Nat
  | .var i => [i]
  | .tup l => Tg.slotss l
def Tg.slotss : List Tg → List Nat
  | [] => []
  | a :: l => a.slots ++ Tg.slotss l
end
theorem wipe_get {σ : L2.St} {j : Nat} : ∀ {vs : List Nat}, j ∈ vs → (L2.wipe σ vs)[j]? = if j < σ.length then some none else none
  | [], h => by cases h
  | v :: vs, h => by
    show ((L2.wipe σ vs).set v none)[j]? = _
    by_cases e : v = j
    · subst e
      by_cases hl : v < σ.length
      · rw [List.getElem?_set_self (by rw [L2.wipe_length]; exact hl), if_pos hl]
      · rw [if_neg hl, List.getElem?_eq_none (by rw [List.length_set, L2.wipe_length]; omega)]
    · rw [List.getElem?_set_ne e]
      refine wipe_get ?_
      rcases List.mem_cons.mp h with z | z
      · exact absurd z.symm e
      · exact z
theorem wipe_set {σ : L2.St} {i : Nat} {o : Option V} {vs : List Nat} (h : i ∈ vs) : L2.wipe (σ.set i o) vs = L2.wipe σ vs := by
  apply List.ext_getElem?
  intro j
  by_cases hj : j ∈ vs
  · rw [wipe_get hj, wipe_get hj, List.length_set]
  · rw [L2.wipe_out hj, L2.wipe_out hj, List.getElem?_set_ne (fun z : i = j => hj (by rw [← z]; exact h))]
theorem look_env {P : PX} {G : Gh} {st : Store} {H : Hp} (R : Rel P G st H) {t : T} {ts : List T} {v : V} (r : Rp P G t v) (e : look st t = .tup ts) : ∃ a vs, v = .ref a ∧ SqT P.K H a vs ∧ Rps P G ts vs := by
  have := look_ok R r
  rw [e] at this
  exact this
mutual
theorem Tg.ok {P : PX} {G : Gh} {st : Store} {H : Hp} (R : Rel P G st H) {vs : List Nat} : ∀ (a : Tg), (∀ i ∈ a.slots, i ∈ vs) → ∀ {env env' : En} {σ : L2.St} {t : T} {v : V} {st' : Store}, RelE P G env σ → Rp P G t v → a.sem t env st = some (env', st') →
    st' = st ∧ ∃ σ', RelE P G env' σ' ∧ L2.wipe σ' vs = L2.wipe σ vs ∧ ∀ Q : L2.St → Hp → Prop, Q σ' H → a.rd P.K v σ H Q
  | .var i, hs, env, env', σ, t, v, st', E, r, e => by
    simp only [Tg.sem, gVar, Option.some.injEq, Prod.mk.injEq] at e
    obtain ⟨rfl, rfl⟩ := e
    exact ⟨rfl, _, E.set r i, wipe_set (hs i (by simp [Tg.slots])), fun Q q => q⟩
  | .tup l, hs, env, env', σ, t, v, st', E, r, e => by
    simp only [Tg.sem, gTupT] at e
    split at e
    · rename_i ts ht
      split at e
      · rename_i hl
        obtain ⟨a, ws, rfl, h1, r1⟩ := look_env R r ht
        obtain ⟨e1, σ', E', w, q⟩ := Tg.oks R l (by simpa [Tg.slots] using hs) E r1 e
        exact ⟨e1, σ', E', w, fun Q z => ⟨a, ws, rfl, h1, by rw [Rps.length r1]; exact hl, q Q z⟩⟩
      · cases e
    · cases e
theorem Tg.oks {P : PX} {G : Gh} {st : Store} {H : Hp} (R : Rel P G st H) {vs : List Nat} : ∀ (l : List Tg), (∀ i ∈ Tg.slotss l, i ∈ vs) → ∀ {env env' : En} {σ : L2.St} {ts : List T} {ws : List V} {st' : Store}, RelE P G env σ → Rps P G ts ws → Tg.sems l ts env st = some (env', st') →
    st' = st ∧ ∃ σ', RelE P G env' σ' ∧ L2.wipe σ' vs = L2.wipe σ vs ∧ ∀ Q : L2.St → Hp → Prop, Q σ' H → Tg.rds P.K l ws σ H Q
  | [], hs, env, env', σ, ts, ws, st', E, r, e => by
    simp only [Tg.sems, gsNil] at e
    split at e
    · cases e
      simp only [Rps] at r
      exact ⟨rfl, σ, E, rfl, fun Q q => ⟨r, q⟩⟩
    · cases e
  | a :: l, hs, env, env', σ, ts, ws, st', E, r, e => by
    simp only [Tg.sems, gsCons] at e
    split at e
    · rename_i t ts
      simp only [Rps] at r
      obtain ⟨v1, vr, rfl, r1, r2⟩ := r
      cases e1 : a.sem t env st with
      | none => rw [e1] at e; cases e
      | some p =>
        obtain ⟨env1, st1⟩ := p
        rw [e1] at e
        obtain ⟨rfl, σ1, E1, w1, q1⟩ := Tg.ok R a (fun i hi => hs i (by simp [Tg.slotss, hi])) E r1 e1
        obtain ⟨rfl, σ2, E2, w2, q2⟩ := Tg.oks R l (fun i hi => hs i (by simp [Tg.slotss, hi])) E1 r2 e
        exact ⟨rfl, σ2, E2, w2.trans w1, fun Q q => ⟨v1, vr, rfl, q1 _ (q2 Q q)⟩⟩
    · cases e
end
/-- the target's judgement, in each context of the block -/
def SGt (X : Cx) (tg : Expr) (a : Tg) : Prop := PG X tg (a.rd X.K)
section
variable {X : Cx} {W : WX} {tg iter elt : Expr} {ifs : List Expr} {scope : Scope} {own : List (Str × Nat)} {pos : Pos}
/-- a clause's tests -/
def PTs1 (X : Cx) (W : WX) (ifs : List Expr) (n : M Bool) : Prop := PTs X ifs (tMb (pxOf X) W n)
theorem pts_mono {t t' : TT} (h : PTs X ifs t) (i : ∀ σ H Q, t' σ H Q → t σ H Q) : PTs X ifs t' := ⟨fun pins s σ H Q I q => h.run pins s σ H Q I (i σ H Q q)⟩
theorem sts_nil : PTs1 X W [] (fun _ st => ok true st) := pts_mono pts_nil fun σ H Q ⟨G, env, st, R, E, q⟩ => q.okI ⟨R, rfl⟩
theorem sts_one {c : Expr} {n : M Bool} (h : SB X W c n) : PTs1 X W [c] n := pts_one h
/-- the ghost where the new list at D stands locked -/
theorem lock_get {G : Gh} {D : Addr} {o : HO} : (G.lock D o).L D = some o := upd_same
/-- while a comprehension goes on: its list so far stands at D -/
def CmpAt {α : Type} (P : PX) (G0 : Gh) (In : Gh → α → Prop) (st : Store) (acc : α) (H : Hp) : Prop := ∃ G, G0.Le0 G ∧ (∀ b o, G0.L b = some o → G.L b = some o) ∧ Rel P G st H ∧ In G acc
def LcIn (P : PX) (D : Addr) (G : Gh) (acc : List T) : Prop := ∃ ws, G.L D = some (.lst ws) ∧ Rps P G acc ws
theorem LcIn.mono {P : PX} {D : Addr} {G G' : Gh} {acc : List T} (le : G.Le G') (h : LcIn P D G acc) : LcIn P D G' acc := let ⟨ws, a, b⟩ := h; ⟨ws, le.l _ _ a, Rps.mono le b⟩
abbrev LcAt (P : PX) (G0 : Gh) (D : Addr) (st : Store) (acc : List T) (H : Hp) : Prop := CmpAt P G0 (LcIn P D) st acc H
/-- a clause's turns, from a list so far: each turn gives K -/
theorem lc_turns {P : PX} {K : PySem.W.Frag} (hPK : P.K = K) {a : Tg} {n : M Bool} {α : Type} {In : Gh → α → Prop} (inMono : ∀ {G G' : Gh} {acc : α}, G.Le G' → In G acc → In G' acc) {kk : α → En → Store → Option (α × Store)} {vs : List Nat} {body : L2.St → Hp → (Hp → Prop) → Prop} {G0 : Gh} {st : Store} {acc acc2 : α} {st2 : Store} {H : Hp} {J : It} {items : List T} {env : En} {σ : L2.St}
    {fold : List T → α → Store → Option (α × Store)} (hf0 : ∀ acc st, fold [] acc st = some (acc, st)) (hf1 : ∀ t ts acc st, fold (t :: ts) acc st = (match lcTurn a.sem n (kk acc) (fun st => some (acc, st)) t (wipeE env vs) st with | some (acc2, st2) => fold ts acc2 st2 | none => none))
    (hs : ∀ i ∈ a.slots, i ∈ vs) (w : Wk P G0 J items) (E0 : RelE P G0 env σ) (h : CmpAt P G0 In st acc H) (hF : fold items acc st = some (acc2, st2))
    (hb : ∀ (G : Gh) (env1 : En) (σ2 : L2.St) (st : Store) (acc acc3 : α) (st3 : Store) (H : Hp) (Nx : Hp → Prop), G0.Le0 G → (∀ b o, G0.L b = some o → G.L b = some o) → Rel P G st H → In G acc → RelE P G env1 σ2 → kk acc env1 st = some (acc3, st3) → (∀ H', CmpAt P G0 In st3 acc3 H' → Nx H') → body σ2 H Nx) :
    ∃ W : Nat → Nat → Hp → Prop, (∃ m, W 0 m H) ∧ ∀ i m H, W i m H → (J.stop i H ∧ CmpAt P G0 In st2 acc2 H) ∨ (J.go i H ∧ ∃ Nx : Hp → Prop, (∀ H', Nx H' → ∃ m', m' < m ∧ W (i + 1) m' H') ∧ ∀ x H', J.yld i H x H' → a.rd K x (L2.wipe σ vs) H' fun σ2 H2 => L2.wipe σ2 vs = L2.wipe σ vs ∧ tMb P W0 n σ2 H2 fun b H3 =>
      if b = true then body σ2 H3 Nx else Nx H3) := by
  subst hPK
  refine ⟨fun i m H => ∃ st acc, CmpAt P G0 In st acc H ∧ m = items.length - i ∧ i ≤ items.length ∧ fold (items.drop i) acc st = some (acc2, st2), ⟨items.length, st, acc, h, rfl, Nat.zero_le _, by rw [List.drop_zero]; exact hF⟩, ?_⟩
  rintro i m H ⟨st, acc, ⟨G, le, leL, R, ra⟩, rfl, hi, hF⟩
  obtain ⟨w1, w2⟩ := w i G st H le R
  by_cases hlt : i < items.length
  · have ht : items[i]? = some items[i] := List.getElem?_eq_getElem hlt
    obtain ⟨go, yld⟩ := w1 _ ht
    rw [List.drop_eq_getElem_cons hlt, hf1] at hF
    refine .inr ⟨go, fun H' => ∃ st acc, CmpAt P G0 In st acc H' ∧ fold (items.drop (i + 1)) acc st = some (acc2, st2), fun H' ⟨st', acc', l, hF'⟩ => ⟨items.length - (i + 1), by omega, st', acc', l, rfl, hlt, hF'⟩, fun x H' hy => ?_⟩
    obtain ⟨G2, l2, R2, r2⟩ := yld x H' hy
    have E2 : RelE P G2 (wipeE env vs) (L2.wipe σ vs) := ((E0.mono0 le).mono l2).wiped vs
    unfold lcTurn at hF
    cases e1 : a.sem items[i] (wipeE env vs) st with
    | none => simp only [e1] at hF; cases hF
    | some p =>
      obtain ⟨env1, st1⟩ := p
      obtain ⟨es, σ1, E1, ww, rd⟩ := Tg.ok R2 a hs E2 r2 e1
      simp only [e1, es] at hF
      clear e1
      refine rd _ ⟨?_, ?_⟩
      · rw [ww]
        apply List.ext_getElem?
        intro j
        by_cases hj : j ∈ vs
        · rw [wipe_get hj, wipe_get hj, L2.wipe_length]
        · rw [L2.wipe_out hj]
      · refine ⟨G2, env1, st, R2, E1, ?_⟩
        have ra2 := inMono l2 ra
        match e2 : n env1 st with
        | none => rw [e2] at hF; cases hF
        | some (.ex x, st3) => rw [e2] at hF; cases hF
        | some (.ok false, st3) =>
          rw [e2] at hF
          simp only at hF
          intro G' H'' b l' ⟨R', eb⟩
          subst eb
          rw [if_neg (by decide)]
          exact ⟨st3, acc, ⟨G', le.trans (l2.trans l').toLe0, fun b o e => (l2.trans l').l _ _ (leL b o e), R', inMono l' ra2⟩, hF⟩
        | some (.ok true, st3) =>
          rw [e2] at hF
          simp only at hF
          intro G' H'' b l' ⟨R', eb⟩
          subst eb
          rw [if_pos rfl]
          cases e3 : kk acc env1 st3 with
          | none => rw [e3] at hF; cases hF
          | some p =>
            obtain ⟨acc3, st4⟩ := p
            rw [e3] at hF
            exact hb G' env1 σ1 st3 acc acc3 st4 H'' _ (le.trans (l2.trans l').toLe0) (fun b o e => (l2.trans l').l _ _ (leL b o e)) R' (inMono l' ra2) (E1.mono l') e3 fun H' z => ⟨st4, acc3, z, hF⟩
  · have hd : items.drop i = [] := List.drop_eq_nil_of_le (by omega)
    rw [hd, hf0] at hF
    cases hF
    exact .inl ⟨w2 (by omega), G, le, leL, R, ra⟩
/-- the element, put at the end -/
theorem lc_elt {P : PX} {me : M T} {D : Addr} {G0 G : Gh} {env1 : En} {σ2 : L2.St} {st st3 : Store} {acc acc3 : List T} {ws : List V} {H : Hp} {Nx : Hp → Prop} (hD : ∀ b o, G0.L b = some o → b ≠ D) (le : G0.Le0 G) (leL : ∀ b o, G0.L b = some o → G.L b = some o) (R : Rel P G st H) (hL : G.L D = some (.lst ws)) (ra : Rps P G acc ws)
    (E : RelE P G env1 σ2) (e3 : lcElt me acc env1 st = some (acc3, st3)) (nx : ∀ H', LcAt P G0 D st3 acc3 H' → Nx H') : tM P W0 me σ2 H fun y H4 => ∃ acc, H4 D = some (.lst acc) ∧ acc.length < sizeLine ∧ Nx (upd H4 D (.lst (acc ++ [y]))) := by
  refine ⟨G, env1, st, R, E, ?_⟩
  unfold lcElt at e3
  match e4 : me env1 st with
  | none => rw [e4] at e3; cases e3
  | some (.ex x, st4) => rw [e4] at e3; cases e3
  | some (.ok y, st4) =>
    rw [e4] at e3
    simp only at e3
    split at e3
    · rename_i hz
      cases e3
      intro G3 H3 v l3 ⟨R3, r3⟩
      have eL3 : G3.L D = some (.lst ws) := l3.l _ _ hL
      have ra3 := Rps.mono l3 ra
      have g0 := le.trans l3.toLe0
      refine ⟨ws, (R3.lck _ _ eL3).1, line_lt (by rw [Rps.length ra3]; omega), nx _ ⟨{ G3 with L := upd G3.L D (.lst (ws ++ [v])) }, ⟨g0.f, g0.m, g0.n⟩, fun b o e => ?_, R3.relock eL3, ws ++ [v], upd_same, ?_⟩⟩
      · show upd G3.L D (.lst (ws ++ [v])) b = some o
        rw [upd_ne (hD b o e)]
        exact l3.l _ _ (leL b o e)
      · have le0 : G3.Le0 { G3 with L := upd G3.L D (.lst (ws ++ [v])) } := ⟨fun _ _ h => h, fun _ _ h => h, fun _ _ _ _ h => h⟩
        exact Rps.append (Rps.mono0 le0 ra3) (Rps.cons (Rp.mono0 le0 r3) Rps.nil)
    · cases e3
/-- the list's start and its end -/
theorem lc_ends {P : PX} {G0 : Gh} {st0 : Store} {H1 : Hp} {D : Addr} {Q : VK} {st2 : Store} {acc2 : List T} (R0 : Rel P G0 st0 H1) (nD : H1 D = none) (fin : ∀ G' H' b, G0.Le G' → relN P G' st2 H' (.lst acc2) b → Q b H') :
    (∀ b o, G0.L b = some o → b ≠ D) ∧ LcAt P G0 D st0 [] (upd H1 D (.lst [])) ∧ ∀ H, LcAt P G0 D st2 acc2 H → Q (.ref D) H := by
  have hD : ∀ b o, G0.L b = some o → b ≠ D := fun b o e z => by
    have := (R0.lck b o e).1
    rw [z, nD] at this; cases this
  refine ⟨hD, ⟨G0.lock D (.lst []), Gh.lock_le0, fun b o e => ?_, R0.lock nD, [], lock_get, Rps.nil⟩, fun H ⟨G, le, leL, R, ws, hL, ra⟩ => ?_⟩
  · show upd G0.L D (.lst []) b = some o
    rw [upd_ne (hD b o e)]; exact e
  · obtain ⟨l1, l2, l3⟩ := R.lck _ _ hL
    refine fin { G with L := fun b => if b = D then none else G.L b } H (.ref D) ⟨⟨le.f, le.m, le.n⟩, fun b o e => ?_⟩ ⟨D, .lst ws, fun b => if b = D then none else H b, rfl, by simp, R.unlock hL, ?_, ws, rfl, ?_⟩
    · show (if b = D then none else G.L b) = some o
      rw [if_neg (hD b o e)]; exact leL b o e
    · funext b
      unfold upd
      by_cases hb : b = D
      · subst hb; simp [l1]
      · simp [hb]
    · exact Rps.mono0 (G := G) (G' := { G with L := fun b => if b = D then none else G.L b }) ⟨fun _ _ h => h, fun _ _ h => h, fun _ _ _ _ h => h⟩ ra
theorem lc_pre {mi : M (List T)} {a : Tg} {n : M Bool} {me : M T} {vs : List Nat} (hs : ∀ i ∈ a.slots, i ∈ vs) {σ : L2.St} {H : Hp} {Q : VK} (q : tMn (pxOf X) W (mLc mi a.sem n me vs) σ H Q) :
    tLc (tG (pxOf X) (relI (pxOf X)) W mi) (a.rd X.K) (tMb (pxOf X) W0 n) (tM (pxOf X) W0 me) vs σ H Q := by
  refine (tG.bnd q).imp fun J H1 ⟨items, G0, env0, st0, ⟨R0, w⟩, E0, q0⟩ => ?_
  intro D nD
  cases e : lcF a.sem n me items [] (wipeE env0 vs) st0 with
  | none => simp only [e] at q0; exact q0.elim
  | some p =>
    obtain ⟨acc2, st2⟩ := p
    simp only [e] at q0
    obtain ⟨hD, h0, hfin⟩ := lc_ends R0 nD q0
    obtain ⟨Wt, s0, step⟩ := lc_turns (P := pxOf X) (K := X.K) rfl (In := LcIn (pxOf X) D) LcIn.mono (n := n) (fold := fun ts acc st => lcF a.sem n me ts acc (wipeE env0 vs) st) (kk := lcElt me)
      (body := fun σ2 H3 Nx => tM (pxOf X) W0 me σ2 H3 fun y H4 => ∃ acc, H4 D = some (.lst acc) ∧ acc.length < sizeLine ∧ Nx (upd H4 D (.lst (acc ++ [y])))) (fun _ _ => rfl) (fun _ _ _ _ => by rw [lcF]; generalize lcTurn _ _ _ _ _ _ _ = z; cases z <;> rfl) hs w E0 h0 e
      (fun G env1 σ2 st acc acc3 st3 H Nx le leL R ⟨ws, hL, ra⟩ E e3 nx => lc_elt hD le leL R hL ra E e3 nx)
    refine ⟨Wt, s0, fun i m H hw => ?_⟩
    rcases step i m H hw with ⟨z1, z2⟩ | z
    · exact .inl ⟨z1, hfin H z2⟩
    · exact .inr z
/-- two clauses -/
def lcIn (mi : M (List T)) (g : GM) (n : M Bool) (me : M T) (vs : List Nat) (acc : List T) : En → Store → Option (List T × Store) := fun env st =>
  match mi env st with
  | some (.ok items, st1) => lcF g n me items acc (wipeE env vs) st1
  | _ => none
def lcF2 (g : GM) (n : M Bool) (inn : List T → En → Store → Option (List T × Store)) : List T → List T → En → Store → Option (List T × Store)
  | [], acc, _, st => some (acc, st)
  | t :: ts, acc, env, st =>
    match lcTurn g n (inn acc) (fun st => some (acc, st)) t env st with
    | some (acc2, st2) => lcF2 g n inn ts acc2 env st2
    | none => none
/-- [elt for target in items if test for target2 in items2 if test2] -/
def mLc2 (mi : M (List T)) (g : GM) (n : M Bool) (mi1 : M (List T)) (g1 : GM) (n1 : M Bool) (me : M T) (vs vs1 : List Nat) : M M0 := mBnd mi fun items env st =>
  match lcF2 g n (lcIn mi1 g1 n1 me vs1) items [] (wipeE env vs) st with
  | some (acc, st2) => ok (.lst acc) st2
  | none => none
theorem lc2_pre {mi mi1 : M (List T)} {a a1 : Tg} {n n1 : M Bool} {me : M T} {vs vs1 : List Nat} (hs : ∀ i ∈ a.slots, i ∈ vs) (hs1 : ∀ i ∈ a1.slots, i ∈ vs1) {σ : L2.St} {H : Hp} {Q : VK} (q : tMn (pxOf X) W (mLc2 mi a.sem n mi1 a1.sem n1 me vs vs1) σ H Q) :
    tLc2 (tG (pxOf X) (relI (pxOf X)) W mi) (a.rd X.K) (tMb (pxOf X) W0 n) (tG (pxOf X) (relI (pxOf X)) W0 mi1) (a1.rd X.K) (tMb (pxOf X) W0 n1) (tM (pxOf X) W0 me) vs vs1 σ H Q := by
  refine (tG.bnd q).imp fun J H1 ⟨items, G0, env0, st0, ⟨R0, w⟩, E0, q0⟩ => ?_
  intro D nD
  cases e : lcF2 a.sem n (lcIn mi1 a1.sem n1 me vs1) items [] (wipeE env0 vs) st0 with
  | none => simp only [e] at q0; exact q0.elim
  | some p =>
    obtain ⟨acc2, st2⟩ := p
    simp only [e] at q0
    obtain ⟨hD, h0, hfin⟩ := lc_ends R0 nD q0
    have key := lc_turns (P := pxOf X) (K := X.K) rfl (In := LcIn (pxOf X) D) LcIn.mono (n := n) (fold := fun ts acc st => lcF2 a.sem n (lcIn mi1 a1.sem n1 me vs1) ts acc (wipeE env0 vs) st) (kk := lcIn mi1 a1.sem n1 me vs1)
      (body := fun σ2 H3 Nx => tG (pxOf X) (relI (pxOf X)) W0 mi1 σ2 H3 fun J1 H4 => ∃ W1 : Nat → Nat → Hp → Prop, (∃ m, W1 0 m H4) ∧ ∀ j k H, W1 j k H →
        (J1.stop j H ∧ Nx H) ∨ (J1.go j H ∧ ∃ Nx1 : Hp → Prop, (∀ H', Nx1 H' → ∃ k', k' < k ∧ W1 (j + 1) k' H') ∧ ∀ x H', J1.yld j H x H' → a1.rd X.K x (L2.wipe σ2 vs1) H' fun σ3 H5 => L2.wipe σ3 vs1 = L2.wipe σ2 vs1 ∧ tMb (pxOf X) W0 n1 σ3 H5 fun b H6 =>
          if b = true then tM (pxOf X) W0 me σ3 H6 fun y H7 => ∃ acc, H7 D = some (.lst acc) ∧ acc.length < sizeLine ∧ Nx1 (upd H7 D (.lst (acc ++ [y]))) else Nx1 H6)) (fun _ _ => rfl) (fun _ _ _ _ => by rw [lcF2]; generalize lcTurn _ _ _ _ _ _ _ = z; cases z <;> rfl) hs w E0 h0 e (by
        intro G env1 σ2 st acc acc3 st3 H Nx le leL R ⟨ws, hL, ra⟩ E e3 nx
        refine ⟨G, env1, st, R, E, ?_⟩
        unfold lcIn at e3
        match e4 : mi1 env1 st with
        | none => rw [e4] at e3; cases e3
        | some (.ex x, st4) => rw [e4] at e3; cases e3
        | some (.ok items1, st4) =>
          rw [e4] at e3
          simp only at e3
          intro G4 H4 J1 l4 ⟨R4, w4⟩
          -- the inner turns lean on the ghost without the list's own lock
          have hD4 : ∀ b o, ({ G4 with L := fun b => if b = D then none else G4.L b } : Gh).L b = some o → b ≠ D := fun b o e z => by
            have e : (if b = D then none else G4.L b) = some o := e
            rw [if_pos z] at e; cases e
          have l0 : ({ G4 with L := fun b => if b = D then none else G4.L b } : Gh).Le0 G4 := ⟨fun _ _ h => h, fun _ _ h => h, fun _ _ _ _ h => h⟩
          have l1 : G4.Le0 { G4 with L := fun b => if b = D then none else G4.L b } := ⟨fun _ _ h => h, fun _ _ h => h, fun _ _ _ _ h => h⟩
          have at4 : LcAt (pxOf X) { G4 with L := fun b => if b = D then none else G4.L b } D st4 acc H4 := ⟨G4, l0, fun b o e => by
            have e : (if b = D then none else G4.L b) = some o := e
            split at e
            · cases e
            · exact e, R4, ws, l4.l _ _ hL, Rps.mono l4 ra⟩
          obtain ⟨W1, s1, step1⟩ := lc_turns (P := pxOf X) (K := X.K) rfl (In := LcIn (pxOf X) D) LcIn.mono (n := n1) (fold := fun ts acc st => lcF a1.sem n1 me ts acc (wipeE env1 vs1) st) (kk := lcElt me)
            (body := fun σ2 H3 Nx => tM (pxOf X) W0 me σ2 H3 fun y H4 => ∃ acc, H4 D = some (.lst acc) ∧ acc.length < sizeLine ∧ Nx (upd H4 D (.lst (acc ++ [y])))) (fun _ _ => rfl) (fun _ _ _ _ => by rw [lcF]; generalize lcTurn _ _ _ _ _ _ _ = z; cases z <;> rfl) hs1 (Wk.mono l1 w4) ((E.mono l4).mono0 l1) at4 e3
            (fun G env1 σ2 st acc acc3 st3 H Nx le leL R ⟨ws, hL, ra⟩ E e3 nx => lc_elt hD4 le leL R hL ra E e3 nx)
          refine ⟨W1, s1, fun j k H hw => ?_⟩
          rcases step1 j k H hw with ⟨z1, z2⟩ | z
          · refine .inl ⟨z1, nx H ?_⟩
            obtain ⟨G5, g1, g2, R5, ra5⟩ := z2
            refine ⟨G5, (le.trans l4.toLe0).trans (l1.trans g1), fun b o e => g2 b o ?_, R5, ra5⟩
            show (if b = D then none else G4.L b) = some o
            rw [if_neg (hD b o e)]; exact l4.l _ _ (leL b o e)
          · exact .inr z)
    obtain ⟨Wt, s0, step⟩ := key
    refine ⟨Wt, s0, fun i m H hw => ?_⟩
    rcases step i m H hw with ⟨z1, z2⟩ | z
    · exact .inl ⟨z1, hfin H z2⟩
    · exact .inr z
/-- the context of a comprehension's block -/
abbrev BlE (X : Cx) (scope : Scope) (e : Expr) (m : M T) : Prop := ∀ (s : Shared) (H : Hp) (C : Addr) (cl : List (Str × Addr)) (fp : List Addr), SE (X.blk s H scope (compEnvC scope cl C X.env) fp) W0 e m
abbrev BlG (X : Cx) (scope : Scope) (e : Expr) (a : Tg) : Prop := ∀ (s : Shared) (H : Hp) (C : Addr) (cl : List (Str × Addr)) (fp : List Addr), SGt (X.blk s H scope (compEnvC scope cl C X.env) fp) e a
abbrev BlT (X : Cx) (scope : Scope) (e : List Expr) (m : M Bool) : Prop := ∀ (s : Shared) (H : Hp) (C : Addr) (cl : List (Str × Addr)) (fp : List Addr), PTs1 (X.blk s H scope (compEnvC scope cl C X.env) fp) W0 e m
abbrev BlI (X : Cx) (scope : Scope) (tg e : Expr) (m : M (List T)) : Prop := ∀ (s : Shared) (H : Hp) (C : Addr) (cl : List (Str × Addr)) (fp : List Addr), SI (X.blk s H scope (compEnvC scope cl C X.env) fp) W0 tg e m
theorem sn_lc {mi : M (List T)} {a : Tg} {n : M Bool} {me : M T} (hc : X.calm = true) (hN : X.N.Nodup) (hi : SI X W tg iter mi) (ok : BlkOk X.N X.env.scope scope own) (hs : ∀ i ∈ a.slots, i ∈ own.map (·.2))
    (hg : BlG X scope tg a) (ht : BlT X scope ifs n) (he : BlE X scope elt me) (hf : ∀ x, foldedSetIterable iter X.env x = pure x) :
    SEn X W (.ListComp elt [⟨tg, iter, ifs, 0⟩] scope pos) (mLc mi a.sem n me (own.map (·.2))) :=
  pe_mono (pe_lc (g := a.rd X.K) (tt := tMb (pxOf X) W0 n) (te := tM (pxOf X) W0 me) hc hN hi ok hg ht he hf) fun σ H Q q => lc_pre hs q
/-- name = [..] -/
theorem ss_setLc {i : Nat} {y : Str} {py spos : Pos} {mi : M (List T)} {a : Tg} {n : M Bool} {me : M T} (hc : X.calm = true) (hN : X.N.Nodup) (hy : X.N[i]? = some y) (hyl : X.env.scope.names.lookup y = some .local) (hsw : swapsWith (.ListComp elt [⟨tg, iter, ifs, 0⟩] scope pos) (some (.Name y py)) spos.line X.env = pure true)
    (hi : SI X W tg iter mi) (ok : BlkOk X.N X.env.scope scope own) (hs : ∀ i ∈ a.slots, i ∈ own.map (·.2)) (hg : BlG X scope tg a) (ht : BlT X scope ifs n) (he : BlE X scope elt me) (hf : ∀ x, foldedSetIterable iter X.env x = pure x) :
    SS X W (.Assign [.Name y py] (.ListComp elt [⟨tg, iter, ifs, 0⟩] scope pos) spos) (sAsg (mKnown (mLc mi a.sem n me (own.map (·.2)))) (gVar i)) := by
  refine ps_mono (ps_setLc (g := a.rd X.K) (tt := tMb (pxOf X) W0 n) (te := tM (pxOf X) W0 me) hc hN hy hyl hsw hi ok hg ht he hf) fun D σ H q => ?_
  refine lc_pre (W := W) (Q := fun x H1 => gName i x σ H1 D.nx) hs ?_
  have q1 : tM (pxOf X) W (mKnown (mLc mi a.sem n me (own.map (·.2)))) σ H fun x H1 => gName i x σ H1 D.nx :=
    (sE.run q).imp fun v H1 ⟨t, G, env, st, r, E, q2⟩ => q2 G H1 _ (Gh.Le.refl G) r.1 (E.set r.2 i)
  exact (tG.bnd q1).imp fun v H1 ⟨x, G, env, st, r, E, q2⟩ => relN_known r q2
theorem sn_lc2 {tg1 iter1 : Expr} {ifs1 : List Expr} {mi mi1 : M (List T)} {a a1 : Tg} {n n1 : M Bool} {me : M T} {vs1 : List Nat} (hc : X.calm = true) (hN : X.N.Nodup) (hi : SI X W tg iter mi) (ok : BlkOk X.N X.env.scope scope own) (hv : ∀ i ∈ vs1, i ∈ own.map (·.2)) (hs : ∀ i ∈ a.slots, i ∈ own.map (·.2)) (hs1 : ∀ i ∈ a1.slots, i ∈ vs1)
    (hg : BlG X scope tg a) (ht : BlT X scope ifs n) (hi1 : BlI X scope tg1 iter1 mi1) (hg1 : BlG X scope tg1 a1) (ht1 : BlT X scope ifs1 n1) (he : BlE X scope elt me)
    (hf : ∀ x, foldedSetIterable iter X.env x = pure x) (hf1 : ∀ env x, foldedSetIterable iter1 env x = pure x) :
    SEn X W (.ListComp elt [⟨tg, iter, ifs, 0⟩, ⟨tg1, iter1, ifs1, 0⟩] scope pos) (mLc2 mi a.sem n mi1 a1.sem n1 me (own.map (·.2)) vs1) :=
  pe_mono (pe_lc2 (wi1 := tG (pxOf X) (relI (pxOf X)) W0 mi1) (g := a.rd X.K) (tt := tMb (pxOf X) W0 n) (g1 := a1.rd X.K) (tt1 := tMb (pxOf X) W0 n1) (te := tM (pxOf X) W0 me) hc hN hi ok hv hg ht hi1 hg1 ht1 he hf hf1) fun σ H Q q => lc2_pre hs hs1 q
theorem ss_setLc2 {tg1 iter1 : Expr} {ifs1 : List Expr} {mi mi1 : M (List T)} {a a1 : Tg} {n n1 : M Bool} {me : M T} {vs1 : List Nat} {i : Nat} {y : Str} {py spos : Pos} (hc : X.calm = true) (hN : X.N.Nodup) (hy : X.N[i]? = some y) (hyl : X.env.scope.names.lookup y = some .local)
    (hsw : swapsWith (.ListComp elt [⟨tg, iter, ifs, 0⟩, ⟨tg1, iter1, ifs1, 0⟩] scope pos) (some (.Name y py)) spos.line X.env = pure true) (hi : SI X W tg iter mi) (ok : BlkOk X.N X.env.scope scope own) (hv : ∀ i ∈ vs1, i ∈ own.map (·.2)) (hs : ∀ i ∈ a.slots, i ∈ own.map (·.2)) (hs1 : ∀ i ∈ a1.slots, i ∈ vs1)
    (hg : BlG X scope tg a) (ht : BlT X scope ifs n) (hi1 : BlI X scope tg1 iter1 mi1) (hg1 : BlG X scope tg1 a1) (ht1 : BlT X scope ifs1 n1) (he : BlE X scope elt me)
    (hf : ∀ x, foldedSetIterable iter X.env x = pure x) (hf1 : ∀ env x, foldedSetIterable iter1 env x = pure x) :
    SS X W (.Assign [.Name y py] (.ListComp elt [⟨tg, iter, ifs, 0⟩, ⟨tg1, iter1, ifs1, 0⟩] scope pos) spos) (sAsg (mKnown (mLc2 mi a.sem n mi1 a1.sem n1 me (own.map (·.2)) vs1)) (gVar i)) := by
  refine ps_mono (ps_setLc2 (wi1 := tG (pxOf X) (relI (pxOf X)) W0 mi1) (g := a.rd X.K) (tt := tMb (pxOf X) W0 n) (g1 := a1.rd X.K) (tt1 := tMb (pxOf X) W0 n1) (te := tM (pxOf X) W0 me) hc hN hy hyl hsw hi ok hv hg ht hi1 hg1 ht1 he hf hf1) fun D σ H q => ?_
  refine lc2_pre (W := W) (Q := fun x H1 => gName i x σ H1 D.nx) hs hs1 ?_
  have q1 : tM (pxOf X) W (mKnown (mLc2 mi a.sem n mi1 a1.sem n1 me (own.map (·.2)) vs1)) σ H fun x H1 => gName i x σ H1 D.nx :=
    (sE.run q).imp fun v H1 ⟨t, G, env, st, r, E, q2⟩ => q2 G H1 _ (Gh.Le.refl G) r.1 (E.set r.2 i)
  exact (tG.bnd q1).imp fun v H1 ⟨x, G, env, st, r, E, q2⟩ => relN_known r q2
end
end PL
/-! defs and their calls -/
namespace PL
open PySem PySem.Spec PyProof.Rows L2

structure Yd where
  prog : Program
  w : World
  K : PySem.W.Frag
  mg : Str → Option Value
  base : Heap
def ydOf (X : Cx) : Yd := ⟨X.prog, X.w, X.K, X.mg, X.base⟩
def Yd.px (Y : Yd) : PX := ⟨Y.w, Y.K, Y.mg, Y.base⟩
/-- the promise of a def of n parameters -/
def spF (P : PX) (n : Nat) (sem : Sem1) : Sp := fun vs H Q E => vs.length = n ∧ ∃ G st ts, Rel P G st H ∧ Rps P G ts vs ∧ Po P (relT P) G E (sem ts st) Q
structure FnD (Y : Yd) (k : Nat) (f : Addr) (fd : FuncData) (ps : List Str) (sem : Sem1) : Prop where
  kp : PySem.W.keepIn Y.K (.ref f) = true
  bd : Binds Y.K fd ps []
  ok : FnOk Y.prog Y.w Y.K Y.mg Y.base (L2.CX Y.prog Y.w) k f fd ps (spF Y.px ps.length sem)
def FOk (Y : Yd) (k : Nat) (x : Str) (n : Nat) (sem : Sem1) : Prop := ∃ f fd ps, Y.mg x = some (.ref f) ∧ ps.length = n ∧ FnD Y k f fd ps sem
theorem FOk.mono {Y : Yd} {j k : Nat} {x : Str} {n : Nat} {sem : Sem1} (h : FOk Y j x n sem) (le : j ≤ k) : FOk Y k x n sem := by
  obtain ⟨f, fd, ps, a, b, c⟩ := h
  exact ⟨f, fd, ps, a, b, c.kp, c.bd, c.ok.mono le⟩

/-! ### a def by its body -/
def finD (kp : Bool) (n : Nat) (t : T) (st : Store) : Res T := if kp then ok t st else if t.pure then ok t (st.take n) else none
def evDef (kp : Bool) (nN : Nat) (m : SM) : Sem1 := fun ts st =>
  match m (ts.map some ++ List.replicate (nN - ts.length) none) st with
  | some (.rt t, st') => finD kp st.length t st'
  | some (.nx _, st') => finD kp st.length .non st'
  | some (.ex e _, st') => some (.ex e, st'.take st.length)
  | _ => none
theorem RelE.start {P : PX} {G : Gh} {ts : List T} {vs : List V} {N : List Str} (r : Rps P G ts vs) : RelE P G (ts.map some ++ List.replicate (N.length - ts.length) none) (L2.start N vs) := by
  have hl := Rps.length r
  refine ⟨by simp [L2.start, hl], fun i t e => ?_⟩
  unfold L2.start
  by_cases hi : i < ts.length
  · rw [List.getElem?_append_left (by simpa using hi), List.getElem?_map] at e
    cases e1 : ts[i]? with
    | none => rw [e1] at e; cases e
    | some u =>
      rw [e1] at e
      cases e
      obtain ⟨v, e2, r2⟩ := Rps.get r e1
      exact ⟨v, by rw [List.getElem?_append_left (by simpa [hl] using hi), List.getElem?_map, e2]; rfl, r2⟩
  · rw [List.getElem?_append_right (by simpa using hi), List.getElem?_replicate] at e
    split at e <;> cases e
theorem le_len {P : PX} {G G' : Gh} {st st' : Store} {H H' : Hp} (R : Rel P G st H) (R' : Rel P G' st' H') (le : G.Le G') : st.length ≤ st'.length := by
  rw [R.len, R'.len]
  rcases Nat.lt_or_ge G'.μ.length G.μ.length with h | h
  · have := le.m G'.μ.length (G.μ[G'.μ.length]) (List.getElem?_eq_getElem h)
    have := (List.getElem?_eq_some_iff.mp this).1
    omega
  · exact h
theorem ExR.re {P : PX} {G G' : Gh} {H : Hp} {e : Exn} {c : Value} {d : Option Addr} (x : ExR P G H e c d) (h : ∀ a o, G.F a = some o → G'.F a = some o) (h2 : ∀ a, G'.F a = G.F a) : ExR P G' H e c d := by
  obtain ⟨C, vs, m, e1, r, pu, l, z⟩ := x
  refine ⟨C, vs, m, e1, Rps.pure h pu r, pu, l, ?_⟩
  rcases z with z | ⟨dd, e2, e3, e4⟩
  · exact .inl z
  · exact .inr ⟨dd, e2, e3, by rw [h2]; exact e4⟩
theorem fin_pre {P : PX} {G : Gh} {E : XK} {Q : VK} {st st' : Store} {H : Hp} {kp : Bool} {t : T} (R : Rel P G st H) (q : Po P (relT P) G E (finD kp st.length t st') Q) {G' : Gh} {H' : Hp} {v : V} (le : G.Le G') (R' : Rel P G' st' H') (r : Rp P G' t v) : Q v H' := by
  unfold finD at q
  split at q
  · exact q G' H' v le ⟨R', r⟩
  · split at q
    · rename_i pu
      exact q _ H' v (Gh.take_le le R) ⟨R'.take (le_len R R' le), Rp.pure (G := G') (G' := G'.take st.length) (fun _ _ h => h) pu r⟩
    · exact q.elim
theorem def_pre {P : PX} {G : Gh} {E : XK} {Q : VK} {ts : List T} {st : Store} {H : Hp} {N : List Str} {kp : Bool} {m : SM} {vs : List V} (R : Rel P G st H) (r : Rps P G ts vs) (q : Po P (relT P) G E (evDef kp N.length m ts st) Q) :
    tS P (fun cls d _ H => E cls d H) m { nx := fun _ H' => Q .non H', rt := Q } (L2.start N vs) H := by
  refine ⟨G, _, st, R, RelE.start r, ?_⟩
  unfold evDef at q
  match e : m (ts.map some ++ List.replicate (N.length - ts.length) none) st, q with
  | some (.rt t, st'), q => exact fun G' H' v le R' r' => fin_pre R q le R' r'
  | some (.nx _, st'), q => exact fun G' H' v le R' _ => fin_pre R q le R' (by simp [Rp])
  | some (.ex x _, st'), q => exact fun G' H' σ' c d le R' _ x => q _ H' c d (Gh.take_le le R) (R'.take (le_len R R' le)) (x.re (fun _ _ h => h) (fun a => rfl))
  | some (.bk _, st'), q => exact q.elim
  | some (.ct _, st'), q => exact q.elim
  | none, q => exact q.elim
/-- the context of a def's body -/
abbrev BX (Y : Yd) (N : List Str) (qual : Str) (sc : Scope) (f : Addr) (cdv : Value) (A : Around) (outer : List Env) (s : Shared) (H : Hp) (E : XK) : Cx := cxOf (L2.CX Y.prog Y.w) Y.prog Y.w Y.K Y.mg Y.base N qual sc f cdv A outer s H E
abbrev Wd (E : XK) : WX := fun cls d _ H => E cls d H
theorem FnD.mk' {Y : Yd} {x qual : Str} {st : Stmt} {f : Addr} {fd : FuncData} {N ps : List Str} {k : Nat} {m : SM} (kp : Bool) (F : L2.Fun Y.K x qual st f fd) (S : FnScope N ps (defScope st)) (hb : Binds Y.K fd ps [])
    (body : ∀ cdv A outer s H E, Room k (A.deeper (envOfC qual (defScope st) s.heap.objs.size f cdv)) → SSs (BX Y N qual (defScope st) f cdv A outer s H E) (Wd E) (defBody st) m) : FnD Y (k + 1) f fd ps (evDef kp N.length m) := by
  refine ⟨F.kp, hb, F.okX S (fun vs H Q E h => h.1) fun cdv A outer s H vs Q E hr h => ⟨_, body cdv A outer s H E hr, ?_⟩⟩
  obtain ⟨_, G, st, ts, R, r, q⟩ := h
  exact def_pre R r q
theorem FOk.mk {Y : Yd} {x qual : Str} {st : Stmt} {f : Addr} {fd : FuncData} {N ps : List Str} {k : Nat} {m : SM} (kp : Bool) (hm : Y.mg x = some (.ref f)) (F : L2.Fun Y.K x qual st f fd) (S : FnScope N ps (defScope st)) (hb : Binds Y.K fd ps [])
    (body : ∀ cdv A outer s H E, Room k (A.deeper (envOfC qual (defScope st) s.heap.objs.size f cdv)) → SSs (BX Y N qual (defScope st) f cdv A outer s H E) (Wd E) (defBody st) m) : FOk Y (k + 1) x ps.length (evDef kp N.length m) :=
  ⟨f, fd, ps, hm, rfl, FnD.mk' kp F S hb body⟩

/-! ### a call -/
def mCall (n : Nat) (sem : Sem1) (a : M (List T)) : M T := mBnd a fun ts _ st => if ts.length = n then sem ts st else none
section
variable {X : Cx} {W : WX} {k n : Nat} {sem : Sem1} {x : Str} {p pos : Pos} {e : Expr} {es : List Expr} {ms : M (List T)}
theorem se_call (F : FOk (ydOf X) k x n sem) (hr : Room k X.A) (tk : Takes X W) (hg : Gl X x) (ha : SA X W (e :: es) ms) (hdb : (x == ("__debug__" : Str)) = false := by decide)
    (he : starEach (e :: es) X.env = (false, eval e X.env) :: starEach es X.env := by rfl) (hpl : (backTo pos (starEach es X.env)).any (·.1) = false := by rfl) : SE X W (.Call (.Name x p) (e :: es) [] pos) (mCall n sem ms) := by
  obtain ⟨f, fd, ps, hm, hn, D⟩ := F
  subst hn
  refine pe_mono (pe_callS (E := WE W) D.ok hr hg hm D.kp D.bd (passAt tk) ha hdb he hpl) fun σ H Q q => ?_
  refine (tG.bnd q).imp fun vs H1 ⟨ts, G, env, st, ⟨R, r⟩, E, q1⟩ => ?_
  split at q1
  · rename_i hl
    exact ⟨by rw [Rps.length r]; exact hl, G, st, ts, R, r, q1⟩
  · exact q1.elim
end
end PL
/-! built-ins that look -/
namespace PL
open PySem PySem.Spec PyProof.Rows L2

abbrev BS := Store → List T → Option T
abbrev BN := Store → List T → Option M0
/-- a built-in on trees -/
def rBt (X : Cx) (sem : BS) : List V → Hp → VK → Prop := fun vs H Q => ∃ G st ts t, Rel (pxOf X) G st H ∧ Rps (pxOf X) G ts vs ∧ sem st ts = some t ∧ ∀ G' H' r, G.Le G' → relT (pxOf X) G' st H' t r → Q r H'
def rBn (X : Cx) (sem : BN) : List V → Hp → VK → Prop := fun vs H Q => ∃ G st ts m, Rel (pxOf X) G st H ∧ Rps (pxOf X) G ts vs ∧ sem st ts = some m ∧ ∀ G' H' r, G.Le G' → relN (pxOf X) G' st H' m r → Q r H'
abbrev BtR (X : Cx) (f : Value) (sem : BS) : Prop := CallR X f (rBt X sem)
abbrev BnR (X : Cx) (f : Value) (sem : BN) : Prop := CallR X f (rBn X sem)
def mBt (sem : BS) (ms : M (List T)) : M T := mBnd ms fun ts _ st => Res.ofO (sem st ts) st
def mBn (sem : BN) (ms : M (List T)) : M M0 := mBnd ms fun ts _ st => Res.ofO (sem st ts) st
section
variable {X : Cx} {W : WX} {x : Str} {id ty : String} {p pos : Pos} {e : Expr} {es : List Expr} {ms : M (List T)} {sem : BS} {sn : BN} {σ : L2.St} {H : Hp} {Q : VK}
theorem mBt_pre (q : tM (pxOf X) W (mBt sem ms) σ H Q) : tMs (pxOf X) W ms σ H fun vs H1 => rBt X sem vs H1 Q := by
  refine (tG.bnd q).imp fun vs H1 ⟨ts, G, env, st, ⟨R, r⟩, E, q1⟩ => ?_
  obtain ⟨t, e, q1⟩ := Po.ofO q1
  exact ⟨G, st, ts, t, R, r, e, fun G' H' r le q => q1 G' H' r le q⟩
theorem mBn_pre (q : tMn (pxOf X) W (mBn sn ms) σ H Q) : tMs (pxOf X) W ms σ H fun vs H1 => rBn X sn vs H1 Q := by
  refine (tG.bnd q).imp fun vs H1 ⟨ts, G, env, st, ⟨R, r⟩, E, q1⟩ => ?_
  obtain ⟨t, e, q1⟩ := Po.ofO q1
  exact ⟨G, st, ts, t, R, r, e, fun G' H' r le q => q1 G' H' r le q⟩
theorem se_bt (h : BtR X (.builtin id) sem) (hg : Gl X x) (hm : X.mg x = none) (hv : bootBuiltins x = some (.builtin id)) (ha : SA X W (e :: es) ms) (hn : x ≠ "__name__" := by decide) (hdb : (x == ("__debug__" : Str)) = false := by decide)
    (he : starEach (e :: es) X.env = (false, eval e X.env) :: starEach es X.env := by rfl) (hpl : (backTo pos (starEach es X.env)).any (·.1) = false := by rfl) : SE X W (.Call (.Name x p) (e :: es) [] pos) (mBt sem ms) :=
  pe_mono (pe_callB h hg hm hv ha hn hdb he hpl) fun σ H Q q => mBt_pre q
theorem sn_bt (h : BnR X (.builtin id) sn) (hg : Gl X x) (hm : X.mg x = none) (hv : bootBuiltins x = some (.builtin id)) (ha : SA X W (e :: es) ms) (hn : x ≠ "__name__" := by decide) (hdb : (x == ("__debug__" : Str)) = false := by decide)
    (he : starEach (e :: es) X.env = (false, eval e X.env) :: starEach es X.env := by rfl) (hpl : (backTo pos (starEach es X.env)).any (·.1) = false := by rfl) : SEn X W (.Call (.Name x p) (e :: es) [] pos) (mBn sn ms) :=
  pe_mono (pe_callB h hg hm hv ha hn hdb he hpl) fun σ H Q q => mBn_pre q
theorem se_ty (h : BtR X (.type ty) sem) (hg : Gl X x) (hm : X.mg x = none) (hv : bootBuiltins x = some (.type ty)) (ha : SA X W (e :: es) ms) (hn : x ≠ "__name__" := by decide) (hdb : (x == ("__debug__" : Str)) = false := by decide)
    (he : starEach (e :: es) X.env = (false, eval e X.env) :: starEach es X.env := by rfl) (hpl : (backTo pos (starEach es X.env)).any (·.1) = false := by rfl) : SE X W (.Call (.Name x p) (e :: es) [] pos) (mBt sem ms) :=
  pe_mono (pe_callTy h hg hm hv ha hn hdb he hpl) fun σ H Q q => mBt_pre q
theorem sn_ty (h : BnR X (.type ty) sn) (hg : Gl X x) (hm : X.mg x = none) (hv : bootBuiltins x = some (.type ty)) (ha : SA X W (e :: es) ms) (hn : x ≠ "__name__" := by decide) (hdb : (x == ("__debug__" : Str)) = false := by decide)
    (he : starEach (e :: es) X.env = (false, eval e X.env) :: starEach es X.env := by rfl) (hpl : (backTo pos (starEach es X.env)).any (·.1) = false := by rfl) : SEn X W (.Call (.Name x p) (e :: es) [] pos) (mBn sn ms) :=
  pe_mono (pe_callTy h hg hm hv ha hn hdb he hpl) fun σ H Q q => mBn_pre q
/-- a function the module imports -/
theorem se_imp (h : BtR X (.builtin id) sem) (hg : Gl X x) (hm : X.mg x = some (.builtin id)) (ha : SA X W (e :: es) ms) (hdb : (x == ("__debug__" : Str)) = false := by decide)
    (he : starEach (e :: es) X.env = (false, eval e X.env) :: starEach es X.env := by rfl) (hpl : (backTo pos (starEach es X.env)).any (·.1) = false := by rfl) : SE X W (.Call (.Name x p) (e :: es) [] pos) (mBt sem ms) :=
  pe_mono (L2.pe_callBfun h hg hm ha hdb he hpl) fun σ H Q q => mBt_pre q

theorem BtR.of {f : Value} {r : List V → Hp → VK → Prop} (h : CallR X f r) (i : ∀ vs H Q, rBt X sem vs H Q → r vs H Q) : BtR X f sem := fun pins s σ H xs us Q I rv q => h pins s σ H xs us Q I rv (i xs H Q q)
theorem BnR.of {f : Value} {r : List V → Hp → VK → Prop} (h : CallR X f r) (i : ∀ vs H Q, rBn X sn vs H Q → r vs H Q) : BnR X f sn := fun pins s σ H xs us Q I rv q => h pins s σ H xs us Q I rv (i xs H Q q)
theorem Rps.one {P : PX} {G : Gh} {t : T} {vs : List V} (r : Rps P G [t] vs) : ∃ v, vs = [v] ∧ Rp P G t v := by
  simp only [Rps] at r
  obtain ⟨v, w, rfl, h, rfl⟩ := r
  exact ⟨v, rfl, h⟩
theorem Rps.two {P : PX} {G : Gh} {t u : T} {vs : List V} (r : Rps P G [t, u] vs) : ∃ v w, vs = [v, w] ∧ Rp P G t v ∧ Rp P G u w := by
  simp only [Rps] at r
  obtain ⟨v, w, rfl, h, v2, w2, rfl, h2, rfl⟩ := r
  exact ⟨v, v2, rfl, h, h2⟩
/-- a list or tuple, now -/
def seqO (st : Store) (t : T) : Option (List T) := match look st t with | .lst xs | .tup xs => some xs | _ => none
theorem seqO_ok {G : Gh} {st : Store} (R : Rel (pxOf X) G st H) {t : T} {v : V} {xs : List T} (r : Rp (pxOf X) G t v) (e : seqO st t = some xs) : ∃ a vs, v = .ref a ∧ (SqL X.K H a vs ∨ SqT X.K H a vs) ∧ Rps (pxOf X) G xs vs := by
  have h := look_ok R r
  unfold seqO at e
  split at e
  · rename_i ys e2
    cases e
    rw [e2] at h
    obtain ⟨a, vs, rfl, h1, h2⟩ := h
    exact ⟨a, vs, rfl, .inl (SqL.of h1), h2⟩
  · rename_i ys e2
    cases e
    rw [e2] at h
    obtain ⟨a, vs, rfl, h1, h2⟩ := h
    exact ⟨a, vs, rfl, .inr h1, h2⟩
  · cases e
def lenT : BS := fun st ts => match ts with
  | [t] => (match look st t with | .str s => if s.length ≤ 16777216 then some (.int s.length) else none | _ => (seqO st t).map fun xs => .int xs.length)
  | _ => none
theorem bt_len : BtR X (.builtin "len") lenT := .of call_len fun vs H Q ⟨G, st, ts, t, R, r, e, q⟩ => by
  unfold lenT at e
  split at e
  · rename_i u
    obtain ⟨v, rfl, r1⟩ := Rps.one r
    split at e
    · rename_i s e2
      split at e
      · rename_i hz
        cases e
        have h := look_ok R r1
        rw [e2] at h
        have h : v = .str s := by simpa [Rh, Rp] using h
        subst h
        exact ⟨_, s.length, rfl, ⟨by rw [sizeLine_eq]; omega, rfl⟩, q G H _ (Gh.Le.refl G) ⟨R, by simp [Rp]⟩⟩
      · cases e
    · cases e1 : seqO st u with
      | none => rw [e1] at e; cases e
      | some xs =>
        rw [e1] at e
        cases e
        obtain ⟨a, ws, rfl, h, rr⟩ := seqO_ok R r1 e1
        refine ⟨_, ws.length, rfl, ?_, q G H _ (Gh.Le.refl G) ⟨R, by rw [Rps.length rr]; simp [Rp]⟩⟩
        rcases h with h | h
        · exact .inl ⟨ws, h, rfl⟩
        · exact .inr ⟨ws, h, rfl⟩
  · cases e
def absT : BS := fun st ts => match ts with | [.int i] => some (.int (if i < 0 then -i else i)) | _ => none
theorem bt_abs : BtR X (.builtin "abs") absT := .of call_abs fun vs H Q ⟨G, st, ts, t, R, r, e, q⟩ => by
  unfold absT at e
  split at e
  · cases e
    obtain ⟨v, rfl, r1⟩ := Rps.one r
    simp only [Rp] at r1; subst r1
    exact ⟨_, rfl, q G H _ (Gh.Le.refl G) ⟨R, by simp [Rp]⟩⟩
  · cases e
def intT : BS := fun st ts => match ts with | [.int i] => some (.int i) | [.bl b] => some (.int (if b then 1 else 0)) | _ => none
theorem bt_int : BtR X (.type "int") intT := .of call_int1 fun vs H Q ⟨G, st, ts, t, R, r, e, q⟩ => by
  unfold intT at e
  split at e
  · cases e
    obtain ⟨v, rfl, r1⟩ := Rps.one r
    simp only [Rp] at r1; subst r1
    exact .inl ⟨_, rfl, q G H _ (Gh.Le.refl G) ⟨R, by simp [Rp]⟩⟩
  · cases e
    obtain ⟨v, rfl, r1⟩ := Rps.one r
    simp only [Rp] at r1; subst r1
    exact .inr ⟨_, rfl, q G H _ (Gh.Le.refl G) ⟨R, by simp [Rp]⟩⟩
  · cases e
def gcdT : BS := fun st ts => match ts with | [.int i, .int j] => some (.int ((Nat.gcd i.natAbs j.natAbs : Nat) : Int)) | _ => none
theorem bt_gcd : BtR X (.builtin "math.gcd") gcdT := .of cr_gcd fun vs H Q ⟨G, st, ts, t, R, r, e, q⟩ => by
  unfold gcdT at e
  split at e
  · cases e
    obtain ⟨v, w, rfl, r1, r2⟩ := Rps.two r
    simp only [Rp] at r1 r2; subst r1 r2
    exact ⟨_, _, rfl, q G H _ (Gh.Le.refl G) ⟨R, by simp [Rp]⟩⟩
  · cases e
theorem new_n {P : PX} {G : Gh} {st : Store} {H : Hp} {m : M0} {o : HO} {Q : VK} {p : Addr} (R : Rel P G st H) (q : ∀ G' H' r, G.Le G' → relN P G' st H' m r → Q r H') (np : H p = none) (h : Ho0 P G p o m) : Q (.ref p) (upd H p o) :=
  q G _ _ (Gh.Le.refl G) ⟨p, o, H, rfl, np, R, rfl, h⟩
def listN : BN := fun st ts => match ts with | [t] => (seqO st t).map .lst | _ => none
theorem bn_list : BnR X (.type "list") listN := .of call_list_of fun vs H Q ⟨G, st, ts, t, R, r, e, q⟩ => by
  unfold listN at e
  split at e
  · rename_i u
    obtain ⟨v, rfl, r1⟩ := Rps.one r
    cases e1 : seqO st u with
    | none => rw [e1] at e; cases e
    | some xs =>
      rw [e1] at e
      cases e
      obtain ⟨a, ws, rfl, h, rr⟩ := seqO_ok R r1 e1
      exact ⟨a, ws, rfl, h, fun p np => new_n R q np ⟨ws, rfl, rr⟩⟩
  · cases e
def tupleT : BS := fun st ts => match ts with | [.par _] => none | [t] => (seqO st t).map .tup | _ => none
/-- tuple(x), x a list or a tuple; the new tuple's object is known -/
theorem call_tupleN : CallR X (.type "tuple") (fun xs H Q => ∃ p ys, xs = [.ref p] ∧ ((SqL X.K H p ys ∧ ∀ (l : Addr) (o : Obj), H l = none → o.dict = none → Q (.ref l) (upd H l (.frz o (.tup ys)))) ∨ (SqT X.K H p ys ∧ Q (.ref p) H))) := by
  intro pins s σ H xs us Q I r ⟨p, ys, e, h⟩
  rcases h with ⟨hq, q⟩ | h
  · subst e
    rw [Vals.ref1 r]
    obtain ⟨ws, rv, pl, hz⟩ := I.list hq
    refine call_tuple_list pl.isList (fun h' kp => ?_) (by have := rv.length; simp only [List.size_toArray]; omega)
    exact tup_laid (n := 0) (I.kept (t' := s.toks) kp) rv hz rfl rfl rfl q
  · exact call_tuple_of pins s σ H xs us Q I r ⟨p, ys, e, .inr h⟩
theorem bt_tuple : BtR X (.type "tuple") tupleT := .of call_tupleN fun vs H Q ⟨G, st, ts, t, R, r, e, q⟩ => by
  unfold tupleT at e
  split at e
  · cases e
  · rename_i u nu
    obtain ⟨v, rfl, r1⟩ := Rps.one r
    cases e1 : seqO st u with
    | none => rw [e1] at e; cases e
    | some xs =>
      rw [e1] at e
      cases e
      have h := look_ok R r1
      unfold seqO at e1
      split at e1
      · rename_i ys e2
        cases e1
        rw [e2] at h
        obtain ⟨a, ws, rfl, h1, rr⟩ := h
        exact ⟨a, ws, rfl, .inl ⟨SqL.of h1, fun p o np hd => new_frz R q np (Rp.tupI (Rps.mono (Gh.frz_le (R.nofro np)) rr) upd_same hd)⟩⟩
      · rename_i ys e2
        cases e1
        -- a tuple stays itself
        have h3 : Rp (pxOf X) G (.tup xs) v := by
          cases u with
          | tup zs => simp only [look] at e2; cases e2; exact r1
          | par zs => exact (nu zs rfl).elim
          | cell i =>
            rw [look_cell] at e2
            simp only [Rp] at r1
            obtain ⟨a, e3, e4⟩ := r1
            split at e2
            · rename_i m e5
              have c := R.cel i m a e5 e4
              cases m with
              | frz w => simp only [MO.look] at e2; subst e2; subst e3; exact c.2.2
              | one w => cases w <;> simp only [MO.look, M0.t] at e2 <;> cases e2
              | rcl fs => simp only [MO.look] at e2; cases e2
              | ins cn ns fs => simp only [MO.look] at e2; cases e2
            · cases e2
          | fld i k e =>
            rw [look_fld] at e2
            split at e2
            · split at e2
              · rename_i m0 _
                cases m0 <;> simp only [M0.t] at e2 <;> cases e2
              · cases e2
            · cases e2
          | _ => simp only [look] at e2; cases e2
        rw [e2] at h
        obtain ⟨a, ws, rfl, h1, rr⟩ := h
        exact ⟨a, ws, rfl, .inr ⟨h1, q G H _ (Gh.Le.refl G) ⟨R, h3⟩⟩⟩
      · cases e1
  · cases e
end
end PL
/-! x[i], x[i:j] -/
namespace PL
open PySem PySem.Spec PyProof.Rows L2

section
variable {X : Cx} {W : WX} {σ : L2.St} {H : Hp} {Q : VK} {pins : List (Addr × Obj)} {s : Shared} {G : Gh}
def fmT (i j : Nat) : FM → T
  | .val t => t
  | .own e _ => .fld i j e
/-- what stands at a place of a list cell -/
def rclAt (st : Store) (a b : T) : Option T :=
  match a, b with
  | .cell i, .int k => (match st[i]? with | some (.rcl fs) => (ixN fs.length k).bind fun j => (fs[j]?).map (fmT i j) | _ => none)
  | _, _ => none
def ixT (st : Store) (a b : T) : Option T :=
  match rclAt st a b with
  | some t => some t
  | none => match look st a, b with
    | .lst xs, .int i | .tup xs, .int i => atI xs i
    | .str z, .int i => if z.length ≤ 16777216 then (atI z.cps.toList i).map fun c => .str ⟨#[c]⟩ else none
    | .dct ks vs, y => if y.dkey then dGet ks vs y else none
    | _, _ => none
theorem fms_len {P : PX} {H : Hp} {i : Nat} : ∀ {k0 : Nat} {fs : List FM} {vs : List V}, Fms P G H i k0 fs vs → vs.length = fs.length
  | _, [], vs, h => by simp only [Fms] at h; subst h; rfl
  | k0, .val t :: fs, vs, h => by
    simp only [Fms] at h
    obtain ⟨v, r, rfl, _, _, h⟩ := h
    simp [fms_len h]
  | k0, .own e m :: fs, vs, h => by
    simp only [Fms] at h
    obtain ⟨v, r, rfl, _, _, _, h⟩ := h
    simp [fms_len h]
theorem fms_get {P : PX} {H : Hp} {i : Nat} : ∀ {k0 j : Nat} {fs : List FM} {vs : List V} {f : FM}, Fms P G H i k0 fs vs → fs[j]? = some f → ∃ v, vs[j]? = some v ∧ Rp P G (fmT i (k0 + j) f) v
  | _, _, [], vs, f, h, e => by simp at e
  | k0, 0, .val t :: fs, vs, f, h, e => by
    simp only [Fms] at h
    obtain ⟨v, r, rfl, _, q, h⟩ := h
    simp at e; subst e
    exact ⟨v, rfl, q⟩
  | k0, 0, .own e0 m :: fs, vs, f, h, e => by
    simp only [Fms] at h
    obtain ⟨v, r, rfl, q, _, _, h⟩ := h
    simp at e; subst e
    exact ⟨.ref v, rfl, by simp only [fmT, Rp]; exact ⟨v, rfl, q⟩⟩
  | k0, j + 1, .val t :: fs, vs, f, h, e => by
    simp only [Fms] at h
    obtain ⟨v, r, rfl, _, _, h⟩ := h
    obtain ⟨w, e1, e2⟩ := fms_get h (j := j) (by simpa using e)
    exact ⟨w, by simpa using e1, by rw [show k0 + (j + 1) = k0 + 1 + j by omega]; exact e2⟩
  | k0, j + 1, .own e0 m :: fs, vs, f, h, e => by
    simp only [Fms] at h
    obtain ⟨v, r, rfl, _, _, _, h⟩ := h
    obtain ⟨w, e1, e2⟩ := fms_get h (j := j) (by simpa using e)
    exact ⟨w, by simpa using e1, by rw [show k0 + (j + 1) = k0 + 1 + j by omega]; exact e2⟩
theorem atI_rps {xs : List T} {vs : List V} {i : Int} {t : T} (r : Rps (pxOf X) G xs vs) (e : atI xs i = some t) : ∃ v, atI vs i = some v ∧ Rp (pxOf X) G t v := by
  unfold atI at e ⊢
  rw [Rps.length r]
  cases e1 : ixN xs.length i with
  | none => rw [e1] at e; cases e
  | some j =>
    rw [e1] at e
    exact Rps.get r e
theorem ixR (hu : X.A.units + 16 < cLine) : IxR X (rOp2 X W [] ixT) := by
  intro value slice pins s σ H x y v u Q I rx ry ⟨G, st, a, b, t, R, ra, rb, e, q⟩ hs
  unfold ixT at e
  split at e
  · rename_i t' e1
    cases e
    unfold rclAt at e1
    split at e1
    · rename_i i k
      split at e1
      · rename_i fs e2
        simp only [Rp] at ra rb
        obtain ⟨p, rfl, e3⟩ := ra
        subst rb
        obtain ⟨_, _, vs, e4, f⟩ := R.cel i _ p e2 e3
        cases e5 : ixN fs.length k with
        | none => rw [e5] at e1; cases e1
        | some j =>
          rw [e5] at e1
          simp only [Option.bind_some] at e1
          cases e6 : fs[j]? with
          | none => rw [e6] at e1; cases e1
          | some f1 =>
            rw [e6] at e1
            cases e1
            obtain ⟨w, e7, r7⟩ := fms_get f e6
            refine ix_list value slice pins s σ H _ _ v u Q I rx ry ⟨p, vs, k, w, rfl, rfl, SqL.of e4, ?_, q G H w (Gh.Le.refl G) ⟨R, by rw [Nat.zero_add] at r7; exact r7⟩⟩ hs
            unfold atI
            rw [fms_len f, e5]
            exact e7
      · cases e1
    · cases e1
  · have h := look_ok R ra
    split at e
    · rename_i xs i e2 _
      rw [e2] at h
      obtain ⟨p, vs, rfl, h1, h2⟩ := h
      simp only [Rp] at rb; subst rb
      obtain ⟨w, e3, r3⟩ := atI_rps h2 e
      exact ix_list value slice pins s σ H _ _ v u Q I rx ry ⟨p, vs, i, w, rfl, rfl, SqL.of h1, e3, q G H w (Gh.Le.refl G) ⟨R, r3⟩⟩ hs
    · rename_i xs i e2 _
      rw [e2] at h
      obtain ⟨p, vs, rfl, h1, h2⟩ := h
      simp only [Rp] at rb; subst rb
      obtain ⟨w, e3, r3⟩ := atI_rps h2 e
      exact ix_tup value slice pins s σ H _ _ v u Q I rx ry ⟨p, vs, i, w, rfl, rfl, h1, e3, q G H w (Gh.Le.refl G) ⟨R, r3⟩⟩ hs
    · rename_i z i e2 _
      rw [e2] at h
      have h : x = .str z := by simpa [Rh, Rp] using h
      subst h
      simp only [Rp] at rb; subst rb
      split at e
      · rename_i hz
        cases e3 : atI z.cps.toList i with
        | none => rw [e3] at e; cases e
        | some c =>
          rw [e3] at e
          cases e
          exact ix_str value slice pins s σ H _ _ v u Q I rx ry ⟨z, i, c, rfl, rfl, by rw [sizeLine_eq]; omega, e3, q G H _ (Gh.Le.refl G) ⟨R, by simp [Rp]⟩⟩ hs
      · cases e
    · rename_i ks vs e2 _
      split at e
      · rename_i hk
        rw [e2] at h
        obtain ⟨p, ka, ws, rfl, d⟩ := h.dat
        cases rx
        have dd := dict_of I R.fro d.at_ d.rk d.ok
        obtain ⟨hd, ln, us, rv, dd⟩ := dd
        have core : wpAny (model X.prog X.w) X.A (getItem (.ref p) u) (EP X pins σ Q) X.xe s := dt_getItem (by omega) I R.fro d hk rb ry e fun w' z s' I' r1 r2 => ⟨z, H, I', r1, q G H z (Gh.Le.refl G) ⟨R, r2⟩⟩
        unfold PyProof.Rows.subscriptTail
        refine wpAny_bind ?_
        rw [getitemInPython_of_ne dd.typeIs.not_modules]
        refine wpAny_bind (wpAny_specialOf dd.typeIs PySem.F.slot_dict_getitem.lookup ?_)
        have fin : wpAny (model X.prog X.w) X.A (subscripted slice false (.ref p) u) (fun r s₃ => wpAny (model X.prog X.w) X.A (letTemporaryGo value (.ref p) r >>= fun _ => pure r) (EP X pins σ Q) X.xe s₃) X.xe s := by
          rw [hs]
          exact wpAny_operating (wpAny_mono core (fun r s₃ h₃ => wpAny_bind (wpAny_letTemporaryGo (wpAny_pure h₃))) fun _ _ x => x)
        first
          | exact wpAny_pure (wpAny_bind fin)
          | exact wpAny_bind (wpAny_pure (wpAny_bind fin))
          | exact wpAny_bind fin
      · cases e
    · cases e
theorem se_ix {a b : Expr} {ma mb : M T} {pos : Pos} (hu : X.A.units + 16 < cLine) (ha : SE X W a ma) (hb : SE X W b mb) (hs : PlainIx b) : SE X W (.Subscript a b pos) (mOp2 ixT ma mb) :=
  pe_mono (pe_ix (ixR (W := W) hu) ha hb hs) fun σ H Q q => mOp2_pre q
end
end PL
/-! cuts, join, repr -/
namespace PL
open PySem PySem.Spec PyProof.Rows L2

section
variable {X : Cx} {W : WX} {σ : L2.St} {H : Hp} {Q : VK} {pins : List (Addr × Obj)} {s : Shared} {G : Gh} {e : Expr} {m : M T} {pos p2 : Pos}
/-! ### x[i:j] -/
def relO (P : PX) : Gh → Store → Hp → Option Int → Option Int → Prop := fun G st H a b => Rel P G st H ∧ a = b
def SOp (X : Cx) (W : WX) (e : Option Expr) (m : M (Option Int)) : Prop := PO X e (tG (pxOf X) (relO (pxOf X)) W m)
theorem so_none : SOp X W none (fun _ st => ok none st) := by
  have h := po_none (X := X)
  exact ⟨fun pins s σ H Q I ⟨G, env, st, R, E, q⟩ => h.run pins s σ H Q I (q G H none (Gh.Le.refl G) ⟨R, rfl⟩)⟩
def mPart (m : M T) : M (Option Int) := mBnd m fun t _ st => match t with | .int i => ok (some i) st | _ => none
theorem so_some (h : SE X W e m) : SOp X W (some e) (mPart m) := by
  have h := po_some h
  refine ⟨fun pins s σ H Q I q => h.run pins s σ H Q I ?_⟩
  refine (tG.bnd q).imp fun v H1 ⟨t, G, env, st, ⟨R, r⟩, E, q1⟩ => ?_
  split at q1
  · rename_i i
    simp only [Rp] at r
    exact ⟨i, r, q1 G H1 (some i) (Gh.Le.refl G) ⟨R, rfl⟩⟩
  · exact q1.elim
def cutT (xs : List T) (lo hi : Option Int) : List T := (xs.drop (HT.sIx xs.length 0 lo)).take (HT.sIx xs.length xs.length hi - HT.sIx xs.length 0 lo)
theorem cut_rps {ts : List T} {vs : List V} (r : Rps (pxOf X) G ts vs) (lo hi : Option Int) : Rps (pxOf X) G (cutT ts lo hi) (cutV vs lo hi) := by
  unfold cutT cutV
  rw [Rps.length r]
  exact Rps.take _ (Rps.drop _ r)
/-- a part of a list, a tuple, a text, the law's script -/
def slT (st : Store) (a : T) (lo hi : Option Int) : Option T :=
  match look st a with
  | .lst xs => some (.lst (cutT xs lo hi))
  | .tup xs => if HT.sIx xs.length 0 lo = 0 ∧ HT.sIx xs.length xs.length hi = xs.length then none else some (.tup (cutT xs lo hi))
  | .str z => if z.length ≤ 16777216 then some (.str (cutS z lo hi)) else none
  | .scr xs => some (.lst (cutT (xs.map T.int) lo hi))
  | _ => none
def mSl (m : M T) (lo hi : M (Option Int)) : M T := mBnd m fun x => mBnd lo fun l => mBnd hi fun h _ st => Res.ofO (slT st x l h) st
def rSl (X : Cx) : V → Option Int → Option Int → Hp → VK → Prop := fun x l h H Q => ∃ G st a t, Rel (pxOf X) G st H ∧ Rp (pxOf X) G a x ∧ slT st a l h = some t ∧ ∀ G' H' r, G.Le G' → relT (pxOf X) G' st H' t r → Q r H'
theorem Rps.ints : ∀ {xs : List Int}, Rps (pxOf X) G (xs.map T.int) (xs.map V.int)
  | [] => Rps.nil
  | x :: xs => Rps.cons (by simp [Rp]) (Rps.ints (xs := xs))
/-- t[lo:hi], not the whole; the new tuple's object is known -/
theorem sl_tupN : SlR X (fun x lo hi H Q => ∃ a xs, x = .ref a ∧ SqT X.K H a xs ∧ ¬ (HT.sIx xs.length 0 lo = 0 ∧ HT.sIx xs.length xs.length hi = xs.length) ∧ ∀ (p : Addr) (o : Obj), H p = none → o.dict = none → Q (.ref p) (upd H p (.frz o (.tup (cutV xs lo hi))))) := by
  intro pins s σ H x v vl vu lo hi sl Q I rx hs pl pu ⟨a, xs, e, hx, hw, q⟩
  subst e
  cases rx
  obtain ⟨ws, rv, ht, hz⟩ := I.tuple hx
  have hl : ws.toArray.size = xs.length := by have := rv.length; simp only [List.size_toArray]; omega
  refine ⟨"tuple", _, PyProof.Rows.slot_tuple_getitem.lookup, ht.typeIs, HT.getItem_tuple_cut ht hs pl pu (by rw [hl]; exact hw) ?_ (by rw [hl]; exact hz)⟩
  rw [hl]
  exact tup_laid (n := 0) I ((rv.drop (HT.sIx xs.length 0 lo)).take (HT.sIx xs.length xs.length hi - HT.sIx xs.length 0 lo)) (Nat.le_trans (cutV_length xs lo hi) hz) rfl rfl rfl q
theorem sl_any : SlR X (rSl X) := by
  intro pins s σ H x v vl vu lo hi sl Q I rx hs pl pu ⟨G, st, a, t, R, ra, e, q⟩
  have h := look_ok R ra
  unfold slT at e
  split at e
  · rename_i xs e2
    rw [e2] at h
    cases e
    obtain ⟨p, vs, rfl, h1, h2⟩ := h
    exact sl_list pins s σ H _ v vl vu lo hi sl Q I rx hs pl pu ⟨p, vs, rfl, SqL.of h1, fun p np => new_frz R q np (Rp.lstI (Rps.mono (Gh.frz_le (R.nofro np)) (cut_rps h2 lo hi)) upd_same)⟩
  · rename_i xs e2
    rw [e2] at h
    obtain ⟨p, vs, rfl, h1, h2⟩ := h
    split at e
    · cases e
    · rename_i hw
      cases e
      exact sl_tupN pins s σ H _ v vl vu lo hi sl Q I rx hs pl pu ⟨p, vs, rfl, h1, by rw [Rps.length h2]; exact hw, fun p o np hd => new_frz R q np (Rp.tupI (Rps.mono (Gh.frz_le (R.nofro np)) (cut_rps h2 lo hi)) upd_same hd)⟩
  · rename_i z e2
    rw [e2] at h
    have h : x = .str z := by simpa [Rh, Rp] using h
    subst h
    split at e
    · rename_i hz
      cases e
      exact sl_str pins s σ H _ v vl vu lo hi sl Q I rx hs pl pu ⟨z, rfl, by rw [sizeLine_eq]; omega, q G H _ (Gh.Le.refl G) ⟨R, by simp [Rp]⟩⟩
    · cases e
  · rename_i xs e2
    rw [e2] at h
    cases e
    have h : Rp (pxOf X) G (.scr xs) x := h
    simp only [Rp] at h
    obtain ⟨p, rfl, h1⟩ := h
    exact sl_list pins s σ H _ v vl vu lo hi sl Q I rx hs pl pu ⟨p, _, rfl, SqL.grow R.fro h1, fun p np => new_frz R q np (Rp.lstI (Rps.mono (Gh.frz_le (R.nofro np)) (cut_rps Rps.ints lo hi)) upd_same)⟩
  · cases e
theorem se_sl {lo hi : Option Expr} {ml mh : M (Option Int)} (he : SE X W e m) (hl : SOp X W lo ml) (hh : SOp X W hi mh) : SE X W (.Subscript e (.Slice lo hi none p2) pos) (mSl m ml mh) := by
  refine pe_mono (pe_slice sl_any he hl hh) fun σ H Q q => ?_
  refine (tG.bnd q).imp fun v H1 ⟨t, G, env, st, ⟨R, r⟩, E, q1⟩ => ?_
  refine ⟨G, env, st, R, E, (Po.bnd q1).imp fun l H2 ⟨G2, st2, l2, le2, ⟨R2, e2⟩, q2⟩ => ?_⟩
  subst e2
  refine ⟨G2, env, st2, R2, E.mono le2, (Po.bnd q2).imp fun h H3 ⟨G3, st3, h3, le3, ⟨R3, e3⟩, q3⟩ => ?_⟩
  subst e3
  obtain ⟨t2, e4, q4⟩ := Po.ofO q3
  exact ⟨G3, st3, t, t2, R3, (r.mono le2).mono le3, e4, fun G' H' r le q => q4 G' H' r le q⟩
/-- x[::-1] -/
def revT (st : Store) (t : T) : Option T := match look st t with | .lst xs => some (.lst xs.reverse) | _ => none
def mRev (m : M T) : M T := mBnd m fun t _ st => Res.ofO (revT st t) st
theorem se_rev {k : Nat} {p1 p3 p4 : Pos} (he : SE X W e m) : SE X W (.Subscript e (.Slice none none (some (.UnaryOp .USub (.Constant (.int 1) k p1) p3)) p4) pos) (mRev m) := by
  refine pe_mono (pe_revL he) fun σ H Q q => ?_
  refine (tG.bnd q).imp fun v H1 ⟨t, G, env, st, ⟨R, r⟩, E, q1⟩ => ?_
  obtain ⟨t2, e4, q4⟩ := Po.ofO q1
  unfold revT at e4
  split at e4
  · rename_i xs e2
    have h := look_ok R r
    rw [e2] at h
    cases e4
    obtain ⟨p, vs, rfl, h1, h2⟩ := h
    exact ⟨p, vs, rfl, SqL.of h1, fun p np => new_frz R (fun G' H' r le q => q4 G' H' r le q) np (Rp.lstI (Rps.mono (Gh.frz_le (R.nofro np)) (Rps.reverse h2)) upd_same)⟩
  · cases e4
/-! ### sep.join(xs) -/
def strsO : List T → Option (List Str)
  | [] => some []
  | .str s :: r => (strsO r).map (s :: ·)
  | _ :: _ => none
theorem strs_ok : ∀ {ts : List T} {ss : List Str} {vs : List V}, strsO ts = some ss → Rps (pxOf X) G ts vs → vs = ss.map V.str
  | [], ss, vs, e, r => by simp [strsO] at e; subst e; simpa [Rps] using r
  | t :: ts, ss, vs, e, r => by
    cases t <;> simp only [strsO] at e <;> try (cases e; done)
    rename_i z
    cases e1 : strsO ts with
    | none => rw [e1] at e; cases e
    | some r1 =>
      rw [e1] at e
      cases e
      simp only [Rps, Rp] at r
      obtain ⟨v, w, rfl, rfl, r2⟩ := r
      rw [strs_ok e1 r2]; rfl
def joinT (st : Store) (z : Str) (b : T) : Option T := ((seqO st b).bind strsO).bind fun ys => if (ys.map fun y => y.length).sum + ys.length * z.length ≤ 16777216 then some (.str (Txt.join z ys)) else none
def mJoin (a b : M T) : M T := mBnd a fun x => match x with | .str z => mBnd b fun y _ st => Res.ofO (joinT st z y) st | _ => fun _ _ => none
theorem se_join {o e : Expr} {mo m : M T} {apos : Pos} (ho : SE X W o mo) (he : SE X W e m) (h1 : starEach [e] X.env = [(false, eval e X.env)]) (h2 : attributeBase o (Str.ofString "join") X.env (eval o X.env) = eval o X.env) (h3 : (apos.endLine == pos.line) = true) :
    SE X W (.Call (.Attribute o (Str.ofString "join") apos) [e] [] pos) (mJoin mo m) := by
  refine pe_mono (pe_join ho he h1 h2 h3) fun σ H Q q => ?_
  refine (tG.bnd q).imp fun v H1 ⟨t, G, env, st, ⟨R, r⟩, E, q1⟩ => ?_
  split at q1
  · rename_i z
    simp only [Rp] at r
    subst r
    refine ⟨⟨z, rfl⟩, ?_⟩
    refine ⟨G, env, st, R, E, (Po.bnd q1).imp fun u H2 ⟨G2, st2, t2, le2, ⟨R2, r2⟩, q2⟩ => ?_⟩
    obtain ⟨t3, e4, q4⟩ := Po.ofO q2
    unfold joinT at e4
    cases e5 : seqO st2 t2 with
    | none => rw [e5] at e4; cases e4
    | some xs =>
      rw [e5] at e4
      simp only [Option.bind_some] at e4
      cases e6 : strsO xs with
      | none => rw [e6] at e4; cases e4
      | some ys =>
        rw [e6] at e4
        simp only [Option.bind_some] at e4
        split at e4
        · rename_i hz
          cases e4
          obtain ⟨a, ws, rfl, h, rr⟩ := seqO_ok R2 r2 e5
          have := strs_ok e6 rr
          subst this
          exact ⟨z, a, ys, rfl, rfl, h, hz, q4 G2 H2 _ (Gh.Le.refl G2) ⟨R2, by simp [Rp]⟩⟩
        · cases e4
  · exact q1.elim
/-! ### repr -/
def shownOk (d : PyData) : Bool := d.showable && decide (d.shown.length ≤ 16777216)
def reprT : BS := fun st ts => match ts with
  | [t] => let u := look st t; if u.dat 60 && shownOk u.data then some (.str u.data.shown) else none
  | _ => none
theorem bt_repr (hu : X.A.units + 64 < cLine) (hg : X.A.guards = some []) : BtR X (.builtin "repr") reprT := by
  intro pins s σ H xs us Q I rv ⟨G, st, ts, t, R, r, e, q⟩
  unfold reprT at e
  split at e
  · rename_i w
    obtain ⟨v, rfl, r1⟩ := Rps.one r
    simp only at e
    split at e
    · rename_i hd
      simp only [Bool.and_eq_true, shownOk, decide_eq_true_eq] at hd
      obtain ⟨hd, hs, hz⟩ := hd
      cases e
      cases rv with
      | cons ru rn =>
        rename_i u us'
        cases rn
        have dp := Rh.dp R hd (look_ok R r1)
        obtain ⟨as, rd⟩ := Dp.reads I _ _ _ dp ru
        have hl := dat_lay 60 _ hd
        have nd : (look st w).data.hasDict = true → sysModules ∉ as := PyData.noDict_hsm (PyData.hasDict_of_canLay _ hl.1)
        have fin : ∀ (h' : Heap) (k : Tok) (tk : Nat), (∀ b o, s.heap.get? b = some o → h'.get? b = some o) → EP X pins σ Q (.str (look st w).data.shown k) { s with heap := h', toks := tk } := fun h' k tk kp =>
          ⟨.str (look st w).data.shown, H, I.kept (t' := tk) kp, ⟨_, rfl⟩, q G H _ (Gh.Le.refl G) ⟨R, by simp [Rp]⟩⟩
        have hz : (look st w).data.shown.length ≤ sizeLine := by rw [sizeLine_eq]; omega
        have lk := look_ok R r1
        generalize look st w = t0 at *
        have keep : ∀ b o, s.heap.get? b = some o → s.heap.get? b = some o := fun _ _ h => h
        have rf : ∀ a, u = .ref a → wpAny (model X.prog X.w) X.A (call (.builtin "repr") [u]) (EP X pins σ Q) X.xe s := fun a ea => by
          subst ea
          exact PySem.repr_of_reads' rd hs nd hg (by omega) keep (fun h' k tk kp => fin h' k tk kp) hz
        cases t0 with
        | non => have lk : v = .non := lk; subst lk; cases ru; exact PySem.P.repr_of_none (fin _ _ _ keep)
        | bl b => have lk : v = .bl b := lk; subst lk; cases ru; exact PySem.P.repr_of_bool (fin _ _ _ keep)
        | int i =>
          have lk : v = .int i := lk
          subst lk; obtain ⟨t, rfl⟩ := ru
          exact PySem.P.repr_of_int (by simpa [T.data, PyData.showable] using hs) (fin _ _ _ keep)
        | str z => have lk : v = .str z := lk; subst lk; obtain ⟨t, rfl⟩ := ru; exact PySem.P.repr_of_str (fin _ _ _ keep) hz
        | tup ys => obtain ⟨a, ws, rfl, _⟩ := lk; exact rf a ru
        | lst ys => obtain ⟨a, ws, rfl, _⟩ := lk; exact rf a ru
        | _ => simp [T.dat] at hd
    · cases e
  · cases e
end
end PL
/-! what changes -/
namespace PL
open PySem PySem.Spec PyProof.Rows L2

def m0At (st : Store) (t : T) : Option M0 :=
  match t with
  | .cell i => (match st[i]? with | some (.one m) => some m | _ => none)
  | .fld i k e => (match st[i]? with | some mo => fmAt mo.fms k e | _ => none)
  | _ => none
def MO.putF (mo : MO) (k : Nat) (f : FM) : MO :=
  match mo with
  | .rcl fs => .rcl (fs.set k f)
  | .ins cn ns fs => .ins cn ns (fs.set k f)
  | mo => mo
def putM (st : Store) (t : T) (m : M0) : Store :=
  match t with
  | .cell i => st.set i (.one m)
  | .fld i k e => (match st[i]? with | some mo => st.set i (mo.putF k (.own e m)) | _ => st)
  | _ => st
section
variable {P : PX} {G : Gh} {st : Store} {H : Hp} {i : Nat} {a b : Addr} {o : HO}
/-- a cell's content changes, at a thing that the cell owns -/
theorem Rel.chg {mo mo' : MO} {q : Option Nat} (R : Rel P G st H) (e : st[i]? = some mo) (ha : G.μ[i]? = some a) (fb : G.F b = none) (wb : G.ow b = some (i, q)) (h : CellOk P G (upd H b o) i a mo') : Rel P G (st.set i mo') (upd H b o) where
  fro := fun c x q => by rw [upd_ne (fun z => by rw [z, fb] at q; cases q)]; exact R.fro c x q
  len := by rw [List.length_set]; exact R.len
  nu := R.nu
  lck := fun c x q => ⟨by rw [upd_ne (fun z => by have := (R.lck c x q).2.1; rw [z, wb] at this; cases this)]; exact (R.lck c x q).1, (R.lck c x q).2⟩
  cel := fun j x c e1 e2 => by
    by_cases hj : j = i
    · subst hj
      rw [ha] at e2; cases e2
      rw [List.getElem?_set_self (List.getElem?_eq_some_iff.mp e).1] at e1
      cases e1
      exact h
    · rw [List.getElem?_set_ne (Ne.symm hj)] at e1
      refine (R.cel j x c e1 e2).stay ⟨fun _ _ h => h, fun _ _ => rfl, fun d q y wc hq fc hc => ⟨?_, fc, wc⟩⟩
      rw [upd_ne (fun z => by rw [z, wb] at wc; cases wc; exact hj hq.symm)]; exact hc
  tab := fun c hc => (R.tab c hc).stay (fun _ _ h => h) (upd_ne ((R.tab c hc).neO wb)) (R.tab c hc).f (R.tab c hc).o (R.tab c hc).l
/-- places that another place's own thing leaves alone -/
theorem Fms.away {q : Option Nat} (wb : G.ow b = some (i, q)) : ∀ {k : Nat} {fs : List FM} {vs : List V}, (∀ j, k ≤ j → q ≠ some j) → Fms P G H i k fs vs → Fms P G (upd H b o) i k fs vs
  | _, [], _, _, h => h
  | k, .val t :: fs, _, hq, h => by
    simp only [Fms] at h ⊢
    obtain ⟨v, r, e, p, q1, q2⟩ := h
    exact ⟨v, r, e, p, q1, Fms.away wb (fun j hj => hq j (by omega)) q2⟩
  | k, .own e0 m :: fs, _, hq, h => by
    simp only [Fms] at h ⊢
    obtain ⟨c, r, e, q0, q1, ⟨f, w, pu, o1, e1, ho⟩, q2⟩ := h
    refine ⟨c, r, e, q0, q1, ⟨f, w, pu, o1, ?_, ho⟩, Fms.away wb (fun j hj => hq j (by omega)) q2⟩
    rw [upd_ne (fun z => by rw [z, wb] at w; cases w; exact hq k (Nat.le_refl k) rfl)]
    exact e1
/-- a place's own thing changes -/
theorem Fms.put {e : Nat} {m m' : M0} : ∀ {k j : Nat} {fs : List FM} {vs : List V}, Fms P G H i k fs vs → fs[j]? = some (.own e m) → G.ν i (k + j) e = some b → G.F b = none → G.ow b = some (i, some (k + j)) → m'.pure = true → Ho0 P G b o m' →
    Fms P G (upd H b o) i k (fs.set j (.own e m')) vs
  | _, _, [], _, h, e1, _, _, _, _, _ => by simp at e1
  | k, 0, .own e0 m0 :: fs, _, h, e1, hν, f, w, pu, ho => by
    simp at e1
    obtain ⟨rfl, rfl⟩ := e1
    simp only [Fms, List.set_cons_zero] at h ⊢
    obtain ⟨c, r, rfl, q0, q1, q2, q3⟩ := h
    have : c = b := by have h0 := hν; rw [Nat.add_zero, q0] at h0; exact Option.some.inj h0
    subst this
    exact ⟨c, r, rfl, q0, q1, ⟨f, by simpa using w, pu, o, upd_same, ho⟩, Fms.away w (fun j hj z => by cases z; omega) q3⟩
  | k, 0, .val t :: fs, _, h, e1, _, _, _, _, _ => by simp at e1
  | k, j + 1, .val t :: fs, _, h, e1, hν, f, w, pu, ho => by
    simp only [Fms, List.set_cons_succ] at h ⊢
    obtain ⟨v, r, e2, p, q1, q2⟩ := h
    have hk : k + (j + 1) = k + 1 + j := by omega
    exact ⟨v, r, e2, p, q1, Fms.put q2 (by simpa using e1) (by rw [← hk]; exact hν) f (by rw [← hk]; exact w) pu ho⟩
  | k, j + 1, .own e0 m0 :: fs, _, h, e1, hν, f, w, pu, ho => by
    simp only [Fms, List.set_cons_succ] at h ⊢
    obtain ⟨c, r, e2, q0, q1, ⟨f1, w1, pu1, o1, h1, ho1⟩, q2⟩ := h
    have hk : k + (j + 1) = k + 1 + j := by omega
    refine ⟨c, r, e2, q0, q1, ⟨f1, w1, pu1, o1, ?_, ho1⟩, Fms.put q2 (by simpa using e1) (by rw [← hk]; exact hν) f (by rw [← hk]; exact w) pu ho⟩
    rw [upd_ne (fun z => by rw [z, w] at w1; simp only [Option.some.injEq, Prod.mk.injEq] at w1; omega)]
    exact h1
/-- a place gets another value -/
theorem Fms.setV {t : T} {v : V} (pu : t.pure = true) (r : Rp P G t v) : ∀ {k j : Nat} {fs : List FM} {vs : List V}, Fms P G H i k fs vs → Fms P G H i k (fs.set j (.val t)) (vs.set j v)
  | _, _, [], _, h => by simp only [Fms] at h; subst h; simp [Fms]
  | k, 0, .val t0 :: fs, _, h => by
    simp only [Fms] at h
    obtain ⟨w, r2, rfl, p, q1, q2⟩ := h
    simp only [List.set_cons_zero, Fms]
    exact ⟨v, r2, rfl, pu, r, q2⟩
  | k, 0, .own e m :: fs, _, h => by
    simp only [Fms] at h
    obtain ⟨w, r2, rfl, _, _, _, q2⟩ := h
    simp only [List.set_cons_zero, Fms]
    exact ⟨v, r2, rfl, pu, r, q2⟩
  | k, j + 1, .val t0 :: fs, _, h => by
    simp only [Fms] at h
    obtain ⟨w, r2, rfl, p, q1, q2⟩ := h
    simp only [List.set_cons_succ, Fms]
    exact ⟨w, _, rfl, p, q1, Fms.setV pu r q2⟩
  | k, j + 1, .own e m :: fs, _, h => by
    simp only [Fms] at h
    obtain ⟨w, r2, rfl, q0, q1, q3, q2⟩ := h
    simp only [List.set_cons_succ, Fms]
    exact ⟨w, _, rfl, q0, q1, q3, Fms.setV pu r q2⟩
theorem fmAt_get {fs : List FM} {k e : Nat} {m : M0} (h : fmAt fs k e = some m) : fs[k]? = some (.own e m) := by
  unfold fmAt at h
  split at h
  · rename_i e' m' e1
    split at h
    · rename_i z; subst z; cases h; exact e1
    · cases h
  · cases h
/-- the content of a list or dict of one's own changes -/
theorem Rel.mut {t : T} {v : V} {m : M0} (R : Rel P G st H) (r : Rp P G t v) (e : m0At st t = some m) :
    ∃ a o, v = .ref a ∧ H a = some o ∧ Ho0 P G a o m ∧ m.pure = true ∧ G.F a = none ∧ ∀ o' m', m'.pure = true → Ho0 P G a o' m' → Rel P G (putM st t m') (upd H a o') := by
  cases t with
  | cell i =>
    simp only [m0At] at e
    split at e
    · rename_i m1 e1
      cases e
      simp only [Rp] at r
      obtain ⟨a, rfl, e2⟩ := r
      obtain ⟨f, w, pu, o, e3, ho⟩ := (R.cel i _ a e1 e2 : Own1 P G H a (i, none) m)
      exact ⟨a, o, rfl, e3, ho, pu, f, fun o' m' pu' ho' => R.chg e1 e2 f w ⟨f, w, pu', o', upd_same, ho'⟩⟩
    · cases e
  | fld i k ed =>
    simp only [m0At] at e
    split at e
    · rename_i mo e1
      obtain ⟨b, hν, _, f, w, pu, o, e3, ho⟩ := R.fms e1 e
      simp only [Rp] at r
      obtain ⟨a, rfl, e2⟩ := r
      rw [hν] at e2; cases e2
      refine ⟨b, o, rfl, e3, ho, pu, f, fun o' m' pu' ho' => ?_⟩
      simp only [putM, e1]
      obtain ⟨a, ea, c⟩ := R.addr e1
      have eg := fmAt_get e
      cases mo with
      | rcl fs =>
        obtain ⟨f1, w1, vs, h1, q1⟩ := c
        refine R.chg e1 ea f w ⟨f1, w1, vs, ?_, Fms.put q1 eg (by rw [Nat.zero_add]; exact hν) f (by rw [Nat.zero_add]; exact w) pu' ho'⟩
        rw [upd_ne (fun z => by rw [z, w] at w1; cases w1)]; exact h1
      | ins cn ns fs =>
        obtain ⟨f1, w1, C, dx, vs, hm, h1, hl, q1⟩ := c
        refine R.chg e1 ea f w ⟨f1, w1, C, dx, vs, hm, ?_, hl, Fms.put q1 eg (by rw [Nat.zero_add]; exact hν) f (by rw [Nat.zero_add]; exact w) pu' ho'⟩
        rw [upd_ne (fun z => by rw [z, w] at w1; cases w1)]; exact h1
      | one m1 => simp [MO.fms] at eg
      | frz m1 => simp [MO.fms] at eg
    · cases e
  | _ => simp [m0At] at e
end
abbrev MF := M0 → List T → Option (T × M0)
def isL (st : Store) (t : T) : Bool := match m0At st t with | some (.lst _) => true | _ => false
/-- a list's method that changes it -/
def mMut (f : MF) (o : M T) (a : M (List T)) : M T := mBnd o fun t env st => if isL st t then (mBnd a fun ts _ st2 => match m0At st2 t with
  | some m => (match f m ts with | some (r, m') => if m'.pure then ok r (putM st2 t m') else none | none => none)
  | none => none) env st else none
section
variable {X : Cx} {W : WX} {σ : L2.St} {H : Hp} {Q : VK} {pins : List (Addr × Obj)} {s : Shared} {G : Gh} {st : Store}
theorem isL_ok {t : T} {v : V} (R : Rel (pxOf X) G st H) (r : Rp (pxOf X) G t v) (h : isL st t = true) : tyV X.K "list" v H := by
  unfold isL at h
  split at h
  · rename_i xs e
    obtain ⟨a, o, rfl, h1, ⟨vs, rfl, _⟩, _⟩ := R.mut r e
    exact .inl ⟨rfl, vs, SqL.of h1⟩
  · cases h
/-- what such a method does in the hand layer -/
def rMut (X : Cx) (f : MF) : V → List V → Hp → VK → Prop := fun x vs H Q => ∃ G st t ts m r m', Rel (pxOf X) G st H ∧ Rp (pxOf X) G t x ∧ Rps (pxOf X) G ts vs ∧ m0At st t = some m ∧ f m ts = some (r, m') ∧ m'.pure = true ∧
  ∀ G' H' v, G.Le G' → relT (pxOf X) G' (putM st t m') H' r v → Q v H'
theorem mMut_pre {f : MF} {mo : M T} {ma : M (List T)} (q : tM (pxOf X) W (mMut f mo ma) σ H Q) : tBM X.K "list" (rMut X f) (tM (pxOf X) W mo) (tMs (pxOf X) W ma) σ H Q := by
  refine (tG.bnd q).imp fun v H1 ⟨t, G, env, st, ⟨R, r⟩, E, q1⟩ => ?_
  split at q1
  · rename_i hL
    refine ⟨isL_ok R r hL, G, env, st, R, E, (Po.bnd q1).imp fun vs H2 ⟨G2, st2, ts, le2, ⟨R2, r2⟩, q2⟩ => ?_⟩
    dsimp only at q2
    split at q2
    · rename_i m e1
      split at q2
      · rename_i r' m' e2
        split at q2
        · rename_i pu
          exact ⟨G2, st2, t, ts, m, r', m', R2, r.mono le2, r2, e1, e2, pu, fun G' H' v le h => q2 G' H' v le h⟩
        · exact q2.elim
      · exact q2.elim
    · exact q2.elim
  · exact q1.elim
theorem mMut0_pre {f : MF} {mo : M T} (q : tM (pxOf X) W (mMut f mo mNil) σ H Q) : tBM0 X.K "list" (rMut X f) (tM (pxOf X) W mo) σ H Q := by
  have h := mMut_pre q
  refine h.imp fun v H1 ⟨ty, G, env, st, R, E, q1⟩ => ⟨ty, ?_⟩
  exact q1.okI ⟨R, Rps.nil⟩
theorem tBM_imp {r r' : V → List V → Hp → VK → Prop} {mo : M T} {ma : M (List T)} (i : ∀ x vs H Q, r x vs H Q → r' x vs H Q) (q : tBM X.K "list" r (tM (pxOf X) W mo) (tMs (pxOf X) W ma) σ H Q) : tBM X.K "list" r' (tM (pxOf X) W mo) (tMs (pxOf X) W ma) σ H Q :=
  tG.imp q fun v H1 ⟨ty, q1⟩ => ⟨ty, tG.imp q1 fun vs H2 q2 => i _ _ _ _ q2⟩
def fAppend : MF := fun m ts => match m, ts with | .lst xs, [x] => if xs.length < 1000000 then some (.non, .lst (xs ++ [x])) else none | _, _ => none
def fPop : MF := fun m ts => match m, ts with | .lst xs, [] => (xs[xs.length - 1]?).map fun x => (x, .lst xs.dropLast) | _, _ => none
def fPopAt : MF := fun m ts => match m, ts with
  | .lst xs, [.int i] => if -1000000000 ≤ i ∧ i < 1000000000 then (seqIndex? i xs.length).bind fun k => (xs[k]?).map fun x => (x, .lst (xs.eraseIdx k)) else none
  | _, _ => none
variable {o e : Expr} {mo : M T} {ms : M (List T)} {apos cpos : Pos}
theorem r_append : ∀ x vs H Q, rMut X fAppend x vs H Q → rAppend x vs H Q := fun x vs H Q ⟨G, st, t, ts, m, r, m', R, rt, rs, e1, e2, pu, q⟩ => by
  unfold fAppend at e2
  split at e2
  · rename_i xs y
    split at e2
    · rename_i hz
      cases e2
      obtain ⟨a, ob, rfl, h1, ⟨ws, rfl, r1⟩, _, _, k⟩ := R.mut rt e1
      obtain ⟨v, rfl, r2⟩ := Rps.one rs
      exact ⟨a, ws, v, rfl, rfl, h1, by rw [Rps.length r1, sizeLine_eq]; omega, q G _ _ (Gh.Le.refl G) ⟨k _ _ pu ⟨_, rfl, Rps.append r1 rs⟩, by simp [Rp]⟩⟩
    · cases e2
  · cases e2
theorem Rps.dropLast {P : PX} {G : Gh} {ts : List T} {vs : List V} (r : Rps P G ts vs) : Rps P G ts.dropLast vs.dropLast := by
  rw [List.dropLast_eq_take, List.dropLast_eq_take, Rps.length r]
  exact Rps.take _ r
theorem r_pop : ∀ x vs H Q, rMut X fPop x vs H Q → rPop x vs H Q := fun x vs H Q ⟨G, st, t, ts, m, r, m', R, rt, rs, e1, e2, pu, q⟩ => by
  unfold fPop at e2
  split at e2
  · rename_i xs
    cases e3 : xs[xs.length - 1]? with
    | none => rw [e3] at e2; cases e2
    | some y =>
      rw [e3] at e2
      cases e2
      obtain ⟨a, ob, rfl, h1, ⟨ws, rfl, r1⟩, _, _, k⟩ := R.mut rt e1
      obtain ⟨w, e4, r4⟩ := Rps.get r1 e3
      simp only [Rps] at rs
      exact ⟨a, ws, w, rfl, rs, h1, by rw [Rps.length r1]; exact e4, q G _ _ (Gh.Le.refl G) ⟨k _ _ pu ⟨_, rfl, Rps.dropLast r1⟩, r4⟩⟩
  · cases e2
theorem r_popAt : ∀ x vs H Q, rMut X fPopAt x vs H Q → rPopAt x vs H Q := fun x vs H Q ⟨G, st, t, ts, m, r, m', R, rt, rs, e1, e2, pu, q⟩ => by
  unfold fPopAt at e2
  split at e2
  · rename_i xs i
    split at e2
    · rename_i hi
      cases e5 : seqIndex? i xs.length with
      | none => rw [e5] at e2; cases e2
      | some j =>
        rw [e5] at e2
        simp only [Option.bind_some] at e2
        cases e3 : xs[j]? with
        | none => rw [e3] at e2; cases e2
        | some y =>
          rw [e3] at e2
          cases e2
          obtain ⟨a, ob, rfl, h1, ⟨ws, rfl, r1⟩, _, _, k⟩ := R.mut rt e1
          obtain ⟨w, e4, r4⟩ := Rps.get r1 e3
          obtain ⟨v, rfl, r2⟩ := Rps.one rs
          simp only [Rp] at r2; subst r2
          exact ⟨a, ws, i, j, w, rfl, rfl, h1, by omega, by omega, by rw [Rps.length r1]; exact e5, e4, q G _ _ (Gh.Le.refl G) ⟨k _ _ pu ⟨_, rfl, Rps.eraseIdx j r1⟩, r4⟩⟩
    · cases e2
  · cases e2
theorem se_append {ee : Expr} {me : M (List T)} (ho : SE X W o mo) (ha : SA X W [ee] me) (h1 : attributeBase o (Str.ofString "append") X.env (eval o X.env) = eval o X.env)
    (h2 : ((((backTo cpos (starEach [ee] X.env)).all fun x => !x.1) && (backToKw cpos (keywordEach [] X.env)).all fun x => x.1.isSome) && decide ((([ee] : List Expr).length + ([] : List Keyword).length + if ([] : List Keyword).isEmpty = true then 0 else 1) < 30)) = true) (h3 : (apos.endLine == cpos.line) = true)
    (h4 : starEach [ee] X.env = (false, eval ee X.env) :: starEach [] X.env) (h5 : ((backTo cpos (starEach [] X.env)).any fun x => x.1) = false) : SE X W (.Call (.Attribute o (Str.ofString "append") apos) [ee] [] cpos) (mMut fAppend mo me) :=
  pe_mono (pe_bm PySem.F.plainAttrs_list PySem.F.slot_list_append PySem.F.type_list_append mt_append ho ha h1 h2 h3 h4 h5) fun σ H Q q => tBM_imp r_append (mMut_pre q)
theorem se_popAt {ee : Expr} {me : M (List T)} (ho : SE X W o mo) (ha : SA X W [ee] me) (h1 : attributeBase o (Str.ofString "pop") X.env (eval o X.env) = eval o X.env)
    (h2 : ((((backTo cpos (starEach [ee] X.env)).all fun x => !x.1) && (backToKw cpos (keywordEach [] X.env)).all fun x => x.1.isSome) && decide ((([ee] : List Expr).length + ([] : List Keyword).length + if ([] : List Keyword).isEmpty = true then 0 else 1) < 30)) = true) (h3 : (apos.endLine == cpos.line) = true)
    (h4 : starEach [ee] X.env = (false, eval ee X.env) :: starEach [] X.env) (h5 : ((backTo cpos (starEach [] X.env)).any fun x => x.1) = false) : SE X W (.Call (.Attribute o (Str.ofString "pop") apos) [ee] [] cpos) (mMut fPopAt mo me) :=
  pe_mono (pe_bm PySem.F.plainAttrs_list PySem.F.slot_list_pop PySem.F.type_list_pop mt_popAt ho ha h1 h2 h3 h4 h5) fun σ H Q q => tBM_imp r_popAt (mMut_pre q)
theorem se_pop (ho : SE X W o mo) (h1 : attributeBase o (Str.ofString "pop") X.env (eval o X.env) = eval o X.env) (h3 : (apos.endLine == cpos.line) = true) : SE X W (.Call (.Attribute o (Str.ofString "pop") apos) [] [] cpos) (mMut fPop mo mNil) :=
  pe_mono (pe_bm0 PySem.F.plainAttrs_list PySem.F.slot_list_pop PySem.F.type_list_pop mt_pop ho h1 h3) fun σ H Q q => tG.imp (mMut0_pre q) fun v H1 ⟨ty, q1⟩ => ⟨ty, r_pop _ _ _ _ q1⟩
end
end PL
/-! o[i] = e -/
namespace PL
open PySem PySem.Spec PyProof.Rows L2

/-- a place's value changes -/
def rclSet (st : Store) (a b t : T) : Option Store :=
  match a, b with
  | .cell i, .int k => (match st[i]? with | some (.rcl fs) => (ixN fs.length k).bind fun j => if t.pure then some (st.set i (.rcl (fs.set j (.val t)))) else none | _ => none)
  | _, _ => none
def putIt (st : Store) (a b t : T) : Option Store :=
  match rclSet st a b t with
  | some st' => some st'
  | none => match m0At st a, b with
    | some (.lst xs), .int i => (ixN xs.length i).bind fun j => if T.pures (xs.set j t) then some (putM st a (.lst (xs.set j t))) else none
    | some (.dct ks vs), y => if y.dkey && decide (ks.length < 1000000) && y.pure && T.pures (dPut ks vs y t).2 && T.pures (dPut ks vs y t).1 then some (putM st a (.dct (dPut ks vs y t).1 (dPut ks vs y t).2)) else none
    | _, _ => none
section
variable {X : Cx} {W : WX} {σ : L2.St} {H : Hp} {pins : List (Addr × Obj)} {s : Shared} {G : Gh} {st : Store}
def tPut (X : Cx) : TSet := fun o i v H Q => ∃ G st a b t st', Rel (pxOf X) G st H ∧ Rp (pxOf X) G a o ∧ Rp (pxOf X) G b i ∧ Rp (pxOf X) G t v ∧ putIt st a b t = some st' ∧ ∀ G' H', G.Le G' → Rel (pxOf X) G' st' H' → Q H'
theorem put_any (hu : X.A.units + 16 < cLine) : PSet X (tPut X) := by
  intro pins s σ H o i v ov iv u Q I ro ri rv ⟨G, st, a, b, t, st', R, ra, rb, rt, e, q⟩
  unfold putIt at e
  split at e
  · rename_i st2 e1
    cases e
    unfold rclSet at e1
    split at e1
    · rename_i c k
      split at e1
      · rename_i fs e2
        cases e5 : ixN fs.length k with
        | none => rw [e5] at e1; cases e1
        | some j =>
          rw [e5] at e1
          simp only [Option.bind_some] at e1
          split at e1
          · rename_i pu
            cases e1
            simp only [Rp] at ra rb
            obtain ⟨p, rfl, e3⟩ := ra
            subst rb
            obtain ⟨f, w, vs, e4, fm⟩ := R.cel c _ p e2 e3
            refine set_list pins s σ H _ _ v ov iv u Q I ro ri rv ⟨p, vs, k, j, rfl, rfl, e4, by rw [fms_len fm]; exact e5, ?_⟩
            refine q G _ (Gh.Le.refl G) (R.chg e2 e3 f w ⟨f, w, vs.set j v, upd_same, ?_⟩)
            exact Fms.away w (fun _ _ => by simp) (Fms.setV pu rt fm)
          · cases e1
      · cases e1
    · cases e1
  · split at e
    · rename_i xs k e2 _
      cases e5 : ixN xs.length k with
      | none => rw [e5] at e; cases e
      | some j =>
        rw [e5] at e
        simp only [Option.bind_some] at e
        split at e
        · rename_i pu
          cases e
          obtain ⟨p, ob, rfl, h1, ⟨ws, rfl, r1⟩, _, _, mk⟩ := R.mut ra e2
          simp only [Rp] at rb
          subst rb
          exact set_list pins s σ H _ _ v ov iv u Q I ro ri rv ⟨p, ws, k, j, rfl, rfl, h1, by rw [Rps.length r1]; exact e5, q G _ (Gh.Le.refl G) (mk _ (.lst (xs.set j t)) pu ⟨_, rfl, Rps.set rt j r1⟩)⟩
        · cases e
    · rename_i ks vs e2 _
      split at e
      · rename_i hk
        simp only [Bool.and_eq_true, decide_eq_true_eq] at hk
        obtain ⟨⟨⟨⟨h1, h2⟩, h3⟩, h4⟩, h5⟩ := hk
        cases e
        obtain ⟨p, ob, rfl, e3, ho, _, _, mk⟩ := R.mut ra e2
        cases ro
        have hr : Rh (pxOf X) G H (.dct ks vs) (.ref p) := ⟨p, ob, rfl, e3, ho⟩
        obtain ⟨p', ka, ws, ep, d⟩ := hr.dat
        cases ep
        refine dt_setItem (by omega) I R.fro d h1 rb ri rt rv h2 fun s' o' I' ho' => ?_
        exact ⟨_, I', q G _ (Gh.Le.refl G) (mk o' (.dct _ _) (by simp [M0.pure, h4, h5]) ho')⟩
      · cases e
    · cases e
/-- the target o[i] -/
def gSet (mo mi : M T) : GM := fun t env st => match mo env st with
  | some (.ok a, st1) => (match mi env st1 with
    | some (.ok b, st2) => (putIt st2 a b t).map fun st3 => (env, st3)
    | _ => none)
  | _ => none
theorem sg_sub {o i : Expr} {mo mi : M T} {pos : Pos} (hu : X.A.units + 16 < cLine) (ho : SE X W0 o mo) (hi : SE X W0 i mi)
    (h : ∀ (v : Value), assign (o.Subscript i pos) X.env v = do
                let ov ← holding [v] (eval o X.env)
                let iv ← holding [v, ov] (eval i X.env)
                standAt pos
                holding [v, ov, iv] (setItem ov iv v)
                release [v, ov, iv] []) : SG X (.Subscript o i pos) (gSet mo mi) := by
  refine pg_mono (pg_sub ho hi (put_any hu) h) fun v σ H Q ⟨G, env, st, t, R, E, r, env', st', e, q⟩ => ?_
  unfold gSet at e
  split at e
  · rename_i a st1 e1
    split at e
    · rename_i b st2 e2
      cases e3 : putIt st2 a b t with
      | none => rw [e3] at e; cases e
      | some st3 =>
        rw [e3] at e
        cases e
        refine ⟨G, env, st, R, E, ?_⟩
        rw [e1]
        intro G1 H1 x le1 ⟨R1, r1⟩
        refine ⟨G1, env, st1, R1, E.mono le1, ?_⟩
        rw [e2]
        intro G2 H2 y le2 ⟨R2, r2⟩
        exact ⟨G2, st2, a, b, t, st', R2, r1.mono le2, r2, (r.mono le1).mono le2, e3, fun G' H' le' R' => q G' H' σ ((le1.trans le2).trans le') R' (E.mono ((le1.trans le2).trans le'))⟩
    · cases e
  · cases e
end
end PL
/-! sorting data: rows of tuples in which some are empty, too -/
namespace PL
open PySem PySem.Spec PySem.SeqAt PySem.W PyProof.Rows L2

section
variable {prog : Program} {w : World} {A : Around} {E : Value → Shared → Prop} {s : Shared}
theorem lt_call {Q : Value → Shared → Prop} {l b : Addr} {xs ys : Array Value} {e r : Nat → Bool} (hl : s.heap.IsTuple l xs) (hb : s.heap.IsTuple b ys)
    (he : ∀ j (h1 : j < xs.size) (h2 : j < ys.size), EqAt A.in1 s xs[j] ys[j] (e j)) (hr : ∀ j (h1 : j < xs.size) (h2 : j < ys.size), e j = false → RcLt A.in1 s xs[j] ys[j] (r j))
    (h : Q (.bool (firstLt e r (decide (xs.size < ys.size)) (List.range (min xs.size ys.size)))) s) : wpAny (model prog w) A (call (.builtin "tuple.__lt__") [.ref l, .ref b]) Q E s := by
  obtain ⟨⟨c1, d1, k1, sl1⟩, ho, hc, n1, hd⟩ := id hl
  obtain ⟨⟨c2, d2, k2, sl2⟩, ho2, hc2, n2, hd2⟩ := id hb
  simp only at hc hd hc2 hd2
  subst hc hd hc2 hd2
  exact call_meets F.slot_tuple_lt ⟨_, ho, rfl⟩ F.entry_tuple_lt (F.args_tuple_lt_2 _ _) (tuple_ltAt l b xs ys n1 n2 d1 d2 sl1 sl2 e r) ⟨ho, ho2, he, hr, h⟩
theorem one_tups {xs ys : List PyData} {a b : Value} {as bs : List Addr} {Q : Bool → Shared → Prop} (ra : Reads s.heap a (.tuple xs) as) (rb : Reads s.heap b (.tuple ys) bs) (hal : alikeAll xs ys = true)
    (hu : A.units + min (PyData.tuple xs).depth (PyData.tuple ys).depth < cLine) (hq : Q (dataLt (.tuple xs) (.tuple ys)) s) : wpAny (model prog w) A (oneLt' true a b) Q E s := by
  cases ra with
  | @tuple l o vs n _ as₁ h1 h2 h3 h4 =>
    cases rb with
    | @tuple l' o' vs' n' _ bs₁ k1 k2 k3 k4 =>
      have n1 : vs.size = xs.length := by simpa using ReadsAll.length _ _ _ h4
      have n2 : vs'.size = ys.length := by simpa using ReadsAll.length _ _ _ k4
      rw [dataLt_tuple, ← firstLt_toks xs ys hal, ← n1, ← n2] at hq
      rw [oneLt'_eq]
      simp only [if_true]
      refine wpAny_bind (wpAny_cRoomFor (room_here hu) ?_)
      have p1 : s.heap.IsTuple l vs := ⟨_, h1, h2, _, h3⟩
      have p2 : s.heap.IsTuple l' vs' := ⟨_, k1, k2, _, k3⟩
      refine wpAny_bind (wpAny_callSpecialIfBound?_slot (T := "tuple") ⟨_, h1, h2⟩ F.slot_tuple_lt (lt_call (e := pairEq xs ys) (r := fun j => dataLt (xs.getD j .none) (ys.getD j .none)) p1 p2 (fun j j1 j2 => ?_) (fun j j1 j2 hj => ?_) ?_))
      · have z := eqAt_alikeAll xs ys A.in1 s vs.toList vs'.toList _ _ h4 k4 hal (room_in hu) j (by simpa using j1) (by simpa using j2)
        simpa using z
      · have z := rcLt_alikeAll xs ys A.in1 s vs.toList vs'.toList _ _ h4 k4 hal (room_in hu) j (by simpa using j1) (by simpa using j2) hj
        simpa using z
      · exact wpAny_truthy_bool hq
/-- the first item, if any -/
def headO : PyData → Bool
  | .tuple (_ :: _) => true
  | _ => false
def isTupD : PyData → Bool
  | .tuple _ => true
  | _ => false
theorem firsts_go : ∀ {vs : List Value} {ds : List PyData} {Q : List (Option Value) → Shared → Prop}, EachIs (fun v d => ∃ as, Reads s.heap v d as) vs ds → (∀ d ∈ ds, isTupD d = true) →
    (∀ fs, fs.map Option.isSome = ds.map headO → Q fs s) → wpAny (model prog w) A (vs.mapM firstOfTuple') Q E s
  | _, _, Q, .nil, _, h => by rw [List.mapM_nil]; exact wpAny_pure (h [] rfl)
  | _, _, Q, .cons ⟨as, r⟩ e, ht, h => by
    rename_i v d vs ds
    have hd := ht d List.mem_cons_self
    cases d <;> simp [isTupD] at hd
    rename_i xs
    cases r with
    | @tuple l o ws n _ as₁ h1 h2 h3 h4 =>
      rw [List.mapM_cons]
      refine wpAny_bind ?_
      rw [kas_first_eq]
      refine wpAny_bind (Looks.here (show Looks (model prog w) s.heap (typeOf (.ref l)) o.cls from (Looks.ld h1).andThen .now) ?_)
      rw [h2, if_neg (by first | decide | simp)]
      refine wpAny_bind (listItems_at h1 h3 (wpAny_pure ?_))
      refine wpAny_bind (firsts_go e (fun d hd => ht d (List.mem_cons_of_mem _ hd)) fun fs hf => wpAny_pure (h _ ?_))
      rw [List.map_cons, List.map_cons, hf]
      congr 1
      have n1 : ws.size = xs.length := by simpa using ReadsAll.length _ _ _ h4
      cases xs with
      | nil => rw [Array.getElem?_eq_none (by rw [n1]; simp)]; rfl
      | cons x r => rw [Array.getElem?_eq_getElem (by rw [n1]; simp)]; rfl
theorem kind_mixed {vs : List Value} {ds : List PyData} {Q : SortKind → Shared → Prop} (e : EachIs (fun v d => ∃ as, Reads s.heap v d as) vs ds) (ht : ∀ d ∈ ds, isTupD d = true) {d0 : PyData} {ds0 : List PyData} (hds : ds = d0 :: ds0) (hx : ds.all headO = false)
    (h : Q (if headO d0 then general' else oneType') s) : wpAny (model prog w) A (keyKind' vs.toArray) Q E s := by
  rw [kat_kind_eq, List.mapM_toArray, map_eq_pure_bind]
  refine wpAny_bind (wpAny_bind (firsts_go e ht fun fs hf => wpAny_pure ?_))
  have hall : ¬ (fs.toArray.all fun x => x.isSome) = true := by
    have : (fs.all fun x => x.isSome) = ds.all headO := by
      have a1 : (fs.all fun x => x.isSome) = (fs.map Option.isSome).all id := by rw [List.all_map]; rfl
      have a2 : ds.all headO = (ds.map headO).all id := by rw [List.all_map]; rfl
      rw [a1, a2, hf]
    simp only [List.all_toArray]
    rw [this, hx]; decide
  rw [if_neg hall]
  have hl : fs.length = ds.length := by simpa using congrArg List.length hf
  obtain ⟨f0, fr, rfl⟩ : ∃ f0 fr, fs = f0 :: fr := by
    cases fs with
    | nil => rw [hds] at hl; simp at hl
    | cons a b => exact ⟨a, b, rfl⟩
  have h0 : f0.isSome = headO d0 := by rw [hds] at hf; simp at hf; exact hf.1
  have e0 : ((f0 :: fr).toArray[0]?.bind id) = f0 := by simp
  rw [e0, h0]
  cases hd : headO d0 with
  | true =>
    rw [hd] at h
    rw [if_pos rfl] at h ⊢
    exact wpAny_pure h
  | false =>
    rw [hd] at h
    rw [if_neg (by simp)] at h ⊢
    have hT : ∀ v ∈ vs, Looks (model prog w) s.heap (typeOf v) (.type "tuple") := fun v hv => by
      obtain ⟨d, hd, as, r⟩ := e.left v hv
      have := ht d hd
      cases d <;> simp [isTupD] at this
      cases r with
      | @tuple l o ws n _ as₁ h1 h2 h3 h4 => rw [← h2]; exact (Looks.ld h1).andThen .now
    obtain ⟨v1, vr, rfl⟩ : ∃ v1 vr, vs = v1 :: vr := by
      have := e.length
      cases vs with
      | nil => rw [hds] at this; simp at this
      | cons a b => exact ⟨a, b, rfl⟩
    rw [oneTypeOnly'_eq, List.mapM_toArray, map_eq_pure_bind]
    refine wpAny_bind (wpAny_bind (wpAny_bind (kas_mapM (r := Value.type "tuple") _ (fun v hv Q' hq => (hT v hv).here hq) (wpAny_pure ?_))))
    have hall : ((List.map (fun _ => Value.type "tuple") (v1 :: vr)).toArray.all fun x => x == Value.type "tuple") = true := by
      simp only [List.all_toArray, List.all_map, List.all_eq_true]
      intro _ _
      exact beq_self_eq_true _
    have h0 : (List.map (fun _ => Value.type "tuple") (v1 :: vr)).toArray[0]? = some (Value.type "tuple") := by simp
    rw [h0]
    simp only [hall, if_true]
    exact wpAny_pure (wpAny_pure h)
theorem sorts_tups {vs : List Value} {ds : List PyData} (e : EachIs (fun v d => ∃ as, Reads s.heap v d as) vs ds) (hal : AllAlike ds) (ht : ∀ d ∈ ds, isTupD d = true) (hu : ∀ d, d ∈ ds → A.units + d.depth < cLine) : SortsAt prog w A s (dataKind s.heap ds) vs := by
  cases hx : ds.all headO with
  | true =>
    refine SortsAt.data e hal (.inl fun d hd => ?_) hu
    have := List.all_eq_true.mp hx d hd
    unfold headO at this
    split at this
    · exact ⟨_, _, rfl⟩
    · cases this
  | false =>
    have room : ∀ {d d' : PyData}, d ∈ ds → A.units + min d.depth d'.depth < cLine := fun {d d'} hd => Nat.lt_of_le_of_lt (Nat.add_le_add_left (Nat.min_le_left _ _) _) (hu d hd)
    obtain ⟨d0, ds0, hds⟩ : ∃ d0 ds0, ds = d0 :: ds0 := by
      cases ds with
      | nil => simp at hx
      | cons a b => exact ⟨a, b, rfl⟩
    refine ⟨fun v hv => ?_, if headO d0 then general' else oneType', ?_, fun _ E Q hq => kind_mixed e ht hds hx hq⟩
    · obtain ⟨d, hd, as, r⟩ := e.left v hv
      exact ⟨_, dataKind_some hal hd r⟩
    · intro E x y a b Q ha hb hq
      obtain ⟨d, as, hd, ra, rfl⟩ := dataKind_inv ha
      obtain ⟨d', as', hd', rb, rfl⟩ := dataKind_inv hb
      have hdd := hal d hd d' hd'
      have t1 := ht d hd
      have t2 := ht d' hd'
      cases d <;> simp [isTupD] at t1
      cases d' <;> simp [isTupD] at t2
      rename_i xs ys
      cases hh : headO d0 with
      | true =>
        rw [if_pos rfl]
        exact oneLt_alike (f := false) (fun z => by cases z) ra rb hdd (fun z => by cases z) (room hd) hq
      | false =>
        rw [if_neg (by simp), keyLt'_oneType]
        exact one_tups ra rb (by simpa [alike] using hdd) (room hd) hq
end
end PL
/-! sorted(xs) -/
namespace PL
open PySem PySem.Spec PyProof.Rows L2
open PySem.W (EachIs)

/-- a ≤ b in Python's order of alike data -/
def T.leD (a b : T) : Bool := !PySem.W.dataLt b.data a.data
def T.alike (a b : T) : Bool := PySem.W.alike a.data b.data
/-- these can be sorted -/
def srtOk (ks : List T) : Bool := decide (ks.length ≤ 1000000) && ks.all (fun a => a.dat 60) && ks.all (fun a => ks.all fun b => a.alike b) && (ks.all (fun a => isTupD a.data) || ks.all fun a => !isTupD a.data && match a with | .non => false | _ => true)
def srtT (ts : List T) : List T := ts.mergeSort T.leD
theorem dataLe_T : (PySem.W.dataLe false T.data : T → T → Bool) = T.leD := by
  funext a b
  rw [PySem.W.dataLe_eq]; rfl
section
variable {X : Cx} {pins : List (Addr × Obj)} {σ : L2.St} {H : Hp} {s : Shared} {G : Gh} {st : Store} {Q : VK}
/-- a value stands for a tree -/
def StT (X : Cx) (G : Gh) (v : Value) (t : T) : Prop := ∃ x, RelV x v ∧ Rp (pxOf X) G t x
theorem each_of : ∀ {ts : List T} {xs : List V} {vs : List Value}, Rps (pxOf X) G ts xs → Vals xs vs → EachIs (StT X G) vs ts
  | [], _, _, r, rv => by simp only [Rps] at r; subst r; cases rv; exact .nil
  | t :: ts, _, _, r, rv => by
    simp only [Rps] at r
    obtain ⟨x, xs, rfl, r1, r2⟩ := r
    cases rv with
    | cons h1 h2 => exact .cons ⟨x, h1, r1⟩ (each_of r2 h2)
theorem of_each : ∀ {ts : List T} {vs : List Value}, EachIs (StT X G) vs ts → ∃ xs, Rps (pxOf X) G ts xs ∧ Vals xs vs
  | _, _, .nil => ⟨[], Rps.nil, .nil⟩
  | _, _, .cons ⟨x, h1, h2⟩ e => by
    obtain ⟨xs, r1, r2⟩ := of_each e
    exact ⟨x :: xs, Rps.cons h2 r1, .cons h1 r2⟩
theorem each_reads (I : Inv X pins σ H s) (R : Rel (pxOf X) G st H) : ∀ {ts : List T} {vs : List Value}, (∀ t ∈ ts, t.dat 60 = true) → EachIs (StT X G) vs ts → EachIs (fun v t => ∃ as, Reads s.heap v t.data as) vs ts
  | _, _, _, .nil => .nil
  | _, _, h, .cons ⟨x, h1, h2⟩ e => .cons (Dp.reads I _ _ _ (Rp.dp (P := pxOf X) R.fro 60 _ _ (h _ List.mem_cons_self) h2) h1) (each_reads I R (fun t ht => h t (List.mem_cons_of_mem _ ht)) e)
theorem each_data {h : Heap} : ∀ {ts : List T} {vs : List Value}, EachIs (fun v t => ∃ as, Reads h v t.data as) vs ts → EachIs (fun v d => ∃ as, Reads h v d as) vs (ts.map T.data)
  | _, _, .nil => .nil
  | _, _, .cons h1 e => .cons h1 (each_data e)
theorem srtOk_dat {ks : List T} (h : srtOk ks = true) : ∀ t ∈ ks, t.dat 60 = true := by
  simp only [srtOk, Bool.and_eq_true, List.all_eq_true] at h
  exact h.1.1.2
theorem srtOk_len {ks : List T} (h : srtOk ks = true) : ks.length ≤ 1000000 := by
  simp only [srtOk, Bool.and_eq_true, decide_eq_true_eq] at h
  exact h.1.1.1
theorem srtOk_alike {ks : List T} (h : srtOk ks = true) : PySem.W.AllAlike (ks.map T.data) := by
  simp only [srtOk, Bool.and_eq_true, List.all_eq_true] at h
  intro d hd d' hd'
  obtain ⟨a, ha, rfl⟩ := List.mem_map.mp hd
  obtain ⟨b, hb, rfl⟩ := List.mem_map.mp hd'
  exact h.1.2 a ha b hb
/-- what srtOk gives can be sorted in any state where they read so -/
theorem srt_at {prog : Program} {w : World} {A : Around} {s : Shared} {vs : List Value} {ks : List T} (h : srtOk ks = true) (e : EachIs (fun v t => ∃ as, Reads s.heap v t.data as) vs ks) (hu : A.units + 60 < cLine) :
    PySem.W.SortsAt prog w A s (PySem.W.dataKind s.heap (ks.map T.data)) vs := by
  have hd := srtOk_dat h
  have ha := srtOk_alike h
  have dp : ∀ d, d ∈ ks.map T.data → A.units + d.depth < cLine := fun d hm => by
    obtain ⟨a, hm2, rfl⟩ := List.mem_map.mp hm
    have := (dat_lay 60 a (hd a hm2)).2
    omega
  simp only [srtOk, Bool.and_eq_true, Bool.or_eq_true, List.all_eq_true] at h
  rcases h.2 with h | h
  · refine sorts_tups (each_data e) ha (fun d hm => ?_) dp
    obtain ⟨a, hm2, rfl⟩ := List.mem_map.mp hm
    exact h a hm2
  · refine PySem.W.SortsAt.data (each_data e) ha (.inr fun d hm => ?_) dp
    obtain ⟨a, hm2, rfl⟩ := List.mem_map.mp hm
    have h := h a hm2
    have dd := hd a hm2
    cases a <;> simp_all [T.data, isTupD, T.dat]
def sortedN : BN := fun st ts => match ts with
  | [t] => (match look st t with | .lst xs => if srtOk xs then some (.lst (srtT xs)) else none | _ => none)
  | _ => none
theorem bn_sorted (hu : X.A.units + 64 < cLine) : BnR X (.builtin "sorted") sortedN := by
  intro pins s σ H xs us Q I rv ⟨G, st, ts, t, R, r, e, q⟩
  unfold sortedN at e
  split at e
  · rename_i u
    obtain ⟨v, rfl, r1⟩ := Rps.one r
    split at e
    · rename_i ys e2
      split at e
      · rename_i hs
        cases e
        have h := look_ok R r1
        rw [e2] at h
        obtain ⟨a, ws, rfl, h1, rr⟩ := h
        rw [Vals.ref1 rv]
        obtain ⟨its, rv2, hl, hz⟩ := I.list (SqL.of h1)
        have ee := each_of rr rv2
        have er := each_reads I R (srtOk_dat hs) ee
        have er2 : EachIs (fun v t => ∃ as, Reads (PySem.W.sortingHeap (PySem.W.copyHeap s.heap its) (s.heap.objs.size + 1) its) v t.data as) its ys := er.mono fun _ _ ⟨as, r⟩ => ⟨as, PyProof.Rows.Reads.keeps (fun _ _ => PySem.W.sorting_copy_old) r⟩
        refine PySem.W.sorted_vals hl.isList (srt_at hs er2 (by show X.A.units + 1 + 1 + 60 < cLine; omega)) (by rw [← rv2.length]; exact hz) ?_
        have eo : EachIs (StT X G) (PySem.W.sortVals (PySem.W.dataKind (PySem.W.sortingHeap (PySem.W.copyHeap s.heap its) (s.heap.objs.size + 1) its) (ys.map T.data)) false its its) (srtT ys) := by
          have := PySem.W.sortVals_data (enc := T.data) (R := StT X G) false ee er2 (srtOk_alike hs)
          rw [dataLe_T] at this
          exact this
        obtain ⟨zs, r3, v3⟩ := of_each eo
        obtain ⟨ep, he'⟩ := PyProof.Rows.sortedAll_at s.heap its (List.toArray (PySem.W.sortVals (PySem.W.dataKind (PySem.W.sortingHeap (PySem.W.copyHeap s.heap its) (s.heap.objs.size + 1) its) (ys.map T.data)) false its its))
        have hlen : zs.length ≤ sizeLine := by
          rw [v3.length, PySem.W.sortVals_length false rfl, ← rv2.length]; exact hz
        have np : H (s.heap.objs.size + 1) = none := I.hok.fresh (Nat.le_succ _)
        exact ⟨.ref _, upd H (s.heap.objs.size + 1) (.lst zs), I.laid (t' := s.toks) (fun _ _ => PyProof.Rows.sortedAll_old) (Nat.le_succ _) ⟨hlen, _, ep, v3, he'⟩, rfl, new_n R q np ⟨zs, rfl, r3⟩⟩
      · cases e
    · cases e
  · cases e
end
end PL
/-! instances: made, read, written -/
namespace PL
open PySem PySem.Spec PyProof.Rows L2

def idxS (f : String) : List String → Option Nat
  | [] => none
  | n :: ns => if Str.ofString n = Str.ofString f then some 0 else (idxS f ns).map (· + 1)
theorem idxS_lookup {f : String} {β : Type} : ∀ {ns : List String} {vs : List β} {j : Nat}, ns.length = vs.length → idxS f ns = some j → ((ns.map Str.ofString).zip vs).lookup (Str.ofString f) = vs[j]?
  | [], _, _, _, h => by simp [idxS] at h
  | n :: ns, [], _, l, _ => by simp at l
  | n :: ns, v :: vs, j, l, h => by
    simp only [idxS] at h
    simp only [List.map_cons, List.zip_cons_cons]
    split at h
    · rename_i e
      cases h
      rw [List.lookup_cons, show (Str.ofString f == Str.ofString n) = true by rw [e]; simp]
      rfl
    · rename_i e
      cases e1 : idxS f ns with
      | none => rw [e1] at h; cases h
      | some k =>
        rw [e1] at h
        cases h
        rw [List.lookup_cons, show (Str.ofString f == Str.ofString n) = false by simp; exact fun z => e z.symm]
        simpa using idxS_lookup (by simpa using l) e1
/-- a class whose fields are plain -/
structure FldF (Y : Yd) (cn f : String) : Prop where
  ex : ∃ C, Y.mg (Str.ofString cn) = some (.ref C) ∧ Cls Y.K C ∧ NoAttr Y.K C (Str.ofString f)
/-- t.f, of one of the classes -/
def insAt (cs : List String) (st : Store) (t : T) : Option (Nat × String × List String × List FM) :=
  match t with
  | .cell i => (match st[i]? with | some (.ins cn ns fs) => if cs.contains cn then some (i, cn, ns, fs) else none | _ => none)
  | _ => none
def fldT (cs : List String) (f : String) (st : Store) (t : T) : Option T :=
  match insAt cs st t with
  | some (i, _, ns, fs) => (idxS f ns).bind fun j => (fs[j]?).map (fmT i j)
  | none => (match deref st t with
    | .obj cn ns fs => if cs.contains cn then (idxS f ns).bind fun j => fs[j]? else none
    | _ => none)
def mFld (cs : List String) (f : String) (m : M T) : M T := mBnd m fun t _ st => Res.ofO (fldT cs f st t) st
section
variable {X : Cx} {W : WX} {σ : L2.St} {H : Hp} {Q : VK} {pins : List (Addr × Obj)} {s : Shared} {G : Gh} {st : Store}
theorem insAt_ok {cs : List String} {t : T} {v : V} {i : Nat} {cn : String} {ns : List String} {fs : List FM} (R : Rel (pxOf X) G st H) (r : Rp (pxOf X) G t v) (e : insAt cs st t = some (i, cn, ns, fs)) :
    cn ∈ cs ∧ t = .cell i ∧ st[i]? = some (.ins cn ns fs) ∧ ∃ a, v = .ref a ∧ G.μ[i]? = some a ∧ CellOk (pxOf X) G H i a (.ins cn ns fs) := by
  unfold insAt at e
  split at e
  · rename_i k
    split at e
    · rename_i cn' ns' fs' e1
      split at e
      · rename_i hc
        cases e
        simp only [Rp] at r
        obtain ⟨a, rfl, e2⟩ := r
        exact ⟨by simpa using hc, rfl, e1, a, rfl, e2, R.cel i _ a e1 e2⟩
      · cases e
    · cases e
  · cases e
theorem se_fld {e : Expr} {m : M T} {pos : Pos} (cs : List String) (f : String) (he : SE X W e m) (hc : ∀ cn ∈ cs, FldF (ydOf X) cn f) (hb : attributeBase e (Str.ofString f) X.env (eval e X.env) = eval e X.env) : SE X W (.Attribute e (Str.ofString f) pos) (mFld cs f m) := by
  refine pe_mono (pe_fld he hb) fun σ H Q q => ?_
  refine (tG.bnd q).imp fun v H1 ⟨t, G, env, st, ⟨R, r⟩, E, q1⟩ => ?_
  obtain ⟨u, e1, q2⟩ := Po.ofO q1
  unfold fldT at e1
  split at e1
  · rename_i i cn ns fs e2
    obtain ⟨hm, rfl, e3, a, rfl, e4, c⟩ := insAt_ok R r e2
    obtain ⟨_, _, C, dx, vs, hC, h1, hl, fm⟩ := c
    cases e5 : idxS f ns with
    | none => rw [e5] at e1; cases e1
    | some j =>
      rw [e5] at e1
      simp only [Option.bind_some] at e1
      cases e6 : fs[j]? with
      | none => rw [e6] at e1; cases e1
      | some f0 =>
        rw [e6] at e1
        cases e1
        obtain ⟨w, e7, r7⟩ := fms_get fm e6
        obtain ⟨C', hC', cls, na⟩ := (hc cn hm).ex
        have : C' = C := by
          have hC' : X.mg (Str.ofString cn) = some (.ref C') := hC'
          have hC : X.mg (Str.ofString cn) = some (.ref C) := hC
          rw [hC] at hC'; cases hC'; rfl
        subst this
        rw [Nat.zero_add] at r7
        exact ⟨a, C', dx, _, w, rfl, h1, cls, na, by rw [idxS_lookup hl e5]; exact e7, q2.okI ⟨R, r7⟩⟩
  · split at e1
    · rename_i cn ns fs e2
      split at e1
      · rename_i hm
        have rd := deref_ok R r
        rw [e2] at rd
        simp only [Rp] at rd
        obtain ⟨a, C, dx, vs, rfl, hC, h1, hl, rr⟩ := rd
        cases e5 : idxS f ns with
        | none => rw [e5] at e1; cases e1
        | some j =>
          rw [e5] at e1
          simp only [Option.bind_some] at e1
          obtain ⟨w, e7, r7⟩ := Rps.get rr e1
          obtain ⟨C', hC', cls, na⟩ := (hc cn (by simpa using hm)).ex
          have : C' = C := by
            have hC' : X.mg (Str.ofString cn) = some (.ref C') := hC'
            have hC : X.mg (Str.ofString cn) = some (.ref C) := hC
            rw [hC] at hC'; cases hC'; rfl
          subst this
          exact ⟨a, C', dx, _, w, rfl, R.fro _ _ h1, cls, na, by rw [idxS_lookup hl e5]; exact e7, q2.okI ⟨R, r7⟩⟩
      · cases e1
    · cases e1
/-! ### o.f = e, e a value that stays -/
/-- the places with one more, or one another -/
def putN (f : String) (x : FM) (ns : List String) (fs : List FM) : Option (List String × List FM) := match idxS f ns with
    | some j => (match fs[j]? with | some (.val _) => some (ns, fs.set j x) | _ => none)
    | none => some (ns ++ [f], fs ++ [x])
def fldSet (cs : List String) (f : String) (st : Store) (o t : T) : Option Store :=
  match insAt cs st o with
  | some (i, cn, ns, fs) => if t.pure && decide (ns.length < 1000) then (putN f (.val t) ns fs).map fun p => st.set i (.ins cn p.1 p.2) else none
  | none => none
theorem idxS_putF {f : String} {v : V} : ∀ {ns : List String} {vs : List V} {j : Nat}, ns.length = vs.length → idxS f ns = some j → putF (Str.ofString f) v ((ns.map Str.ofString).zip vs) = (ns.map Str.ofString).zip (vs.set j v)
  | [], _, _, _, h => by simp [idxS] at h
  | n :: ns, [], _, l, _ => by simp at l
  | n :: ns, w :: vs, j, l, h => by
    simp only [idxS] at h
    simp only [List.map_cons, List.zip_cons_cons, putF]
    split at h
    · rename_i e
      cases h
      rw [if_pos e]; rfl
    · rename_i e
      rw [if_neg e]
      cases e1 : idxS f ns with
      | none => rw [e1] at h; cases h
      | some k =>
        rw [e1] at h
        cases h
        rw [idxS_putF (by simpa using l) e1]; rfl
theorem idxS_putF0 {f : String} {v : V} : ∀ {ns : List String} {vs : List V}, ns.length = vs.length → idxS f ns = none → putF (Str.ofString f) v ((ns.map Str.ofString).zip vs) = ((ns ++ [f]).map Str.ofString).zip (vs ++ [v])
  | [], [], _, _ => rfl
  | [], _ :: _, l, _ => by simp at l
  | n :: ns, [], l, _ => by simp at l
  | n :: ns, w :: vs, l, h => by
    simp only [idxS] at h
    simp only [List.map_cons, List.zip_cons_cons, putF]
    split at h
    · cases h
    · rename_i e
      rw [if_neg e]
      cases e1 : idxS f ns with
      | some k => rw [e1] at h; cases h
      | none => rw [idxS_putF0 (by simpa using l) e1]; rfl
theorem Fms.snoc {P : PX} {i : Nat} {t : T} {v : V} (pu : t.pure = true) (r : Rp P G t v) : ∀ {k : Nat} {fs : List FM} {vs : List V}, Fms P G H i k fs vs → Fms P G H i k (fs ++ [.val t]) (vs ++ [v])
  | k, [], vs, h => by
    simp only [Fms] at h
    subst h
    simp only [List.nil_append, Fms]
    exact ⟨v, [], rfl, pu, r, rfl⟩
  | k, .val u :: fs, vs, h => by
    simp only [Fms] at h
    obtain ⟨w, ws, rfl, p1, p2, p3⟩ := h
    simp only [List.cons_append, Fms]
    exact ⟨w, _, rfl, p1, p2, Fms.snoc pu r p3⟩
  | k, .own e m :: fs, vs, h => by
    simp only [Fms] at h
    obtain ⟨w, ws, rfl, p1, p2, p3, p4⟩ := h
    simp only [List.cons_append, Fms]
    exact ⟨w, _, rfl, p1, p2, p3, Fms.snoc pu r p4⟩
theorem fldSet_ok {cs : List String} {f : String} {o t : T} {x y : V} {st' : Store} (R : Rel (pxOf X) G st H) (ro : Rp (pxOf X) G o x) (rt : Rp (pxOf X) G t y) (hc : ∀ cn ∈ cs, FldF (ydOf X) cn f) (e : fldSet cs f st o t = some st') :
    ∃ a C dx fs, x = .ref a ∧ H a = some (.ins C dx fs) ∧ Cls X.K C ∧ NoAttr X.K C (Str.ofString f) ∧ fs.length < 1000 ∧ Rel (pxOf X) G st' (upd H a (.ins C dx (putF (Str.ofString f) y fs))) := by
  unfold fldSet at e
  split at e
  · rename_i i cn ns fs e2
    obtain ⟨hm, rfl, e3, a, rfl, e4, c⟩ := insAt_ok R ro e2
    obtain ⟨fa, wa, C, dx, vs, hC, h1, hl, fm⟩ := c
    split at e
    · rename_i hp
      simp only [Bool.and_eq_true, decide_eq_true_eq] at hp
      obtain ⟨pu, hn⟩ := hp
      obtain ⟨C', hC', cls, na⟩ := (hc cn hm).ex
      have : C' = C := by
        have hC' : X.mg (Str.ofString cn) = some (.ref C') := hC'
        have hC : X.mg (Str.ofString cn) = some (.ref C) := hC
        rw [hC] at hC'; cases hC'; rfl
      subst this
      refine ⟨a, C', dx, _, rfl, h1, cls, na, by simp [List.length_zip]; omega, ?_⟩
      unfold putN at e
      cases e5 : idxS f ns with
      | some j =>
        rw [e5] at e
        dsimp only at e
        split at e
        · cases e
          rw [idxS_putF hl e5]
          refine R.chg e3 e4 fa wa ⟨fa, wa, C', dx, vs.set j y, hC, upd_same, by simpa using hl, Fms.away wa (fun _ _ => by simp) (Fms.setV pu rt fm)⟩
        · cases e
      | none =>
        rw [e5] at e
        cases e
        rw [idxS_putF0 hl e5]
        refine R.chg e3 e4 fa wa ⟨fa, wa, C', dx, vs ++ [y], hC, upd_same, by simp [hl], Fms.away wa (fun _ _ => by simp) (Fms.snoc pu rt fm)⟩
    · cases e
  · cases e
def sFldSet (cs : List String) (f : String) (mo mv : M T) : SM := sE mv fun t => sE mo fun o env st => match fldSet cs f st o t with | some st' => some (.nx env, st') | none => none
theorem ss_fld {o value : Expr} {mo mv : M T} {pos pos' : Pos} (cs : List String) (f : String) (ho : SE X W o mo) (hv : SE X W value mv) (hc : ∀ cn ∈ cs, FldF (ydOf X) cn f) (hs : swapsWith value (some (o.Attribute (Str.ofString f) pos')) pos.line X.env = pure false) :
    SS X W (.Assign [.Attribute o (Str.ofString f) pos'] value pos) (sFldSet cs f mo mv) := by
  refine ps_mono (ps_fld ho hv hs) fun D σ H q => ?_
  refine (sE.run q).imp fun v H1 ⟨t, G, env, st, ⟨R, r⟩, E, q1⟩ => ?_
  have q2 : tS (pxOf X) W (sE mo fun o env st => match fldSet cs f st o t with | some st' => some (.nx env, st') | none => none) D σ H1 := ⟨G, env, st, R, E, q1⟩
  -- the value is still what it was
  refine ⟨G, env, st, R, E, ?_⟩
  unfold sE at q1
  cases e0 : mo env st with
  | none => rw [e0] at q1; exact q1.elim
  | some p =>
    obtain ⟨ra, st1⟩ := p
    rw [e0] at q1
    cases ra with
    | ex x => exact fun G' H' c d le R' x => q1 G' H' σ c d le R' (E.mono le) x
    | ok o1 =>
      intro G' H' b le ⟨R', rb⟩
      dsimp only at q1
      cases e1 : fldSet cs f st1 o1 t with
      | none => rw [e1] at q1; exact q1.elim
      | some st2 =>
        rw [e1] at q1
        obtain ⟨a, C, dx, fs, h1, h2, h3, h4, h5, h6⟩ := fldSet_ok R' rb (r.mono le) hc e1
        exact ⟨a, C, dx, fs, h1, h2, h3, h4, h5, q1 G' _ σ le h6 (E.mono le)⟩
end
end PL
/-! C(..), names of the module, calls by keyword -/
namespace PL
open PySem PySem.Spec PyProof.Rows L2

def allV : List FM → Option (List T)
  | [] => some []
  | .val t :: r => (allV r).map (t :: ·)
  | _ :: _ => none
section
variable {P : PX} {G : Gh} {st : Store} {H : Hp}
theorem allV_ok {i : Nat} : ∀ {k : Nat} {fs : List FM} {vs : List V} {ts : List T}, Fms P G H i k fs vs → allV fs = some ts → Rps P G ts vs ∧ T.pures ts = true
  | k, [], vs, ts, h, e => by
    simp [allV] at e; subst e
    simp only [Fms] at h; subst h
    exact ⟨Rps.nil, rfl⟩
  | k, .val t :: fs, vs, ts, h, e => by
    simp only [allV] at e
    cases e1 : allV fs with
    | none => rw [e1] at e; cases e
    | some r =>
      rw [e1] at e; cases e
      simp only [Fms] at h
      obtain ⟨v, w, rfl, pu, r1, h⟩ := h
      obtain ⟨a, b⟩ := allV_ok h e1
      exact ⟨Rps.cons r1 a, by simp [T.pures, pu, b]⟩
  | k, .own ed m :: fs, vs, ts, h, e => by simp [allV] at e
/-- an instance changes no more -/
theorem Rel.frzI {i : Nat} {a : Addr} {cn : String} {ns : List String} {fs : List FM} {ts : List T} (R : Rel P G st H) (e : st[i]? = some (.ins cn ns fs)) (ha : G.μ[i]? = some a) (hv : allV fs = some ts) :
    ∃ o, G.F a = none ∧ Rel P (G.frz a o) (st.set i (.frz (.obj cn ns ts))) H ∧ Rp P (G.frz a o) (.obj cn ns ts) (.ref a) ∧ T.pures ts = true := by
  obtain ⟨f, w, C, dx, vs, hC, h1, hl, fm⟩ := R.cel i _ a e ha
  obtain ⟨rs, pu⟩ := allV_ok fm hv
  have fl : ∀ x o, G.F x = some o → (G.frz a (.ins C dx ((ns.map Str.ofString).zip vs))).F x = some o := Gh.frz_f f
  have rp : Rp P (G.frz a (.ins C dx ((ns.map Str.ofString).zip vs))) (.obj cn ns ts) (.ref a) := by
    simp only [Rp]
    exact ⟨a, C, dx, vs, rfl, hC, upd_same, hl, Rps.pure fl pu rs⟩
  refine ⟨_, f, ⟨fun b x q => ?_, by rw [List.length_set]; exact R.len, R.nu, fun b x q => ⟨(R.lck b x q).1, (R.lck b x q).2.1, ?_⟩, fun j x b e1 e2 => ?_, fun b hb => (R.tab b hb).stay fl rfl (by show upd G.F a _ b = none; rw [upd_ne ((R.tab b hb).neO w)]; exact (R.tab b hb).f) (R.tab b hb).o (R.tab b hb).l⟩, rp, pu⟩
  · by_cases hb : b = a
    · subst hb
      rw [show (G.frz b _).F b = some _ from upd_same] at q
      cases q; exact h1
    · rw [show (G.frz a _).F b = G.F b from upd_ne hb] at q
      exact R.fro b x q
  · show upd G.F a _ b = none
    rw [upd_ne (fun z => by have := (R.lck b x q).2.1; rw [z, w] at this; cases this)]; exact (R.lck b x q).2.2
  · have e2 : G.μ[j]? = some b := e2
    by_cases hj : j = i
    · subst hj
      rw [ha] at e2; cases e2
      rw [List.getElem?_set_self (List.getElem?_eq_some_iff.mp e).1] at e1
      cases e1
      exact ⟨by rw [show (G.frz a _).F a = some _ from upd_same]; rfl, by simpa [T.pure] using pu, rp⟩
    · rw [List.getElem?_set_ne (Ne.symm hj)] at e1
      refine (R.cel j x b e1 e2).stay ⟨fl, fun _ _ => rfl, fun c q y wc hq fc hc => ⟨hc, ?_, wc⟩⟩
      show upd G.F a _ c = none
      rw [upd_ne (fun z => by rw [z, w] at wc; cases wc; exact hj hq.symm)]; exact fc
end
/-- what is left of a new instance: itself, or what it holds -/
def finMake (fz : Bool) (n : Nat) (st : Store) : Res T :=
  if fz then (match st[n]? with | some (.ins cn ns fs) => (match allV fs with | some ts => ok (.obj cn ns ts) (st.take n) | none => none) | _ => none)
  else ok (.cell n) st
def mMake (fz : Bool) (n : Nat) (cn : String) (sem : Sem1) (a : M (List T)) : M T := mBnd a fun ts _ st => if ts.length + 1 = n then (match sem (.cell st.length :: ts) (st ++ [.ins cn [] []]) with
  | some (.ok .non, st') => finMake fz st.length st'
  | _ => none) else none
structure MkF (Y : Yd) (k n : Nat) (cn : String) (sem : Sem1) : Prop where
  ex : ∃ C f fd ps, Y.mg (Str.ofString cn) = some (.ref C) ∧ Mk Y.K C f ∧ ps.length = n ∧ FnD Y k f fd ps sem
section
variable {X : Cx} {W : WX} {σ : L2.St} {H : Hp} {Q : VK} {pins : List (Addr × Obj)} {s : Shared} {G : Gh} {st : Store} {k n : Nat} {sem : Sem1} {cn : String} {p pos : Pos} {e : Expr} {es : List Expr} {ms : M (List T)}
theorem no_pass : Passes (L2.CX X.prog X.w) X (fun _ _ _ => False) := fun _ _ _ _ _ _ _ ⟨_, _, _, _, _, _, _, _, _, _, _, _, z⟩ => z.elim
theorem se_make (fz : Bool) (F : MkF (ydOf X) k n cn sem) (hr : Room (k + 1) X.A) (hg : Gl X (Str.ofString cn)) (ha : SA X W (e :: es) ms) (hdb : (Str.ofString cn == ("__debug__" : Str)) = false := by decide)
    (he : starEach (e :: es) X.env = (false, eval e X.env) :: starEach es X.env := by rfl) (hpl : (backTo pos (starEach es X.env)).any (·.1) = false := by rfl) : SE X W (.Call (.Name (Str.ofString cn) p) (e :: es) [] pos) (mMake fz n cn sem ms) := by
  obtain ⟨C, f, fd, ps, hC, mk, hn, D⟩ := F.ex
  subst hn
  have F0 : FnOk X.prog X.w X.K X.mg X.base (L2.CX X.prog X.w) k f fd ps (spF (pxOf X) ps.length sem) := D.ok
  refine pe_mono (pe_make mk F0 hr hg hC D.bd .nil no_pass ha hdb he hpl) fun σ H Q q => ?_
  refine (tG.bnd q).imp fun vs H1 ⟨ts, G, env, st, ⟨R, r⟩, E, q1⟩ => ?_
  split at q1
  · rename_i hl
    intro x dx nx ndx ne
    rw [List.append_nil]
    have lv := Rps.length r
    refine ⟨by simp [lv, hl], ?_⟩
    have R1 : Rel (pxOf X) G st (upd H1 dx (.own x)) := R.more ndx
    have nx1 : upd H1 dx (.own x) x = none := by rw [upd_ne (fun z => ne z.symm)]; exact nx
    have R2 : Rel (pxOf X) (G.cellNew x) (st ++ [.ins cn [] []]) (upd (upd H1 dx (.own x)) x (.ins C dx [])) := by
      refine R1.cellPush nx1 (fun a ha => upd_ne ha) ⟨R1.nofro nx1, ?_, C, dx, [], hC, upd_same, rfl, by simp [Fms]⟩
      show (if x = x then some (G.μ.length, none) else G.ow x) = some (st.length, none)
      rw [if_pos rfl, R.len]
    have le1 : G.Le (G.cellNew x) := Gh.cellNew_le
    have rc : Rp (pxOf X) (G.cellNew x) (.cell st.length) (.ref x) := by
      simp only [Rp]; exact ⟨x, rfl, by rw [R.len]; exact Gh.cellNew_at⟩
    refine ⟨G.cellNew x, st ++ [.ins cn [] []], .cell st.length :: ts, R2, Rps.cons rc (r.mono le1), ?_⟩
    split at q1
    · rename_i st' e0
      rw [e0]
      intro G' H' b le ⟨R', rb⟩
      simp only [Rp] at rb
      refine ⟨rb, ?_⟩
      have hat : G'.μ[st.length]? = some x := le.m _ _ (by rw [R.len]; exact Gh.cellNew_at)
      unfold finMake at q1
      split at q1
      · split at q1
        · rename_i cn' ns fs e3
          split at q1
          · rename_i us e4
            obtain ⟨o, fo, R3, rp, pu⟩ := R'.frzI e3 hat e4
            have lt : st.length ≤ st'.length := by
              have := (List.getElem?_eq_some_iff.mp e3).1; omega
            have R4 := R3.take (n := st.length) (by rw [List.length_set]; exact lt)
            rw [List.take_set_of_le (Nat.le_refl _)] at R4
            refine q1 _ H' _ (Gh.take_le ((le1.trans le).trans (Gh.frz_le fo)) R) ⟨R4, ?_⟩
            exact Rp.pure (G := G'.frz x o) (G' := (G'.frz x o).take st.length) (fun _ _ h => h) (by simpa [T.pure] using pu) rp
          · exact q1.elim
        · exact q1.elim
      · exact q1 G' H' _ (le1.trans le) ⟨R', by simp only [Rp]; exact ⟨x, rfl, hat⟩⟩
    · exact q1.elim
  · exact q1.elim
end
end PL
/-! names of the module, calls by keyword, calls without arguments -/
namespace PL
open PySem PySem.Spec PyProof.Rows L2

/-- a name of the module stands for a tree that stays -/
structure GlF (Y : Yd) (x : Str) (t : T) : Prop where
  ex : ∃ v u, Y.mg x = some u ∧ RelV v u ∧ ∀ G, Rp Y.px G t v
def pick {α : Type} (is : List Nat) (l : List α) : List α := is.filterMap fun i => l[i]?
theorem pick_vals {vs : List V} {us : List Value} (h : Vals vs us) : ∀ is : List Nat, Vals (pick is vs) (pick is us)
  | [] => .nil
  | i :: is => by
    unfold pick
    cases e : vs[i]? with
    | none =>
      have e2 : us[i]? = none := by
        rw [List.getElem?_eq_none_iff] at e ⊢; rw [← h.length]; exact e
      rw [List.filterMap_cons_none e, List.filterMap_cons_none e2]; exact pick_vals h is
    | some v =>
      obtain ⟨u, e2, r⟩ := h.get e
      rw [List.filterMap_cons_some e, List.filterMap_cons_some e2]; exact .cons r (pick_vals h is)
theorem pick_rps {P : PX} {G : Gh} {vs : List T} {us : List V} (h : Rps P G vs us) : ∀ is : List Nat, Rps P G (pick is vs) (pick is us)
  | [] => Rps.nil
  | i :: is => by
    unfold pick
    cases e : vs[i]? with
    | none =>
      have e2 : us[i]? = none := by
        rw [List.getElem?_eq_none_iff] at e ⊢; rw [Rps.length h]; exact e
      rw [List.filterMap_cons_none e, List.filterMap_cons_none e2]; exact pick_rps h is
    | some v =>
      obtain ⟨u, e2, r⟩ := Rps.get h e
      rw [List.filterMap_cons_some e, List.filterMap_cons_some e2]; exact Rps.cons r (pick_rps h is)
/-- a def called with np plain arguments and the keywords ks, that stand at the places is -/
structure KwF (Y : Yd) (k : Nat) (x : Str) (np : Nat) (ks : List Str) (is : List Nat) (n : Nat) (sem : Sem1) : Prop where
  ex : ∃ f fd ps, Y.mg x = some (.ref f) ∧ PySem.W.keepIn Y.K (.ref f) = true ∧ ps.length = n ∧
    (∀ (s : Shared) (us ws : List Value), Y.K.In s.heap → us.length = np → ws.length = ks.length → BindsTo s fd ⟨us, ks.zip ws⟩ (ps.zip (pick is (us ++ ws)))) ∧
    FnOk Y.prog Y.w Y.K Y.mg Y.base (L2.CX Y.prog Y.w) k f fd ps (spF Y.px n sem)
def mCallK (np nk n : Nat) (is : List Nat) (sem : Sem1) (a b : M (List T)) : M T := mBnd a fun ts => mBnd b fun us _ st => if ts.length = np ∧ us.length = nk ∧ (pick is (ts ++ us)).length = n then sem (pick is (ts ++ us)) st else none
section
variable {X : Cx} {W : WX} {k n np : Nat} {sem : Sem1} {x : Str} {p pos : Pos} {e : Expr} {es : List Expr} {ms mk : M (List T)} {kws : List Keyword} {ks : List Str} {is : List Nat} {σ : L2.St} {H : Hp} {Q : VK} {t : T}
theorem se_glob (F : GlF (ydOf X) x t) (hg : Gl X x) (hd : (x == ("__debug__" : Str)) = false := by decide) : SE X W (.Name x pos) (mC t) := by
  obtain ⟨v, u, hm, r, h⟩ := F.ex
  exact se_const (pe_glob hg hm r hd) h
def SK (X : Cx) (W : WX) (kws : List Keyword) (m : M (List T)) : Prop := PK X kws (tMs (pxOf X) W m)
theorem sk_nil : SK X W [] mNil := by
  have h := pk_nil (X := X)
  exact ⟨fun pos pins s σ H Q I q => h.run pos pins s σ H Q I (by obtain ⟨G, env, st, R, E, q⟩ := q; exact q.okI ⟨R, Rps.nil⟩)⟩
theorem sk_cons {nm : Option Str} {kpos : Pos} {m : M T} {mr : M (List T)} (ha : SE X W e m) (hr : SK X W kws mr) : SK X W (⟨nm, e, kpos⟩ :: kws) (mCons m mr) := by
  have h := pk_cons (nm := nm) (kpos := kpos) ha hr
  refine ⟨fun pos pins s σ H Q I q => h.run pos pins s σ H Q I ?_⟩
  refine (tG.bnd q).imp fun v H1 ⟨t, G, env, st, ⟨R1, r1⟩, E, q1⟩ => ?_
  refine ⟨G, env, st, R1, E, (Po.bnd q1).imp fun vs H2 ⟨G2, st2, ts, le, ⟨R2, r2⟩, q2⟩ => ?_⟩
  exact q2.okI ⟨R2, Rps.cons (r1.mono le) r2⟩
theorem run_kw {pins : List (Addr × Obj)} {s : Shared} {us ws : List Value} {vs zs : List V} (tk : Takes X W) {f : Addr} {fd : FuncData} {ps : List Str} (hl : ps.length = n)
    (hb : ∀ (s : Shared) (us ws : List Value), X.K.In s.heap → us.length = np → ws.length = ks.length → BindsTo s fd ⟨us, ks.zip ws⟩ (ps.zip (pick is (us ++ ws))))
    (F : FnOk X.prog X.w X.K X.mg X.base (L2.CX X.prog X.w) k f fd ps (spF (pxOf X) n sem)) (hr : Room k X.A) (I : Inv X pins σ H s) (r : Vals vs us) (rz : Vals zs ws) (l1 : us.length = np) (l2 : ws.length = ks.length)
    (h : spF (pxOf X) n sem (pick is (vs ++ zs)) H Q (WE W σ)) : wpAny (model X.prog X.w) X.A (call (.ref f) us (ks.zip ws)) (EP X pins σ Q) X.xe s := by
  refine wpAny_call (codeAny_mono (F.run X.A X.stack s H ⟨us, ks.zip ws⟩ (pick is (us ++ ws)) _ Q (WE W σ) hr I.env0 (hb s us ws I.kIn l1 l2) (pick_vals (r.append rz) is) h) fun r s' hq => ?_)
  match r, hq with
  | .error e, hq => exact passAt tk σ pins H s e s' I hq
  | .ok (.ret u), hq => exact I.after hq
  | .ok .next, hq => exact False.elim hq
  | .ok .brk, hq => exact False.elim hq
  | .ok .cont, hq => exact False.elim hq
theorem kw_pre {vs zs : List V} {ts us : List T} {G : Gh} {st : Store} (R : Rel (pxOf X) G st H) (r1 : Rps (pxOf X) G ts vs) (r2 : Rps (pxOf X) G us zs) (hn : (pick is (ts ++ us)).length = n) (q : Po (pxOf X) (relT (pxOf X)) G (WE W σ) (sem (pick is (ts ++ us)) st) Q) :
    spF (pxOf X) n sem (pick is (vs ++ zs)) H Q (WE W σ) := by
  have r := pick_rps (Rps.append r1 r2) is
  exact ⟨by rw [Rps.length r]; exact hn, G, st, _, R, r, q⟩
/-- f(k = v, ..) -/
theorem se_callK0 (F : KwF (ydOf X) k x 0 ks is n sem) (hr : Room k X.A) (tk : Takes X W) (hg : Gl X x) (hk : SK X W kws mk)
    (hall : (backToKw pos (keywordEach kws X.env)).all (·.1.isSome) = true := by rfl) (hks : (backToKw pos (keywordEach kws X.env)).filterMap (·.1) = ks := by rfl)
    (hpl : ((backTo pos (starEach [] X.env)).any (·.1) || (backToKw pos (keywordEach kws X.env)).any (·.1.isNone)) = false := by rfl)
    (hdb : (x == ("__debug__" : Str)) = false := by decide) :
    SE X W (.Call (.Name x p) [] kws pos) (mCallK 0 ks.length n is sem mNil mk) := by
  obtain ⟨f, fd, ps, hm, kp, hn, hb, F0⟩ := F.ex
  refine ⟨fun pins s σ H Q I q => ?_⟩
  have q1 : tMs (pxOf X) W mk σ H fun zs H2 => zs.length = ks.length ∧ spF (pxOf X) n sem (pick is ([] ++ zs)) H2 Q (WE W σ) := by
    refine (tG.bnd (m := mk) (rel := relTs (pxOf X)) (W := W) (k := fun us _ st => if ([] : List T).length = 0 ∧ us.length = ks.length ∧ (pick is ([] ++ us)).length = n then sem (pick is ([] ++ us)) st else none) q).imp fun zs H2 ⟨us, G, env, st, ⟨R, r⟩, E, q2⟩ => ?_
    split at q2
    · rename_i hc
      exact ⟨by rw [Rps.length r]; exact hc.2.1, kw_pre R Rps.nil r hc.2.2 q2⟩
    · exact q2.elim
  refine wpAny_Call_Name_kw (ld_glob I hg hm ?_ hdb)
  refine PySem.W.callWith_KW0 (h₀ := X.base) I.ok.mod.kin kp hall ?_ hpl
  refine thn (hk.run pos pins s σ H _ I q1) fun ws s1 ⟨zs, H1, I1, rz, hl, q2⟩ => ⟨I1.kIn, ?_⟩
  rw [hks]
  exact run_kw tk hn hb F0 hr I1 .nil rz rfl (by rw [← rz.length]; exact hl) q2
/-- f(e, .., k = v, ..) -/
theorem se_callK (F : KwF (ydOf X) k x np ks is n sem) (hr : Room k X.A) (tk : Takes X W) (hg : Gl X x) (ha : SA X W (e :: es) ms) (hk : SK X W kws mk)
    (hall : (backToKw pos (keywordEach kws X.env)).all (·.1.isSome) = true := by rfl) (hks : (backToKw pos (keywordEach kws X.env)).filterMap (·.1) = ks := by rfl)
    (hdb : (x == ("__debug__" : Str)) = false := by decide) (he : starEach (e :: es) X.env = (false, eval e X.env) :: starEach es X.env := by rfl)
    (hpl : ((backTo pos (starEach (e :: es) X.env)).any (·.1) || (backToKw pos (keywordEach kws X.env)).any (·.1.isNone)) = false := by rfl) :
    SE X W (.Call (.Name x p) (e :: es) kws pos) (mCallK np ks.length n is sem ms mk) := by
  obtain ⟨f, fd, ps, hm, kp, hn, hb, F0⟩ := F.ex
  refine ⟨fun pins s σ H Q I q => ?_⟩
  have q1 : tMs (pxOf X) W ms σ H fun vs H1 => tMs (pxOf X) W mk σ H1 fun zs H2 => vs.length = np ∧ zs.length = ks.length ∧ spF (pxOf X) n sem (pick is (vs ++ zs)) H2 Q (WE W σ) := by
    refine (tG.bnd q).imp fun vs H1 ⟨ts, G, env, st, ⟨R, r⟩, E, q2⟩ => ?_
    refine ⟨G, env, st, R, E, (Po.bnd q2).imp fun zs H2 ⟨G2, st2, us, le2, ⟨R2, r2⟩, q3⟩ => ?_⟩
    dsimp only at q3
    split at q3
    · rename_i hc
      exact ⟨by rw [Rps.length r]; exact hc.1, by rw [Rps.length r2]; exact hc.2.1, kw_pre R2 (r.mono le2) r2 hc.2.2 q3⟩
    · exact q3.elim
  refine wpAny_Call_Name_kw (ld_glob I hg hm ?_ hdb)
  refine PySem.W.callWith_KW (h₀ := X.base) I.ok.mod.kin kp hall (thn (ha.run pos pins s σ H _ I q1) fun us s1 ⟨vs, H1, I1, r, q2⟩ => ?_) hpl he
  refine thn (hk.run pos pins s1 σ H1 _ I1 q2) fun ws s2 ⟨zs, H2, I2, rz, l1, l2, q3⟩ => ⟨I2.kIn, ?_⟩
  rw [hks]
  exact run_kw tk hn hb F0 hr I2 r rz (by simp only [List.nil_append]; rw [← r.length]; exact l1) (by rw [← rz.length]; exact l2) q3
/-- f() -/
theorem se_call0 (F : FOk (ydOf X) k x 0 sem) (hr : Room k X.A) (tk : Takes X W) (hg : Gl X x) (hdb : (x == ("__debug__" : Str)) = false := by decide) : SE X W (.Call (.Name x p) [] [] pos) (mCall 0 sem mNil) := by
  obtain ⟨f, fd, ps, hm, hn, D⟩ := F
  refine ⟨fun pins s σ H Q I q => ?_⟩
  refine wpAny_Call_Name_kw (ld_glob I hg hm ?_ hdb)
  refine PySem.W.callWith_K0 I.kIn D.kp ?_
  have F0 : FnOk X.prog X.w X.K X.mg X.base (L2.CX X.prog X.w) k f fd ps (spF (pxOf X) ps.length sem) := D.ok
  refine run_fnS (E := WE W) F0 hr D.bd (passAt tk σ) I .nil ?_
  obtain ⟨G, env, st, R, E, q⟩ := q
  exact ⟨hn.symm, G, st, [], R, Rps.nil, q⟩
end
end PL
/-! more words: {}, membership in dicts, freezing, the law's deal, ways that are not taken -/
namespace PL
open PySem PySem.Spec PyProof.Rows L2

section
variable {X : Cx} {W : WX} {σ : L2.St} {H : Hp} {Q : VK} {pins : List (Addr × Obj)} {s : Shared} {G : Gh} {st : Store} {pos : Pos}
theorem sv (i : Nat) {x : Str} {pos : Pos} (hN : X.N[i]? = some x := by rfl) (hv : Vis X.env.scope x := by first | exact Or.inl rfl | exact Or.inr (Or.inl rfl) | exact Or.inr (Or.inr rfl)) (hd : (x == ("__debug__" : Str)) = false := by decide)
    (hcd : (x == ("__classdict__" : Str)) = false := by decide) : SE X W (.Name x pos) (mVar i) := se_var hN hv hd hcd
/-- a way that is not taken -/
def mNo {α : Type} : M α := fun _ _ => none
def sNo : SM := fun _ _ => none
theorem se_no {e : Expr} : SE X W e mNo := ⟨fun pins s σ H Q I ⟨G, env, st, R, E, q⟩ => q.elim⟩
theorem ss_no {e : Stmt} : SS X W e sNo := ⟨fun pins st σ H D I ⟨G, env, st, R, E, q⟩ => q.elim⟩
/-! ### {} -/
theorem dict_new {P : Program} {w : World} {H : Hp} (h : Heap) (hb : sysModules < h.objs.size) : ObjOk P w H (h.push { cls := .type "dict", data := .dict #[] }) h.objs.size (.ext (DictT w h.objs.size [] [] [])) := by
  have e : (h.push { cls := .type "dict", data := .dict #[] }).get? h.objs.size = some { cls := .type "dict", data := .dict #[] } := Heap.get?_push_size _ rfl
  refine ⟨⟨beq_eq_false_iff_ne.mpr (Ne.symm (Nat.ne_of_lt hb)), Nat.zero_le _, [], _, #[], 0, .nil, e, ⟨rfl, rfl, rfl⟩, rfl, rfl⟩, ⟨_, e⟩, fun h1 h2 ⟨a1, a2, us, o, es, ep, a3, a4, a5, a6, a7⟩ k => ⟨a1, a2, us, o, es, ep, a3, k _ a4, a5, a6, a7⟩⟩
theorem sn_dict0 : SEn X W (.Dict [] [] pos) (fun _ st => ok (.dct [] []) st) := by
  refine ⟨fun pins s σ H Q I q => ?_⟩
  obtain ⟨G, env, st, R, E, q⟩ := q
  have np : H s.heap.objs.size = none := I.hok.fresh (Nat.le_refl _)
  refine wpAny_Dict_empty ⟨.ref s.heap.objs.size, _, I.laid (a := s.heap.objs.size) (o := .ext (DictT X.w s.heap.objs.size [] [] [])) (t' := s.toks) (fun _ _ q => Heap.get?_push_of_some _ q) (Nat.le_refl _) (dict_new s.heap I.big), rfl, ?_⟩
  exact q.okI ⟨_, _, H, rfl, np, R, rfl, [], Rps.nil, [], rfl, Rps.nil, ⟨fun k hk => (by cases hk), List.nodup_nil⟩, rfl⟩
/-! ### in a dict, too -/
def inO2 (st : Store) (a b : T) : Option Bool := match look st b with | .dct ks _ => if a.dkey then some (dHas ks a) else none | _ => inO st a b
def inA (st : Store) (a b : T) : Option T := (inO2 st a b).map .bl
def ninA (st : Store) (a b : T) : Option T := (inO2 st a b).map fun c => .bl (!c)
theorem op2_inA (hu : X.A.units + 66 < cLine) : Op2 X (compareOp .In) inA := by
  intro pins s σ H x y v u Q G st a b t I rx ry R ra rb e q
  unfold inA inO2 at e
  split at e
  · rename_i ks vs hb
    split at e
    · rename_i hk
      cases e
      have rb' := look_ok R rb
      rw [hb] at rb'
      obtain ⟨p, ka, ws, rfl, d⟩ := rb'.dat
      cases ry
      exact dt_in (by omega) I R.fro d hk ra rx fun s' I' => ⟨.bl _, H, I', rfl, q G H _ (Gh.Le.refl G) ⟨R, by simp [Rp]⟩⟩
    · cases e
  · exact op2_in hu pins s σ H x y v u Q G st a b t I rx ry R ra rb e q
theorem op2_ninA (hu : X.A.units + 66 < cLine) : Op2 X (compareOp .NotIn) ninA := by
  intro pins s σ H x y v u Q G st a b t I rx ry R ra rb e q
  unfold ninA inO2 at e
  split at e
  · rename_i ks vs hb
    split at e
    · rename_i hk
      cases e
      have rb' := look_ok R rb
      rw [hb] at rb'
      obtain ⟨p, ka, ws, rfl, d⟩ := rb'.dat
      cases ry
      exact dt_notIn (by omega) I R.fro d hk ra rx fun s' I' => ⟨.bl _, H, I', rfl, q G H _ (Gh.Le.refl G) ⟨R, by simp [Rp]⟩⟩
    · cases e
  · exact op2_nin hu pins s σ H x y v u Q G st a b t I rx ry R ra rb e q
/-! ### a list or dict of one's own that changes no more -/
def frzT (t : T) (st : Store) : T × Store := match t with
  | .cell i => (match st[i]? with | some (.one m) => (m.t, st.set i (.frz m.t)) | some (.frz u) => (u, st) | _ => (t, st))
  | t => (t, st)
def mFrz (m : M T) : M T := mBnd m fun t _ st => ok (frzT t st).1 (frzT t st).2
theorem frz_ok {t : T} {v : V} (R : Rel (pxOf X) G st H) (r : Rp (pxOf X) G t v) : ∃ G', G.Le G' ∧ Rel (pxOf X) G' (frzT t st).2 H ∧ Rp (pxOf X) G' (frzT t st).1 v := by
  unfold frzT
  split
  · rename_i i
    split
    · rename_i m e
      simp only [Rp] at r
      obtain ⟨a, rfl, e2⟩ := r
      obtain ⟨f, w, pu, o, e3, ho⟩ := (R.cel i _ a e e2 : Own1 (pxOf X) G H a (i, none) m)
      have le := Gh.frz_le (o := o) f
      have rp : Rp (pxOf X) (G.frz a o) m.t (.ref a) := (ho.mono le).rp upd_same
      have pt : m.t.pure = true := by cases m <;> simpa [M0.pure, M0.t, T.pure] using pu
      exact ⟨G.frz a o, le, R.freeze e e2 e3 pt rp, rp⟩
    · rename_i u e
      simp only [Rp] at r
      obtain ⟨a, rfl, e2⟩ := r
      exact ⟨G, Gh.Le.refl G, R, (R.cel i _ a e e2).2.2⟩
    · exact ⟨G, Gh.Le.refl G, R, r⟩
  · exact ⟨G, Gh.Le.refl G, R, r⟩
theorem se_frz {e : Expr} {m : M T} (h : SE X W e m) : SE X W e (mFrz m) := by
  refine pe_mono h fun σ H Q q => ?_
  refine (tG.bnd q).imp fun v H1 ⟨t, G, env, st, ⟨R, r⟩, E, q1⟩ => ?_
  obtain ⟨G', le, R', r'⟩ := frz_ok R r
  exact q1 G' H1 v le ⟨R', r'⟩
/-! ### [[..], n]: a list whose first place is a list of its own -/
def mDeal (mn : M M0) (i : Nat) : M T := mBnd mn fun x env st => match env[i]? with
  | some (some (.int k)) => if x.pure then ok (.cell st.length) (st ++ [.rcl [.own 0 x, .val (.int k)]]) else none
  | _ => none
/-- the ghost with a new list cell whose first place is a list of its own -/
def Gh.deal (G : Gh) (D p : Addr) : Gh := { G with μ := G.μ ++ [D], ν := fun i k e => if i = G.μ.length ∧ k = 0 ∧ e = 0 then some p else G.ν i k e, ow := fun a => if a = D then some (G.μ.length, none) else if a = p then some (G.μ.length, some 0) else G.ow a }
theorem Rel.deal {P : PX} {D p : Addr} {o : HO} {m : M0} {H : Hp} {k : Int} (R : Rel P G st H) (np : H p = none) (nD : upd H p o D = none) (pu : m.pure = true) (ho : Ho0 P G p o m) :
    G.Le (G.deal D p) ∧ Rel P (G.deal D p) (st ++ [.rcl [.own 0 m, .val (.int k)]]) (upd (upd H p o) D (.lst [.ref p, .int k])) := by
  have hpD : p ≠ D := fun z => by rw [z, upd_same] at nD; cases nD
  have nDH : H D = none := by rw [upd_ne hpD.symm] at nD; exact nD
  have far : ∀ {b : Addr} {x : HO}, H b = some x → b ≠ D ∧ b ≠ p := fun {b x} e => ⟨fun z => (by rw [z, nDH] at e; cases e), fun z => (by rw [z, np] at e; cases e)⟩
  have keep : ∀ {b : Addr} {x : HO}, H b = some x → upd (upd H p o) D (.lst [.ref p, .int k]) b = some x := fun {b x} e => by
    rw [upd_ne (far e).1, upd_ne (far e).2]; exact e
  have mu : ∀ (i : Nat) (a : Addr), G.μ[i]? = some a → (G.μ ++ [D])[i]? = some a := fun i a e => by
    rw [List.getElem?_append_left (List.getElem?_eq_some_iff.mp e).1]; exact e
  have nun : ∀ i k e a, G.ν i k e = some a → (if i = G.μ.length ∧ k = 0 ∧ e = 0 then some p else G.ν i k e) = some a := fun i k e a h => by
    rw [if_neg (fun z => by rw [R.nu i k e (by omega)] at h; cases h)]; exact h
  have le : G.Le (G.deal D p) := ⟨⟨fun _ _ h => h, mu, nun⟩, fun _ _ h => h⟩
  have tb : ∀ b, P.TabAt b → b ≠ D ∧ b ≠ p := fun b hb => ⟨(R.tab b hb).ne nDH, (R.tab b hb).ne np⟩
  refine ⟨le, fun a x e => keep (R.fro a x e), by simp [R.len, Gh.deal], fun i k e hi => ?_, fun a x e => ?_, fun i x a e1 e2 => ?_, fun b hb => (R.tab b hb).stay (fun _ _ h => h) (by rw [upd_ne (tb b hb).1, upd_ne (tb b hb).2]) (R.tab b hb).f (by show (if b = D then _ else if b = p then _ else G.ow b) = none; rw [if_neg (tb b hb).1, if_neg (tb b hb).2]; exact (R.tab b hb).o) (R.tab b hb).l⟩
  · have hi : G.μ.length + 1 ≤ i := by simpa [Gh.deal] using hi
    show (if i = G.μ.length ∧ k = 0 ∧ e = 0 then some p else G.ν i k e) = none
    rw [if_neg (by omega)]; exact R.nu i k e (by omega)
  · have l := R.lck a x e
    refine ⟨keep l.1, ?_, l.2.2⟩
    show (if a = D then _ else if a = p then _ else G.ow a) = none
    rw [if_neg (far l.1).1, if_neg (far l.1).2]; exact l.2.1
  · by_cases hi : i < st.length
    · rw [List.getElem?_append_left hi] at e1
      have e2 : (G.μ ++ [D])[i]? = some a := e2
      rw [List.getElem?_append_left (by rw [← R.len]; exact hi)] at e2
      refine CellOk.stay (G := G) (H := H) ⟨fun _ _ h => h, fun k e => ?_, fun b q y w _ f hb => ⟨keep hb, f, ?_⟩⟩ (R.cel i x a e1 e2)
      · show (if i = G.μ.length ∧ k = 0 ∧ e = 0 then some p else G.ν i k e) = _
        rw [if_neg (by rw [R.len] at hi; omega)]
      · show (if b = D then _ else if b = p then _ else G.ow b) = some q
        rw [if_neg (far hb).1, if_neg (far hb).2]; exact w
    · have hl : i = st.length := by
        have := (List.getElem?_eq_some_iff.mp e1).1
        rw [List.length_append] at this; simp at this; omega
      subst hl
      rw [List.getElem?_append_right (Nat.le_refl _)] at e1
      simp at e1
      subst e1
      have e2 : (G.μ ++ [D])[st.length]? = some a := e2
      rw [R.len, List.getElem?_append_right (Nat.le_refl _)] at e2
      simp at e2
      subst e2
      refine ⟨R.nofro nDH, ?_, [.ref p, .int k], upd_same, ?_⟩
      · show (if D = D then some (G.μ.length, none) else _) = some (st.length, none)
        rw [if_pos rfl, R.len]
      · simp only [Fms]
        refine ⟨p, [.int k], rfl, ?_, fun e' he => ?_, ⟨R.nofro np, ?_, pu, o, ?_, ho.mono le⟩, .int k, [], rfl, rfl, by simp [Rp], rfl⟩
        · show (if st.length = G.μ.length ∧ 0 = 0 ∧ 0 = 0 then some p else _) = some p
          rw [if_pos ⟨R.len, rfl, rfl⟩]
        · show (if st.length = G.μ.length ∧ 0 = 0 ∧ e' = 0 then some p else G.ν st.length 0 e') = none
          rw [if_neg (by omega)]; exact R.nu _ _ _ (by rw [R.len]; exact Nat.le_refl _)
        · show (if p = D then _ else if p = p then some (G.μ.length, some 0) else _) = some (st.length, some 0)
          rw [if_neg hpD, if_pos rfl, R.len]
        · rw [upd_ne hpD, upd_same]
theorem se_deal {e : Expr} {mn : M M0} (i : Nat) {x : Str} {p1 : Pos} (h : SEn X W e mn) (hN : X.N[i]? = some x) (hv : Vis X.env.scope x) (hd : (x == ("__debug__" : Str)) = false) (hcd : (x == ("__classdict__" : Str)) = false)
    (h1 : starEach [e, .Name x p1] X.env = (false, eval e X.env) :: starEach [.Name x p1] X.env) (h2 : starEach [.Name x p1] X.env = (false, eval (.Name x p1) X.env) :: starEach [] X.env) : SE X W (.List [e, .Name x p1] pos) (mDeal mn i) := by
  refine pe_mono (pe_lst (pa_cons h (pa_cons (pe_var (i := i) hN hv hd hcd) pa_nil h2) h1)) fun σ H Q q => ?_
  refine (tG.bnd q).imp fun v H1 ⟨m, G, env, st, r, E, q1⟩ => ?_
  obtain ⟨p, o, H2, rfl, np, R, rfl, ho⟩ := r
  split at q1
  · rename_i k ek
    split at q1
    · rename_i pu
      obtain ⟨w, ew, rw'⟩ := E.2 i _ ek
      simp only [Rp] at rw'
      subst rw'
      refine ⟨.int k, ew, by show 2 ≤ sizeLine; rw [sizeLine_eq]; omega, fun D nD => ?_⟩
      obtain ⟨le, R'⟩ := R.deal (D := D) (k := k) np nD pu ho
      refine q1 _ _ _ le ⟨R', ?_⟩
      simp only [Rp]
      refine ⟨D, rfl, ?_⟩
      show (G.μ ++ [D])[st.length]? = some D
      rw [R.len]; simp
    · exact q1.elim
  · exact q1.elim
/-- x[::-1], the new list as such -/
def revN (st : Store) (t : T) : Option M0 := match look st t with | .lst xs => some (.lst xs.reverse) | _ => none
def mRevN (m : M T) : M M0 := mBnd m fun t _ st => Res.ofO (revN st t) st
theorem sn_rev {e : Expr} {m : M T} {k : Nat} {p1 p3 p4 : Pos} (he : SE X W e m) : SEn X W (.Subscript e (.Slice none none (some (.UnaryOp .USub (.Constant (.int 1) k p1) p3)) p4) pos) (mRevN m) := by
  refine pe_mono (pe_revL he) fun σ H Q q => ?_
  refine (tG.bnd q).imp fun v H1 ⟨t, G, env, st, ⟨R, r⟩, E, q1⟩ => ?_
  obtain ⟨t2, e4, q4⟩ := Po.ofO q1
  unfold revN at e4
  split at e4
  · rename_i xs e2
    have h := look_ok R r
    rw [e2] at h
    cases e4
    obtain ⟨p, vs, rfl, h1, h2⟩ := h
    exact ⟨p, vs, rfl, SqL.of h1, fun p np => new_n R (fun G' H' r le q => q4 G' H' r le q) np ⟨_, rfl, Rps.reverse h2⟩⟩
  · cases e4
end
end PL
/-! list(text), list(range(..)), targets within comprehensions, import short forms -/
namespace PL
open PySem PySem.Spec PyProof.Rows L2

section
variable {X : Cx} {W : WX} {σ : L2.St} {H : Hp} {Q : VK} {pins : List (Addr × Obj)} {s : Shared} {G : Gh} {st : Store} {pos p : Pos}
/-! ### list(range(..)) -/
def relR (P : PX) : Gh → Store → Hp → Int × Int → Int × Int → Prop := fun G st H a b => Rel P G st H ∧ a = b
def mRg1 (m : M T) : M (Int × Int) := mBnd m fun t _ st => match t with | .int j => ok (0, j) st | _ => none
def mRg2 (a b : M T) : M (Int × Int) := mBnd a fun x => mBnd b fun y _ st => match x, y with | .int i, .int j => ok (i, j) st | _, _ => none
def tR (X : Cx) (W : WX) (m : M (Int × Int)) : L2.St → Hp → (Int → Int → Hp → Prop) → Prop := fun σ H Q => tG (pxOf X) (relR (pxOf X)) W m σ H fun ab H' => Q ab.1 ab.2 H'
def mListRg (m : M (Int × Int)) : M M0 := mBnd m fun ab _ st => if -1000000 ≤ ab.1 ∧ ab.1 ≤ 1000000 ∧ -1000000 ≤ ab.2 ∧ ab.2 ≤ 1000000 then ok (.lst (rangeT ab.1 ab.2)) st else none
theorem range_rps {a b : Int} : Rps (pxOf X) G (rangeT a b) (rgV a b) := by
  unfold rangeT rgV
  generalize (b - a).toNat = n
  suffices h : ∀ l : List Nat, Rps (pxOf X) G (l.map fun i => T.int (a + (i : Nat))) (l.map fun i => V.int (a + (i : Nat))) from h _
  intro l
  induction l with
  | nil => exact Rps.nil
  | cons x r ih => exact Rps.cons (by simp [Rp]) ih
theorem sn_listRg {e : Expr} {m : M (Int × Int)} (hc : X.calm = true) (hg : Gl X "list") (hm : X.mg "list" = none) (he : PRg X e (tR X W m)) (na : starEach [e] X.env = (false, eval e X.env) :: starEach [] X.env) : SEn X W (.Call (.Name "list" p) [e] [] pos) (mListRg m) := by
  refine pe_mono (pe_listRg hc hg hm he na) fun σ H Q q => ?_
  refine (tG.bnd q).imp fun ab H1 ⟨xy, G, env, st, ⟨R, e1⟩, E, q1⟩ => ?_
  subst e1
  split at q1
  · rename_i hh
    refine ⟨⟨by omega, by omega, by omega, by omega, by omega⟩, fun D nD => ?_⟩
    exact q1 G _ _ (Gh.Le.refl G) ⟨D, _, H1, rfl, nD, R, rfl, _, rfl, range_rps⟩
  · exact q1.elim
theorem sr_1 {a : Expr} {m : M T} (hg : Gl X "range") (hm : X.mg "range" = none) (ha : SE X W a m) (na : starEach [a] X.env = (false, eval a X.env) :: starEach [] X.env) : PRg X (.Call (.Name "range" p) [a] [] pos) (tR X W (mRg1 m)) := by
  intro pins s σ H Q I q
  refine prg_1 hg hm ha na pins s σ H Q I ?_
  refine (tG.bnd q).imp fun v H1 ⟨t, G, env, st, ⟨R, r⟩, E, q1⟩ => ?_
  split at q1
  · rename_i j
    simp only [Rp] at r
    exact ⟨j, r, q1 G H1 (0, j) (Gh.Le.refl G) ⟨R, rfl⟩⟩
  · exact q1.elim
theorem sr_2 {a b : Expr} {ma mb : M T} (hg : Gl X "range") (hm : X.mg "range" = none) (ha : SE X W a ma) (hb : SE X W b mb) (na : starEach [a, b] X.env = (false, eval a X.env) :: starEach [b] X.env)
    (nb : starEach [b] X.env = (false, eval b X.env) :: starEach [] X.env) (hp : (backTo pos (starEach [b] X.env)).any (·.1) = false) : PRg X (.Call (.Name "range" p) [a, b] [] pos) (tR X W (mRg2 ma mb)) := by
  intro pins s σ H Q I q
  refine prg_2 hg hm ha hb na nb hp pins s σ H Q I ?_
  refine (tG.bnd q).imp fun v H1 ⟨t, G, env, st, ⟨R, r⟩, E, q1⟩ => ?_
  refine ⟨G, env, st, R, E, (Po.bnd q1).imp fun w H2 ⟨G2, st2, u, le, ⟨R2, r2⟩, q2⟩ => ?_⟩
  dsimp only at q2
  split at q2
  · rename_i i j _
    have r := r.mono le
    simp only [Rp] at r r2
    exact ⟨i, j, r, r2, q2 G2 H2 (i, j) (Gh.Le.refl G2) ⟨R2, rfl⟩⟩
  · exact q2.elim
/-! ### list(x), x a text, too -/
def listS (st : Store) (ts : List T) : Option M0 := match ts with
  | [.str z] => if z.length ≤ 1000000 then some (.lst (signs z)) else none
  | ts => listN st ts
/-! ### targets within comprehensions -/
def SGts (X : Cx) (tg : List Expr) (l : List Tg) : Prop := PGs X tg (Tg.rds X.K l)
theorem sgt_var {i : Nat} {x : Str} (hN : X.N.Nodup) (hi : X.N[i]? = some x) (hx : Loc X.env.scope x) (hf : X.fn x = true ∨ X.env.scope.names.lookup x = some .local) : SGt X (.Name x pos) (.var i) := by
  unfold SGt; simp only [Tg.rd]; exact pg_name hN hi hx hf
theorem sgts_nil : SGts X [] [] := by unfold SGts; simp only [Tg.rds]; exact pgs_nil
theorem sgts_cons {e : Expr} {es : List Expr} {a : Tg} {l : List Tg} (h1 : SGt X e a) (h2 : SGts X es l) (hs : (assignEach (e :: es) X.env).map (·.2) = assign e X.env :: (assignEach es X.env).map (·.2)) : SGts X (e :: es) (a :: l) := by
  unfold SGts; simp only [Tg.rds]; exact pgs_cons h1 h2 hs
theorem sgt_tup {es : List Expr} {k : Nat} {l : List Tg} (hc : X.calm = true) (h : SGts X es l) (hn : (assignEach es X.env).length = Tg.len l) (hst : (assignEach es X.env).findIdx? (·.1) = none) : SGt X (.Tuple es k pos) (.tup l) := by
  unfold SGt; simp only [Tg.rd]; exact pg_tup hc h hn hst
theorem bn_listS (hc : X.calm = true) : BnR X (.type "list") listS := by
  intro pins s σ H xs us Q I rv ⟨G, st, ts, t, R, r, e, q⟩
  unfold listS at e
  split at e
  · rename_i z
    obtain ⟨v, rfl, r1⟩ := Rps.one r
    simp only [Rp] at r1
    subst r1
    split at e
    · rename_i hz
      cases e
      cases rv with
      | cons ru rn =>
        cases rn
        obtain ⟨t, rfl⟩ := ru
        have hn : z.cps.size ≤ sizeLine := by
          have : z.length = z.cps.size := rfl
          rw [sizeLine_eq]; omega
        have np : H s.heap.objs.size = none := I.hok.fresh (Nat.le_refl _)
        refine call_list_str (I.ok.hd hc) z t (fun h' tk acc c k hS it => ?_) hn
        have hv : Vals (z.cps.toList.map fun c => V.str ⟨#[c]⟩) acc.toList := by
          refine vals_of_at (by rw [List.length_map, Array.length_toList, Array.length_toList, it.1]) fun j x u h1 h2 => ?_
          rw [Array.getElem?_toList] at h2
          obtain ⟨c, tk, e1, rfl⟩ := it.2 j u h2
          rw [List.getElem?_map, Array.getElem?_toList, e1] at h1
          cases h1
          exact ⟨_, rfl⟩
        have hr : Rps (pxOf X) G (signs z) (z.cps.toList.map fun c => V.str ⟨#[c]⟩) := by
          unfold signs
          generalize z.cps.toList = l
          induction l with
          | nil => exact Rps.nil
          | cons x r ih => exact Rps.cons (by simp [Rp]) ih
        refine ⟨.ref s.heap.objs.size, upd H s.heap.objs.size (.lst (z.cps.toList.map fun c => V.str ⟨#[c]⟩)), I.laid (t' := tk) k (Nat.le_refl _) ⟨?_, acc.toList, c, hv, hS⟩, rfl, new_n R q np ⟨_, rfl, hr⟩⟩
        rw [List.length_map, Array.length_toList]; exact hn
    · cases e
  · exact bn_list pins s σ H xs us Q I rv ⟨G, st, _, t, R, r, e, q⟩
end
end PL
/-! forms that the printed text uses -/
namespace PL
open PySem PySem.Spec PyProof.Rows L2

def sPar (ms : M (List T)) (i j : Nat) : SM := sE ms fun ts env st => match gsCons (gVar i) (gsCons (gVar j) gsNil) ts env st with | some (env', st') => some (.nx env', st') | none => none
section
variable {X : Cx} {W : WX} {tg iter elt : Expr} {ifs : List Expr} {scope : Scope} {own : List (Str × Nat)} {pos : Pos}
theorem relN_cell {P : PX} {G : Gh} {st : Store} {H : Hp} {m : M0} {v : V} {W : XK} {Q : VK} (h : relN P G st H m v) (q : Po P (relT P) G W (if m.pure then ok (.cell st.length) (st ++ [.one m]) else none) Q) : Q v H := by
  obtain ⟨p, o, H2, rfl, np, R, rfl, ho⟩ := h
  split at q
  · rename_i pu
    refine q _ _ _ Gh.cellNew_le ⟨R.cellOne np pu ho, ?_⟩
    simp only [Rp]
    exact ⟨p, rfl, by rw [R.len]; exact Gh.cellNew_at⟩
  · exact q.elim
/-- name = [..], a list of one's own -/
theorem ss_setLcC {i : Nat} {y : Str} {py spos : Pos} {mi : M (List T)} {a : Tg} {n : M Bool} {me : M T} (hc : X.calm = true) (hN : X.N.Nodup) (hy : X.N[i]? = some y) (hyl : X.env.scope.names.lookup y = some .local) (hsw : swapsWith (.ListComp elt [⟨tg, iter, ifs, 0⟩] scope pos) (some (.Name y py)) spos.line X.env = pure true)
    (hi : SI X W tg iter mi) (ok : BlkOk X.N X.env.scope scope own) (hs : ∀ i ∈ a.slots, i ∈ own.map (·.2)) (hg : BlG X scope tg a) (ht : BlT X scope ifs n) (he : BlE X scope elt me) (hf : ∀ x, foldedSetIterable iter X.env x = pure x) :
    SS X W (.Assign [.Name y py] (.ListComp elt [⟨tg, iter, ifs, 0⟩] scope pos) spos) (sAsg (mCell (mLc mi a.sem n me (own.map (·.2)))) (gVar i)) := by
  refine ps_mono (ps_setLc (g := a.rd X.K) (tt := tMb (pxOf X) W0 n) (te := tM (pxOf X) W0 me) hc hN hy hyl hsw hi ok hg ht he hf) fun D σ H q => ?_
  refine lc_pre (W := W) (Q := fun x H1 => gName i x σ H1 D.nx) hs ?_
  have q1 : tM (pxOf X) W (mCell (mLc mi a.sem n me (own.map (·.2)))) σ H fun x H1 => gName i x σ H1 D.nx :=
    (sE.run q).imp fun v H1 ⟨t, G, env, st, r, E, q2⟩ => q2 G H1 _ (Gh.Le.refl G) r.1 (E.set r.2 i)
  exact (tG.bnd q1).imp fun v H1 ⟨x, G, env, st, r, E, q2⟩ => relN_cell r q2
end
end PL
/-! sorted(d) -/
namespace PL
open PySem PySem.Spec PyProof.Rows L2
open PySem.W (EachIs)

def sortedA : BN := fun st ts => match ts with
  | [t] => (match look st t with | .lst xs => if srtOk xs then some (.lst (srtT xs)) else none | .dct ks _ => if srtOk ks then some (.lst (srtT ks)) else none | _ => none)
  | _ => none
section
variable {X : Cx} {pins : List (Addr × Obj)} {σ : L2.St} {H : Hp} {s : Shared} {G : Gh} {st : Store} {Q : VK}
/-- list.sort on the new list of the collected items -/
theorem sort_new {acc : List Value} {ks : List T} {s1 : Shared} (I1 : Inv X pins σ H s1) (R : Rel (pxOf X) G st H) (hs : srtOk ks = true) (ek : EachIs (StT X G) acc ks) (hu : X.A.units + 64 < cLine) (q : ∀ G' H' r, G.Le G' → relN (pxOf X) G' st H' (.lst (srtT ks)) r → Q r H') :
    wpAny (model X.prog X.w) X.A.in1.in1 (Builtin.«list.sort» ⟨[.ref s1.heap.objs.size], []⟩) (fun f s' => f = .done (.ret .none) ∧ EP X pins σ Q (.ref s1.heap.objs.size) s') (fun _ _ => False) { s1 with heap := s1.heap.push (seqObj "list" acc.toArray 0) } := by
  have la : acc.length = ks.length := ek.length
  have lk := srtOk_len hs
  have hoL : (s1.heap.push (seqObj "list" acc.toArray 0)).get? s1.heap.objs.size = some (seqObj "list" acc.toArray 0) := Heap.get?_push_size _ rfl
  have keep2 : ∀ b o, s1.heap.get? b = some o → (PySem.W.sortingHeap (s1.heap.push (seqObj "list" acc.toArray 0)) s1.heap.objs.size acc).get? b = some o := fun b o e =>
    PySem.W.sortingHeap_old (Nat.ne_of_lt (Heap.lt_size e)) (Heap.get?_push_of_some _ e)
  have er2 : EachIs (fun v t => ∃ as, Reads (PySem.W.sortingHeap (s1.heap.push (seqObj "list" acc.toArray 0)) s1.heap.objs.size acc) v t.data as) acc ks :=
    (each_reads I1 R (srtOk_dat hs) ek).mono fun _ _ ⟨as, r⟩ => ⟨as, PyProof.Rows.Reads.keeps keep2 r⟩
  refine PySem.W.list_sort_vals (s := { s1 with heap := s1.heap.push (seqObj "list" acc.toArray 0) }) hoL (srt_at hs er2 (by show X.A.units + 1 + 1 + 60 < cLine; omega)) (by rw [la, sizeLine_eq]; omega) ⟨rfl, ?_⟩
  have eo : EachIs (StT X G) (PySem.W.sortVals (PySem.W.dataKind (PySem.W.sortingHeap (s1.heap.push (seqObj "list" acc.toArray 0)) s1.heap.objs.size acc) (ks.map T.data)) false acc acc) (srtT ks) := by
    have := PySem.W.sortVals_data (enc := T.data) (R := StT X G) false ek er2 (srtOk_alike hs)
    rw [dataLe_T] at this
    exact this
  obtain ⟨zs, r3, v3⟩ := of_each eo
  obtain ⟨ep', he'⟩ := PyProof.Rows.sortedHeap_at (vs := acc) (out := List.toArray (PySem.W.sortVals (PySem.W.dataKind (PySem.W.sortingHeap (s1.heap.push (seqObj "list" acc.toArray 0)) s1.heap.objs.size acc) (ks.map T.data)) false acc acc)) hoL
  have hlen : zs.length ≤ sizeLine := by
    rw [v3.length, PySem.W.sortVals_length false rfl, la, sizeLine_eq]; omega
  have np : H s1.heap.objs.size = none := I1.hok.fresh (Nat.le_refl _)
  refine ⟨.ref _, upd H s1.heap.objs.size (.lst zs), I1.laid (t' := s1.toks) (fun b u e => ?_) (Nat.le_refl _) ⟨hlen, _, ep', v3, he'⟩, rfl, new_n R q np ⟨zs, rfl, r3⟩⟩
  have hb : b < s1.heap.objs.size := Heap.lt_size e
  rw [PyProof.Rows.sortedHeap_old (Nat.ne_of_lt hb) (by rw [size_push']; exact Nat.lt_succ_of_lt hb)]
  exact Heap.get?_push_of_some _ e
theorem bn_sortedA (hc : X.calm = true) (hu : X.A.units + 64 < cLine) : BnR X (.builtin "sorted") sortedA := by
  intro pins s σ H xs us Q I rv ⟨G, st, ts, t, R, r, e, q⟩
  unfold sortedA at e
  split at e
  · rename_i u
    obtain ⟨v, rfl, r1⟩ := Rps.one r
    split at e
    · rename_i ys e2
      split at e
      · rename_i hs
        refine bn_sorted hu pins s σ H [v] us Q I rv ⟨G, st, [u], t, R, r, ?_, q⟩
        unfold sortedN
        simp only [e2, if_pos hs]
        exact e
      · cases e
    · rename_i ks vs0 e2
      split at e
      · rename_i hs
        cases e
        have hl := look_ok R r1
        rw [e2] at hl
        obtain ⟨a, ka, ws, rfl, d⟩ := hl.dat
        rw [Vals.ref1 rv]
        obtain ⟨hd, ln, us0, rv0, dd⟩ := dict_of I R.fro d.at_ d.rk d.ok
        obtain ⟨o, es, ep, h1, h2, h3, h4, _⟩ := dd
        have lus : us0.length = ks.length := by rw [← rv0.length, ← d.len]
        have esz : es.size = ks.length := by
          have := congrArg List.length h4
          rw [Array.length_toList, List.length_map] at this
          rw [this]; unfold ents
          rw [List.length_zip, List.length_zip, d.la, lus]; simp
        refine Calls.call_function_entry PyProof.Rows.kind_sorted PyProof.Rows.plain_sorted PyProof.Rows.entry_sorted (PyProof.Rows.args_sorted1 _) ?_
        unfold Builtin.«sorted»
        refine wpAny_bind (m := checkCount "sorted" 1 1 _) (wpAny_pure ?_)
        refine wpAny_bind (PySem.W.kdu_collect (A := X.A.in1) (kdl_raw hd h2 h3) (I.ok.hd hc) h1 (by rw [esz, sizeLine_eq]; omega) fun h' tk acc hk hacc => ?_)
        have I1 : Inv X pins σ H { s with heap := h', toks := tk } := I.kept hk
        have ek : EachIs (StT X G) acc.toList ks := by
          have va : Vals (ka.map V.ref) acc.toList := by
            refine vals_of_at (by have h9 := hacc.1; have := d.la; simp only [List.length_map, Array.length_toList]; omega) fun j x u g1 g2 => ?_
            rw [Array.getElem?_toList] at g2
            obtain ⟨en, g3, rfl⟩ := hacc.2 j u g2
            rw [← Array.getElem?_toList, h4, List.getElem?_map] at g3
            cases g4 : (ents ks ka us0)[j]? with
            | none => rw [g4] at g3; cases g3
            | some p =>
              rw [g4] at g3
              cases g3
              unfold ents at g4
              rw [List.getElem?_zip_eq_some] at g4
              obtain ⟨g5, g6⟩ := g4
              rw [List.getElem?_zip_eq_some] at g6
              rw [List.getElem?_map, g6.1] at g1
              cases g1
              rfl
          exact each_of d.rk va
        have la : acc.toList.length = ks.length := ek.length
        have lk := srtOk_len hs
        refine wpAny_bind (wpAny_newList ?_ (by rw [la, sizeLine_eq]; omega))
        show wpAny _ _ _ _ _ { s with heap := h'.push (seqObj "list" acc.toList.toArray 0), toks := tk }
        have hoL : (h'.push (seqObj "list" acc.toList.toArray 0)).get? h'.objs.size = some (seqObj "list" acc.toList.toArray 0) := Heap.get?_push_size _ rfl
        have hsort := sort_new (st := st) (Q := Q) I1 R hs ek hu q
        refine wpAny_bind (wpAny_holding (wpAny_call_entry PyProof.Rows.slot_list_sort ⟨_, hoL, rfl⟩ PyProof.Rows.entry_list_sort (wpAny_mono hsort (fun f s' hf => ?_) fun _ _ z => z.elim) (PyProof.Rows.args_list_sort _)))
        obtain ⟨rfl, hq⟩ := hf
        exact ⟨_, rfl, wpAny_pure ⟨_, rfl, hq⟩⟩
      · cases e
    · cases e
  · cases e
end
end PL
/-! {k: v for ..}, keys trees of tuples -/
namespace PL
open PySem PySem.Spec PyProof.Rows L2

/-- one entry more -/
def dcElt (mk mv : M T) (acc : List T × List T) : En → Store → Option ((List T × List T) × Store) := fun env st =>
  match mk env st with
  | some (.ok k, st1) => (match mv env st1 with
    | some (.ok v, st2) => if k.dkey ∧ acc.1.length < 1000000 then some (dPut acc.1 acc.2 k v, st2) else none
    | _ => none)
  | _ => none
def dcF (g : GM) (n : M Bool) (mk mv : M T) : List T → List T × List T → En → Store → Option ((List T × List T) × Store)
  | [], acc, _, st => some (acc, st)
  | t :: ts, acc, env, st =>
    match lcTurn g n (dcElt mk mv acc) (fun st => some (acc, st)) t env st with
    | some (acc2, st2) => dcF g n mk mv ts acc2 env st2
    | none => none
def mDc (mi : M (List T)) (g : GM) (n : M Bool) (mk mv : M T) (vs : List Nat) : M M0 := mBnd mi fun items env st =>
  match dcF g n mk mv items ([], []) (wipeE env vs) st with
  | some (acc, st2) => ok (.dct acc.1 acc.2) st2
  | none => none
/-- a dict at D that nobody knows but the comprehension -/
def DcAt (P : PX) (G0 : Gh) (D : Addr) (st : Store) (acc : List T × List T) (H : Hp) : Prop := ∃ G o, G0.Le0 G ∧ (∀ b o, G0.L b = some o → G.L b = some o) ∧ Rel P G st H ∧ G.L D = some o ∧ Ho0 P G D o (.dct acc.1 acc.2)
/-- the reading of such a comprehension: one turn -/
def tDcT (wi : TI) (g : TG) (tt : TT) (body : Addr → L2.St → Hp → (Hp → Prop) → Prop) (w : World) (vs : List Nat) : TE := fun σ H Q => wi σ H fun J H1 => ∀ D, H1 D = none → ∃ W : Nat → Nat → Hp → Prop, (∃ m, W 0 m (upd H1 D (.ext (DictT w D [] [] [])))) ∧ ∀ i m H, W i m H →
  (J.stop i H ∧ Q (.ref D) H) ∨ (J.go i H ∧ ∃ Nx : Hp → Prop, (∀ H', Nx H' → ∃ m', m' < m ∧ W (i + 1) m' H') ∧ ∀ x H', J.yld i H x H' → g x (L2.wipe σ vs) H' fun σ2 H2 => L2.wipe σ2 vs = L2.wipe σ vs ∧ tt σ2 H2 fun b H3 =>
    if b = true then body D σ2 H3 Nx else Nx H3)
section
variable {X : Cx} {W : WX}
/-- what a turn's end asks: key, value, the store into D -/
def DcBody (X : Cx) (kx vx : Expr) (D : Addr) (body : L2.St → Hp → (Hp → Prop) → Prop) : Prop := ∀ (pins : List (Addr × Obj)) (s : Shared) (σ : L2.St) (H : Hp) (Nx : Hp → Prop) (R : Shared → Prop), Inv X pins σ H s → body σ H Nx → (∀ s' H', Inv X pins σ H' s' → Nx H' → R s') →
  wpAny (model X.prog X.w) X.A (eval kx X.env) (fun kv s₁ => wpAny (model X.prog X.w) X.A (eval vx X.env) (fun vv s₂ => wpAny (model X.prog X.w) X.A (dictSet D kv vv) (fun _ s₃ => R s₃) (fun _ _ => False) s₂) (fun _ _ => False) s₁) (fun _ _ => False) s
theorem dcT_core {pins : List (Addr × Obj)} {s : Shared} {σ : L2.St} {H : Hp} {Q : VK} {kx vx tg iter : Expr} {ifs : List Expr} {scope : Scope} {own : List (Str × Nat)} {pos pos' : Pos} {wi : TI} {g : TG} {tt : TT} {body : Addr → L2.St → Hp → (Hp → Prop) → Prop} {Qf : Value → Shared → Prop}
    (calm : X.calm = true) (nd : X.N.Nodup) (J0 : Inv X pins σ H s) (pi : PI X tg iter wi) (bok : BlkOk X.N X.env.scope scope own)
    (pg : ∀ (s : Shared) (H : Hp) (C : Addr) (cl : List (Str × Addr)) (fp : List Addr), PG (X.blk s H scope (compEnvC scope cl C X.env) fp) tg g) (pt : ∀ (s : Shared) (H : Hp) (C : Addr) (cl : List (Str × Addr)) (fp : List Addr), PTs (X.blk s H scope (compEnvC scope cl C X.env) fp) ifs tt)
    (pb : ∀ (D : Addr) (s : Shared) (H : Hp) (C : Addr) (cl : List (Str × Addr)) (fp : List Addr), DcBody (X.blk s H scope (compEnvC scope cl C X.env) fp) kx vx D (body D)) (fold : ∀ x, foldedSetIterable iter X.env x = pure x)
    (h : tDcT wi g tt body X.w (own.map (·.2)) σ H Q)
    (back : ∀ D C s' m H', Inv X pins σ H' s' → Q (.ref D) H' → s'.heap.Ns C m → FpOk X pins H' C → compPost (model X.prog X.w) X.A X.xe none Qf (.ref D) C (.ok .next) s') :
    wpAny (model X.prog X.w) X.A (comprehension (.DictComp kx vx [⟨tg, iter, ifs, 0⟩] scope pos) scope X.env pos' newDict false (eval iter X.env) none) Qf X.xe s := by
  have cellsOf : ∀ y ∈ scope.names, y.2 = .free → ∃ c, X.env.cells.lookup y.1 = some c := fun y hy e => by
    rcases bok.free y hy e with k | k
    · exact J0.ok.has _ (.inl k)
    · exact J0.ok.has _ (.inr k)
  refine wpAny_comprehension_free (use := none) rfl fold (closure_ok cellsOf) bok.kind (fun y hy e => by rw [bok.uniq y hy, e])
    (thn (pi.run pins s σ H _ J0 h) fun xv sA hx => thn hx fun itv sB hB => ?_)
  obtain ⟨it, fp, tn, J, HB, rfl, JB, T, stB, fB, q⟩ := hB
  refine wpAny_newObj_type (newEnv_comp ?_)
  obtain ⟨D, hD⟩ : ∃ D, D = sB.heap.objs.size := ⟨_, rfl⟩
  obtain ⟨Wt, ⟨m0, w0⟩, turn⟩ := q D (by rw [hD]; exact JB.hok.fresh (Nat.le_refl _))
  obtain ⟨sC, hsC⟩ : ∃ sC : Shared, sC = { sB with heap := sB.heap.push { cls := .type "dict", data := .dict #[] } } := ⟨_, rfl⟩
  have hpC : sC.heap = sB.heap.push { cls := .type "dict", data := .dict #[] } := by rw [hsC]
  obtain ⟨HC, hHC⟩ : ∃ HC, HC = upd HB D (.ext (DictT X.w D [] [] [])) := ⟨_, rfl⟩
  have JC : Inv X pins σ HC sC := by
    rw [hsC, hHC, hD]
    exact JB.laid (t' := sB.toks) (fun b o e => Heap.get?_push_of_some _ e) (Nat.le_refl _) (dict_new sB.heap JB.big)
  have below : ∀ b ∈ fp, b < sB.heap.objs.size := fun b hb => by
    obtain ⟨o, e, _⟩ := T.obj _ _ stB b hb
    exact Heap.lt_size e
  have fC : ∀ b ∈ fp, FpOk X pins HC b ∧ b < sC.heap.objs.size := fun b hb => by
    have lt := below b hb
    refine ⟨⟨?_, (fB b hb).2⟩, by rw [hpC, Heap.size_push]; exact Nat.lt_succ_of_lt lt⟩
    rw [hHC, upd_ne (by rw [hD]; exact Nat.ne_of_lt lt)]
    exact (fB b hb).1
  have stC : tn 0 sC.heap := T.keep _ _ _ stB fun b _ o e => by rw [hpC]; exact Heap.get?_push_of_some _ e
  have JD := block_start JC bok nd fC
  have g1 := pg sC HC sC.heap.objs.size (cellsFrom (sC.heap.objs.size + 1) scope.names (cloFrom X.env.cells scope.names [])) fp
  have t1 := pt sC HC sC.heap.objs.size (cellsFrom (sC.heap.objs.size + 1) scope.names (cloFrom X.env.cells scope.names [])) fp
  have b1 := pb D sC HC sC.heap.objs.size (cellsFrom (sC.heap.objs.size + 1) scope.names (cloFrom X.env.cells scope.names [])) fp
  rw [show sB.heap.objs.size = D from hD.symm, show ({ sB with heap := sB.heap.push { cls := .type "dict", data := .dict #[] } } : Shared) = sC from hsC.symm]
  show codeAny _ _ (.compStart (.DictComp kx vx [⟨tg, iter, ifs, 0⟩] scope pos) 0 (.ref it) (.ref D) (compEnvC scope (cellsFrom (sC.heap.objs.size + 1) scope.names (cloFrom X.env.cells scope.names [])) sC.heap.objs.size X.env)) (compPost (model X.prog X.w) X.A X.xe none Qf (.ref D) sC.heap.objs.size) { sC with heap := pushCells (sC.heap.push { cls := .type "dict", data := .dict #[] }) scope.names }
  have nfp : ∀ b ∈ fp, HC b = none := fun b hb => (fC b hb).1.1
  obtain ⟨ce, hce⟩ : ∃ ce, ce = compEnvC scope (cellsFrom (sC.heap.objs.size + 1) scope.names (cloFrom X.env.cells scope.names [])) sC.heap.objs.size X.env := ⟨_, rfl⟩
  have cL : ce.locals = sC.heap.objs.size := by rw [hce]; rfl
  rw [← hce] at JD g1 t1 b1 ⊢
  rw [← hHC] at w0
  obtain ⟨sD, hsD⟩ : ∃ sD : Shared, sD = { sC with heap := pushCells (sC.heap.push { cls := .type "dict", data := .dict #[] }) scope.names } := ⟨_, rfl⟩
  rw [← hsD] at JD ⊢
  have stD : tn 0 sD.heap := T.keep _ _ _ stC fun b _ o e => by rw [hsD]; exact pushCells_keeps _ _ _ _ (Heap.get?_push_of_some _ e)
  have stays : ∀ {σ' : L2.St} {H' : Hp} {s' : Shared}, Inv (X.blk sC HC scope ce fp) [] σ' H' s' → (∀ b ∈ fp, H' b = none) → ∀ b ∈ fp, FpOk (X.blk sC HC scope ce fp) [] H' b := fun {σ' H' s'} K hn b hb =>
    ⟨hn b hb, (K.ok.exf b hb).1, K.ok.exfs b hb, .inl hb, fun x c e => (K.ok.exf b hb).2 x c e, fun p hp => absurd (show p ∈ ([] : List (Addr × Obj)) ++ [] from hp) (by simp)⟩
  have loop : codeAny (model X.prog X.w) X.A (.compLoop (.DictComp kx vx [⟨tg, iter, ifs, 0⟩] scope pos) 0 (.ref it) (.ref D) ce) (compPost (model X.prog X.w) X.A X.xe none Qf (.ref D) sC.heap.objs.size) sD := by
    refine compLoop_anyD (fun n s' => ∃ i H', Inv (X.blk sC HC scope ce fp) [] (L2.wipe σ (own.map (·.2))) H' s' ∧ tn i s'.heap ∧ (∀ b ∈ fp, H' b = none) ∧ Wt i n H') ?_ m0 ⟨0, HC, JD, stD, nfp, w0⟩
    rintro n sE ⟨i, HE, JE, stE, nE, wE⟩
    rcases turn i n HE wE with ⟨stop, qq⟩ | ⟨go, Nx, hNx, step⟩
    · refine thnF (T.done (X.blk sC HC scope ce fp) rfl rfl rfl calm i [] sE _ HE (fun _ _ => False) JE (stays JE nE) stE stop) fun r sF ⟨hr, JF⟩ => ?_
      subst hr
      have JG : Inv X pins σ HE sF := JC.call' (ch := fp) JF.os JF.base JF.hok JF.bare fun b hb => ⟨(fC b hb).1.2.2.2.1, (fC b hb).1.2.1, (fC b hb).1.2.2.2.2.1, (fC b hb).1.2.2.2.2.2⟩
      have nC : HE sC.heap.objs.size = none := by
        have z : HE ce.locals = none := JF.free
        rwa [cL] at z
      obtain ⟨m, hn, _⟩ := JF.loc
      have hn : sF.heap.Ns ce.locals m := hn
      rw [cL] at hn
      exact back D sC.heap.objs.size sF m HE JG qq hn (JC.fpOk (Nat.le_refl _) nC)
    · refine thnF (T.item (X.blk sC HC scope ce fp) rfl rfl rfl calm i [] sE _ HE (fun _ _ => False) JE (stays JE nE) stE go) fun r sF ⟨u, hr, hF⟩ => ?_
      subst hr
      refine thnF hF fun _ sG ⟨x, HG, JG, rG, yG, stG, nG⟩ => ?_
      have JG' := JG.pinned (stays JG nG) (T.obj _ _ stG)
      refine thnF (g1.run _ sG _ HG x u _ JG' rG (step x HG yG)) fun _ sH ⟨σH, HH, JH, hw, qH⟩ => ?_
      refine thnF (t1.run _ sH σH HH _ JH qH) fun b sI ⟨HI, JI, qI⟩ => ?_
      have fin : ∀ (s' : Shared) (H' : Hp), Inv (X.blk sC HC scope ce fp) ([] ++ pinsAt fp sG.heap) σH H' s' → Nx H' → ∃ m, m < n ∧ ∃ i H', Inv (X.blk sC HC scope ce fp) [] (L2.wipe σ (own.map (·.2))) H' s' ∧ tn i s'.heap ∧ (∀ b ∈ fp, H' b = none) ∧ Wt i m H' := fun s' H' K nx => by
        obtain ⟨m', hm, w'⟩ := hNx H' nx
        have pin : ∀ b ∈ fp, ∀ o, sG.heap.get? b = some o → s'.heap.get? b = some o ∧ H' b = none := fun b hb o e =>
          let z := K.pin (b, o) (List.mem_append_right _ (List.mem_append_right _ (mem_pinsAt hb e)))
          ⟨z.1, z.2.1⟩
        have hl : (L2.wipe σ (own.map (·.2))).length = σH.length := by rw [← hw, L2.wipe_length]
        refine ⟨m', hm, i + 1, H', (K.unpinned (pins := [])).weak hl (fun j v e => ?_), T.keep _ _ _ stG fun b hb o e => (pin b hb o e).1, fun b hb => ?_, w'⟩
        · rw [← hw] at e
          exact (wipe_some e).1
        · obtain ⟨o, e, _⟩ := T.obj _ _ stG b hb
          exact (pin b hb o e).2
      cases b with
      | false =>
        simp only [Bool.false_eq_true, if_false] at qI ⊢
        exact fin _ _ JI qI
      | true =>
        simp only [if_true] at qI ⊢
        exact thnF (b1 _ sI σH HI Nx _ JI qI fin) fun kv s1 z => thnF z fun vv s2 z => thnF z fun _ s3 z => z
  exact codeAny_compStart_dict loop (T.self X.A 0 _ _ _ stD loop)
/-- the entry's end -/
def dcEnd (P : PX) (D : Addr) (y z : V) (H : Hp) (Nx : Hp → Prop) : Prop := ∃ G st ks vs k t o, Rel P G st H ∧ Rp P G k y ∧ Rp P G t z ∧ G.L D = some o ∧ Ho0 P G D o (.dct ks vs) ∧ k.dkey = true ∧ ks.length < 1000000 ∧ ∀ o', Ho0 P G D o' (.dct (dPut ks vs k t).1 (dPut ks vs k t).2) → Nx (upd H D o')
def dcB (P : PX) (mk mv : M T) (D : Addr) : L2.St → Hp → (Hp → Prop) → Prop := fun σ H Nx => tM P W0 mk σ H fun y H4 => tM P W0 mv σ H4 fun z H5 => dcEnd P D y z H5 Nx
theorem dc_body {kx vx : Expr} {mk mv : M T} {D : Addr} (hx : X.xe = fun _ _ => False) (hu : X.A.units + 16 < cLine) (hk : SE X W0 kx mk) (hv : SE X W0 vx mv) : DcBody X kx vx D (dcB (pxOf X) mk mv D) := by
  intro pins s σ H Nx R I h fin
  have hk := hk.run
  have hv := hv.run
  rw [hx] at hk hv
  refine thnF (hk pins s σ H _ I h) fun kv s1 ⟨y, H1, I1, r1, q1⟩ => ?_
  refine thnF (hv pins s1 σ H1 _ I1 q1) fun vv s2 ⟨z, H2, I2, r2, q2⟩ => ?_
  obtain ⟨G, st, ks, vs, k, t, o, Rl, rk, rt, eL, ho, hd, hl, nx⟩ := q2
  obtain ⟨us, rv, ka, rfl, rks, ok, len⟩ := ho
  exact dt_dictSet (by omega) I2 Rl.fro ⟨(Rl.lck _ _ eL).1, rks, rv, ok, len⟩ hd rk r1 rt r2 hl fun s' o' I' ho' => fin s' _ I' (nx o' ho')
theorem Ho0.relL {P : PX} {G : Gh} {L' : Hp} {a : Addr} {o : HO} {m : M0} (h : Ho0 P G a o m) : Ho0 P { G with L := L' } a o m := by
  have le : G.Le0 { G with L := L' } := ⟨fun _ _ h => h, fun _ _ h => h, fun _ _ _ _ h => h⟩
  cases m with
  | lst xs => obtain ⟨vs, e, q⟩ := h; exact ⟨vs, e, Rps.mono0 le q⟩
  | dct ks vs =>
    obtain ⟨us, q, ka, e, r, q4⟩ := h
    exact ⟨us, Rps.mono0 le q, ka, e, Rps.mono0 le r, q4⟩
def DcIn (P : PX) (D : Addr) (G : Gh) (acc : List T × List T) : Prop := ∃ o, G.L D = some o ∧ Ho0 P G D o (.dct acc.1 acc.2)
theorem DcIn.mono {P : PX} {D : Addr} {G G' : Gh} {acc : List T × List T} (le : G.Le G') (h : DcIn P D G acc) : DcIn P D G' acc := let ⟨o, a, b⟩ := h; ⟨o, le.l _ _ a, b.mono le⟩
theorem dc_pre {mi : M (List T)} {a : Tg} {n : M Bool} {mk mv : M T} {vs : List Nat} (hs : ∀ i ∈ a.slots, i ∈ vs) {σ : L2.St} {H : Hp} {Q : VK} (q : tMn (pxOf X) W (mDc mi a.sem n mk mv vs) σ H Q) :
    tDcT (tG (pxOf X) (relI (pxOf X)) W mi) (a.rd X.K) (tMb (pxOf X) W0 n) (dcB (pxOf X) mk mv) X.w vs σ H Q := by
  refine (tG.bnd q).imp fun J H1 ⟨items, G0, env0, st0, ⟨R0, w⟩, E0, q0⟩ => ?_
  intro D nD
  have hD : ∀ b o, G0.L b = some o → b ≠ D := fun b o e z => by
    have := (R0.lck b o e).1
    rw [z, nD] at this; cases this
  cases e : dcF a.sem n mk mv items ([], []) (wipeE env0 vs) st0 with
  | none => simp only [e] at q0; exact q0.elim
  | some p =>
    obtain ⟨acc2, st2⟩ := p
    simp only [e] at q0
    have h0 : CmpAt (pxOf X) G0 (DcIn (pxOf X) D) st0 ([], []) (upd H1 D (.ext (DictT X.w D [] [] []))) := by
      refine ⟨G0.lock D _, Gh.lock_le0, fun b o e => ?_, R0.lock nD, _, lock_get, [], Rps.nil, [], rfl, Rps.nil, ⟨fun k hk => (by cases hk), List.nodup_nil⟩, rfl⟩
      show upd G0.L D _ b = some o
      rw [upd_ne (hD b o e)]; exact e
    obtain ⟨Wt, s0, step⟩ := lc_turns (P := pxOf X) (K := X.K) rfl (In := DcIn (pxOf X) D) DcIn.mono (n := n) (fold := fun ts acc st => dcF a.sem n mk mv ts acc (wipeE env0 vs) st) (kk := dcElt mk mv)
      (body := dcB (pxOf X) mk mv D) (fun _ _ => rfl) (fun _ _ _ _ => by rw [dcF]; generalize lcTurn _ _ _ _ _ _ _ = z; cases z <;> rfl) hs w E0 h0 e
      (fun G env1 σ2 st acc acc3 st3 H Nx le leL R inn E e3 nx => by
        refine ⟨G, env1, st, R, E, ?_⟩
        unfold dcElt at e3
        match e4 : mk env1 st with
        | none => rw [e4] at e3; cases e3
        | some (.ex x, st4) => rw [e4] at e3; cases e3
        | some (.ok k, st4) =>
          rw [e4] at e3
          simp only at e3
          intro G4 H4 y l4 ⟨R4, r4⟩
          refine ⟨G4, env1, st4, R4, E.mono l4, ?_⟩
          match e5 : mv env1 st4 with
          | none => rw [e5] at e3; cases e3
          | some (.ex x, st5) => rw [e5] at e3; cases e3
          | some (.ok t, st5) =>
            rw [e5] at e3
            simp only at e3
            split at e3
            · rename_i hh
              cases e3
              intro G5 H5 z l5 ⟨R5, r5⟩
              obtain ⟨o, eL, ho⟩ := DcIn.mono (l4.trans l5) inn
              have g0 := (le.trans l4.toLe0).trans l5.toLe0
              refine ⟨G5, st3, acc.1, acc.2, k, t, o, R5, r4.mono l5, r5, eL, ho, hh.1, hh.2, fun o' ho' => nx _ ⟨{ G5 with L := upd G5.L D o' }, ⟨g0.f, g0.m, g0.n⟩, fun b x e => ?_, R5.relock eL, o', upd_same, ?_⟩⟩
              · show upd G5.L D o' b = some x
                rw [upd_ne (hD b x e)]
                exact (l4.trans l5).l _ _ (leL b x e)
              · exact ho'.relL
            · cases e3)
    refine ⟨Wt, s0, fun i m H hw => ?_⟩
    rcases step i m H hw with ⟨z1, G, le, leL, R, o, hL, ho⟩ | z
    · refine .inl ⟨z1, ?_⟩
      obtain ⟨l1, l2, l3⟩ := R.lck _ _ hL
      refine q0 { G with L := fun b => if b = D then none else G.L b } H (.ref D) ⟨⟨le.f, le.m, le.n⟩, fun b o e => ?_⟩ ⟨D, o, fun b => if b = D then none else H b, rfl, by simp, R.unlock hL, ?_, ?_⟩
      · show (if b = D then none else G.L b) = some o
        rw [if_neg (hD b o e)]; exact leL b o e
      · funext b
        unfold upd
        by_cases hb : b = D
        · subst hb; simp [l1]
        · simp [hb]
      · exact ho.relL
    · exact .inr z
theorem sn_dc {tg iter kx vx : Expr} {ifs : List Expr} {scope : Scope} {own : List (Str × Nat)} {pos : Pos} {mi : M (List T)} {a : Tg} {n : M Bool} {mk mv : M T} (hc : X.calm = true) (hu : X.A.units + 16 < cLine) (hN : X.N.Nodup) (hi : SI X W tg iter mi) (ok : BlkOk X.N X.env.scope scope own) (hs : ∀ i ∈ a.slots, i ∈ own.map (·.2))
    (hg : BlG X scope tg a) (ht : BlT X scope ifs n) (hk : BlE X scope kx mk) (hv : BlE X scope vx mv) (hf : ∀ x, foldedSetIterable iter X.env x = pure x) :
    SEn X W (.DictComp kx vx [⟨tg, iter, ifs, 0⟩] scope pos) (mDc mi a.sem n mk mv (own.map (·.2))) := by
  refine ⟨fun pins s σ H Q I q => ?_⟩
  rw [arm_eval_DictComp]
  refine dcT_core (g := a.rd X.K) (tt := tMb (pxOf X) W0 n) (body := dcB (pxOf X) mk mv) hc hN I hi ok hg ht (fun D s H C cl fp => dc_body rfl hu (hk s H C cl fp) (hv s H C cl fp)) hf (dc_pre hs q) fun D C s' m H' I' q hn f => ⟨m, hn, fun h'' sb => ?_⟩
  obtain ⟨f0, f1, f2, f3, f4, f5⟩ := f
  exact ⟨.ref D, H', I'.turned (t' := s'.toks) (fun b o hb e => (sb.2 b hb).trans e) f0 f1 f3 f4 f5, rfl, q⟩
end
end PL
/-! sets whose members are trees of tuples -/
namespace PL
open PySem PySem.Spec PyProof.Rows L2

/-- v is such a member -/
def KA (h : Heap) (k : T) (v : Value) : Prop := k.dkey = true ∧ TreeI h k v
theorem KA.key {h : Heap} {k : T} {v : Value} (a : KA h k v) : k.isTup = true ∧ k.key 7 = true := by
  have := a.1
  simpa [T.dkey] using this
theorem KA.ref {h : Heap} {k : T} {v : Value} (a : KA h k v) : ∃ b, v = .ref b := by
  obtain ⟨h1, h2⟩ := a
  cases k <;> simp [T.dkey, T.isTup] at h1
  simp only [TreeI] at h2
  obtain ⟨b, o, its, m, rfl, _⟩ := h2
  exact ⟨b, rfl⟩
theorem KA.inj {h : Heap} {x y : T} {v : Value} (a : KA h x v) (b : KA h y v) : x = y := TreeI.inj a.2 b.2
theorem KA.keep {h h' : Heap} {d : Addr} {k : T} {v : Value} (a : KA h k v) (hd : ∀ o its n, h.get? d = some o → o.data ≠ .seq its n) (kp : ∀ b, b ≠ d → ∀ o, h.get? b = some o → h'.get? b = some o) : KA h' k v := ⟨a.1, a.2.keep hd kp⟩
theorem KA.all {h h' : Heap} {k : T} {v : Value} (a : KA h k v) (kp : ∀ b o, h.get? b = some o → h'.get? b = some o) : KA h' k v := by
  refine a.keep (d := h.objs.size) (fun o its n e => ?_) fun b _ o e => kp b o e
  exact absurd (Heap.lt_size e) (Nat.lt_irrefl _)
/-- a member that the hash tells by its value alone -/
def hvT : T → Bool
  | .int _ => true
  | .tup xs => hvTs xs
  | _ => false
where hvTs : List T → Bool
  | [] => true
  | x :: xs => hvT x && hvTs xs
section
variable {P : Program} {w : World} {A : Around} {E : Value → Shared → Prop} {s : Shared}
/-- none of the members is of a class statement -/
theorem noClass (n : Nat) : ∀ (t : T) (v : Value) (m : Nat) (Q : Bool → Shared → Prop), t.key n = true → n ≤ m → TreeI s.heap t v → Q false s → wpAny (model P w) A (ofAClassStatement m v) Q E s := by
  induction n with
  | zero =>
    intro t v m Q hk _ h q
    cases t <;> simp [T.key] at hk <;> simp only [TreeI] at h
    all_goals
      obtain ⟨t, rfl⟩ := h
      unfold ofAClassStatement
      cases m <;> exact wpAny_pure q
  | succ n ih =>
    intro t v m Q hk hm h q
    cases t <;> simp only [T.key, Bool.false_eq_true] at hk <;> simp only [TreeI] at h
    case int => obtain ⟨t, rfl⟩ := h; unfold ofAClassStatement; cases m <;> exact wpAny_pure q
    case str => obtain ⟨t, rfl⟩ := h; unfold ofAClassStatement; cases m <;> exact wpAny_pure q
    case tup xs =>
      obtain ⟨b, o, its, c, rfl, ho, hc, hd, hi⟩ := h
      obtain ⟨m, rfl⟩ : ∃ m', m = m' + 1 := ⟨m - 1, by omega⟩
      have hT : s.TypeIs (.ref b) "tuple" := ⟨o, ho, hc⟩
      unfold ofAClassStatement
      refine wpAny_bind (wpAny_typeOf hT ?_)
      dsimp only
      have e : (("tuple" : String) == "tuple") = true := by decide
      simp only [e, if_true, Bool.not_true, Bool.false_eq_true, if_false]
      try refine wpAny_bind (wpAny_pure ?_)
      try simp only [Bool.not_true, Bool.false_eq_true, if_false]
      show wpAny _ _ (seqItems? (.ref b) >>= _) _ _ s
      refine wpAny_bind (wpAny_seqItems ho hd ?_)
      dsimp only
      refine wpAny_bind ?_
      show wpAny _ _ (forIn its _ _) _ _ s
      rw [← Array.forIn_toList]
      refine wpAny_forIn_list _ (fun rest r s' => r.1 = none ∧ s' = s ∧ ∃ ts, T.keys n ts = true ∧ TreeIs s.heap ts rest) _ ?_ ?_ _ _ ⟨rfl, rfl, xs, hk, hi⟩
      · rintro v rest r s' ⟨hr, rfl, ts, hts, hall⟩
        cases ts with
        | nil => simp only [TreeIs] at hall; cases hall
        | cons t ts =>
          simp only [TreeIs] at hall
          obtain ⟨u, us, e, h1, h2⟩ := hall
          cases e
          simp only [T.keys, Bool.and_eq_true] at hts
          refine wpAny_bind (ih t v m _ hts.1 (by omega) h1 ?_)
          simp only [Bool.false_eq_true, if_false]
          exact wpAny_pure ⟨rfl, rfl, ts, hts.2, h2⟩
      · rintro ⟨r1, r2⟩ s' ⟨hr, rfl, _⟩
        simp only at hr
        subst hr
        exact wpAny_pure q
/-- whether the hash goes by value: either answer -/
theorem byVal (n : Nat) : ∀ (t : T) (v : Value) (m : Nat) (Q : Bool → Shared → Prop), t.key n = true → n ≤ m → TreeI s.heap t v → (∀ b, Q b s) → wpAny (model P w) A (hashByValue m v) Q E s := by
  induction n with
  | zero =>
    intro t v m Q hk _ h q
    cases t <;> simp [T.key] at hk <;> simp only [TreeI] at h
    all_goals
      obtain ⟨t, rfl⟩ := h
      unfold hashByValue
      cases m <;> exact wpAny_pure (q _)
  | succ n ih =>
    intro t v m Q hk hm h q
    cases t <;> simp only [T.key, Bool.false_eq_true] at hk <;> simp only [TreeI] at h
    case int => obtain ⟨t, rfl⟩ := h; unfold hashByValue; cases m <;> exact wpAny_pure (q _)
    case str => obtain ⟨t, rfl⟩ := h; unfold hashByValue; cases m <;> exact wpAny_pure (q _)
    case tup xs =>
      obtain ⟨b, o, its, c, rfl, ho, hc, hd, hi⟩ := h
      obtain ⟨m, rfl⟩ : ∃ m', m = m' + 1 := ⟨m - 1, by omega⟩
      have hT : s.TypeIs (.ref b) "tuple" := ⟨o, ho, hc⟩
      unfold hashByValue
      refine wpAny_bind (wpAny_specialOf hT F.slot_tuple_hash.lookup ?_)
      show wpAny _ _ (seqItems? (.ref b) >>= _) _ _ s
      refine wpAny_bind (wpAny_seqItems ho hd ?_)
      refine wpAny_bind ?_
      show wpAny _ _ (forIn its _ _) _ _ s
      rw [← Array.forIn_toList]
      refine wpAny_forIn_list _ (fun rest r s' => r.1 = none ∧ s' = s ∧ ∃ ts, T.keys n ts = true ∧ TreeIs s.heap ts rest) _ ?_ ?_ _ _ ⟨rfl, rfl, xs, hk, hi⟩
      · rintro v rest r s' ⟨hr, rfl, ts, hts, hall⟩
        cases ts with
        | nil => simp only [TreeIs] at hall; cases hall
        | cons t ts =>
          simp only [TreeIs] at hall
          obtain ⟨u, us, e, h1, h2⟩ := hall
          cases e
          simp only [T.keys, Bool.and_eq_true] at hts
          refine wpAny_bind (ih t v m _ hts.1 (by omega) h1 fun b => ?_)
          cases b with
          | true =>
            simp only [Bool.not_true, Bool.false_eq_true, if_false]
            exact wpAny_pure ⟨rfl, rfl, ts, hts.2, h2⟩
          | false =>
            simp only [Bool.not_false, if_true]
            exact wpAny_pure (wpAny_pure (q _))
      · rintro ⟨r1, r2⟩ s' ⟨hr, rfl, _⟩
        simp only at hr
        subst hr
        exact wpAny_pure (q _)
end
end PL
/-! such sets: seeking, adding -/
namespace PL
open PySem PySem.Spec PyProof.Rows L2

section
variable {P : Program} {w : World} {A : Around} {E : Value → Shared → Prop} {s : Shared}
theorem ka_quiet {k : T} {v : Value} {Q : Bool → Shared → Prop} (h : KA s.heap k v) (q : Q true s) : wpAny (model P w) A (eqIsQuiet 8 v) Q E s := quiet_run 7 8 k _ A s Q (by omega) h.key.2 h.2 q
theorem ka_class {k : T} {v : Value} {Q : Bool → Shared → Prop} (h : KA s.heap k v) (q : Q false s) : wpAny (model P w) A (ofAClassStatement 8 v) Q E s := noClass 7 k v 8 Q h.key.2 (by omega) h.2 q
theorem ka_eq {x y : T} {u v : Value} {Q : Bool → Shared → Prop} (hu : A.units + 10 < cLine) (h1 : KA s.heap x u) (h2 : KA s.heap y v) (q : Q (decide (x = y)) s) : wpAny (model P w) A (eqBool u v) Q E s := by
  obtain ⟨a, rfl⟩ := h1.ref
  obtain ⟨b, rfl⟩ := h2.ref
  exact (tkind P w).eqBool (show A.units + 9 < cLine by omega) ⟨h1.key.1, h1.key.2, h1.2⟩ ⟨h2.key.1, h2.key.2, h2.2⟩ q
/-- nothing is shown by seeking among such members -/
theorem ka_unseen {k : T} {v : Value} {Q : Bool → Shared → Prop} (hk : KA s.heap k v) {ys : List Value} (hy : ∀ y ∈ ys, ∃ t, KA s.heap t y) (q : Q false s) : wpAny (model P w) A (searchCouldBeSeen v ys) Q E s := by
  obtain ⟨b, rfl⟩ := hk.ref
  unfold searchCouldBeSeen
  refine wpAny_bind ?_
  refine wpAny_forIn_list _ (fun rest r s' => r.1 = none ∧ s' = s ∧ ∀ y ∈ rest, ∃ t, KA s.heap t y) _ ?_ ?_ _ _ ⟨rfl, rfl, hy⟩
  · rintro y rest r s' ⟨_, rfl, all⟩
    obtain ⟨t, ht⟩ := all y List.mem_cons_self
    obtain ⟨c, rfl⟩ := ht.ref
    have more : ∀ y ∈ rest, ∃ t, KA s'.heap t y := fun u hu' => all u (List.mem_cons_of_mem _ hu')
    dsimp only
    by_cases very : (b == c || (carriedByValue (.ref b) && carriedByValue (.ref c))) = true
    · exact wp_if_pos very (wpAny_pure ⟨rfl, rfl, more⟩)
    · refine wp_if_neg very (wpAny_bind (ka_quiet hk ?_))
      simp only [Bool.not_true, Bool.false_eq_true, if_false]
      refine wpAny_bind (ka_quiet ht ?_)
      simp only [Bool.not_true, Bool.false_eq_true, if_false]
      refine wpAny_bind (ka_class hk ?_)
      simp only [Bool.false_eq_true, if_false]
      refine wpAny_bind (ka_class ht ?_)
      simp only [Bool.false_eq_true, if_false]
      exact wpAny_pure ⟨rfl, rfl, more⟩
  · rintro ⟨r1, r2⟩ s' ⟨hr, rfl, _⟩
    simp only at hr
    subst hr
    exact wpAny_pure q
/-! ### a set at an address: its members in the table's order -/
abbrev Mem := List (Value × T)
def Mem.rows (w : World) (L : Mem) : List (Int × Value) := L.map fun p => (hashT w p.2, p.1)
def Mem.hs (w : World) (L : Mem) : List Int := L.map fun p => hashT w p.2
structure IsSetT (P : Program) (w : World) (h : Heap) (a : Addr) (L : Mem) (es : Array (Int × Value)) (ep : Nat) (t : SetTable) : Prop where
  ob : ∃ o, h.get? a = some o ∧ o.ExactSet ∧ o.data = .set es ep t
  rows : es.toList = L.rows w
  tab : TabOk t (L.hs w)
  nd : (L.map (·.2)).Nodup
  mem : ∀ p ∈ L, KA h p.2 p.1
  led : w.params.followText "set-order" = true ∨ t.led = true
  room : L.length * 5 < t.mask * 3
  few : L.length < 64
variable {a : Addr} {L : Mem} {es : Array (Int × Value)} {ep : Nat} {t : SetTable}
theorem rows_size {es : Array (Int × Value)} {L : Mem} (h : es.toList = L.rows w) : es.size = L.length := by
  have := congrArg List.length h
  simpa [Mem.rows] using this
theorem IsSetT.fits (S : IsSetT P w s.heap a L es ep t) : t.fits es.size = true := by
  have h1 : t.place.size = L.length := by have := S.tab.sz; simpa [Mem.hs] using this
  have h2 := rows_size S.rows
  have h3 := S.room
  unfold SetTable.fits SetTable.fill
  rw [S.tab.dm, Bool.and_eq_true, beq_iff_eq, decide_eq_true_eq]
  show t.place.size = es.size ∧ t.place.size + 0 ≤ t.mask
  omega
theorem rows_at {es : Array (Int × Value)} {L : Mem} (h : es.toList = L.rows w) {i : Nat} {p : Value × T} (e : L[i]? = some p) : es[i]? = some (hashT w p.2, p.1) := by
  rw [← Array.getElem?_toList, h]
  simp [Mem.rows, e]
/-- where seeking stands after c steps -/
abbrev stepAt (m : Nat) (h : Int) (c : Nat) : SetTable.Probe := nth m (runAt m (SetTable.bits h % (m + 1)) (SetTable.bits h)) c
theorem step_clean (m : Nat) (h : Int) (c : Nat) : (stepAt m h c).dummy = none := by
  have key : ∀ (n : Nat) (p : SetTable.Probe), p.dummy = none → (nth m p n).dummy = none := by
    intro n
    induction n with
    | zero => exact fun p e => e
    | succ n ih =>
      intro p e
      refine ih (adv m p) ?_
      unfold adv
      split <;> exact e
  exact key c _ rfl
theorem step_add (m : Nat) (h : Int) (c q : Nat) : nth m (stepAt m h c) q = stepAt m h (c + q) := (nth_add m c _ q).symm
/-- SEEKING from step c on: the member is found, or the first free place -/
theorem seek (S : IsSetT P w s.heap a L es ep t) {x : Value} {k : T} (hx : KA s.heap k x) (hu : A.units + 10 < cLine) {K : Nat} (Kf : K < 10 * SetTable.turns t.mask) (free : way t.mask (hashT w k) K ∉ t.place.toList) (full : ∀ c, c < K → way t.mask (hashT w k) c ∈ t.place.toList)
    {Q : SetFound → Shared → Prop} (there : k ∈ L.map (·.2) → Q (.there none) s) (gone : k ∉ L.map (·.2) → Q (.free (way t.mask (hashT w k) K) false) s) (f : Nat) :
    ∀ (c : Nat) (stand : Option SetTable.Probe), stand.getD (t.probeStart (hashT w k)) = stepAt t.mask (hashT w k) c → c ≤ K → K - c < f →
      (∀ (i : Nat) p, L[i]? = some p → p.2 = k → ∃ c', c ≤ c' ∧ c' < K ∧ t.place.toList[i]? = some (way t.mask (hashT w k) c')) → wpAny (model P w) A (setSearchFrom a x (hashT w k) true f stand) Q E s := by
  induction f with
  | zero => intro c _ _ _ hf; exact absurd hf (Nat.not_lt_zero _)
  | succ f ih =>
    intro c stand hst hc hf reach
    obtain ⟨o, ho, hex, hd⟩ := S.ob
    rw [setSearchFrom_succ]
    refine wpAny_bind (wpAny_setState_of ho hd S.fits ?_)
    dsimp only
    have gw : ¬ t.gaveWay = true := by unfold SetTable.gaveWay; rw [mask_odd S.tab.mok]; decide
    refine wp_if_neg gw ?_
    try refine wpAny_bind (wpAny_pure ?_)
    have jAt : ∀ q, (nth t.mask (stepAt t.mask (hashT w k) c) q).j = way t.mask (hashT w k) (c + q) := fun q => congrArg SetTable.Probe.j (step_add t.mask (hashT w k) c q)
    have back : c + (K - c) = K := by omega
    have hashAt : ∀ (i : Nat) p, L[i]? = some p → (fun i => (es[i]?.map (·.1)).getD 0) i = hashT w p.2 := fun i p hp => by
      show (es[i]?.map (·.1)).getD 0 = _
      rw [rows_at S.rows hp] <;> rfl
    rcases go_spec t S.tab.ris S.tab.dm (fun i => (es[i]?.map (·.1)).getD 0) (hashT w k) (10 * SetTable.turns t.mask) (K - c) _ (step_clean t.mask (hashT w k) c) (by omega) (fun q hq => by rw [jAt]; exact full (c + q) (by omega)) (by rw [jAt, back]; exact free) with
      ⟨q, i, hq, hi, hh, before, go⟩ | ⟨before, go⟩
    · have probe : t.probe (fun i => (es[i]?.map (·.1)).getD 0) (hashT w k) (stand.getD (t.probeStart (hashT w k))) = some (.candidate (way t.mask (hashT w k) (c + q)) i (stepAt t.mask (hashT w k) (c + (q + 1)))) := by
        rw [hst, ← jAt, ← step_add]
        exact go
      rw [probe]
      dsimp only
      rw [jAt] at hi
      have il : i < L.length := by
        have h1 := (List.getElem?_eq_some_iff.mp hi).1
        have h2 : t.place.size = L.length := by have := S.tab.sz; simpa [Mem.hs] using this
        rw [Array.length_toList] at h1
        omega
      obtain ⟨p, hp⟩ : ∃ p, L[i]? = some p := ⟨L[i], List.getElem?_eq_getElem il⟩
      have pm : p ∈ L := List.mem_of_getElem? hp
      have slot : t.slot (way t.mask (hashT w k) (c + q)) = .live i := slot_live S.tab.ris hi
      obtain ⟨pb, epb⟩ := (S.mem p pm).ref
      have rest : wpAny (model P w) A (searchRest a x (hashT w k) true f es t (way t.mask (hashT w k) (c + q)) i (stepAt t.mask (hashT w k) (c + (q + 1)))) Q E s := by
        unfold searchRest
        rw [rows_at S.rows hp]
        dsimp only
        refine wpAny_bind (wpAny_holding (ka_eq hu (S.mem p pm) hx ?_))
        refine wpAny_bind (wpAny_setState_of ho hd S.fits ?_)
        dsimp only
        by_cases same : p.2 = k
        · exact wp_if_pos (by simp [same]) (wpAny_pure (there (List.mem_map.mpr ⟨p, pm, same⟩)))
        · refine wp_if_neg (by simp [same]) ?_
          try refine wpAny_bind (wpAny_pure ?_)
          rw [show t.sameMemory t.moves t.mask = some true from sameMem t]
          dsimp only
          simp only [if_true, slot, rows_at S.rows hp, epb]
          refine wpAny_bind (wpAny_isSame_ref_self (wpAny_bind (wpAny_pure ?_)))
          simp only [if_true]
          refine wp_if_neg (by simp [same]) ?_
          refine ih (c + (q + 1)) _ rfl (by omega) (by omega) fun i0 p0 h0 k0 => ?_
          obtain ⟨c', a1, a2, a3⟩ := reach i0 p0 h0 k0
          refine ⟨c', ?_, a2, a3⟩
          rcases Nat.lt_trichotomy c' (c + q) with z | z | z
          · exact absurd ((hashAt i0 p0 h0).trans (congrArg (hashT w) k0)) (before (c' - c) i0 (by omega) (by rw [jAt, show c + (c' - c) = c' by omega]; exact a3))
          · rw [z] at a3
            have e0 := slot_live S.tab.ris a3
            rw [slot] at e0
            injection e0 with e0
            rw [← e0, hp] at h0
            exact absurd ((congrArg Prod.snd (Option.some.inj h0)).trans k0) same
          · omega
      by_cases hl : t.led = true
      · refine wp_if_neg (by simp [hl]) ?_
        try refine wpAny_bind (wpAny_pure ?_)
        exact rest
      · refine wp_if_pos (by simp [hl]) ?_
        refine wpAny_bind (ka_unseen hx (fun y hy => ?_) ?_)
        · obtain ⟨e, he, rfl⟩ := List.mem_map.mp hy
          have he2 : e ∈ es.toList := by have := he; simp at this; simpa using this.1
          rw [S.rows] at he2
          obtain ⟨p2, hp2, rfl⟩ := List.mem_map.mp he2
          exact ⟨p2.2, S.mem p2 hp2⟩
        · refine wp_if_neg (by decide) ?_
          try refine wpAny_bind (wpAny_pure ?_)
          exact rest
    · have probe : t.probe (fun i => (es[i]?.map (·.1)).getD 0) (hashT w k) (stand.getD (t.probeStart (hashT w k))) = some (.empty (way t.mask (hashT w k) K) none) := by
        rw [hst, show way t.mask (hashT w k) K = (nth t.mask (stepAt t.mask (hashT w k) c) (K - c)).j by rw [jAt, back]]
        exact go
      rw [probe]
      dsimp only
      refine wpAny_pure (gone fun hm => ?_)
      obtain ⟨p0, h0, k0⟩ := List.mem_map.mp hm
      obtain ⟨i0, hi0, e0⟩ := List.getElem_of_mem h0
      have h00 : L[i0]? = some p0 := by rw [List.getElem?_eq_getElem hi0, e0]
      obtain ⟨c', a1, a2, a3⟩ := reach i0 p0 h00 k0
      exact before (c' - c) i0 (by omega) (by rw [jAt, show c + (c' - c) = c' by omega]; exact a3) ((hashAt i0 p0 h00).trans (congrArg (hashT w) k0))
/-- .. as adding asks -/
theorem seek_at (S : IsSetT P w s.heap a L es ep t) {x : Value} {k : T} (hx : KA s.heap k x) (hu : A.units + 10 < cLine) {Q : SetFound → Shared → Prop} (there : k ∈ L.map (·.2) → Q (.there none) s)
    (gone : ∀ K, k ∉ L.map (·.2) → way t.mask (hashT w k) K ∉ t.place.toList → (∀ c, c < K → way t.mask (hashT w k) c ∈ t.place.toList) → Q (.free (way t.mask (hashT w k) K) false) s) : wpAny (model P w) A (setSearch a x (hashT w k) true) Q E s := by
  have hroom := S.room
  obtain ⟨K, Kf, free, full⟩ := S.tab.first (by simp [Mem.hs]; omega) (hashT w k)
  have small : K < 100000 := by
    have : 10 * SetTable.turns t.mask ≤ 1420 := by
      unfold SetTable.turns
      rcases S.tab.mok with e | e | e <;> omega
    omega
  unfold setSearch
  refine seek S hx hu Kf free full there (fun hn => gone K hn free full) 100000 0 none rfl (Nat.zero_le _) (by omega) fun i p hp hk => ?_
  have hi : (L.hs w)[i]? = some (hashT w k) := by simp [Mem.hs, hp, hk]
  have il : i < t.place.toList.length := by
    have h1 := (List.getElem?_eq_some_iff.mp hp).1
    have h2 : t.place.size = L.length := by have := S.tab.sz; simpa [Mem.hs] using this
    rw [Array.length_toList]
    omega
  obtain ⟨c, hc, e⟩ := S.tab.before free hi (List.getElem?_eq_getElem il)
  exact ⟨c, Nat.zero_le _, hc, by rw [List.getElem?_eq_getElem il, e]⟩
end
end PL
/-! such sets: a larger table, one member more -/
namespace PL
open PySem PySem.Spec PyProof.Rows L2

section
variable {P : Program} {w : World} {A : Around} {E : Value → Shared → Prop} {s : Shared} {a : Addr} {L : Mem} {es : Array (Int × Value)} {ep : Nat} {t : SetTable}
/-- the members in another order -/
theorem reorder (hr : es.toList = L.rows w) {order : Array Nat} (hp : order.toList.Perm (List.range L.length)) :
    ∃ L2 : Mem, (order.filterMap (es[·]?)).toList = L2.rows w ∧ L2.Perm L ∧ L2.hs w = order.toList.map fun i => (es.map (·.1)).getD i 0 := by
  have ent : ∀ i (h : i < L.length), es[i]? = some (hashT w (L[i]).2, (L[i]).1) := fun i h => rows_at hr (List.getElem?_eq_getElem h)
  have esz := rows_size hr
  have go : ∀ l : List Nat, (∀ i ∈ l, i < L.length) → l.filterMap (fun i => es[i]?) = Mem.rows w (l.filterMap fun i => L[i]?) ∧ Mem.hs w (l.filterMap fun i => L[i]?) = l.map fun i => (es.map (·.1)).getD i 0 := by
    intro l
    induction l with
    | nil => intro _; exact ⟨rfl, rfl⟩
    | cons i l ih =>
      intro hl
      have hi := hl i List.mem_cons_self
      obtain ⟨e1, e2⟩ := ih fun j hj => hl j (List.mem_cons_of_mem _ hj)
      rw [List.filterMap_cons_some (ent i hi), List.filterMap_cons_some (List.getElem?_eq_getElem hi), e1]
      refine ⟨rfl, ?_⟩
      rw [List.map_cons, ← e2]
      show hashT w (L[i]).2 :: _ = _
      congr 1
      have : (es.map (·.1))[i]? = some (hashT w (L[i]).2) := by rw [Array.getElem?_map, ent i hi] <;> rfl
      simp [Array.getD_eq_getD_getElem?, this]
  obtain ⟨e1, e2⟩ := go order.toList fun i hi => List.mem_range.mp (hp.mem_iff.mp hi)
  refine ⟨order.toList.filterMap fun i => L[i]?, by first | (rw [Array.toList_filterMap]; exact e1) | simpa using e1, ?_, e2⟩
  have whole : ∀ n, n ≤ L.length → (List.range n).filterMap (fun i => L[i]?) = L.take n := by
    intro n
    induction n with
    | zero => intro _; rfl
    | succ n ih =>
      intro hn
      rw [List.range_succ, List.filterMap_append, ih (by omega), List.take_succ, List.getElem?_eq_getElem (show n < L.length from hn), List.filterMap_cons_some (List.getElem?_eq_getElem (show n < L.length from hn))] <;> rfl
  have h1 := hp.filterMap fun i => L[i]?
  rwa [whole L.length (Nat.le_refl _), List.take_length] at h1
/-- a member isn't the set -/
theorem ka_same {h h' : Heap} {k : T} {v : Value} {o : Obj} (m : KA h k v) (ho : h.get? a = some o) (hd : o.data = .set es ep t) (sb : Heap.SameBut a h h') : KA h' k v :=
  m.keep (d := a) (fun o' its n e z => by rw [ho] at e; cases e; rw [hd] at z; cases z) fun b hb o' e => (sb.2 b hb).trans e
/-- the table laid anew -/
theorem relay_set {o : Obj} (ho : s.heap.get? a = some o) (hex : o.ExactSet) (hd : o.data = .set es ep t) (hr : es.toList = L.rows w) (hsz : t.place.size = es.size) (hdm : t.dummies = #[]) (hfl : es.size ≤ t.mask) (nd : (L.map (·.2)).Nodup) (mem : ∀ p ∈ L, KA s.heap p.2 p.1)
    (ld : w.params.followText "set-order" = true ∨ t.led = true) (few : L.length < 64) {wanted M : Nat} (hw : SetTable.sizeAbove wanted - 1 = M) (hM : MaskOk M) (big : SetTable.sizeAbove wanted ≤ 128) (room : L.length * 5 < M * 3) {Q : Unit → Shared → Prop}
    (q : ∀ h' L' es' ep' t', Heap.SameBut a s.heap h' → IsSetT P w h' a L' es' ep' t' → L'.Perm L → Q () { s with heap := h' }) : wpAny (model P w) A (setRelay a wanted) Q E s := by
  have esz := rows_size hr
  have fits : t.fits es.size = true := by
    unfold SetTable.fits SetTable.fill
    rw [hdm, Bool.and_eq_true, beq_iff_eq, decide_eq_true_eq]
    show t.place.size = es.size ∧ t.place.size + 0 ≤ t.mask
    omega
  obtain ⟨t', order, e, hp, T', em, el, ep', ed⟩ := relaid_ok t (hs := es.map (·.1)) (wanted := wanted) hw hM (by rw [Array.size_map, esz]; omega)
  rw [Array.size_map, esz] at hp
  obtain ⟨L2, r1, r2, r3⟩ := reorder hr hp
  rw [← r3] at T'
  have sz2 : (order.filterMap (es[·]?)).size = es.size := by rw [rows_size r1, r2.length_eq, esz]
  rw [setRelay_eq]
  refine wpAny_bind (wpAny_setState_of ho hd fits ?_)
  dsimp only
  refine wp_if_neg (by rw [sizeLine_eq]; omega) ?_
  try refine wpAny_bind (wpAny_pure ?_)
  rw [e]
  dsimp only
  refine wpAny_bind ?_
  refine wp_if_neg (by rw [sz2]; simp) ?_
  try refine wpAny_bind (wpAny_pure ?_)
  refine wpAny_pure ?_
  dsimp only
  refine wpAny_storeSet_of ho hd ?_ (by rw [sz2, esz, sizeLine_eq]; omega)
  have sb : Heap.SameBut a s.heap (s.heap.update a (Obj.putSet (order.filterMap (es[·]?)) t')) := Heap.SameBut.update ..
  refine q _ L2 (order.filterMap (es[·]?)) (ep + 1) t' sb ⟨⟨_, store_at ho hd, ⟨hex.1, hex.2.1, hex.2.2⟩, rfl⟩, r1, T', (r2.map (·.2)).nodup_iff.mpr nd, fun p hpm => ka_same (mem p (r2.mem_iff.mp hpm)) ho hd sb, by rw [el]; exact ld, ?_, by rw [r2.length_eq]; exact few⟩ r2
  rw [r2.length_eq, em]
  exact room
/-- ADDING a member -/
theorem add_set (S : IsSetT P w s.heap a L es ep t) {x : Value} {k : T} (hx : KA s.heap k x) (hu : A.units + 10 < cLine) (one : k ∉ L.map (·.2) → L.length + 1 < 64) {Q : Bool → Shared → Prop}
    (q : ∀ b h' L' es' ep' t', Heap.SameBut a s.heap h' → IsSetT P w h' a L' es' ep' t' → (k ∈ L.map (·.2) → L' = L) → (k ∉ L.map (·.2) → L'.Perm ((x, k) :: L)) → Q b { s with heap := h' }) : wpAny (model P w) A (setAddHashed a x (hashT w k)) Q E s := by
  obtain ⟨xb, exb⟩ := hx.ref
  obtain ⟨o, ho, hex, hd⟩ := S.ob
  have esz := rows_size S.rows
  have hroom := S.room
  unfold setAddHashed
  refine wpAny_holding ?_
  rw [show (100000 : Nat) = 99999 + 1 from rfl, setAddHashedIn_succ]
  refine wpAny_bind (wpAny_setState_of ho hd S.fits ?_)
  dsimp only
  refine wp_if_neg (by rw [exb]; simp [byScan, Value.scannable]) ?_
  try refine wpAny_bind (wpAny_pure ?_)
  refine wpAny_bind (seek_at S hx hu (fun hm => ?_) fun K hm free full => ?_)
  · dsimp only
    exact wpAny_pure (q false s.heap L es ep t (Heap.SameBut.refl a s.heap) S (fun _ => rfl) fun z => absurd hm z)
  · dsimp only
    refine wpAny_bind (wpAny_setState_of ho hd S.fits ?_)
    dsimp only
    have hfew := one hm
    obtain ⟨q1, q2, q3, q4, q5, q6, q7, q8, q9⟩ := S.tab.put free full
    generalize hpt : t.put (way t.mask (hashT w k) K) = pt at q1 q3 q4 q5 q6 q7 q8 q9 ⊢
    obtain ⟨t1, p⟩ := pt
    dsimp only at q1 q3 q4 q5 q6 q7 q8 q9 ⊢
    subst q1
    -- whether the hash goes by value tells only the mark «plain»
    have rest : ∀ t2 : SetTable, t2.place = t1.place → t2.dummies = t1.dummies → t2.mask = t1.mask → t2.led = t1.led → t2.tooFull = t1.tooFull → TabOk t2 ((L.hs w).take (SetTable.below t.place (way t.mask (hashT w k) K)) ++ hashT w k :: (L.hs w).drop (SetTable.below t.place (way t.mask (hashT w k) K))) →
        wpAny (model P w) A (do
          storeSet a (SetTable.insertAt es (SetTable.below t.place (way t.mask (hashT w k) K)) (hashT w k, x)) t2
          if !false && t2.tooFull then setRelay a (SetTable.grown (es.size + 1))
          return true) Q E s := by
      intro t2 e1 e2 e3 e4 e5 q3
      have hin : (SetTable.insertAt es (SetTable.below t.place (way t.mask (hashT w k) K)) (hashT w k, x)).toList = Mem.rows w (L.take (SetTable.below t.place (way t.mask (hashT w k) K)) ++ (x, k) :: L.drop (SetTable.below t.place (way t.mask (hashT w k) K))) := by
        rw [SetTable.toList_insertAt, S.rows]
        simp [Mem.rows, List.map_take, List.map_drop]
      generalize hpp : SetTable.below t.place (way t.mask (hashT w k) K) = p at q2 q3 hin ⊢
      have pm : (L.take p ++ (x, k) :: L.drop p).Perm ((x, k) :: L) := put_perm L p (x, k)
      have hlen : (L.take p ++ (x, k) :: L.drop p).length = L.length + 1 := pm.length_eq
      have hhs : Mem.hs w (L.take p ++ (x, k) :: L.drop p) = (L.hs w).take p ++ hashT w k :: (L.hs w).drop p := by simp [Mem.hs, List.map_take, List.map_drop]
      rw [← hhs] at q3
      have nd1 : ((L.take p ++ (x, k) :: L.drop p).map (·.2)).Nodup := by
        refine (pm.map (·.2)).nodup_iff.mpr ?_
        rw [List.map_cons]
        exact List.nodup_cons.mpr ⟨hm, S.nd⟩
      have hes : (SetTable.insertAt es p (hashT w k, x)).size = L.length + 1 := by rw [rows_size hin, hlen]
      generalize SetTable.insertAt es p (hashT w k, x) = es1 at hin hes ⊢
      generalize hL1 : L.take p ++ (x, k) :: L.drop p = L1 at pm hlen q3 nd1 hin
      refine wpAny_bind (wpAny_storeSet_of ho hd ?_ (by rw [hes, sizeLine_eq]; omega))
      have sb : Heap.SameBut a s.heap (s.heap.update a (Obj.putSet es1 t2)) := Heap.SameBut.update ..
      have ho1 := store_at (es' := es1) (t' := t2) ho hd
      generalize s.heap.update a (Obj.putSet es1 t2) = h1 at sb ho1 ⊢
      have mem1 : ∀ p ∈ L1, KA h1 p.2 p.1 := fun p hp => by
        rcases List.mem_cons.mp (pm.mem_iff.mp hp) with e | hp
        · rw [e]; exact ka_same hx ho hd sb
        · exact ka_same (S.mem p hp) ho hd sb
      have ld1 : w.params.followText "set-order" = true ∨ t2.led = true := by rw [e4, q5]; exact S.led
      have fill1 : t2.tooFull = decide ((L.length + 1) * 5 ≥ t2.mask * 3) := by
        rw [e5]; unfold SetTable.tooFull; rw [q9, e3]; simp [Mem.hs]
      have psz : t2.place.size = es1.size := by
        have h := q3.sz
        rw [show (Mem.hs w L1).length = L1.length by simp [Mem.hs], hlen] at h
        rw [h, hes]
      by_cases hf : t2.tooFull = true
      · first
          | (refine wpAny_bind ?_; refine wp_if_pos (by simp [hf]) ?_)
          | (refine wp_if_pos (by simp [hf]) ?_; refine wpAny_bind ?_)
        have hfull : (L.length + 1) * 5 ≥ t2.mask * 3 := by rw [fill1] at hf; simpa using hf
        rw [esz]
        have m2 : t2.mask = t.mask := by rw [e3, q4]
        have two : (t.mask = 7 ∧ L.length = 4) ∨ (t.mask = 31 ∧ L.length = 18) := by
          rcases S.tab.mok with e | e | e
          · left; rw [m2, e] at hfull; rw [e] at hroom; exact ⟨e, by omega⟩
          · right; rw [m2, e] at hfull; rw [e] at hroom; exact ⟨e, by omega⟩
          · exfalso; rw [m2, e] at hfull; omega
        have go : ∀ M, SetTable.sizeAbove (SetTable.grown (L.length + 1)) - 1 = M → MaskOk M → SetTable.sizeAbove (SetTable.grown (L.length + 1)) ≤ 128 → (L.length + 1) * 5 < M * 3 →
            wpAny (model P w) A (setRelay a (SetTable.grown (L.length + 1))) (fun _ s' => wpAny (model P w) A (pure true) Q E s') E { s with heap := h1 } := fun M h1' h2' h3' h4' => by
          refine relay_set (s := { s with heap := h1 }) ho1 ⟨hex.1, hex.2.1, hex.2.2⟩ rfl hin psz q3.dm (by rw [hes, m2]; rcases two with ⟨e, e2⟩ | ⟨e, e2⟩ <;> omega) nd1 mem1 ld1 (by rw [hlen]; exact hfew) h1' h2' h3' (by rw [hlen]; exact h4') ?_
          intro h2 L2 es2 ep2 t2 sb2 S2 pm2
          exact wpAny_pure (q true h2 L2 es2 ep2 t2 (sb.trans sb2) S2 (fun z => absurd z hm) fun _ => pm2.trans pm)
        rcases two with ⟨_, e2⟩ | ⟨_, e2⟩
        · exact go 31 (by rw [e2, size_20]) (.inr (.inl rfl)) (by rw [e2, size_20]; decide) (by omega)
        · exact go 127 (by rw [e2, size_76]) (.inr (.inr rfl)) (by rw [e2, size_76]; decide) (by omega)
      · first
          | refine wp_if_neg (by simp [hf]) ?_
          | (refine wpAny_bind ?_; refine wp_if_neg (by simp [hf]) ?_; refine wpAny_pure ?_)
        refine wpAny_pure (q true h1 L1 es1 (ep + 1) t2 sb ⟨⟨_, ho1, ⟨hex.1, hex.2.1, hex.2.2⟩, rfl⟩, hin, q3, nd1, mem1, ld1, ?_, by rw [hlen]; exact hfew⟩ (fun z => absurd z hm) fun _ => pm)
        rw [fill1, decide_eq_true_eq] at hf
        rw [hlen]
        omega
    have q3' : TabOk { t1 with plain := false } ((L.hs w).take (SetTable.below t.place (way t.mask (hashT w k) K)) ++ hashT w k :: (L.hs w).drop (SetTable.below t.place (way t.mask (hashT w k) K))) :=
      ⟨q3.ris, q3.dm, q3.sz, q3.mok, q3.bd, q3.reach⟩
    by_cases pl : t1.plain = true
    · refine wp_if_pos pl (wpAny_bind (byVal 7 k x 8 _ hx.key.2 (by omega) hx.2 fun b => ?_))
      cases b with
      | true => exact rest t1 rfl rfl rfl rfl rfl q3
      | false => exact rest { t1 with plain := false } rfl rfl rfl rfl rfl q3'
    · refine wp_if_neg pl ?_
      first
        | exact rest t1 rfl rfl rfl rfl rfl q3
        | exact wpAny_bind (wpAny_pure (rest t1 rfl rfl rfl rfl rfl q3))
end
end PL
/-! such sets: set(xs) -/
namespace PL
open PySem PySem.Spec PyProof.Rows L2

/-- the distinct ones, at their first places -/
def dedupT : List T → List T
  | [] => []
  | x :: xs => x :: (dedupT xs).filter fun y => !T.eqv x y
section
theorem dedup_sub : ∀ {xs : List T} {y : T}, y ∈ dedupT xs → y ∈ xs
  | [], _, h => by simp [dedupT] at h
  | x :: xs, y, h => by
    simp only [dedupT, List.mem_cons, List.mem_filter] at h
    rcases h with h | h
    · exact h ▸ List.mem_cons_self
    · exact List.mem_cons_of_mem _ (dedup_sub h.1)
theorem eqv_iff {x y : T} (hx : x.dkey = true) (hy : y.dkey = true) : T.eqv x y = true ↔ x = y := by
  simp only [T.dkey, Bool.and_eq_true] at hx hy
  exact key_eqv 7 x y hx.2 hy.2
theorem dedup_all : ∀ {xs : List T} {y : T}, (∀ x ∈ xs, x.dkey = true) → y ∈ xs → y ∈ dedupT xs
  | [], _, _, h => by simp at h
  | x :: xs, y, k, h => by
    simp only [dedupT, List.mem_cons, List.mem_filter, Bool.not_eq_true']
    by_cases e : y = x
    · exact .inl e
    · refine .inr ⟨dedup_all (fun z hz => k z (List.mem_cons_of_mem _ hz)) ((List.mem_cons.mp h).resolve_left e), ?_⟩
      cases q : T.eqv x y with
      | false => rfl
      | true => exact absurd ((eqv_iff (k x List.mem_cons_self) (k y h)).mp q).symm e
theorem dedup_nodup : ∀ {xs : List T}, (∀ x ∈ xs, x.dkey = true) → (dedupT xs).Nodup
  | [], _ => by simp [dedupT]
  | x :: xs, k => by
    simp only [dedupT, List.nodup_cons, List.mem_filter, not_and, Bool.not_eq_true', Bool.not_eq_false]
    refine ⟨fun _ => (eqv_iff (k x List.mem_cons_self) (k x List.mem_cons_self)).mpr rfl, ?_⟩
    exact (dedup_nodup fun z hz => k z (List.mem_cons_of_mem _ hz)).sublist List.filter_sublist
theorem len_le_of_sub {α : Type} : ∀ {l m : List α}, l.Nodup → (∀ x ∈ l, x ∈ m) → l.length ≤ m.length
  | [], _, _, _ => Nat.zero_le _
  | x :: l, m, nd, h => by
    obtain ⟨s, t, rfl⟩ := List.append_of_mem (h x List.mem_cons_self)
    have nd := List.nodup_cons.mp nd
    have := len_le_of_sub (l := l) (m := s ++ t) nd.2 fun y hy => by
      rcases List.mem_append.mp (h y (List.mem_cons_of_mem _ hy)) with z | z
      · exact List.mem_append_left _ z
      · rcases List.mem_cons.mp z with z | z
        · subst z; exact absurd hy nd.1
        · exact List.mem_append_right _ z
    simp at this ⊢
    omega
end
section
variable {P : Program} {w : World} {A : Around} {E : Value → Shared → Prop} {s : Shared}
/-- what the set has from the first i items -/
structure Took (ks : Mem) (i : Nat) (L : Mem) : Prop where
  sub : ∀ p ∈ L, p ∈ ks.take i
  all : ∀ p ∈ ks.take i, p.2 ∈ L.map (·.2)
theorem take_one {α : Type} {l : List α} {i : Nat} {x : α} (h : l[i]? = some x) : l.take (i + 1) = l.take i ++ [x] := by
  rw [List.take_succ, h]; rfl
theorem Took.next {ks L L' : Mem} {i : Nat} {x : Value × T} (g : Took ks i L) (h : ks[i]? = some x) (c1 : x.2 ∈ L.map (·.2) → L' = L) (c2 : x.2 ∉ L.map (·.2) → L'.Perm (x :: L)) : Took ks (i + 1) L' := by
  by_cases c : x.2 ∈ L.map (·.2)
  · rw [c1 c]
    refine ⟨fun p hp => ?_, fun p hp => ?_⟩
    · rw [take_one h]; exact List.mem_append_left _ (g.sub p hp)
    · rw [take_one h] at hp
      rcases List.mem_append.mp hp with z | z
      · exact g.all p z
      · rw [List.mem_singleton.mp z]; exact c
  · have pm := c2 c
    refine ⟨fun p hp => ?_, fun p hp => ?_⟩
    · rw [take_one h]
      rcases List.mem_cons.mp (pm.mem_iff.mp hp) with e | z
      · rw [e]; exact List.mem_append_right _ (List.mem_singleton.mpr rfl)
      · exact List.mem_append_left _ (g.sub p z)
    · rw [(pm.map (·.2)).mem_iff, List.map_cons]
      rw [take_one h] at hp
      rcases List.mem_append.mp hp with z | z
      · exact List.mem_cons_of_mem _ (g.all p z)
      · rw [List.mem_singleton.mp z]; exact List.mem_cons_self
theorem IsSetT.keep {h h' : Heap} {a : Addr} {L : Mem} {es : Array (Int × Value)} {ep : Nat} {t : SetTable} (S : IsSetT P w h a L es ep t) (ha : ∀ o, h.get? a = some o → h'.get? a = some o) (hm : ∀ p ∈ L, KA h' p.2 p.1) : IsSetT P w h' a L es ep t := by
  obtain ⟨o, ho, r⟩ := S.ob
  exact ⟨⟨o, ha o ho, r⟩, S.rows, S.tab, S.nd, hm, S.led, S.room, S.few⟩
abbrev freshSet (w : World) : Obj := { cls := .type "set", dict := none, data := .set #[] 0 (.fresh 0 0 (!w.params.followText "set-order")) }
theorem set_empty {h : Heap} {a : Addr} (ho : h.get? a = some (freshSet w)) : IsSetT P w h a [] #[] 0 (.fresh 0 0 (!w.params.followText "set-order")) where
  ob := ⟨_, ho, ⟨rfl, rfl, rfl⟩, rfl⟩
  rows := rfl
  tab := ⟨List.Pairwise.nil, rfl, rfl, .inl rfl, fun x hx => (by cases hx), fun i h j hi => (by simp [Mem.hs] at hi)⟩
  nd := List.nodup_nil
  mem := fun p hp => (by cases hp)
  led := by
    show _ ∨ (!w.params.followText "set-order") = true
    cases w.params.followText "set-order"
    · exact .inr rfl
    · exact .inl rfl
  room := by show 0 * 5 < 7 * 3; decide
  few := by show 0 < 64; decide
/-- set.update's turns -/
theorem upd_set {I : Addr} {fp wr : List Addr} {G : Array GenState → Array GenState → Prop} {n : Nat} {Pv : Nat → Value → Prop} {St : Nat → Shared → Prop} {R : Result → Shared → Prop} (Wk : WalksS P w A.in1 I fp wr G n Pv St) (D : Addr) (nD : D ∉ fp) (ks : Mem) (hn : n = ks.length)
    (few : (dedupT (ks.map (·.2))).length < 64) (dk : ∀ p ∈ ks, p.2.dkey = true) (val : ∀ i v, Pv i v → ∃ p, ks[i]? = some p ∧ v = p.1) (h0 : Heap) (mem : ∀ p ∈ ks, KA h0 p.2 p.1) (D0 : h0.get? D = none) (w0 : ∀ b ∈ wr, h0.get? b = none) (hu : A.units + 12 < cLine) (k : Nat) :
    ∀ (i : Nat) (s : Shared), n - i = k → i ≤ n → St i s → (∀ b o, h0.get? b = some o → s.heap.get? b = some o) → (∃ L es ep t, IsSetT P w s.heap D L es ep t ∧ Took ks i L) →
      (∀ s' L es ep t, Moved (D :: wr) G s s' → IsSetT P w s'.heap D L es ep t → Took ks n L → (∀ b o, h0.get? b = some o → s'.heap.get? b = some o) → R (.ok (.ret .none)) s') →
      codeAny (model P w) A (.builtin "set.update.loop" ⟨[.ref D, .ref I], []⟩) R s := by
  have nDw : D ∉ wr := fun h => nD (Wk.sub _ h)
  have up : ∀ b ∈ wr, b ∈ D :: wr := fun b hb => List.mem_cons_of_mem _ hb
  have carry : ∀ {s s' : Shared}, Moved wr G s s' → (∀ b o, h0.get? b = some o → s.heap.get? b = some o) → ∀ b o, h0.get? b = some o → s'.heap.get? b = some o := fun m kp b o e =>
    m.heap b o (fun hb => by rw [w0 b hb] at e; cases e) (kp b o e)
  induction k with
  | zero =>
    intro i s hk hi st kp ⟨L, es, ep, t, S, g⟩ fin
    obtain rfl : i = n := by omega
    refine codeAny_builtin F.entry_set_update_loop ?_
    rw [Around.under_plainId F.plain_set_update_loop _]
    show wpAny _ A.in1 (pyNext (.ref I) >>= _) _ _ s
    refine wpAny_bind (Wk.done s _ _ st fun s' m => ?_)
    show wpAny _ A.in1 (ret Value.none) _ _ s'
    have kp' := carry m kp
    exact wpAny_pure (fin s' L es ep t (m.mono up) (S.keep (fun o e => m.heap D o nDw e) fun p hp => (mem p (List.mem_of_mem_take (g.sub p hp))).all kp') g kp')
  | succ k ih =>
    intro i s hk hi st kp ⟨L, es, ep, t, S, g⟩ fin
    have lt : i < n := by omega
    refine codeAny_builtin F.entry_set_update_loop ?_
    rw [Around.under_plainId F.plain_set_update_loop _]
    show wpAny _ A.in1 (pyNext (.ref I) >>= _) _ _ s
    refine wpAny_bind (Wk.item i s _ _ lt st fun v s' hP st' m => ?_)
    obtain ⟨p, hp, rfl⟩ := val i v hP
    have kp' := carry m kp
    have S' : IsSetT P w s'.heap D L es ep t := S.keep (fun o e => m.heap D o nDw e) fun q hq => (mem q (List.mem_of_mem_take (g.sub q hq))).all kp'
    have pm := List.mem_of_getElem? hp
    have hx : KA s'.heap p.2 p.1 := (mem p pm).all kp'
    show wpAny _ A.in1 (holding [p.1] (setAdd D p.1) >>= _) _ _ s'
    refine wpAny_bind (wpAny_holding ?_)
    unfold setAdd
    refine wpAny_holding ?_
    obtain ⟨pb, epb⟩ := hx.ref
    refine wpAny_bind (hash_run 7 p.2 p.1 A.in1 s' _ (show A.units + 1 + 7 < cLine by omega) hx.key.2 hx.2 ?_)
    have hx2 : KA ({ s' with toks := s'.toks + p.2.draws } : Shared).heap p.2 p.1 := hx
    refine add_set (s := { s' with toks := s'.toks + p.2.draws }) S' hx2 (show A.units + 1 + 10 < cLine by omega) (fun nm => ?_) fun b h' L' es' ep' t' sb S2 c1 c2 => ?_
    · -- the distinct ones are fewer than 64
      have nd : (p.2 :: L.map (·.2)).Nodup := List.nodup_cons.mpr ⟨nm, S.nd⟩
      have := len_le_of_sub nd fun y hy => dedup_all (xs := ks.map (·.2)) (fun z hz => by obtain ⟨q, hq, rfl⟩ := List.mem_map.mp hz; exact dk q hq) (by
        rcases List.mem_cons.mp hy with e | hy
        · rw [e]; exact List.mem_map.mpr ⟨p, pm, rfl⟩
        · obtain ⟨q, hq, rfl⟩ := List.mem_map.mp hy
          exact List.mem_map.mpr ⟨q, List.mem_of_mem_take (g.sub q hq), rfl⟩)
      simp at this
      omega
    · have kp2 : ∀ b o, h0.get? b = some o → h'.get? b = some o := fun b o e => (sb.2 b (fun z => by rw [z, D0] at e; cases e)).trans (kp' b o e)
      refine wpAny_pure ⟨plainId_quiet F.plain_set_update_loop _, ih (i + 1) _ (by omega) lt (Wk.frame _ s' _ _ st' (Nat.le_add_right _ _) fun b hb o e => ?_) kp2 ⟨L', es', ep', t', S2, g.next hp c1 c2⟩ fun s2 L2 es2 ep2 t2 m2 S3 g3 kp3 => ?_⟩
      · rw [sb.2 b (fun h : b = D => nD (by rw [← h]; exact hb))]; exact e
      · refine fin s2 L2 es2 ep2 t2 (Moved.trans Wk.gtrans ((m.mono up).then_heap (Nat.le_add_right _ _) fun b o hb e => ?_) m2) S3 g3 kp3
        rw [sb.2 b (fun h : b = D => hb (by rw [h]; exact List.mem_cons_self))]; exact e
end
end PL
/-! such sets: set(xs), sorted(set(xs)) -/
namespace PL
open PySem PySem.Spec PyProof.Rows L2
open PySem.W (EachIs)

section
variable {P : Program} {w : World} {A : Around} {E : Value → Shared → Prop} {s : Shared}
set_option maxHeartbeats 3200000 in
/-- set(xs), xs a list: by what its turns leave at the new set -/
theorem set_by {l : Addr} {its : Array Value} {Z : Heap → Prop} {Q : Value → Shared → Prop} (hl : s.heap.IsList l its)
    (loop : ∀ R : Result → Shared → Prop, (∀ s' : Shared, s'.gens = s.gens → s'.drawn = s.drawn → s'.os = s.os → Z s'.heap → (∀ b o, s.heap.get? b = some o → s'.heap.get? b = some o) → R (.ok (.ret .none)) s') →
      codeAny (model P w) A.in1.in1 (.builtin "set.update.loop" ⟨[.ref s.heap.objs.size, .ref (s.heap.push (freshSet w)).objs.size], []⟩) R { s with heap := (s.heap.push (freshSet w)).push { cls := .type "list_iterator", data := .fields #[.ref l, .int 0 0] } })
    (q : ∀ (h' : Heap) (tk : Nat), Z h' → (∀ b o, s.heap.get? b = some o → h'.get? b = some o) → Q (.ref s.heap.objs.size) { s with heap := h', toks := tk }) :
    wpAny (model P w) A (call (.type "set") [.ref l]) Q E s := by
  obtain ⟨c, tl, hmro⟩ := F.called_set.mro
  have hmade := F.called_set.made
  have hsub := F.called_set.sub
  refine wpAny_call (codeAny_of_tree ?_)
  show wpAny _ _ (callAny (.type "set") _) _ _ _
  refine wpAny_pure ⟨Code.quiet_builtin _ (by decide +kernel), codeAny_builtin F.entry_type_call ?_⟩
  rw [Around.under_plain (weight_type_call_type "set" [.ref l] []) rfl]
  have g1 := F.called_set.notType
  have g2 := F.called_set.canCreate
  have g3 := F.typeCall_set_1 (.ref l)
  repeat (any_goals (first | assumption | wp_step))
  refine codeAny_mono (code_set_led1 (.ref l) (E := E) (Q₁ := fun ob s₁ => ob = .ref s.heap.objs.size ∧ s₁ = { s with heap := s.heap.push (freshSet w) }) ⟨rfl, rfl⟩) fun r s₁ hr => ?_
  rcases r with e | fl
  · exact hr
  rcases fl with u | _ | _ | _ <;> try exact hr.elim
  obtain ⟨rfl, rfl⟩ := hr
  have hS : (s.heap.push (freshSet w)).get? s.heap.objs.size = some (freshSet w) := Heap.get?_push_size _ rfl
  have hT : Shared.TypeIs { s with heap := s.heap.push (freshSet w) } (.ref s.heap.objs.size) "set" := ⟨_, hS, rfl⟩
  have hli := F.called_set.init.lookup
  have hbi := F.called_set.init.bind (.ref s.heap.objs.size)
  repeat (any_goals (first | assumption | wp_step))
  refine codeAny_mono (codeAny_call_builtin (R := wants (fun r s₂ => r = .none ∧ ∃ h' tk, s₂ = { s with heap := h', toks := tk } ∧ Z h' ∧ (∀ b o, s.heap.get? b = some o → h'.get? b = some o)) E)
    F.called_set.init.plain F.entry_set_init (check_set_init_1 hT ?_)) fun r₂ s₂ hr₂ => ?_
  · obtain ⟨⟨ocls, odict, odata, oslots⟩, hol, hcl, nl, hdl⟩ := hl
    simp only at hcl hdl
    subst hcl; subst hdl
    have hol' : (s.heap.push (freshSet w)).get? l = some { cls := .type "list", dict := odict, data := .seq its nl, slots := oslots } := Heap.get?_push_of_some _ hol
    have hsls := F.sub_list_set
    have hslf := F.sub_list_frozenset
    have hne : (Value.type "list" == Value.type "dict") = false := by decide
    have hl1 : (s.heap.push (freshSet w)).IsList l its := ⟨_, hol', rfl, nl, rfl⟩
    unfold Builtin.«set.__init__» noKeywords Builtin.Frozenset.updateFrom
    generalize hPI : pyIter = PI
    wp_walk
    subst hPI
    refine wpAny_pyIter_list hl1 ?_
    refine wpAny_bind (wpAny_runValue ?_)
    refine loop _ fun s' hg hdr ho hz hkp => ?_
    obtain ⟨h', gg, d', tk', os'⟩ := s'
    obtain rfl : gg = s.gens := hg
    obtain rfl : d' = s.drawn := hdr
    obtain rfl : os' = s.os := ho
    show wpAny _ _ _ _ _ _
    refine wpAny_pure ?_
    show wpAny _ _ (ret Value.none) _ _ _
    exact wpAny_pure ⟨rfl, h', tk', rfl, hz, hkp⟩
  · rcases r₂ with e | fl₂
    · exact hr₂
    rcases fl₂ with r | _ | _ | _ <;> try exact hr₂.elim
    obtain ⟨rfl, h', tk, rfl, hz, hk'⟩ := hr₂
    repeat (any_goals (first | assumption | wp_step))
    exact q _ _ hz hk'
/-- what a walk over the list asks -/
theorem walk_new {l : Addr} {its : Array Value} (hh : A.handled = none) (hl : s.heap.IsList l its) :
    ∃ n1 : s.heap.objs.size ∉ [(s.heap.push (freshSet w)).objs.size, l], ∃ St : Nat → Shared → Prop, WalksS P w A.in1.in1.in1 (s.heap.push (freshSet w)).objs.size [(s.heap.push (freshSet w)).objs.size, l] [(s.heap.push (freshSet w)).objs.size] (fun a b => b = a) its.size (fun i v => its[i]? = some v) St ∧
      St 0 { s with heap := (s.heap.push (freshSet w)).push { cls := .type "list_iterator", data := .fields #[.ref l, .int 0 0] } } := by
  obtain ⟨o, hol, r⟩ := hl
  have hlS : l < s.heap.objs.size := Heap.lt_size hol
  have hh3 : A.in1.in1.in1.handled = none := by simp [hh]
  have psz : (s.heap.push (freshSet w)).objs.size = s.heap.objs.size + 1 := Heap.size_push ..
  have hneI : l ≠ (s.heap.push (freshSet w)).objs.size := by rw [psz]; exact Nat.ne_of_lt (Nat.lt_succ_of_lt hlS)
  have hl1 : (s.heap.push (freshSet w)).IsList l its := ⟨o, Heap.get?_push_of_some _ hol, r⟩
  refine ⟨?_, _, (Walks.list hh3 _ l hneI its).toS, ⟨⟨_, Heap.get?_push_size _ rfl, rfl, rfl⟩, (hl1.push _)⟩⟩
  rw [psz]; simp only [List.mem_cons, List.not_mem_nil, or_false, not_or]
  exact ⟨Nat.ne_of_lt (Nat.lt_succ_self _), Nat.ne_of_gt hlS⟩
/-- set(xs), xs a list of such members -/
theorem new_set {l : Addr} {its : Array Value} (ks : Mem) {Q : Value → Shared → Prop} (hh : A.handled = none) (hl : s.heap.IsList l its) (hit : its.toList = ks.map (·.1)) (mem : ∀ p ∈ ks, KA s.heap p.2 p.1) (few : (dedupT (ks.map (·.2))).length < 64) (hu : A.units + 20 < cLine)
    (q : ∀ (h' : Heap) (tk : Nat) L es ep t, IsSetT P w h' s.heap.objs.size L es ep t → Took ks ks.length L → (∀ b o, s.heap.get? b = some o → h'.get? b = some o) → Q (.ref s.heap.objs.size) { s with heap := h', toks := tk }) :
    wpAny (model P w) A (call (.type "set") [.ref l]) Q E s := by
  have isz : its.size = ks.length := by
    have := congrArg List.length hit
    simpa using this
  obtain ⟨nD, St, Wk, st0⟩ := walk_new (P := P) (w := w) hh hl
  refine set_by (Z := fun h' => ∃ L es ep t, IsSetT P w h' s.heap.objs.size L es ep t ∧ Took ks ks.length L) hl (fun R fin => ?_) fun h' tk ⟨L, es, ep, t, S, g⟩ k => q h' tk L es ep t S g k
  have val : ∀ (i : Nat) (v : Value), its[i]? = some v → ∃ p, ks[i]? = some p ∧ v = p.1 := fun i v hv => by
    have z : its.toList[i]? = some v := by rw [Array.getElem?_toList]; exact hv
    rw [hit, List.getElem?_map] at z
    cases hq : ks[i]? with
    | none => rw [hq] at z; cases z
    | some p => rw [hq] at z; exact ⟨p, rfl, (Option.some.inj z).symm⟩
  have hS : (s.heap.push (freshSet w)).get? s.heap.objs.size = some (freshSet w) := Heap.get?_push_size _ rfl
  have psz : (s.heap.push (freshSet w)).objs.size = s.heap.objs.size + 1 := Heap.size_push ..
  have none_of : ∀ b, s.heap.objs.size ≤ b → s.heap.get? b = none := fun b hb => Heap.get?_none_of_le hb
  refine upd_set Wk s.heap.objs.size nD ks isz few (fun p hp => (mem p hp).1) val s.heap mem (none_of _ (Nat.le_refl _)) (fun b hb => none_of b (by
      rw [List.mem_singleton.mp hb, psz]
      exact Nat.le_succ _)) (show A.units + 1 + 1 + 12 < cLine by omega) (its.size - 0) 0 _ (by omega) (Nat.zero_le _) st0 (fun b o e => Heap.get?_push_of_some _ (Heap.get?_push_of_some _ e))
    ⟨[], #[], 0, _, set_empty (Heap.get?_push_of_some _ hS), ⟨fun p h => (by cases h), fun p h => (by simp at h)⟩⟩ fun s' L es ep t hm hS' g' hkp => ?_
  rw [isz] at g'
  exact fin s' hm.gens hm.drawn hm.os ⟨L, es, ep, t, hS', g'⟩ hkp
/-- .. of ints -/
theorem new_setI {l : Addr} {its : Array Value} (ns : List Int) {Q : Value → Shared → Prop} (hh : A.handled = none) (hl : s.heap.IsList l its) (hit : IntsAre its.toList ns) (few : ns.length + 1 < scanBound)
    (q : ∀ (h' : Heap) (tk c : Nat), SetR w h' s.heap.objs.size (fun j => decide (j ∈ ns)) c → c ≤ ns.length → (∀ b o, s.heap.get? b = some o → h'.get? b = some o) → Q (.ref s.heap.objs.size) { s with heap := h', toks := tk }) :
    wpAny (model P w) A (call (.type "set") [.ref l]) Q E s := by
  have isz : its.size = ns.length := by
    have := IntsAre.length hit
    rwa [Array.length_toList] at this
  obtain ⟨nD, St, Wk, st0⟩ := walk_new (P := P) (w := w) hh hl
  refine set_by (Z := fun h' => ∃ c, SetR w h' s.heap.objs.size (fun j => decide (j ∈ ns)) c ∧ c ≤ ns.length) hl (fun R fin => ?_) fun h' tk ⟨c, S, g⟩ k => q h' tk c S g k
  have val : ∀ (i : Nat) (v : Value), its[i]? = some v → ∃ k t, ns[i]? = some k ∧ v = .int k t := fun i v hv => by
    have hv : its.toList[i]? = some v := by rw [Array.getElem?_toList]; exact hv
    obtain ⟨t, e⟩ := hit.int_at i v hv
    have lt : i < ns.length := by
      have := (List.getElem?_eq_some_iff.mp hv).1
      rw [Array.length_toList] at this; omega
    exact ⟨ns[i], t, List.getElem?_eq_getElem lt, by rw [e]; simp [List.getD_eq_getElem?_getD, lt]⟩
  have hS : (s.heap.push (freshSet w)).get? s.heap.objs.size = some (freshSet w) := Heap.get?_push_size _ rfl
  have psz : (s.heap.push (freshSet w)).objs.size = s.heap.objs.size + 1 := Heap.size_push ..
  refine set_update_ints Wk s.heap.objs.size nD ns isz few val (its.size - 0) 0 _ (by omega) (Nat.zero_le _) st0 ⟨0, Nat.le_refl _, setR_new_at (Heap.get?_push_of_some _ hS)⟩ fun s' c hm hc hS' => ?_
  refine fin s' hm.gens hm.drawn hm.os ⟨c, hS', by omega⟩ fun b o e => hm.heap b o (fun z => ?_) (Heap.get?_push_of_some _ (Heap.get?_push_of_some _ e))
  have lt := Heap.lt_size e
  rcases List.mem_cons.mp z with z | z
  · rw [z] at lt; exact absurd lt (Nat.lt_irrefl _)
  · rw [List.mem_singleton.mp z, psz] at lt
    exact absurd lt (Nat.not_lt.mpr (Nat.le_succ _))
end
end PL
/-! sorted(set(xs)) -/
namespace PL
open PySem PySem.Spec PyProof.Rows L2
open PySem.W (EachIs)

/-! ### plain: sorting distinct keys gives one list -/
theorem toks_inj {x y : T} (ha : T.alike x y = true) (h : PySem.W.keyToks x.data = PySem.W.keyToks y.data) : T.eqv x y = true := by
  cases e : T.eqv x y with
  | true => rfl
  | false =>
    have k := (PySem.W.toks_eqv x.data y.data ha).2 e
    have k1 := k [] [.inl 0]
    have k2 := k [] []
    rw [List.append_nil, List.append_nil] at k2
    rw [h, List.append_nil, PyProof.Rows.lex_irrefl] at k1
    have : ∀ l : List (Int ⊕ List Nat), PyProof.Rows.lexLt PyProof.Rows.itemOrd l (l ++ [.inl 0]) = true := by
      intro l
      induction l with
      | nil => rfl
      | cons a l ih => rw [List.cons_append, PyProof.Rows.lex_self]; exact ih
    rw [this] at k1
    cases k1
theorem le_total : PySem.W.TotalLe T.leD := by
  have h := PySem.W.sortLe_total (PyProof.Rows.listOrd PyProof.Rows.itemOrd) false fun b : T => PySem.W.keyToks b.data
  exact h
theorem leD_toks (x y : T) : T.leD x y = !PyProof.Rows.lexLt PyProof.Rows.itemOrd (PySem.W.keyToks y.data) (PySem.W.keyToks x.data) := rfl
theorem leD_anti {x y : T} (ha : T.alike x y = true) (h1 : T.leD x y = true) (h2 : T.leD y x = true) : T.eqv x y = true := by
  rw [leD_toks] at h1 h2
  simp only [Bool.not_eq_true'] at h1 h2
  exact toks_inj ha (PyProof.Rows.lex_total _ _ h2 h1)
theorem perm_lift {α β : Type} {f : α → β} : ∀ {l m : List β}, l.Perm m → ∀ {L : List α}, l = L.map f → ∃ L' : List α, m = L'.map f ∧ L'.Perm L := by
  intro l m h
  induction h with
  | nil => intro L e; cases L <;> simp at e; exact ⟨[], rfl, .nil⟩
  | cons x h ih =>
    intro L e
    cases L with
    | nil => simp at e
    | cons a L =>
      simp at e
      obtain ⟨L', e1, p⟩ := ih e.2
      exact ⟨a :: L', by rw [e.1, e1]; rfl, .cons a p⟩
  | swap x y l =>
    intro L e
    match L, e with
    | a :: b :: L, e =>
      simp at e
      exact ⟨b :: a :: L, by simp [e], .swap a b L⟩
  | trans h1 h2 i1 i2 =>
    intro L e
    obtain ⟨L1, e1, p1⟩ := i1 e
    obtain ⟨L2, e2, p2⟩ := i2 e1
    exact ⟨L2, e2, p2.trans p1⟩
/-- distinct alike keys: their order doesn't matter -/
theorem srt_perm {xs ys : List T} (p : xs.Perm ys) (ha : ∀ a ∈ ys, ∀ b ∈ ys, T.alike a b = true) (hd : ∀ a ∈ ys, ∀ b ∈ ys, T.eqv a b = true → a = b) : srtT xs = srtT ys := by
  have one : ∀ m : List T, m.Perm ys → srtT xs = srtT xs → (srtT m).Perm ys := fun m h _ => (List.mergeSort_perm m _).trans h
  have anti : ∀ a b : T, a ∈ ys → b ∈ ys → T.leD a b = true → T.leD b a = true → a = b := fun a b h1 h2 h3 h4 => hd a h1 b h2 (leD_anti (ha a h1 b h2) h3 h4)
  have s1 := PySem.W.sort_pairwise le_total xs
  have s2 := PySem.W.sort_pairwise le_total ys
  have p1 : (srtT xs).Perm ys := (List.mergeSort_perm xs _).trans p
  have p2 : (srtT ys).Perm ys := List.mergeSort_perm ys _
  -- two ordered rows of the same things
  have go : ∀ (l m : List T), l.Perm m → (∀ a ∈ m, a ∈ ys) → l.Pairwise (fun a b => T.leD a b = true) → m.Pairwise (fun a b => T.leD a b = true) → l = m := by
    intro l
    induction l with
    | nil => intro m h _ _ _; exact (List.nil_perm.mp h).symm
    | cons a l ih =>
      intro m h hm hl hm2
      cases m with
      | nil => exact absurd h (by simp)
      | cons b m =>
        have hl' := List.pairwise_cons.mp hl
        have hm' := List.pairwise_cons.mp hm2
        have am : a ∈ b :: m := h.mem_iff.mp List.mem_cons_self
        have bl : b ∈ a :: l := h.mem_iff.mpr List.mem_cons_self
        have e : a = b := by
          rcases List.mem_cons.mp am with z | z
          · exact z
          · rcases List.mem_cons.mp bl with y | y
            · exact y.symm
            · exact anti a b (hm a am) (hm b List.mem_cons_self) (hl'.1 b y) (hm'.1 a z)
        subst e
        rw [ih m (List.Perm.cons_inv h) (fun x hx => hm x (List.mem_cons_of_mem _ hx)) hl'.2 hm'.2]
  exact go _ _ (p1.trans p2.symm) (fun a h => p2.mem_iff.mp h) s1 s2
/-- what sorted(set(xs)) gives -/
def setOk (xs : List T) : Bool := xs.all T.dkey && decide ((dedupT xs).length < 64) && srtOk (dedupT xs)
def intsO : List T → Option (List Int)
  | [] => some []
  | .int i :: r => (intsO r).map (i :: ·)
  | _ :: _ => none
def insI (a : Int) : List Int → List Int
  | [] => [a]
  | b :: l => if a < b then a :: b :: l else if a = b then b :: l else b :: insI a l
/-- distinct ints, rising -/
def sdI : List Int → List Int
  | [] => []
  | a :: l => insI a (sdI l)
theorem insI_mem {a x : Int} : ∀ {l : List Int}, x ∈ insI a l ↔ x = a ∨ x ∈ l
  | [] => by simp [insI]
  | b :: l => by
    unfold insI
    split
    · simp
    · split
      · rename_i e; subst e; simp
      · simp [insI_mem (l := l)]
        constructor
        · rintro (h | h | h) <;> simp [h]
        · rintro (h | h | h) <;> simp [h]
theorem insI_up {a : Int} : ∀ {l : List Int}, l.Pairwise (· < ·) → (insI a l).Pairwise (· < ·)
  | [], _ => by simp [insI]
  | b :: l, h => by
    have h' := List.pairwise_cons.mp h
    unfold insI
    split
    · rename_i lt
      refine List.pairwise_cons.mpr ⟨fun x hx => ?_, h⟩
      rcases List.mem_cons.mp hx with e | hx
      · rw [e]; exact lt
      · exact Int.lt_trans lt (h'.1 x hx)
    · split
      · exact h
      · refine List.pairwise_cons.mpr ⟨fun x hx => ?_, insI_up h'.2⟩
        rcases insI_mem.mp hx with e | hx
        · omega
        · exact h'.1 x hx
theorem sdI_mem {x : Int} : ∀ {l : List Int}, x ∈ sdI l ↔ x ∈ l
  | [] => by simp [sdI]
  | a :: l => by simp [sdI, insI_mem, sdI_mem (l := l)]
theorem sdI_up : ∀ l : List Int, (sdI l).Pairwise (· < ·)
  | [] => by simp [sdI]
  | a :: l => insI_up (sdI_up l)
theorem up_unique : ∀ {l m : List Int}, l.Pairwise (· < ·) → m.Pairwise (· < ·) → (∀ x, x ∈ l ↔ x ∈ m) → l = m
  | [], [], _, _, _ => rfl
  | [], b :: m, _, _, h => by have := (h b).mpr List.mem_cons_self; simp at this
  | a :: l, [], _, _, h => by have := (h a).mp List.mem_cons_self; simp at this
  | a :: l, b :: m, hl, hm, h => by
    have hl' := List.pairwise_cons.mp hl
    have hm' := List.pairwise_cons.mp hm
    have e : a = b := by
      rcases List.mem_cons.mp ((h a).mp List.mem_cons_self) with z | z
      · exact z
      · rcases List.mem_cons.mp ((h b).mpr List.mem_cons_self) with y | y
        · exact y.symm
        · have := hm'.1 a z; have := hl'.1 b y; omega
    subst e
    congr 1
    refine up_unique hl'.2 hm'.2 fun x => ⟨fun hx => ?_, fun hx => ?_⟩
    · rcases List.mem_cons.mp ((h x).mp (List.mem_cons_of_mem _ hx)) with z | z
      · have := hl'.1 x hx; omega
      · exact z
    · rcases List.mem_cons.mp ((h x).mpr (List.mem_cons_of_mem _ hx)) with z | z
      · have := hm'.1 x hx; omega
      · exact z
def sortSetO (st : Store) (t : T) : Option M0 := match look st t with
  | .lst xs => if setOk xs then some (.lst (srtT (dedupT xs))) else match intsO xs with
    | some ns => if ns.length < 60 then some (.lst ((sdI ns).map .int)) else none
    | none => none
  | _ => none
def mSortSet (m : M T) : M M0 := mBnd m fun t _ st => Res.ofO (sortSetO st t) st
/-- the set as the abstract heap has it -/
def SetD (w : World) (a : Addr) (L : Mem) : Heap → Prop := fun h => ∃ (es : Array (Int × Value)) (ep : Nat) (t : SetTable), (∃ o, h.get? a = some o ∧ o.ExactSet ∧ o.data = .set es ep t) ∧ es.toList = L.rows w ∧ TabOk t (L.hs w) ∧ (L.map (·.2)).Nodup ∧
  (w.params.followText "set-order" = true ∨ t.led = true) ∧ L.length * 5 < t.mask * 3 ∧ L.length < 64
section
variable {X : Cx} {W : WX} {pins : List (Addr × Obj)} {σ : L2.St} {H : Hp} {s : Shared} {G : Gh} {st : Store} {Q : VK} {pos p p2 pos2 : Pos}
theorem setD_new {P : Program} {w : World} {H : Hp} {h : Heap} {a : Addr} {L : Mem} {es : Array (Int × Value)} {ep : Nat} {t : SetTable} (S : IsSetT P w h a L es ep t) : ObjOk P w H h a (.ext (SetD w a L)) := by
  have ⟨o, ho, r⟩ := S.ob
  refine ⟨⟨es, ep, t, S.ob, S.rows, S.tab, S.nd, S.led, S.room, S.few⟩, ⟨o, ho⟩, fun h1 h2 ⟨es', ep', t', ⟨o', ho', r'⟩, q'⟩ k => ⟨es', ep', t', ⟨o', k o' ho', r'⟩, q'⟩⟩
/-- the members' trees -/
theorem mem_of : ∀ {xs : List T} {vs : List V} {us : List Value}, (∀ x ∈ xs, x.dkey = true) → Inv X pins σ H s → (∀ a o, G.F a = some o → H a = some o) → Rps (pxOf X) G xs vs → Vals vs us →
    ∃ ks : Mem, ks.map (·.1) = us ∧ ks.map (·.2) = xs ∧ (∀ p ∈ ks, KA s.heap p.2 p.1) ∧ ∀ p ∈ ks, StT X G p.1 p.2
  | [], _, _, _, _, _, r, rv => by simp only [Rps] at r; subst r; cases rv; exact ⟨[], rfl, rfl, fun p h => (by cases h), fun p h => (by cases h)⟩
  | x :: xs, _, _, k, I, fro, r, rv => by
    simp only [Rps] at r
    obtain ⟨v, r', rfl, r1, r2⟩ := r
    cases rv with
    | @cons _ u _ us h1 h2 =>
      obtain ⟨ks, e1, e2, e3, e4⟩ := mem_of (fun y hy => k y (List.mem_cons_of_mem _ hy)) I fro r2 h2
      have kx := k x List.mem_cons_self
      have k7 := kx
      simp only [T.dkey, Bool.and_eq_true] at k7
      refine ⟨(u, x) :: ks, by simp [e1], by simp [e2], fun p hp => ?_, fun p hp => ?_⟩
      · rcases List.mem_cons.mp hp with e | hp
        · subst e; exact ⟨kx, ti_of I fro 7 x v u k7.2 r1 h1⟩
        · exact e3 p hp
      · rcases List.mem_cons.mp hp with e | hp
        · subst e; exact ⟨v, h1, r1⟩
        · exact e4 p hp
/-- set(xs) -/
def rSetT (X : Cx) : List V → Hp → VK → Prop := fun vs H Q => ∃ G st t xs, (∃ v, vs = [v] ∧ Rp (pxOf X) G t v) ∧ Rel (pxOf X) G st H ∧ look st t = .lst xs ∧ setOk xs = true ∧
  ∀ a (L : Mem), H a = none → (∀ p ∈ L, StT X G p.1 p.2 ∧ p.2.dkey = true) → (L.map (·.2)).Perm (dedupT xs) → Q (.ref a) (upd H a (.ext (SetD X.w a L)))
theorem cr_setT (hc : X.calm = true) (hu : X.A.units + 64 < cLine) : CallR X (.type "set") (rSetT X) := by
  intro pins s σ H vs us Q I rv ⟨G, st, t, xs, ⟨v, ev, r⟩, R, e, ok, q⟩
  subst ev
  have hl := look_ok R r
  rw [e] at hl
  obtain ⟨l, ws, rfl, h1, rr⟩ := hl
  rw [Vals.ref1 rv]
  obtain ⟨its, rv2, pl, hz⟩ := I.list (SqL.of h1)
  simp only [setOk, Bool.and_eq_true, List.all_eq_true, decide_eq_true_eq] at ok
  obtain ⟨⟨dk, few⟩, _⟩ := ok
  obtain ⟨ks, e1, e2, e3, e4⟩ := mem_of dk I R.fro rr rv2
  have np : H s.heap.objs.size = none := I.hok.fresh (Nat.le_refl _)
  refine new_set (P := X.prog) (w := X.w) ks (I.ok.hd hc) pl.isList (by simpa using e1.symm) e3 (by rw [e2]; exact few) (by omega) fun h' tk L es ep t S g k => ?_
  refine ⟨.ref s.heap.objs.size, upd H s.heap.objs.size (.ext (SetD X.w s.heap.objs.size L)), I.laid (t' := tk) k (Nat.le_refl _) (setD_new S), rfl, q _ L np (fun p hp => ⟨e4 p (List.mem_of_mem_take (g.sub p hp)), (S.mem p hp).1⟩) ?_⟩
  refine (List.perm_ext_iff_of_nodup S.nd (dedup_nodup dk)).mpr fun y => ⟨fun hy => ?_, fun hy => ?_⟩
  · obtain ⟨p, hp, rfl⟩ := List.mem_map.mp hy
    refine dedup_all dk ?_
    rw [← e2]
    exact List.mem_map.mpr ⟨p, List.mem_of_mem_take (g.sub p hp), rfl⟩
  · have := dedup_sub hy
    rw [← e2] at this
    obtain ⟨p, hp, rfl⟩ := List.mem_map.mp this
    exact g.all p (by rw [List.take_length]; exact hp)
/-- sorted(a set) -/
def rSortSetT (X : Cx) : List V → Hp → VK → Prop := fun vs H Q => ∃ (a : Addr) (L : Mem) (G : Gh) (st : Store) (ks : List T), vs = [.ref a] ∧ Rel (pxOf X) G st H ∧ H a = some (.ext (SetD X.w a L)) ∧ (∀ p ∈ L, StT X G p.1 p.2 ∧ p.2.dkey = true) ∧ (L.map (·.2)).Perm ks ∧ srtOk ks = true ∧ (∀ x ∈ ks, x.dkey = true) ∧
  ∀ G' H' r, G.Le G' → relN (pxOf X) G' st H' (.lst (srtT ks)) r → Q r H'
theorem srtOk_perm {xs ys : List T} (p : xs.Perm ys) (h : srtOk ys = true) : srtOk xs = true := by
  simp only [srtOk, Bool.and_eq_true, Bool.or_eq_true, List.all_eq_true, decide_eq_true_eq] at h ⊢
  obtain ⟨⟨⟨h1, h2⟩, h3⟩, h4⟩ := h
  refine ⟨⟨⟨by rw [p.length_eq]; exact h1, fun a ha => h2 a (p.mem_iff.mp ha)⟩, fun a ha b hb => h3 a (p.mem_iff.mp ha) b (p.mem_iff.mp hb)⟩, ?_⟩
  rcases h4 with h4 | h4
  · exact .inl fun a ha => h4 a (p.mem_iff.mp ha)
  · exact .inr fun a ha => h4 a (p.mem_iff.mp ha)
theorem cr_sortSetT (hc : X.calm = true) (hu : X.A.units + 64 < cLine) : CallR X (.builtin "sorted") (rSortSetT X) := by
  intro pins s σ H vs us Q I rv ⟨a, L, G, st, ks, ev, R, ha, hm, pm, hs, dk, q⟩
  subst ev
  rw [Vals.ref1 rv]
  obtain ⟨es, ep, t, ⟨o, ho, hex, hd⟩, rows, tab, nd, led, room, few⟩ := (show ObjOk X.prog X.w H s.heap a (.ext _) from I.hok a _ ha).1
  have esz := rows_size rows
  have mem : ∀ p ∈ L, KA s.heap p.2 p.1 := fun p hp => by
    obtain ⟨⟨x, r1, r2⟩, d⟩ := hm p hp
    have d7 := d
    simp only [T.dkey, Bool.and_eq_true] at d7
    exact ⟨d, ti_of I R.fro 7 p.2 x p.1 d7.2 r2 r1⟩
  have S : IsSetT X.prog X.w s.heap a L es ep t := ⟨⟨o, ho, hex, hd⟩, rows, tab, nd, mem, led, room, few⟩
  refine Calls.call_function_entry PyProof.Rows.kind_sorted PyProof.Rows.plain_sorted PyProof.Rows.entry_sorted (PyProof.Rows.args_sorted1 _) ?_
  unfold Builtin.«sorted»
  refine wpAny_bind (m := checkCount "sorted" 1 1 _) (wpAny_pure ?_)
  refine wpAny_bind (collect_set (A := X.A.in1) (I.ok.hd hc) ⟨o, ho, hex.1, hd⟩ S.fits (by unfold scanBound; omega) tab.ris led fun s1 out k1 hz g1 o1 po => ?_)
  have I1 : Inv X pins σ H s1 := I.call' (ch := []) o1 (Un.kept k1) (I.hok.kept k1) (by rw [g1]; exact I.bare) (fun _ z => nomatch z)
  have rw1 : es.toList.map (·.2) = L.map (·.1) := by rw [rows]; simp [Mem.rows]
  rw [rw1] at po
  obtain ⟨L1, e1, p1⟩ := perm_lift po.symm (L := L) rfl
  have pk : (L1.map (·.2)).Perm ks := (p1.map (·.2)).trans pm
  have hs1 := srtOk_perm pk hs
  have ek : EachIs (StT X G) out (L1.map (·.2)) := by
    rw [e1]
    have all : ∀ p ∈ L1, StT X G p.1 p.2 := fun p hp => (hm p (p1.mem_iff.mp hp)).1
    clear e1 p1 pk hs1
    induction L1 with
    | nil => exact .nil
    | cons p L1 ih => exact .cons (all p List.mem_cons_self) (ih fun x hx => all x (List.mem_cons_of_mem _ hx))
  have same : srtT (L1.map (·.2)) = srtT ks := srt_perm pk (fun a ha b hb => by
      simp only [srtOk, Bool.and_eq_true, List.all_eq_true] at hs
      exact hs.1.2 a ha b hb) fun a ha b hb e => (eqv_iff (dk a ha) (dk b hb)).mp e
  have lo : out.length = ks.length := by rw [e1, List.length_map, ← pk.length_eq, List.length_map]
  have lk := srtOk_len hs
  refine wpAny_bind (wpAny_newList ?_ (by rw [lo, sizeLine_eq]; omega))
  show wpAny _ _ _ _ _ { s1 with heap := s1.heap.push (seqObj "list" out.toArray 0) }
  have hoL : (s1.heap.push (seqObj "list" out.toArray 0)).get? s1.heap.objs.size = some (seqObj "list" out.toArray 0) := Heap.get?_push_size _ rfl
  have hsort := sort_new (st := st) (Q := Q) I1 R hs1 ek hu (by rw [same]; exact q)
  refine wpAny_bind (wpAny_holding (wpAny_call_entry PyProof.Rows.slot_list_sort ⟨_, hoL, rfl⟩ PyProof.Rows.entry_list_sort (wpAny_mono hsort (fun f s' hf => ?_) fun _ _ z => z.elim) (PyProof.Rows.args_list_sort _)))
  obtain ⟨rfl, hq⟩ := hf
  exact ⟨_, rfl, wpAny_pure ⟨_, rfl, hq⟩⟩
theorem ints_ok : ∀ {xs : List T} {ns : List Int} {vs : List V}, intsO xs = some ns → Rps (pxOf X) G xs vs → vs = ns.map V.int
  | [], ns, vs, e, r => by simp [intsO] at e; subst e; simpa [Rps] using r
  | t :: ts, ns, vs, e, r => by
    cases t <;> simp only [intsO] at e <;> try (cases e; done)
    rename_i z
    cases e1 : intsO ts with
    | none => rw [e1] at e; cases e
    | some r1 =>
      rw [e1] at e
      cases e
      simp only [Rps, Rp] at r
      obtain ⟨v, w, rfl, rfl, r2⟩ := r
      rw [ints_ok e1 r2]; rfl
def rSetI (X : Cx) : List V → Hp → VK → Prop := fun vs H Q => ∃ (l : Addr) (ns : List Int), vs = [.ref l] ∧ H l = some (.lst (ns.map V.int)) ∧ ns.length < 60 ∧ ∀ a c, H a = none → c ≤ ns.length → Q (.ref a) (upd H a (SetO X.w a (fun j => decide (j ∈ ns)) c))
theorem cr_setI (hc : X.calm = true) : CallR X (.type "set") (rSetI X) := by
  intro pins s σ H vs us Q I rv ⟨l, ns, ev, hl, few, q⟩
  subst ev
  rw [Vals.ref1 rv]
  obtain ⟨its, rv2, pl, hz⟩ := I.list (SqL.of hl)
  have np : H s.heap.objs.size = none := I.hok.fresh (Nat.le_refl _)
  refine new_setI (P := X.prog) (w := X.w) ns (I.ok.hd hc) pl.isList (by simpa using rv2.ints) (by unfold scanBound; omega) fun h' tk c S hcn k => ?_
  exact ⟨.ref s.heap.objs.size, _, I.laid (t' := tk) k (Nat.le_refl _) (setO_new S), rfl, q _ c np hcn⟩
theorem CallR.or {f : Value} {r r' : List V → Hp → VK → Prop} (h : CallR X f r) (h' : CallR X f r') : CallR X f fun vs H Q => r vs H Q ∨ r' vs H Q := fun pins s σ H xs us Q I rv q => q.elim (fun q => h pins s σ H xs us Q I rv q) fun q => h' pins s σ H xs us Q I rv q
theorem ints_rps : ∀ ns : List Int, Rps (pxOf X) G (ns.map T.int) (ns.map V.int)
  | [] => Rps.nil
  | n :: ns => Rps.cons (by simp [Rp]) (ints_rps ns)
theorem sn_sortSet {e : Expr} {m : M T} (hc : X.calm = true) (hu : X.A.units + 64 < cLine) (hg : Gl X "sorted") (hm : X.mg "sorted" = none) (hg2 : Gl X "set") (hm2 : X.mg "set" = none) (he : SE X W e m)
    (h1 : starEach [.Call (.Name "set" p2) [e] [] pos2] X.env = (false, eval (.Call (.Name "set" p2) [e] [] pos2) X.env) :: starEach [] X.env) (h2 : starEach [e] X.env = (false, eval e X.env) :: starEach [] X.env) : SEn X W (.Call (.Name "sorted" p) [.Call (.Name "set" p2) [e] [] pos2] [] pos) (mSortSet m) := by
  refine pe_mono (pe_callB ((cr_sortSetT hc hu).or (cr_sortedSet hc)) hg hm (by decide +kernel) (pa_cons (pe_callTy ((cr_setT hc hu).or (cr_setI hc)) hg2 hm2 (by decide +kernel) (pa_cons he pa_nil h2) (by decide) (by decide) h2 rfl) pa_nil h1) (by decide) (by decide) h1 rfl) fun σ H Q q => ?_
  refine (tG.bnd q).imp fun v H1 ⟨t, G, env, st, ⟨R, r⟩, E, q1⟩ => ?_
  obtain ⟨x, e1, q2⟩ := Po.ofO q1
  unfold sortSetO at e1
  split at e1
  · rename_i xs e2
    split at e1
    · rename_i ok
      cases e1
      refine .inl ⟨G, st, t, xs, ⟨v, rfl, r⟩, R, e2, ok, fun a L na hL pm => .inl ?_⟩
      have ok' := ok
      simp only [setOk, Bool.and_eq_true, List.all_eq_true, decide_eq_true_eq] at ok'
      obtain ⟨⟨dk, few⟩, so⟩ := ok'
      exact ⟨a, L, G, st, dedupT xs, rfl, R.more na, upd_same, hL, pm, so, fun y hy => dk y (dedup_sub hy), fun G' H' r le h => q2 G' H' r le h⟩
    · split at e1
      · rename_i ns e3
        split at e1
        · rename_i few
          cases e1
          have hl := look_ok R r
          rw [e2] at hl
          obtain ⟨l, ws, rfl, h1, rr⟩ := hl
          have := ints_ok e3 rr
          subst this
          refine .inr ⟨l, ns, rfl, h1, few, fun a c na hcn => .inr ⟨a, _, c, rfl, upd_same, by omega, fun ms p up hm hn np => ?_⟩⟩
          have e4 : ms = sdI ns := up_unique up (sdI_up ns) fun x => by rw [hm, sdI_mem]; simp
          subst e4
          have R1 := R.more (o := SetO X.w a (fun j => decide (j ∈ ns)) c) na
          exact q2 G _ _ (Gh.Le.refl G) ⟨p, _, _, rfl, np, R1, rfl, _, rfl, ints_rps _⟩
        · cases e1
      · cases e1
  · cases e1
end
end PL
/-! the key (x.count(B), x), as a lambda -/
namespace PL
open PySem PySem.Spec PyProof.Rows L2
open PySem.W (EachIs)

theorem reads_ints {h : Heap} : ∀ {is : List Int} {us : List Value}, Vals (is.map V.int) us → ReadsAll h us (is.map PyData.int) []
  | [], _, .nil => .nil
  | i :: is, _, .cons ⟨t, e⟩ r => by
    subst e
    exact ReadsAll.cons (as := []) (bs := []) (Reads.int i t) (reads_ints r)
theorem plain_ints : ∀ is : List Int, PyData.plainAll (is.map PyData.int) = true
  | [] => rfl
  | i :: is => by
    show (PyData.plain (.int i) && PyData.plainAll (is.map PyData.int)) = true
    rw [plain_ints is]; rfl
/-- the key of a row of ints -/
def keyD (b : Int) (is : List Int) : PyData := .tuple [.int ((is.countP fun i => decide (i = b) : Nat) : Int), .tuple (is.map PyData.int)]
theorem count_ints (b : Int) : ∀ is : List Int, (is.map PyData.int).countP (fun y => PyData.eqv y (.int b)) = is.countP fun i => decide (i = b)
  | [] => rfl
  | i :: is => by
    rw [List.map_cons, List.countP_cons, List.countP_cons, count_ints b is]
    have : PyData.eqv (.int i) (.int b) = decide (i = b) := by
      show (i == b) = decide (i = b)
      by_cases h : i = b <;> simp [h]
    rw [this]
/-- x's names and body -/
structure LamK (params : Arguments) (body : Expr) (scope : Scope) (x b : Str) : Prop where
  bd : ∃ p1 p2 p3 p4 p5 p6 k, body = .Tuple [.Call (.Attribute (.Name x p1) (Str.ofString "count") p2) [.Name b p3] [] p4, .Name x p5] k p6 ∧ (p2.endLine == p4.line) = true
  kind : scope.kind = .function
  co : scope.isCoroutine = false
  gen : scope.isGenerator = false
  nc : ∀ y ∈ scope.names, y.2 ≠ .cell ∧ y.2 ≠ .free
  lx : scope.names.lookup x = some .local
  lb : scope.names.lookup b = some .globalImplicit
  dx : (x == ("__debug__" : Str)) = false
  db : (b == ("__debug__" : Str)) = false
  nsup : (x != ("super" : Str)) = true
  bind : ∀ (q : Str) (pm cdv ctv v : Value), bindArgs (PySem.W.kla_fn "<lambda>" q params body scope [] pm cdv ctv) ⟨[v], []⟩ = pure [(x, v)]
section
variable {prog : Program} {w : World} {A : Around} {s : Shared} {f a c' : Addr} {params : Arguments} {body : Expr} {scope : Scope} {x b q : Str} {pm ctv : Value} {mg : Str → Option Value} {us : List Value} {is : List Int} {bi : Int} {tb : Tok}
theorem lam_key (L : LamK params body scope x b) (hf : s.heap.get? f = some (PySem.W.kla_obj "<lambda>" q params body scope [] pm c' ctv)) (hcd : s.heap.CodeRec (.ref c') q) (lim : s.heap.NoLimit) (hg : s.heap.Ns mainGlobals mg) (hb : mg b = some (.int bi tb))
    (hT : s.TypeIs (.ref a) "tuple") (hD : ∃ ob, s.heap.get? a = some ob ∧ ob.dict = none) (hl : s.heap.IsTuple a us.toArray) (hv : Vals (is.map V.int) us) (hd : A.depth < recursionLimit) (hu : A.units + 40 < cLine) (hz : us.length ≤ sizeLine) :
    wpAny (model prog w) A (call (.ref f) [.ref a]) (PySem.W.KeyPure (keyD bi is) s) (fun _ _ => False) s := by
  obtain ⟨p1, p2, p3, p4, p5, p6, k, rfl, hline⟩ := L.bd
  have rc : codeAny (model prog w) A (.call (.ref f) ⟨[.ref a], []⟩) (fun r s' => ∃ v, r = .ok (.ret v) ∧ PySem.W.KeyPure (keyD bi is) s v s') s := by
    refine PySem.W.kla_callFunE hd hf rfl L.co L.gen rfl hcd ?_
    rw [L.bind]
    refine wpAny_pure (wpAny_newFunctionEnv (fun y hy => (L.nc y hy).1) (fun y hy => ?_) (fun h₁ hns hsb => ⟨lim.fresh _ hsb, PySem.W.kla_codeExpr ?_⟩) L.kind)
    · have : y = (x, .ref a) := by simpa using hy
      subst this; exact L.lx
    · have kp : ∀ b o, s.heap.get? b = some o → h₁.get? b = some o := fun b o e => hsb.extBut b o (Nat.ne_of_lt (Heap.lt_size e)) (Heap.get?_push_of_some _ e)
      have hk : (newEnv scope s.heap.objs.size mainGlobals ([] : List (Str × Addr)) (q ++ ".<locals>.") (some f) (.ref c') none builtinsNs).scope.kind = .function := L.kind
      have obT : ∃ ob, h₁.get? a = some ob ∧ ob.dict = none := let ⟨ob, e1, e2⟩ := hD; ⟨ob, kp _ _ e1, e2⟩
      have tyT : Shared.TypeIs { s with heap := h₁, toks := s.toks + ([(x, Value.ref a)] : List (Str × Value)).length } (.ref a) "tuple" := let ⟨ob, e1, e2⟩ := hT; ⟨ob, kp _ _ e1, e2⟩
      have hl1 : h₁.IsTuple a us.toArray := let ⟨ob, e1, e2⟩ := hl; ⟨ob, kp _ _ e1, e2⟩
      have hg1 : h₁.Ns mainGlobals mg := hg.keeps kp
      have ldx : ∀ {AA : Around} {EE : Value → Shared → Prop} {P : Pos} {QQ : Value → Shared → Prop} {tk : Tok}, QQ (.ref a) { s with heap := h₁, toks := tk } →
          wpAny (model prog w) AA (eval (.Name x P) (newEnv scope s.heap.objs.size mainGlobals [] (q ++ ".<locals>.") (some f) (.ref c') none builtinsNs)) QQ EE { s with heap := h₁, toks := tk } := fun {AA EE P QQ tk} h =>
        wpAny_Name (wpAny_loadName_local L.kind L.lx hns (by simp) h) L.dx
      refine wpAny_Tuple (wpAny_items_cons (wpAny_Call_method1_late ?_ hline rfl (ldx ?_)))
      · rfl
      · refine ⟨"tuple", "tuple.count", PySem.F.plainAttrs_tuple, PySem.F.slot_tuple_count, PySem.F.type_tuple_count, tyT, fun a' e => by cases e; exact obT, ?_⟩
        refine Calls.callWith_builtin rfl (Calls.evalArgs_plain (Calls.spliced_cons (Calls.Name_function_global L.kind L.lb (Calls.loadGlobal_global hg1 hb ?_) L.db)))
        refine Calls.spliced_nil (PySem.SeqAt.count_tuple_data (d := .int bi) (bs := []) hl1 (reads_ints hv) (Reads.int bi tb) (plain_ints is) rfl ?_ ?_)
        · show A.units + 3 + 1 + min (PyData.depthAll (is.map PyData.int)) (PyData.depth (.int bi)) < cLine
          have : PyData.depth (.int bi) = 0 := rfl
          omega
        · refine wpAny_items_cons (ldx (wpAny_items_nil ⟨by simp [sizeLine_eq], ?_⟩))
          refine ⟨_, rfl, _, _, rfl, fun b0 o e => Heap.get?_push_of_some _ (kp b0 o e), ?_⟩
          obtain ⟨ob, e1, e2, n, e3⟩ := hl1
          rw [count_ints]
          refine Reads.tuple (as := []) (Heap.get?_push_size _ rfl) rfl rfl ?_
          exact ReadsAll.cons (as := []) (bs := []) (Reads.int _ _) (ReadsAll.cons (as := []) (bs := []) (Reads.tuple (Heap.get?_push_of_some _ e1) e2 e3 (reads_ints hv)) ReadsAll.nil)
  refine wpAny_call (codeAny_mono rc fun r s' hq => ?_)
  obtain ⟨v, rfl, hq⟩ := hq
  exact hq
end
end PL
/-! sorted(xs, key=lambda x: (x.count(B), x)) -/
namespace PL
open PySem PySem.Spec PyProof.Rows L2
open PySem.W (EachIs)

/-- the ints of a row -/
def intsOf : List T → Option (List Int)
  | [] => some []
  | .int i :: xs => (intsOf xs).map (i :: ·)
  | _ => none
def rowI : T → Option (List Int)
  | .tup xs => intsOf xs
  | _ => none
theorem intsOf_eq : ∀ {xs : List T} {is : List Int}, intsOf xs = some is → xs = is.map T.int
  | [], _, h => by simp only [intsOf, Option.some.injEq] at h; subst h; rfl
  | x :: xs, is, h => by
    cases x with
    | int i =>
      simp only [intsOf, Option.map_eq_some_iff] at h
      obtain ⟨r, h, rfl⟩ := h
      rw [intsOf_eq h]; rfl
    | _ => simp [intsOf] at h
theorem rowI_eq {t : T} {is : List Int} (h : rowI t = some is) : t = .tup (is.map T.int) := by
  cases t with
  | tup xs => rw [intsOf_eq h]
  | _ => simp [rowI] at h
/-- the key of a row -/
def keyT (b : Int) (t : T) : PyData := keyD b ((rowI t).getD [])
/-- a ≤ b by their keys -/
def leK (b : Int) : T → T → Bool := PySem.W.dataLe false (keyT b)
/-- such rows, sorted by their keys -/
def sortK (b : Int) (ts : List T) : Option (List T) := if ts.length ≤ 1000000 ∧ ts.all (fun t => match rowI t with | some is => decide (is.length ≤ 1000000) | none => false) then some (ts.mergeSort (leK b)) else none
theorem keys_alike (b : Int) (ts : List T) : PySem.W.AllAlike (ts.map (keyT b)) := by
  have ai : ∀ is js : List Int, PySem.W.alikeAll (is.map PyData.int) (js.map PyData.int) = true := by
    intro is
    induction is with
    | nil => intro js; cases js <;> simp [PySem.W.alikeAll]
    | cons i is ih => intro js; cases js with
      | nil => simp [PySem.W.alikeAll]
      | cons j js => simp [PySem.W.alikeAll, PySem.W.alike, ih js]
  intro d hd d' hd'
  obtain ⟨x, _, rfl⟩ := List.mem_map.mp hd
  obtain ⟨y, _, rfl⟩ := List.mem_map.mp hd'
  simp [keyT, keyD, PySem.W.alike, PySem.W.alikeAll, ai]
theorem keys_sortable (b : Int) (ts : List T) : PySem.W.Sortable (ts.map (keyT b)) := .inl fun d hd => by
  obtain ⟨x, _, rfl⟩ := List.mem_map.mp hd
  exact ⟨_, _, rfl⟩
theorem key_depth (b : Int) (t : T) : (keyT b t).depth ≤ 8 := by
  have di : ∀ is : List Int, PyData.depthAll (is.map PyData.int) ≤ 4 := by
    intro is
    induction is with
    | nil => simp [PyData.depthAll]
    | cons i is ih => simp only [List.map_cons, PyData.depthAll, PyData.depth]; omega
  have := di ((rowI t).getD [])
  simp only [keyT, keyD, PyData.depth, PyData.depthAll]
  omega
theorem rps_ints {P : PX} {G : Gh} : ∀ {is : List Int} {vs : List V}, Rps P G (is.map T.int) vs → vs = is.map V.int
  | [], _, r => by simpa [Rps] using r
  | i :: is, _, r => by
    simp only [List.map_cons, Rps, Rp] at r
    obtain ⟨v, w, rfl, rfl, r⟩ := r
    rw [rps_ints r]; rfl
/-- a row in the heap -/
structure RowAt (h : Heap) (a : Addr) (us : List Value) (is : List Int) : Prop where
  ob : ∃ o, h.get? a = some o ∧ o.cls = .type "tuple" ∧ o.dict = none ∧ ∃ n, o.data = .seq us.toArray n
  vs : Vals (is.map V.int) us
theorem RowAt.keeps {h h' : Heap} {a : Addr} {us : List Value} {is : List Int} (r : RowAt h a us is) (k : ∀ b o, h.get? b = some o → h'.get? b = some o) : RowAt h' a us is :=
  let ⟨⟨o, e, x⟩, v⟩ := r; ⟨⟨o, k _ _ e, x⟩, v⟩
section
variable {X : Cx} {pins : List (Addr × Obj)} {σ : L2.St} {H : Hp} {s : Shared} {G : Gh} {st : Store} {Q : VK}
theorem row_at (I : Inv X pins σ H s) (R : Rel (pxOf X) G st H) {v : Value} {t : T} {is : List Int} (h : StT X G v t) (e : rowI t = some is) : ∃ a us, v = .ref a ∧ RowAt s.heap a us is := by
  obtain ⟨x, rx, r⟩ := h
  rw [rowI_eq e] at r
  simp only [Rp] at r
  obtain ⟨a, vs, rfl, q, r⟩ := r
  rw [rps_ints r] at q
  cases rx
  rcases q with ⟨o, e1, hd⟩ | ⟨o, its, n, e1, hc, hd, hs, _, rv⟩
  · obtain ⟨g1, _, us, rv, o2, g2, hc, n, hs⟩ := (show ObjOk X.prog X.w H s.heap a (.frz o (.tup (is.map V.int))) from I.hok a _ (R.fro _ _ e1))
    rw [g1] at g2; cases g2
    exact ⟨a, us, rfl, ⟨o, g1, hc, hd, n, hs⟩, rv⟩
  · exact ⟨a, its.toList, rfl, ⟨o, I.kIn a o e1, hc, hd, n, by simpa using hs⟩, rv⟩
end
end PL
/-! sorted(xs, key=f), f the lambda -/
namespace PL
open PySem PySem.Spec PyProof.Rows L2
open PySem.W (EachIs)
section
variable {X : Cx} {pins : List (Addr × Obj)} {σ : L2.St} {H : Hp} {s : Shared} {G : Gh} {st : Store} {Q : VK} {E : Value → Shared → Prop} {a f c' : Addr} {acc : List Value} {ts zs : List T} {params : Arguments} {body : Expr} {scope : Scope} {x bn : Str} {pm ctv : Value} {b : Int} {tb : Tok}
theorem sortK_run (hc : X.calm = true) (I : Inv X pins σ H s) (R : Rel (pxOf X) G st H) (ek : EachIs (StT X G) acc ts) (ho : ∃ (o : Obj) (ty : String) (n : Nat), (ty = "list" ∨ ty = "tuple") ∧ s.heap.get? a = some o ∧ o.cls = .type ty ∧ o.data = .seq acc.toArray n) (hs : sortK b ts = some zs)
    (L : LamK params body scope x bn) (hf : s.heap.get? f = some (PySem.W.kla_obj "<lambda>" lamQ params body scope [] pm c' ctv)) (hcd : s.heap.CodeRec (.ref c') lamQ) (hb : X.mg bn = some (.int b tb)) (hr : Room 3 X.A)
    (q : ∀ G' H' r, G.Le G' → relN (pxOf X) G' st H' (.lst zs) r → Q r H') :
    wpAny (model X.prog X.w) X.A (call (.builtin "sorted") [.ref a] [(Str.ofString "key", .ref f)]) (EP X pins σ Q) E s := by
  unfold sortK at hs
  split at hs
  · rename_i hk
    cases hs
    obtain ⟨lk, hall⟩ := hk
    obtain ⟨o, ty, n, hty, ho, hcl, hda⟩ := ho
    have la : acc.length = ts.length := ek.length
    refine call_function_entry_kw PyProof.Rows.kind_sorted PyProof.Rows.plain_sorted PyProof.Rows.entry_sorted (PyProof.Rows.ksk_s1 _ _) ?_
    unfold Builtin.«sorted»
    refine wpAny_bind (m := checkCount "sorted" 1 1 _) (wpAny_pure ?_)
    refine wpAny_bind (wpAny_collect_seq a hty ho hcl hda (fun h' hk => ?_) (by rw [List.size_toArray, la, sizeLine_eq]; omega))
    have I1 : Inv X pins σ H { s with heap := h' } := I.kept (t' := s.toks) hk
    refine wpAny_bind (wpAny_newList ?_ (by rw [List.toList_toArray, la, sizeLine_eq]; omega))
    show wpAny _ _ _ _ _ { s with heap := h'.push (seqObj "list" acc.toArray 0) }
    have hoL : (h'.push (seqObj "list" acc.toArray 0)).get? h'.objs.size = some (seqObj "list" acc.toArray 0) := Heap.get?_push_size _ rfl
    have zline : acc.length ≤ sizeLine := by rw [la, sizeLine_eq]; omega
    refine wpAny_bind (wpAny_holding (wpAny_call_entry_kw PyProof.Rows.slot_list_sort ⟨_, hoL, rfl⟩ PyProof.Rows.entry_list_sort ?_ (PyProof.Rows.ksk_l1 _ _)))
    rw [PyProof.Rows.ksk_t1]
    have hu : ∀ y, y ∈ ts → X.A.in1.in1.units + (keyT b y).depth < cLine := fun y _ => by
      have := key_depth b y
      have := hr.un
      show X.A.units + 1 + 1 + _ < _
      omega
    refine PySem.W.keyH_tree (s := { s with heap := h'.push (seqObj "list" acc.toArray 0) }) (kz := ts.map (keyT b)) hoL (by rw [List.length_map, la]) zline (keys_alike b ts) (keys_sortable b ts) (PySem.W.bound_map (A := X.A.in1.in1) hu)
      (PySem.W.keyH_turns (s := { s with heap := h'.push (seqObj "list" acc.toArray 0) }) ek fun v y hy hm h tk kp => ?_) fun h2 tk out c kp hD ko => ?_
    · have hrow := (List.all_eq_true.mp hall) y hm
      cases er : rowI y with
      | none => rw [er] at hrow; cases hrow
      | some is =>
        rw [er] at hrow
        simp only [decide_eq_true_eq] at hrow
        obtain ⟨p, us, rfl, rw1⟩ := row_at I1 R hy er
        have kk : ∀ b0 o0, h'.get? b0 = some o0 → h.get? b0 = some o0 := fun b0 o0 e => kp b0 o0 (Nat.ne_of_lt (Heap.lt_size e)) (Heap.get?_push_of_some _ e)
        obtain ⟨⟨o2, g1, g2, g3, n2, g4⟩, rv⟩ := rw1.keeps kk
        have ek2 : keyT b y = keyD b is := by unfold keyT; rw [er]; rfl
        rw [ek2]
        have gl : h.Ns mainGlobals X.mg := (I1.mod.glob.keeps I1.bk).keeps kk
        have li : h.NoLimit := I1.nolimit.keeps kk
        have dp := hr.dp
        have un := hr.un
        exact lam_key (s := { s with heap := h, toks := tk }) L (kk _ _ (hk _ _ hf)) ((hcd.keeps hk).keeps kk) li gl hb ⟨o2, g1, g2⟩ ⟨o2, g1, g3⟩ ⟨o2, g1, g2, n2, g4⟩ rv (by show X.A.depth < _; omega) (by show X.A.units + 1 + 1 + 40 < _; omega)
          (by have := rv.length; rw [List.length_map] at this; rw [sizeLine_eq]; omega)
    · refine ⟨.none, rfl, wpAny_pure ⟨_, rfl, ?_⟩⟩
      have eo : EachIs (StT X G) out (ts.mergeSort (leK b)) := PySem.W.keyedOut_each (keyT b) ko ek
      obtain ⟨ws, r3, v3⟩ := of_each eo
      have np : H h'.objs.size = none := I1.hok.fresh (Nat.le_refl _)
      have hlen : ws.length ≤ sizeLine := by rw [v3.length, eo.length, List.length_mergeSort, ← la]; exact zline
      exact ⟨.ref _, upd H h'.objs.size (.lst ws), I1.laid (t' := tk) (fun b0 u e => kp b0 u (Nat.ne_of_lt (Heap.lt_size e)) (Heap.get?_push_of_some _ e)) (Nat.le_refl _) ⟨hlen, _, c, v3, hD⟩, rfl, new_n R q np ⟨ws, rfl, r3⟩⟩
  · cases hs
end
end PL
/-! the lambda is made -/
namespace PL
open PySem PySem.Spec PyProof.Rows L2
open PySem.W (EachIs)
/-- the table changes; what it tells is known -/
theorem Rel.retab {P : PX} {G : Gh} {st : Store} {H : Hp} (R : Rel P G st H) {p : Addr} {ps : Array Value} (hp : P.TabAt p) (ht : TriplesOk ps.toList) (hk : ∀ (pos : Pos) (cv : Value), codeAmong pos ps.toList = some cv → ∃ c, cv = .ref c ∧ G.F c = some (LamX.CodeO c lamQ)) : Rel P G st (upd H p (.tbl ps)) := by
  have t := R.tab p hp
  refine ⟨fun a o e => ?_, R.len, R.nu, fun a o e => ?_, fun i m a e1 e2 => ?_, fun b hb => ?_⟩
  · rw [upd_ne (fun z => by rw [z, t.f] at e; cases e)]; exact R.fro a o e
  · exact ⟨by rw [upd_ne (fun z => by rw [z, t.l] at e; cases e)]; exact (R.lck a o e).1, (R.lck a o e).2⟩
  · exact CellOk.stay (G := G) (H := H) ⟨fun _ _ h => h, fun _ _ => rfl, fun c q y w _ f hc => ⟨by rw [upd_ne (fun z => by rw [z, t.o] at w; cases w)]; exact hc, f, w⟩⟩ (R.cel i m a e1 e2)
  · by_cases z : b = p
    · subst z
      exact ⟨t.f, t.o, t.l, ps, upd_same, ht, hk⟩
    · exact (R.tab b hb).stay (fun _ _ h => h) (upd_ne z) (R.tab b hb).f (R.tab b hb).o (R.tab b hb).l
/-- the code of the running def and its table -/
def CodeT (X : Cx) : Prop := ∃ c P, X.env.code = .ref c ∧ LamX.TabB X.base X.mg c P ∧ (pxOf X).TabAt P
section
variable {X : Cx} {pins : List (Addr × Obj)} {σ : L2.St} {H : Hp} {s : Shared} {G : Gh} {st : Store} {E : Value → Shared → Prop} {Q : Value → Shared → Prop} {params : Arguments} {body : Expr} {scope : Scope} {x bn : Str} {pos : Pos}
theorem lam_make3 (I : Inv X pins σ H s) (R : Rel (pxOf X) G st H) (L : LamK params body scope x bn) (ct : CodeT X) (hq : X.env.qual ++ "<lambda>" = lamQ) (hdef : defaultsOf params X.env = ([], []))
    (h : ∀ (G' : Gh) (H' : Hp) (s' : Shared) (f c' : Addr) (pm ctv : Value), G.Le G' → Inv X pins σ H' s' → Rel (pxOf X) G' st H' → s'.heap.get? f = some (PySem.W.kla_obj "<lambda>" lamQ params body scope [] pm c' ctv) → s'.heap.CodeRec (.ref c') lamQ → Q (.ref f) s') :
    wpAny (model X.prog X.w) X.A (eval (.Lambda params body scope pos) X.env) Q E s := by
  obtain ⟨c, P, hcode, TB, hT⟩ := ct
  have t := R.tab P hT
  obtain ⟨ps, hP, ht, ha⟩ := t.h
  have hcl : closureFor scope X.env = pure [] := by
    rw [closure_ok fun y hy e => ((L.nc y hy).2 e).elim]
    have : cloFrom X.env.cells scope.names [] = [] := List.eq_nil_iff_forall_not_mem.mpr fun y hy => by
      rcases cloFrom_mem hy with h | ⟨h, _⟩
      · cases h
      · exact (L.nc _ h).2 rfl
    rw [this]
  refine PySem.W.kla_eval hdef ?_
  rw [hq]
  have bP := TB.bm.keeps I.bk
  have hP' : s.heap.get? P = some { cls := .none, data := .fields ps } := I.hok P _ hP
  cases hc : codeAmong pos ps.toList with
  | none =>
    refine PySem.W.kla_makeFunction (mg := X.mg) (c := c) (P := P) (ps := ps) hcl I.ok.glob (I.mod.glob.keeps I.bk) hcode (TB.code.keeps I.bk) hP' ht hc TB.gP bP fun c' ctv h' tk hx hge hlt hrec htb => ?_
    obtain ⟨c2, oc, vs, tq, e2, hoc, hd, hv⟩ := id hrec
    cases e2
    have hsz : s.heap.objs.size ≤ h'.objs.size := Nat.le_trans hge (Nat.le_of_lt hlt)
    have nC : H c' = none := I.hok.fresh hge
    have nP : P ≠ c' := t.ne nC
    have I1 := LamX.inv_table (t' := tk) (q := lamQ) (more := #[rawInt pos.line, rawInt pos.col, .ref c']) (h' := h'.push (PySem.W.kla_obj "<lambda>" lamQ params body scope [] ((X.mg "__name__").getD .none) c' ctv)) I hP
      (fun b o hb e => Heap.get?_push_of_some _ (hx b o hb e)) (Heap.get?_push_of_some _ htb) hge ⟨oc, vs, tq, Heap.get?_push_of_some _ hoc, hd, hv⟩
    have R1 := (R.new (o := LamX.CodeO c' lamQ) nC).retab (ps := ps ++ #[rawInt pos.line, rawInt pos.col, .ref c']) hT (by rw [Array.toList_append]; exact PySem.TriplesOk_snoc _ _ _ _ ht) fun p' cv hcv => by
      rw [Array.toList_append] at hcv
      rcases LamX.among_app _ ht hcv with z | z
      · obtain ⟨c0, e1, e2⟩ := ha p' cv z
        exact ⟨c0, e1, Gh.frz_f (R.nofro nC) _ _ e2⟩
      · exact ⟨c', z, upd_same⟩
    have ew : upd (upd H c' (LamX.CodeO c' lamQ)) P (.tbl (ps ++ #[rawInt pos.line, rawInt pos.col, .ref c'])) = upd (upd H P (.tbl (ps ++ #[rawInt pos.line, rawInt pos.col, .ref c']))) c' (LamX.CodeO c' lamQ) := by
      funext b
      unfold upd
      by_cases h1 : b = P
      · rw [if_pos h1, if_neg (fun z => nP (h1.symm.trans z)), if_pos h1]
      · rw [if_neg h1, if_neg h1]
    rw [ew] at R1
    exact h _ _ _ _ c' _ ctv (Gh.frz_le (R.nofro nC)) I1 R1 (Heap.get?_push_size _ rfl) (hrec.keeps fun b o e => Heap.get?_push_of_some _ e)
  | some cv =>
    obtain ⟨c', rfl, hco⟩ := ha pos cv hc
    refine PySem.W.kla_makeFunctionHit (mg := X.mg) (c := c) (P := P) (ps := ps) hcl I.ok.glob (I.mod.glob.keeps I.bk) hcode (TB.code.keeps I.bk) hP' ht hc bP fun ctv h' tk hx hsz => ?_
    have I1 : Inv X pins σ H { s with heap := h'.push (PySem.W.kla_obj "<lambda>" lamQ params body scope [] ((X.mg "__name__").getD .none) c' ctv), toks := tk } := I.kept fun b o e => Heap.get?_push_of_some _ (hx b o e)
    obtain ⟨⟨oc, vs, tq, g1, g2, g3⟩, _⟩ := I1.hok c' _ (R.fro _ _ hco)
    exact h G H _ _ c' _ ctv (Gh.Le.refl G) I1 R (Heap.get?_push_size _ rfl) ⟨c', oc, vs, tq, rfl, g1, g2, g3⟩
end
end PL
/-! sorted(e, key=lambda x: (x.count(B), x)) -/
namespace PL
open PySem PySem.Spec PyProof.Rows L2
open PySem.W (EachIs)
def rowsOf (st : Store) (t : T) : Option (List T) := match look st t with | .lst xs => some xs | .tup xs => some xs | _ => none
def mSortK (b : Int) (m : M T) : M M0 := mBnd m fun t _ st => Res.ofO (((rowsOf st t).bind (sortK b)).map .lst) st
section
variable {X : Cx} {W : WX} {pins : List (Addr × Obj)} {σ : L2.St} {H : Hp} {s : Shared} {G : Gh} {st : Store} {params : Arguments} {body : Expr} {scope : Scope} {x bn : Str} {b : Int} {tb : Tok} {e : Expr} {m : M T} {p1 p2 p3 p4 : Pos}
theorem rowsK_at (I : Inv X pins σ H s) (R : Rel (pxOf X) G st H) {t : T} {v : V} {u : Value} {xs : List T} (r : Rp (pxOf X) G t v) (rv : RelV v u) (h : rowsOf st t = some xs) :
    ∃ a acc, u = .ref a ∧ EachIs (StT X G) acc xs ∧ ∃ (o : Obj) (ty : String) (n : Nat), (ty = "list" ∨ ty = "tuple") ∧ s.heap.get? a = some o ∧ o.cls = .type ty ∧ o.data = .seq acc.toArray n := by
  have hl := look_ok R r
  unfold rowsOf at h
  split at h
  · rename_i ys e2
    cases h
    rw [e2] at hl
    obtain ⟨a, ws, rfl, h1, rr⟩ := hl
    cases rv
    obtain ⟨its, rv2, ⟨o, n, g1, g2, _, g3⟩, _⟩ := I.list (SqL.of h1)
    exact ⟨a, its, rfl, each_of rr rv2, o, "list", n, .inl rfl, g1, g2, g3⟩
  · rename_i ys e2
    cases h
    rw [e2] at hl
    obtain ⟨a, ws, rfl, h1, rr⟩ := hl
    cases rv
    obtain ⟨its, rv2, ⟨o, g1, g2, n, g3⟩, _⟩ := I.tuple h1
    exact ⟨a, its, rfl, each_of rr rv2, o, "tuple", n, .inr rfl, g1, g2, g3⟩
  · cases h
theorem sn_byKey (hc : X.calm = true) (hr : Room 3 X.A) (hg : Gl X "sorted") (hm : X.mg "sorted" = none) (he : SE X W e m) (L : LamK params body scope x bn) (hb : X.mg bn = some (.int b tb)) (ct : CodeT X) (hq : X.env.qual ++ "<lambda>" = lamQ) (hdef : defaultsOf params X.env = ([], []))
    (hs : starEach [e] X.env = [(false, eval e X.env)]) :
    SEn X W (.Call (.Name "sorted" p1) [e] [⟨some (Str.ofString "key"), .Lambda params body scope p2, p3⟩] p4) (mSortK b m) := by
  refine ⟨fun pins s σ H Q I h => ?_⟩
  have h := tG.bnd (rel := relT (pxOf X)) h
  refine wpAny_Call_Name_kw (ld_blt I hg hm (by rfl : bootBuiltins "sorted" = some (.builtin "sorted")) ?_)
  refine callWith_kw (wpAny_items_cons (thn (he.run pins s σ H _ I h) fun u s1 ⟨v, H1, I1, r1, q1⟩ => wpAny_items_nil ?_) hs) (by rw [hs]; rfl) (by rw [hs]; rfl)
  obtain ⟨t, G, env, st, ⟨R1, rt⟩, E1, q1⟩ := q1
  obtain ⟨zs, e1, q2⟩ := Po.ofO q1
  refine kws_cons (lam_make3 I1 R1 L ct hq hdef fun G' H' s' f c' pm ctv le I2 R2 hf hcd => kws_nil ?_)
  cases e2 : rowsOf st t with
  | none => rw [e2] at e1; cases e1
  | some xs =>
    rw [e2] at e1
    simp only [Option.bind_some, Option.map_eq_some_iff] at e1
    obtain ⟨ys, e3, rfl⟩ := e1
    obtain ⟨a, acc, rfl, ek, ho⟩ := rowsK_at I2 R2 (rt.mono le) r1 e2
    exact sortK_run hc I2 R2 ek ho e3 L hf hcd hb hr fun G2 H2 r le2 q => q2 G2 H2 r (le.trans le2) q
end
end PL
/-! a def that makes a lambda -/
namespace PL
open PySem PySem.Spec PyProof.Rows L2
theorem FOk.mkC {Y : Yd} {x qual : Str} {st : Stmt} {f : Addr} {fd : FuncData} {N ps : List Str} {k : Nat} {m : SM} (kp : Bool) (hm : Y.mg x = some (.ref f)) (F : L2.Fun Y.K x qual st f fd) (S : FnScope N ps (defScope st)) (hb : Binds Y.K fd ps [])
    (body : ∀ cdv A outer s H E, cdv = fd.code → (∃ (oc : Value) (od : Option Addr) (osl : Array (Option Value)), Y.K.lookup f = some ⟨oc, od, .func fd, osl⟩) → Room k (A.deeper (envOfC qual (defScope st) s.heap.objs.size f cdv)) → SSs (BX Y N qual (defScope st) f cdv A outer s H E) (Wd E) (defBody st) m) :
    FOk Y (k + 1) x ps.length (evDef kp N.length m) := by
  refine ⟨f, fd, ps, hm, rfl, F.kp, hb, ?_⟩
  obtain ⟨oc, od, kV, doc, pm, an, cdv, ct, osl, rfl, lk, hcd⟩ := F.ex
  refine fn_of lk hcd S (fun vs H Q E h => h.1) fun A outer s H vs Q E hr h => ⟨_, body cdv A outer s H E rfl ⟨oc, od, osl, lk⟩ hr, ?_⟩
  obtain ⟨_, G, st, ts, R, r, q⟩ := h
  exact def_pre R r q
/-- what the head tells of the def that makes the lambda -/
def LamY (Y : Yd) : Prop := ∀ (f : Addr) (oc : Value) (od : Option Addr) (fd : FuncData) (osl : Array (Option Value)), Y.mg lamD = some (.ref f) → Y.K.lookup f = some ⟨oc, od, .func fd, osl⟩ → ∃ c P, fd.code = .ref c ∧ LamX.TabB Y.base Y.mg c P
theorem codeT {Y : Yd} {N : List Str} {qual : Str} {sc : Scope} {f : Addr} {cdv : Value} {A : Around} {outer : List Env} {s : Shared} {H : Hp} {E : XK} {fd : FuncData} (h : LamY Y) (hm : Y.mg lamD = some (.ref f)) (e : cdv = fd.code) (lk : ∃ (oc : Value) (od : Option Addr) (osl : Array (Option Value)), Y.K.lookup f = some ⟨oc, od, .func fd, osl⟩) :
    CodeT (BX Y N qual sc f cdv A outer s H E) := by
  obtain ⟨oc, od, osl, lk⟩ := lk
  obtain ⟨c, P, e1, t⟩ := h f oc od fd osl hm lk
  exact ⟨c, P, e.trans e1, t, f, oc, od, fd, osl, c, hm, lk, e1, t.code⟩
theorem GlF.int {Y : Yd} {x : Str} {i : Int} (F : GlF Y x (.int i)) : ∃ t, Y.mg x = some (.int i t) := by
  obtain ⟨v, u, e, r, h⟩ := F.ex
  have := h ⟨fun _ => none, [], fun _ _ _ => none, fun _ => none, fun _ => none⟩
  simp only [Rp] at this
  subst this
  obtain ⟨t, rfl⟩ := r
  exact ⟨t, e⟩
theorem sn_byKeyG {X : Cx} {W : WX} {params : Arguments} {body : Expr} {scope : Scope} {x bn : Str} {b : Int} {e : Expr} {m : M T} {p1 p2 p3 p4 : Pos} (hc : X.calm = true) (hr : Room 3 X.A) (hg : Gl X "sorted") (hm : X.mg "sorted" = none) (he : SE X W e m) (L : LamK params body scope x bn) (F : GlF (ydOf X) bn (.int b)) (ct : CodeT X) (hq : X.env.qual ++ "<lambda>" = lamQ) (hdef : defaultsOf params X.env = ([], []))
    (hs : starEach [e] X.env = [(false, eval e X.env)]) : SEn X W (.Call (.Name "sorted" p1) [e] [⟨some (Str.ofString "key"), .Lambda params body scope p2, p3⟩] p4) (mSortK b m) := by
  obtain ⟨t, h⟩ := F.int
  exact sn_byKey hc hr hg hm he L h ct hq hdef hs
end PL
/-! the law's call: its surroundings are known -/
namespace PL
open PySem PySem.Spec PyProof.Rows L2
def lawA : Str := "_law_script"
/-- the promise of the law's def, at the caller -/
def RunC (P : Program) (w : World) (K : PySem.W.Frag) (mg : Str → Option Value) (base : Heap) (f : Addr) (fd : FuncData) (sem : Sem1) : Prop :=
  ∀ (s : Shared) (H : Hp) (us : List Value) (vs : List V) (Q : VK) (E : XK), Env0 P w K mg base callerA [] s H → (∀ s' : Shared, BindsTo s' fd ⟨us, []⟩ ([lawA].zip us)) → Vals vs us → spF ⟨w, K, mg, base⟩ 1 sem vs H Q E →
    codeAny (model P w) callerA (.call (.ref f) ⟨us, []⟩) (CR (L2.CX P w) [] P w H s Q E) s
theorem RunC.of {P : Program} {w : World} {K : PySem.W.Frag} {mg : Str → Option Value} {base : Heap} {qual : Str} {st : Stmt} {f : Addr} {fd : FuncData} {N : List Str} {k : Nat} {m : SM} (kp : Bool) (hr : Room (k + 1) callerA) (F : L2.Fun K "law" qual st f fd) (S : FnScope N [lawA] (defScope st))
    (body : ∀ cdv outer s H E, Room k (callerA.deeper (envOfC qual (defScope st) s.heap.objs.size f cdv)) → SSs (BX ⟨P, w, K, mg, base⟩ N qual (defScope st) f cdv callerA outer s H E) (Wd E) (defBody st) m) : RunC P w K mg base f fd (evDef kp N.length m) := by
  intro s H us vs Q E e0 hb r h
  obtain ⟨oc, od, kV, doc, pm, an, cdv, ct, osl, rfl, lk, hcd⟩ := F.ex
  obtain ⟨hl, G, st1, ts, R, rt, q⟩ := h
  exact LamX.run_ofS lk hcd S hr e0 (hb s) r hl fun hr' => ⟨_, body cdv [] s H E hr', def_pre R rt q⟩
end PL
/-! the law's call from the head's heap -/
namespace PL
open PySem PySem.Spec PyProof.Rows L2
/-- what is tracked at the head: the script, where the module does not have it, and the tables -/
def headH (K : PySem.W.Frag) (tabs : List Addr) (a : Addr) (o : Obj) (ns : List Int) : Hp := fun b =>
  if b = a ∧ K.lookup a = none then some (.frz o (.lst (ns.map V.int))) else if b ∈ tabs then some (.tbl #[]) else none
theorem headH_scr {K : PySem.W.Frag} {tabs : List Addr} {a : Addr} {o : Obj} {ns : List Int} (h : K.lookup a = none) : headH K tabs a o ns a = some (.frz o (.lst (ns.map V.int))) := if_pos ⟨rfl, h⟩
theorem headH_tab {K : PySem.W.Frag} {tabs : List Addr} {a : Addr} {o : Obj} {ns : List Int} {b : Addr} (hb : b ∈ tabs) (hn : b ≠ a) : headH K tabs a o ns b = some (.tbl #[]) := by
  unfold headH
  rw [if_neg (fun z => hn z.1), if_pos hb]
theorem headH_inv {K : PySem.W.Frag} {tabs : List Addr} {a : Addr} {o : Obj} {ns : List Int} {b : Addr} {u : HO} (h : headH K tabs a o ns b = some u) : (b = a ∧ K.lookup a = none ∧ u = .frz o (.lst (ns.map V.int))) ∨ (b ∈ tabs ∧ u = .tbl #[]) := by
  unfold headH at h
  split at h
  · rename_i z
    cases h
    exact .inl ⟨z.1, z.2, rfl⟩
  · split at h
    · rename_i z
      cases h
      exact .inr ⟨z, rfl⟩
    · cases h
end PL
set_option maxHeartbeats 1000000
/-! the end of a law -/
namespace PL
open PySem PySem.Spec PyProof.Rows L2
def headG (K : PySem.W.Frag) (a : Addr) (o : Obj) (ns : List Int) : Gh where
  F := fun b => if b = a ∧ K.lookup a = none then some (.frz o (.lst (ns.map V.int))) else none
  μ := []
  ν := fun _ _ _ => none
  ow := fun _ => none
  L := fun _ => none
/-- what the law's def keeps, of the module's objects alone -/
def LawS (P : Program) (w : World) (K : PySem.W.Frag) (mg : Str → Option Value) (f : Addr) (h : Heap) : Prop :=
  ∃ (fd : FuncData) (cs : List (Addr × Addr)) (sem : Sem1), (∀ p ∈ cs, h.get? p.2 = some { cls := .none, data := .fields #[] }) ∧ (∀ p ∈ cs, K.lookup p.2 = none) ∧ (∀ p ∈ cs, PySem.W.CodeHd h p.1 p.2) ∧ (∀ (s : Shared) (u : Value), BindsTo s fd ⟨[u], []⟩ [(lawA, u)]) ∧
    (∀ ns : List Int, ns.length ≤ 63 → (∀ z ∈ ns, Builtin.Int.intBits z ≤ 1048576) → ∃ st, sem [.scr ns] [] = some (.ok (.bl true), st)) ∧
    ∀ base : Heap, K.In base → base.Ns mainGlobals mg → (∀ p ∈ cs, LamX.TabB base mg p.1 p.2) → RunC P w K mg base f fd sem ∧ ∀ p, PX.TabAt ⟨w, K, mg, base⟩ p → p ∈ cs.map (·.2)
theorem law_callPL {P : Program} {w : World} {K : PySem.W.Frag} {mg mb : Str → Option Value} {fa a : Addr} {s₁ : Shared} {vs : List Value} {ns : List Int}
    (KX : K.In s₁.heap) (hns : s₁.heap.Ns mainGlobals mg) (hb : s₁.heap.Ns builtinsNs mb) (hbb : ∀ x : Str, x ≠ "__name__" → mb x = bootBuiltins x) (hlim : s₁.heap.NoLimit) (hg : s₁.gens = #[])
    (hbm : ∃ (bm : Addr) (ob : Obj), mg "__builtins__" = some (.ref bm) ∧ bm ≠ builtinsNs ∧ s₁.heap.get? bm = some ob ∧ ob.cls = .type "module" ∧ ob.dict = some builtinsNs ∧ ob.data = .plain)
    (ha : s₁.heap.get? a = some { cls := .type "list", data := .seq vs.toArray }) (hi : IntsAre vs ns) (hl : ns.length ≤ 63) (hbits : ∀ z ∈ ns, Builtin.Int.intBits z ≤ 1048576)
    (hS : LawS P w K mg fa s₁.heap) :
    codeAny (model P w) callerA (.call (.ref fa) ⟨[.ref a], []⟩) (fun r s' => r = .ok (.ret (.bool true)) ∧ OldK s₁.heap s'.heap ∧ s'.os = s₁.os ∧ AllBare s'.gens) s₁ := by
  obtain ⟨fd, cs, sem, hT, nT, C, hbind, hsem, F⟩ := hS
  have rv := vals_ints hi
  have lenV := hi.length
  have hl2 : ns.length ≤ sizeLine := by rw [sizeLine_eq]; omega
  have isT : ∀ b : Addr, b ∈ cs.map (·.2) → s₁.heap.get? b = some { cls := .none, data := .fields #[] } := fun b hb => by
    obtain ⟨p, hp, e⟩ := List.mem_map.mp hb
    rw [← e]
    exact hT p hp
  have aT : a ∉ cs.map (·.2) := fun z => by
    have q := isT a z
    rw [ha] at q
    have z' : Data.seq vs.toArray _ = Data.fields #[] := congrArg Obj.data (Option.some.inj q)
    cases z'
  have memT : ∀ p ∈ cs, p.2 ∈ cs.map (·.2) := fun p hp => List.mem_map.mpr ⟨p, hp, rfl⟩
  let o : Obj := { cls := .type "list", data := .seq vs.toArray }
  let H : Hp := headH K (cs.map (·.2)) a o ns
  have hH : ∀ p ∈ cs, H p.2 = some (.tbl #[]) := fun p hp => headH_tab (memT p hp) fun z => aT (z ▸ memT p hp)
  have hA : ∀ b, H b ≠ none → b = a ∨ b ∈ cs.map (·.2) := fun b z => by
    cases e : H b with
    | none => exact absurd e z
    | some u =>
      rcases headH_inv e with ⟨h1, _, _⟩ | ⟨h1, _⟩
      · exact .inl h1
      · exact .inr h1
  have hK : H a ≠ none → K.lookup a = none := fun z => by
    cases e : H a with
    | none => exact absurd e z
    | some u =>
      rcases headH_inv e with ⟨_, h1, _⟩ | ⟨h1, _⟩
      · exact h1
      · exact absurd h1 aT
  have hok : HOk P w H s₁.heap := fun b u z => by
    rcases headH_inv z with ⟨rfl, h1, rfl⟩ | ⟨h1, rfl⟩
    · exact ⟨ha, by rw [List.length_map]; exact hl2, vs, _, rv, ha⟩
    · exact isT b h1
  have base_of : ∀ {b : Addr} {o : Obj}, s₁.heap.get? b = some o → H b = none → (hidT s₁.heap H).get? b = some o := fun e n => hidT_get e n
  have noD : ∀ {b : Addr} {o : Obj}, s₁.heap.get? b = some o → (∀ vs n, o.data ≠ .seq vs n) → o.data ≠ .fields #[] → H b = none := fun {b o} e h1 h2 => by
    cases q : H b with
    | none => rfl
    | some u =>
      rcases hA b (by rw [q]; simp) with e' | e'
      · rw [e', ha] at e
        cases e
        exact (h1 _ _ rfl).elim
      · rw [isT b e'] at e
        cases e
        exact (h2 rfl).elim
  have noA : ∀ {b : Addr} {o : Obj} {es : Array DictEntry} {ep : Nat}, s₁.heap.get? b = some o → o.data = .dict es ep → H b = none := fun {b o es ep} e d => by
    refine noD e (fun vs n z => ?_) fun z => ?_
    · rw [d] at z
      cases z
    · rw [d] at z
      cases z
  have nsK : ∀ {b : Addr} {m : Str → Option Value}, s₁.heap.Ns b m → (hidT s₁.heap H).Ns b m := fun {b m} ⟨o, es, ep, e, d, r⟩ => ⟨o, es, ep, base_of e (noA e d), d, r⟩
  have hKb : K.In (hidT s₁.heap H) := fun b o e => base_of (KX b o e) (by
    cases q : H b with
    | none => rfl
    | some u =>
      rcases hA b (by rw [q]; simp) with e' | e'
      · rw [e'] at e q
        rw [hK (by rw [q]; simp)] at e
        cases e
      · obtain ⟨p, hp, ep⟩ := List.mem_map.mp e'
        rw [← ep, nT p hp] at e
        cases e)
  have hM : L2.Mod K mg (hidT s₁.heap H) := ⟨hKb, nsK hns, ⟨mb, nsK hb, hbb⟩, let ⟨mc, h1, h2⟩ := hlim; ⟨mc, nsK h1, h2⟩⟩
  have TB : ∀ p ∈ cs, LamX.TabB (hidT s₁.heap H) mg p.1 p.2 := fun p hp => by
    have hTp := hT p hp
    refine ⟨?_, ?_, fun z => ?_⟩
    · obtain ⟨o, us, file, tf, flags, tg, inF, text, tt, e1, r1, r2, r3, r4, r5, r6, r7, r8, hne⟩ := C p hp
      refine ⟨o, us, file, tf, flags, tg, inF, text, tt, base_of e1 (noD e1 (fun vs n z => ?_) fun z => ?_), r1, r2, r3, r4, r5, r6, r7, r8, hne⟩
      · rw [r2] at z
        cases z
      · rw [r2] at z
        cases z
        simp at r3
    · obtain ⟨bm, ob, b1, b2, b3, b4, b5, b6⟩ := hbm
      have nG : bm ≠ mainGlobals := fun q => by
        obtain ⟨o, es, ep, e, hd, _⟩ := hns
        rw [q, e] at b3
        cases b3
        rw [hd] at b6
        cases b6
      have nP : bm ≠ p.2 := fun q => by
        rw [q, hTp] at b3
        cases b3
        cases b6
      refine ⟨bm, ob, b1, b2, nG, nP, base_of b3 (noD b3 (fun vs n z => ?_) fun z => ?_), b4, b5, b6⟩
      · rw [b6] at z
        cases z
      · rw [b6] at z
        cases z
    · obtain ⟨o, es, ep, e, hd, _⟩ := hns
      rw [z, hTp] at e
      cases e
      cases hd
  have e0 : Env0 P w K mg (hidT s₁.heap H) callerA [] s₁ H := ⟨rfl, hM, fun b o e => of_hidT e, Nat.le_of_eq (hidT_size _ _), trivial, fun b hb => absurd (show b ∈ ([] : List Addr) from hb) (by simp), hok, .of_eq hg⟩
  obtain ⟨hR, hTab⟩ := F _ hKb (nsK hns) TB
  obtain ⟨st, hst⟩ := hsem ns hl hbits
  let G := headG K a o ns
  have gF : ∀ {b : Addr} {u : HO}, G.F b = some u → b = a ∧ K.lookup a = none ∧ u = .frz o (.lst (ns.map V.int)) := fun {b u} e => by
    have e : (if b = a ∧ K.lookup a = none then some (HO.frz o (.lst (ns.map V.int))) else none) = some u := e
    split at e
    · rename_i z
      cases e
      exact ⟨z.1, z.2, rfl⟩
    · cases e
  have hRel : Rel ⟨w, K, mg, hidT s₁.heap H⟩ G [] H := by
    refine ⟨fun b u e => ?_, rfl, fun _ _ _ _ => rfl, fun b u e => (by cases e), fun i m b e => (by simp at e), fun p hp => ?_⟩
    · obtain ⟨rfl, h1, rfl⟩ := gF e
      exact headH_scr h1
    · have h1 := hTab p hp
      obtain ⟨q, hq, rfl⟩ := List.mem_map.mp h1
      refine ⟨?_, rfl, rfl, #[], hH q hq, by simp [TriplesOk], fun pos cv e => by simp [codeAmong] at e⟩
      cases e : G.F q.2 with
      | none => rfl
      | some u => exact absurd (memT q hq) ((gF e).1 ▸ aT)
  have hSq : SqL K G.F a (ns.map V.int) := by
    cases hk : K.lookup a with
    | some o' =>
      have e := KX a o' hk
      rw [ha] at e
      cases e
      exact .inr ⟨_, vs.toArray, _, hk, rfl, rfl, rfl, by rw [List.size_toArray, lenV]; exact hl2, by simpa using rv⟩
    | none => exact .inl (.inr ⟨o, if_pos ⟨rfl, hk⟩⟩)
  have hsp : spF ⟨w, K, mg, hidT s₁.heap H⟩ 1 sem [.ref a] H (fun v _ => v = .bl true) (fun _ _ _ => False) := by
    refine ⟨rfl, G, [], [.scr ns], hRel, Rps.cons (by simp only [Rp]; exact ⟨a, rfl, hSq⟩) Rps.nil, ?_⟩
    rw [hst]
    intro G' H' b _ r
    have := r.2
    simp only [Rp] at this
    exact this
  refine codeAny_mono (hR s₁ H [.ref a] [.ref a] _ _ e0 (fun s' => hbind s' (.ref a)) (.cons rfl .nil) hsp) fun r s' h => ?_
  cases r with
  | error e => obtain ⟨_, _, _, _, _, _, _, _, _, _, _, _, h⟩ := h; exact h.elim
  | ok fl =>
    cases fl with
    | next => exact False.elim h
    | brk => exact False.elim h
    | cont => exact False.elim h
    | ret u =>
      obtain ⟨v, H', os, bare, un, hok', r', q⟩ := h
      have q' : v = .bl true := q
      subst q'
      obtain rfl : u = Value.bool true := r'
      have key : ∀ b o, b ∉ cs.map (·.2) → s₁.heap.get? b = some o → s'.heap.get? b = some o := fun b o nb e => by
        cases q : H b with
        | none => exact un.keep b o e q (by intro z; exact absurd (show b ∈ ([] : List Addr) from z) (by simp)) (by simp)
        | some u =>
          rcases headH_inv q with ⟨rfl, h1, rfl⟩ | ⟨h1, rfl⟩
          · have z2 := un.frzs b _ _ q
            obtain ⟨e1, _⟩ := hok b _ q
            obtain ⟨e2, _⟩ := hok' b _ z2
            rw [e] at e1; cases e1
            exact e2
          · exact absurd h1 nb
      have grown : ∀ p ∈ cs, ∃ more : Array Value, s'.heap.get? p.2 = some { cls := .none, data := .fields more } := fun p hp => by
        obtain ⟨more, z⟩ := un.tbls p.2 #[] (hH p hp)
        exact ⟨_, hok' p.2 _ z⟩
      refine ⟨rfl, ⟨fun b o e => ?_, fun b o e => ?_⟩, os, bare⟩
      · by_cases hb : b ∈ cs.map (·.2)
        · obtain ⟨p, hp, ep⟩ := List.mem_map.mp hb
          obtain ⟨more, hm⟩ := grown p hp
          rw [← ep] at e ⊢
          rw [hT p hp] at e
          cases e
          exact .inr (.inl ⟨((C p hp).tab (hT p hp)).isCodeTable, rfl, #[], more, rfl, by rw [Array.empty_append]; exact hm⟩)
        · exact .inl (key b o hb e)
      · by_cases hb : b ∈ cs.map (·.2)
        · obtain ⟨p, hp, ep⟩ := List.mem_map.mp hb
          obtain ⟨more, hm⟩ := grown p hp
          rw [← ep]
          exact ⟨_, hm⟩
        · exact ⟨o, key b o hb e⟩
/-- the goal that k_head leaves -/
theorem walkEnd {l : PySem.W.OpenLaw} {q : Program} {loose : List Str} {XP : (Str → Option Value) → Heap → Prop} {YP : World → Heap → Prop} {d : DefRec} {K : Params → PySem.W.Frag}
    (hn : l.most = some 63) (hdf : d.params.defaults = []) (hY : ∀ (w : World) (h : Heap), YP w h → (K w.params).In h)
    (F : ∀ (w : World) (mg : Str → Option Value) (fa : Addr) (h : Heap), YP w h → (K w.params).In h → h.Ns mainGlobals mg → mg d.name = some (.ref fa) → LawS l.prog w (K w.params) mg fa h) :
    PySem.W.WalkO q loose XP YP l.row.toRowW d [] (fun f vs => PySem.call f vs) := by
  refine Att.attach_callB hn hdf fun w s₀ s₁ mg mb fa o pm cd doc a vs ns G Y ho hd hcd hmg hobj hints hlen hbits hg => ?_
  have KX := hY w _ Y
  exact law_callPL KX G.T.g G.T.b G.T.builtins G.T.nolimit hg G.T.bmain hobj hints hlen hbits (F w mg fa _ Y KX G.T.g hmg)
end PL
set_option maxHeartbeats 1000000
/-! the head's facts -/
namespace PL
open PySem PySem.Spec PyProof.Rows L2
mutual
/-- a constant of the module -/
def constB (K : PySem.W.Frag) : T → Value → Bool
  | .non, .none => true
  | .bl b, .bool c => b == c
  | .int i, .int j _ => decide (i = j)
  | .str x, .str y _ => decide (x = y)
  | .tup xs, .ref a => (match K.lookup a with
    | some ⟨.type c, none, .seq its _, _⟩ => decide (c = "tuple") && (decide (its.size ≤ sizeLine) && constsB K xs its.toList)
    | _ => false)
  | _, _ => false
def constsB (K : PySem.W.Frag) : List T → List Value → Bool
  | [], [] => true
  | x :: xs, u :: us => constB K x u && constsB K xs us
  | _, _ => false
end
mutual
theorem constB_ok {P : PX} : ∀ (t : T) (u : Value), constB P.K t u = true → ∃ v, RelV v u ∧ ∀ G, Rp P G t v
  | .non, u, h => by
    cases u <;> simp [constB] at h
    exact ⟨.non, rfl, fun G => by simp [Rp]⟩
  | .bl b, u, h => by
    cases u <;> simp [constB] at h
    exact ⟨.bl b, by rw [h]; rfl, fun G => by simp [Rp]⟩
  | .int i, u, h => by
    cases u <;> simp [constB] at h
    rename_i j t
    exact ⟨.int i, ⟨t, by rw [h]⟩, fun G => by simp [Rp]⟩
  | .str i, u, h => by
    cases u <;> simp [constB] at h
    rename_i j t
    exact ⟨.str i, ⟨t, by rw [h]⟩, fun G => by simp [Rp]⟩
  | .tup xs, u, h => by
    cases u with
    | ref a =>
      simp only [constB] at h
      split at h
      · rename_i c its n sl e
        simp only [Bool.and_eq_true, decide_eq_true_eq] at h
        obtain ⟨h1, h2, h3⟩ := h
        obtain ⟨vs, r, q⟩ := constsB_ok xs its.toList h3
        refine ⟨.ref a, rfl, fun G => ?_⟩
        simp only [Rp]
        exact ⟨a, vs, rfl, .inr ⟨_, its, n, e, congrArg Value.type h1, rfl, rfl, h2, r⟩, q G⟩
      · cases h
    | _ => simp [constB] at h
  | .lst _, u, h => by simp [constB] at h
  | .dct _ _, u, h => by simp [constB] at h
  | .obj _ _ _, u, h => by simp [constB] at h
  | .cell _, u, h => by simp [constB] at h
  | .fld _ _ _, u, h => by simp [constB] at h
  | .scr _, u, h => by simp [constB] at h
  | .par _, u, h => by simp [constB] at h
theorem constsB_ok {P : PX} : ∀ (ts : List T) (us : List Value), constsB P.K ts us = true → ∃ vs, Vals vs us ∧ ∀ G, Rps P G ts vs
  | [], [], _ => ⟨[], .nil, fun G => Rps.nil⟩
  | [], _ :: _, h => by simp [constsB] at h
  | _ :: _, [], h => by simp [constsB] at h
  | x :: xs, u :: us, h => by
    simp only [constsB, Bool.and_eq_true] at h
    obtain ⟨v, r, q⟩ := constB_ok x u h.1
    obtain ⟨vs, rs, qs⟩ := constsB_ok xs us h.2
    exact ⟨v :: vs, .cons r rs, fun G => Rps.cons (q G) (qs G)⟩
end
/-- the module's name x is that constant -/
def glB (x : Str) (t : T) (K : PySem.W.Frag) : Bool := match PySem.W.nsIn K mainGlobals x with
  | some (some u) => constB K t u
  | _ => false
/-- the module's name x is a built-in function -/
def impB (x : Str) (id : String) (K : PySem.W.Frag) : Bool := match PySem.W.nsIn K mainGlobals x with
  | some (some (.builtin i)) => decide (i = id)
  | _ => false
theorem glB_ok {Y : Yd} {h : Heap} (X : Y.K.In h) (G : h.Ns mainGlobals Y.mg) {x : Str} {t : T} (c : glB x t Y.K = true) : GlF Y x t := by
  unfold glB at c
  split at c
  · rename_i u e
    obtain ⟨v, r, q⟩ := constB_ok (P := Y.px) t u c
    exact ⟨v, u, PySem.W.mg_of X G e, r, q⟩
  · cases c
theorem impB_ok {Y : Yd} {h : Heap} (X : Y.K.In h) (G : h.Ns mainGlobals Y.mg) {x : Str} {id : String} (c : impB x id Y.K = true) : Y.mg x = some (.builtin id) := by
  unfold impB at c
  split at c
  · rename_i i e
    rw [← of_decide_eq_true c]
    exact PySem.W.mg_of X G e
  · cases c
/-- a def of the module by its statement -/
def ddG (x : Str) (st : Stmt) : He.DefD := ⟨(x, none), x, x, defArgs st, defBody st, defScope st, [], []⟩
def ddM (C m q : Str) (st : Stmt) : He.DefD := ⟨(C, some m), m, q, defArgs st, defBody st, defScope st, [], []⟩
theorem fun_ofL {K : PySem.W.Frag} {x qual : Str} {st : Stmt} {f : Addr} {fd : FuncData} {kws : List (Str × V)} (F : FunD K x qual (defArgs st) (defBody st) (defScope st) [] kws f fd) : L2.Fun K x qual st f fd := by
  obtain ⟨oc, od, dV, kV, doc, pm, an, cdv, ct, osl, e, l, c, hd, _⟩ := F.ex
  rcases hd with ⟨_, e2⟩ | ⟨e2, _⟩
  · subst e2
    exact ⟨⟨oc, od, kV, doc, pm, an, cdv, ct, osl, e, l, c⟩, F.kp⟩
  · exact absurd rfl e2
section
variable {fa : List He.Fa} {fn : List He.DefD} {tf : List He.Defn} {ex : PySem.W.Frag → Bool} {w : World} {h : Heap} {K : PySem.W.Frag} {Y : Yd}
theorem says_def (c : He.SaysX fa fn [] tf ex w h Y.K) (X : Y.K.In h) (G : h.Ns mainGlobals Y.mg) {x : Str} {st : Stmt} (i j : Nat) (hi : fn[i]? = some (ddG x st)) (hj : fa[j]? = some (.glo x)) : ∃ f fd, Y.mg x = some (.ref f) ∧ L2.Fun Y.K x x st f fd := by
  obtain ⟨fd, F⟩ := c.t.d.def_ i hi
  exact ⟨_, fd, He.glo_ok X G (c.t.d.fact j hj), fun_ofL F⟩
theorem says_cls (c : He.SaysX fa fn [] tf ex w h Y.K) (X : Y.K.In h) (G : h.Ns mainGlobals Y.mg) {x q : Str} {st : Stmt} (i j k : Nat) (hi : fn[i]? = some (ddM x "__init__" q st)) (hj : fa[j]? = some (.glo x)) (hk : fa[k]? = some (.mkr x)) :
    ∃ C f fd, Y.mg x = some (.ref C) ∧ Mk Y.K C f ∧ L2.Fun Y.K "__init__" q st f fd := by
  obtain ⟨fd, F⟩ := c.t.d.def_ i hi
  exact ⟨_, _, fd, He.glo_ok X G (c.t.d.fact j hj), He.mkr_ok (c.t.d.fact k hk), fun_ofL F⟩
theorem says_fld (c : He.SaysX fa fn [] tf ex w h Y.K) (X : Y.K.In h) (G : h.Ns mainGlobals Y.mg) {cn f : String} (i j k : Nat) (hi : fa[i]? = some (.glo (Str.ofString cn))) (hj : fa[j]? = some (.cls (Str.ofString cn))) (hk : fa[k]? = some (.noat (Str.ofString cn) (Str.ofString f))) : FldF Y cn f :=
  ⟨_, He.glo_ok X G (c.t.d.fact i hi), He.cls_ok (c.t.d.fact j hj), He.noat_ok (c.t.d.fact k hk)⟩
theorem codeHd_fun {h : Heap} {c p p' : Addr} (a : PySem.W.CodeHd h c p) (b : PySem.W.CodeHd h c p') : p = p' := by
  obtain ⟨o, vs, _, _, _, _, _, _, _, e1, _, e3, e4, _⟩ := a
  obtain ⟨o', vs', _, _, _, _, _, _, _, f1, _, f3, f4, _⟩ := b
  rw [e1] at f1; cases f1
  rw [e3] at f3; cases f3
  rw [e4] at f4; cases f4
  rfl
/-- the tables told -/
def csOf (K : PySem.W.Frag) (tf : List He.Defn) : List (Addr × Addr) := tf.map (He.cT K)
theorem lam_code (c : He.SaysX fa fn [] tf ex w h Y.K) (X : Y.K.In h) (G : h.Ns mainGlobals Y.mg) {st : Stmt} (i j : Nat) (hi : fn[i]? = some (ddG lamD st)) (hj : fa[j]? = some (.glo lamD))
    {f : Addr} {oc : Value} {od : Option Addr} {fd : FuncData} {osl : Array (Option Value)} (hm : Y.mg lamD = some (.ref f)) (lk : Y.K.lookup f = some ⟨oc, od, .func fd, osl⟩) : fd.code = .ref (He.codeOf Y.K (lamD, none)) := by
  obtain ⟨fd', F⟩ := c.t.d.def_ i hi
  have e := (He.glo_ok X G (c.t.d.fact j hj)).symm.trans hm
  cases e
  obtain ⟨oc, od, dV, kV, doc, pm, an, cdv, ct, osl, rfl, l, cd, _⟩ := F.ex
  have l2 : Y.K.lookup (He.ga Y.K lamD) = _ := l
  rw [lk] at l2
  cases l2
  obtain ⟨c0, rfl⟩ := He.codeIn_ref cd
  show Value.ref c0 = _
  rw [He.codeOf_eq (p := (lamD, none)) l rfl]
theorem says_lam (c : He.SaysX fa fn [] tf ex w h Y.K) (X : Y.K.In h) (G : h.Ns mainGlobals Y.mg) {st : Stmt} (i j : Nat) (hi : fn[i]? = some (ddG lamD st)) (hj : fa[j]? = some (.glo lamD)) (hl : (lamD, none) ∈ tf)
    (B : ∀ p ∈ csOf Y.K tf, LamX.TabB Y.base Y.mg p.1 p.2) : LamY Y := fun f oc od fd osl hm lk =>
  ⟨_, _, lam_code c X G i j hi hj hm lk, B _ (List.mem_map.mpr ⟨_, hl, rfl⟩)⟩
theorem says_tab (c : He.SaysX fa fn [] tf ex w h Y.K) (X : Y.K.In h) (G : h.Ns mainGlobals Y.mg) {st : Stmt} (i j : Nat) (hi : fn[i]? = some (ddG lamD st)) (hj : fa[j]? = some (.glo lamD)) (hl : (lamD, none) ∈ tf)
    (B : ∀ p ∈ csOf Y.K tf, LamX.TabB Y.base Y.mg p.1 p.2) {p : Addr} (t : PX.TabAt ⟨Y.w, Y.K, Y.mg, Y.base⟩ p) : p ∈ (csOf Y.K tf).map (·.2) := by
  obtain ⟨f, oc, od, fd, osl, c0, hm, lk, e, cd⟩ := t
  have e2 := lam_code c X G i j hi hj hm lk
  rw [e] at e2
  cases e2
  have q := (B _ (List.mem_map.mpr ⟨_, hl, rfl⟩)).code
  rw [codeHd_fun cd q]
  exact List.mem_map.mpr ⟨_, List.mem_map.mpr ⟨_, hl, rfl⟩, rfl⟩
theorem no_tab {mg : Str → Option Value} {base : Heap} (hm : mg lamD = none) {p : Addr} (t : PX.TabAt ⟨w, K, mg, base⟩ p) {P : Prop} : P := by
  obtain ⟨f, oc, od, fd, osl, c0, h1, _⟩ := t
  exact absurd (hm.symm.trans (show mg lamD = _ from h1)) (by simp)
end
/-- the goal behind a head by facts -/
theorem walkEndX {l : PySem.W.OpenLaw} {q : Program} {loose : List Str} {XP : (Str → Option Value) → Heap → Prop} {d : DefRec} {fa : List He.Fa} {fn : List He.DefD} {tf : List He.Defn} {ex : PySem.W.Frag → Bool} {n : Nat}
    (hn : l.most = some 63) (hdf : d.params.defaults = [])
    (F : ∀ (w : World) (mg : Str → Option Value) (f : Addr) (h : Heap) (K : PySem.W.Frag), K.In h → He.SaysX fa fn [] tf ex w h K → h.Ns mainGlobals mg → mg d.name = some (.ref f) → LawS l.prog w K mg f h) :
    PySem.W.WalkO q loose XP (He.hookX n fa fn [] tf ex).says l.row.toRowW d [] (fun f vs => PySem.call f vs) := by
  refine Att.attach_callB hn hdf fun w s₀ s₁ mg mb f o pm cd doc a vs ns G Y ho hd hcd hmg hobj hints hlen hbits hg => ?_
  obtain ⟨K, KX, c⟩ := Y
  exact law_callPL KX G.T.g G.T.b G.T.builtins G.T.nolimit hg G.T.bmain hobj hints hlen hbits (F w mg f _ K KX c G.T.g hmg)
/-- what a law's def keeps, by such facts -/
theorem lawS_of {P : Program} {w : World} {K : PySem.W.Frag} {mg : Str → Option Value} {f : Addr} {h : Heap} {fa : List He.Fa} {fn : List He.DefD} {tf : List He.Defn} {ex : PySem.W.Frag → Bool} {sem : Sem1} {fd : FuncData}
    (X : K.In h) (c : He.SaysX fa fn [] tf ex w h K) (hb : ∀ (s : Shared) (u : Value), BindsTo s fd ⟨[u], []⟩ [(lawA, u)])
    (hs : ∀ ns : List Int, ns.length ≤ 63 → (∀ z ∈ ns, Builtin.Int.intBits z ≤ 1048576) → ∃ st, sem [.scr ns] [] = some (.ok (.bl true), st))
    (F : ∀ base : Heap, K.In base → base.Ns mainGlobals mg → (∀ p ∈ csOf K tf, LamX.TabB base mg p.1 p.2) → RunC P w K mg base f fd sem ∧ ∀ p, PX.TabAt ⟨w, K, mg, base⟩ p → p ∈ (csOf K tf).map (·.2)) : LawS P w K mg f h := by
  have e : ∀ {p : Addr × Addr}, p ∈ csOf K tf → ∃ q ∈ tf, p = He.cT K q := fun hp => by
    obtain ⟨q, hq, rfl⟩ := List.mem_map.mp hp
    exact ⟨q, hq, rfl⟩
  refine ⟨fd, csOf K tf, sem, fun p hp => ?_, fun p hp => ?_, fun p hp => ?_, hb, hs, F⟩
  · obtain ⟨q, hq, rfl⟩ := e hp
    exact c.empty q hq
  · obtain ⟨q, hq, rfl⟩ := e hp
    exact c.out q hq
  · obtain ⟨q, hq, rfl⟩ := e hp
    exact PySem.W.codeHd_of_K X (c.hd q hq)
end PL
/-! what each def computes -/
namespace KM
open PySem PySem.Spec PyProof.Rows L2 PL
def m__law_deal : SM := sSeq (sAsg (mKnown (mLc (mIter (mSl (mVar 0) ((fun _ st => ok none st)) (mPart (mC (.int 63))))) (Tg.sem (.var 3)) ((fun _ st => ok true st)) (mBt absT (mCons (mBt intT (mCons (mVar 3) (mNil))) (mNil))) (([("_law_cell", 3)] : List (Str × Nat)).map (·.2)))) (gVar 2)) (sSeq (sAsg (mOp2 addT (mOp2 mulT (mC (.int 52363)) (mVar 1)) (mC (.int 977))) (gVar 4)) (sSeq (sFor (mIter (mVar 2)) (gVar 3) (sAsg (mOp2 modT (mBt intT (mCons (mOp2 addT (mOp2 addT (mOp2 mulT (mVar 4) (mC (.int 48271))) (mOp2 modT (mVar 3) (mC (.int 2147483563)))) (mC (.int 53))) (mNil))) (mC (.int 2147483647))) (gVar 4))) (sRet (mDeal (mRevN (mKnown (mLc (mIter (mVar 2)) (Tg.sem (.var 3)) (mBool (mOp2 geT (mVar 3) (mOp2 powT (mC (.int 10)) (mC (.int 18))))) (mVar 3) (([("_law_cell", 3)] : List (Str × Nat)).map (·.2))))) 4))))
def f__law_deal : Sem1 := evDef true 5 m__law_deal
def m__law_any : SM := sSeq (loopW (bAnd (mBool (mOp2 neT (mOp2 ixT (mVar 0) (mC (.int 0))) (mKnown (mLst (mNil))))) (mBool (mOp2 eqT (mOp2 ixT (mOp2 ixT (mVar 0) (mC (.int 0))) (mNeg (mC (.int 1)))) (mC (.int 0))))) (sExpr (mMut fPop (mOp2 ixT (mVar 0) (mC (.int 0))) mNil)) 100) (sSeq (sIf (mBool (mOp2 neT (mOp2 ixT (mVar 0) (mC (.int 0))) (mKnown (mLst (mNil))))) (sSeq (sAsg (mBt intT (mCons (mMut fPop (mOp2 ixT (mVar 0) (mC (.int 0))) mNil) (mNil))) (gVar 2)) (sSeq (sExpr (mMut fAppend (mOp2 ixT (mVar 0) (mC (.int 0))) (mCons (mOp2 fdivT (mVar 2) (mVar 1)) (mNil)))) (sRet (mOp2 modT (mVar 2) (mVar 1))))) (sSkip)) (sSeq (sAsg (mOp2 modT (mBt intT (mCons (mOp2 addT (mOp2 mulT (mOp2 ixT (mVar 0) (mC (.int 1))) (mC (.int 48271))) (mC (.int 79))) (mNil))) (mC (.int 2147483647))) (gSet (mVar 0) (mC (.int 1)))) (sRet (mOp2 modT (mBt intT (mCons (mOp2 fdivT (mOp2 ixT (mVar 0) (mC (.int 1))) (mC (.int 64))) (mNil))) (mVar 1)))))
def f__law_any : Sem1 := evDef false 3 m__law_any
def m__law_of : SM := sRet (mOp2 ixT (mVar 1) (mCall 2 f__law_any (mCons (mVar 0) (mCons (mBt lenT (mCons (mVar 1) (mNil))) (mNil)))))
def f__law_of : Sem1 := evDef false 2 m__law_of
def m__law_names : SM := sSeq (sAsg (mC (.str (Str.ofString "abcdefghijklmnopqrstuvwxyz"))) (gVar 2)) (sSeq (sPar (mCons (mCell (mLst (mNil))) (mCons (mCell (mBn listS (mCons (mVar 2) (mNil)))) mNil)) 3 4) (sSeq (loopW (mBool (mOp2 ltT (mBt lenT (mCons (mVar 3) (mNil))) (mVar 1))) (sExpr (mMut fAppend (mVar 3) (mCons (mMut fPopAt (mVar 4) (mCons (mCall 2 f__law_any (mCons (mVar 0) (mCons (mBt lenT (mCons (mVar 4) (mNil))) (mNil)))) (mNil))) (mNil)))) 100) (sSeq (sIf (mBool (mOp2 eqT (mCall 2 f__law_any (mCons (mVar 0) (mCons (mC (.int 2)) (mNil)))) (mC (.int 0)))) (sRet (mKnown (mBn sortedA (mCons (mVar 3) (mNil))))) (sSkip)) (sSeq (sAsg (mKnown (mLc (mRange1 (mCons (mOp2 addT (mC (.int 1)) (mCall 2 f__law_any (mCons (mVar 0) (mCons (mC (.int 7)) (mNil))))) (mNil))) (Tg.sem (.var 6)) ((fun _ st => ok true st)) (mCall 2 f__law_of (mCons (mVar 0) (mCons (mVar 2) (mNil)))) (([("_law_at", 6)] : List (Str × Nat)).map (·.2)))) (gVar 5)) (sSeq (sAsg (mCall 2 f__law_any (mCons (mVar 0) (mCons (mOp2 addT (mBt lenT (mCons (mVar 5) (mNil))) (mC (.int 1))) (mNil)))) (gVar 7)) (sRet (mKnown (mBn sortedA (mCons (mKnown (mLc (mIter (mFrz (mVar 3))) (Tg.sem (.var 8)) ((fun _ st => ok true st)) (mOp2 addT (mOp2 addT (mJoin (mC (.str (Str.ofString ""))) (mSl (mVar 5) ((fun _ st => ok none st)) (mPart (mVar 7)))) (mVar 8)) (mJoin (mC (.str (Str.ofString ""))) (mSl (mVar 5) (mPart (mVar 7)) ((fun _ st => ok none st))))) (([("_law_one", 8)] : List (Str × Nat)).map (·.2)))) (mNil))))))))))
def f__law_names : Sem1 := evDef false 9 m__law_names
def m__law_questions : SM := sSeq (sAsg (mCall 2 f__law_names (mCons (mVar 0) (mCons (mOp2 addT (mC (.int 1)) (mCall 2 f__law_any (mCons (mVar 0) (mCons (mVar 1) (mNil))))) (mNil)))) (gVar 2)) (sRet (mBt tupleT (mCons (mKnown (mLc (mIter (mVar 2)) (Tg.sem (.var 3)) ((fun _ st => ok true st)) (mTup (mCons (mVar 3) (mCons (mIte (mBool (mOp2 ltT (mBt lenT (mCons (mVar 2) (mNil))) (mC (.int 3)))) (mOp2 addT (mC (.int 2)) (mCall 2 f__law_any (mCons (mVar 0) (mCons (mC (.int 2)) (mNil))))) (mC (.int 2))) (mNil)))) (([("_law_name", 3)] : List (Str × Nat)).map (·.2)))) (mNil))))
def f__law_questions : Sem1 := evDef false 4 m__law_questions
def m_Form____init__ : SM := sFldSet ["Form"] "questions" (mVar 0) (mVar 1)
def f_Form____init__ : Sem1 := evDef false 2 m_Form____init__
def m__law_rows : SM := sSeq (sAsg (mKnown (mLst (mCons (mTup (mNil)) (mNil)))) (gVar 1)) (sSeq (sFor (mIter (mVar 0)) (gVar 2) (sSeq (sAsg (mKnown (mLst (mNil))) (gVar 3)) (sSeq (sFor (mIter (mVar 1)) (gVar 4) (sAsg (mOp2 addT (mVar 3) (mKnown (mLc (mRange1 (mCons (mVar 2) (mNil))) (Tg.sem (.var 5)) ((fun _ st => ok true st)) (mOp2 addT (mVar 4) (mTup (mCons (mVar 5) (mNil)))) (([("_law_number", 5)] : List (Str × Nat)).map (·.2))))) (gVar 3))) (sAsg (mVar 3) (gVar 1))))) (sRet (mVar 1)))
def f__law_rows : Sem1 := evDef false 6 m__law_rows
def m__law_truths : SM := sRet (mCall 1 f__law_rows (mCons (mKnown (mLc (mIter (mVar 0)) (Tg.sem (.tup [.var 1, .var 2])) ((fun _ st => ok true st)) (mVar 2) (([("_law_name", 1), ("_law_many", 2)] : List (Str × Nat)).map (·.2)))) (mNil)))
def f__law_truths : Sem1 := evDef false 3 m__law_truths
def m__law_some_truths : SM := sSeq (sAsg (mCall 1 f__law_truths (mCons (mVar 1) (mNil))) (gVar 2)) (sSeq (sIf (mBool (mOp2 eqT (mCall 2 f__law_any (mCons (mVar 0) (mCons (mC (.int 2)) (mNil)))) (mC (.int 0)))) (sRet (mVar 2)) (sSkip)) (sSeq (sAsg (mCall 2 f__law_any (mCons (mVar 0) (mCons (mBt lenT (mCons (mVar 2) (mNil))) (mNil)))) (gVar 3)) (sRet (mKnown (mLc (mRange1 (mCons (mBt lenT (mCons (mVar 2) (mNil))) (mNil))) (Tg.sem (.var 4)) (bOr (mBool (mOp2 eqT (mVar 4) (mVar 3))) (mBool (mOp2 gtT (mCall 2 f__law_any (mCons (mVar 0) (mCons (mC (.int 3)) (mNil)))) (mC (.int 0))))) (mOp2 ixT (mVar 2) (mVar 4)) (([("_law_at", 4)] : List (Str × Nat)).map (·.2)))))))
def f__law_some_truths : Sem1 := evDef false 5 m__law_some_truths
def m__law_sheet : SM := sRet (mBt tupleT (mCons (mKnown (mLc (mRange1 (mCons (mBt lenT (mCons (mVar 0) (mNil))) (mNil))) (Tg.sem (.var 3)) ((fun _ st => ok true st)) (mIte (mBool (mOp2 inA (mOp2 ixT (mOp2 ixT (mVar 0) (mVar 3)) (mC (.int 0))) (mVar 1))) (mNeg (mC (.int 1))) (mOp2 ixT (mVar 2) (mVar 3))) (([("_law_at", 3)] : List (Str × Nat)).map (·.2)))) (mNil)))
def f__law_sheet : Sem1 := evDef false 4 m__law_sheet
def m__law_came : SM := sSeq (sAsg (mKnown (mLst (mNil))) (gVar 3)) (sSeq (sFor (mIter (mVar 2)) (gVar 4) (sAsg (mOp2 addT (mVar 3) (mKnown (mLc (mIter (mVar 1)) (Tg.sem (.var 5)) (mBool (mOp2 neT (mVar 4) (mTup (mNil)))) (mCall 3 f__law_sheet (mCons (mVar 0) (mCons (mVar 4) (mCons (mVar 5) (mNil))))) (([("_law_truth", 5)] : List (Str × Nat)).map (·.2))))) (gVar 3))) (sRet (mKnown (mSortSet (mVar 3)))))
def f__law_came : Sem1 := evDef false 6 m__law_came
def m__law_within : SM := sSeq (sAsg (mKnown (mLst (mCons (mTup (mNil)) (mNil)))) (gVar 1)) (sSeq (sFor (mIter (mVar 0)) (gVar 2) (sAsg (mOp2 addT (mVar 1) (mKnown (mLc (mIter (mVar 1)) (Tg.sem (.var 3)) ((fun _ st => ok true st)) (mOp2 addT (mVar 3) (mTup (mCons (mVar 2) (mNil)))) (([("_law_one", 3)] : List (Str × Nat)).map (·.2))))) (gVar 1))) (sRet (mKnown (mBn sortedA (mCons (mVar 1) (mNil))))))
def f__law_within : Sem1 := evDef false 4 m__law_within
def m__law_lots : SM := sRet (mCall 1 f__law_within (mCons (mBt tupleT (mCons (mKnown (mLc (mIter (mVar 0)) (Tg.sem (.tup [.var 1, .var 2])) ((fun _ st => ok true st)) (mVar 1) (([("_law_name", 1), ("_law_many", 2)] : List (Str × Nat)).map (·.2)))) (mNil))) (mNil)))
def f__law_lots : Sem1 := evDef false 3 m__law_lots
def m__law_closed : SM := sSeq (sIf (mBool (mOp2 eqT (mCall 2 f__law_any (mCons (mVar 0) (mCons (mC (.int 2)) (mNil)))) (mC (.int 0)))) (sRet (mCall 1 f__law_lots (mCons (mVar 1) (mNil)))) (sSkip)) (sSeq (sAsg (mKnown (mLst (mCons (mTup (mNil)) (mNil)))) (gVar 2)) (sSeq (sFor (mRange1 (mCons (mCall 2 f__law_any (mCons (mVar 0) (mCons (mC (.int 4)) (mNil)))) (mNil))) (gVar 3) (sAsg (mOp2 addT (mVar 2) (mCall 1 f__law_within (mCons (mCall 2 f__law_of (mCons (mVar 0) (mCons (mCall 1 f__law_lots (mCons (mVar 1) (mNil))) (mNil)))) (mNil)))) (gVar 2))) (sRet (mKnown (mSortSet (mVar 2))))))
def f__law_closed : Sem1 := evDef false 4 m__law_closed
def m__law_every : SM := sRet (mKnown (mLc (mIter (mCall 1 f__law_rows (mCons (mKnown (mLc (mIter (mVar 0)) (Tg.sem (.tup [.var 3, .var 4])) ((fun _ st => ok true st)) (mOp2 addT (mVar 4) (mC (.int 1))) (([("_law_name", 3), ("_law_many", 4)] : List (Str × Nat)).map (·.2)))) (mNil)))) (Tg.sem (.var 1)) ((fun _ st => ok true st)) (mBt tupleT (mCons (mKnown (mLc (mIter (mVar 1)) (Tg.sem (.var 2)) ((fun _ st => ok true st)) (mOp2 subT (mVar 2) (mC (.int 1))) (([("_law_answer", 2)] : List (Str × Nat)).map (·.2)))) (mNil))) (([("_law_row", 1)] : List (Str × Nat)).map (·.2))))
def f__law_every : Sem1 := evDef false 5 m__law_every
def m__law_counts : SM := sSeq (sAsg (mCall 2 f__law_some_truths (mCons (mVar 0) (mCons (mVar 1) (mNil)))) (gVar 2)) (sSeq (sAsg (mKnown (mBn sortedA (mCons (mOp2 addT (mVar 2) (mCall 3 f__law_came (mCons (mVar 1) (mCons (mVar 2) (mCons (mCall 2 f__law_closed (mCons (mVar 0) (mCons (mVar 1) (mNil)))) (mNil)))))) (mNil)))) (gVar 3)) (sSeq (sIf (mBool (mOp2 eqT (mCall 2 f__law_any (mCons (mVar 0) (mCons (mC (.int 3)) (mNil)))) (mC (.int 0)))) (sAsg (mKnown (mLc (mIter (mCall 1 f__law_every (mCons (mVar 1) (mNil)))) (Tg.sem (.var 4)) (mBool (mOp2 eqT (mCall 2 f__law_any (mCons (mVar 0) (mCons (mC (.int 2)) (mNil)))) (mC (.int 0)))) (mVar 4) (([("_law_sheet_here", 4)] : List (Str × Nat)).map (·.2)))) (gVar 3)) (sSkip)) (sRet (mBt tupleT (mCons (mKnown (mLc (mIter (mVar 3)) (Tg.sem (.var 4)) ((fun _ st => ok true st)) (mTup (mCons (mVar 4) (mCons (mOp2 addT (mC (.int 1)) (mCall 2 f__law_any (mCons (mVar 0) (mCons (mC (.int 5)) (mNil))))) (mNil)))) (([("_law_sheet_here", 4)] : List (Str × Nat)).map (·.2)))) (mNil))))))
def f__law_counts : Sem1 := evDef false 5 m__law_counts
def m_more_blanks : SM := sSeq (sAsg (mKnown (mLst (mCons (mTup (mNil)) (mNil)))) (gVar 1)) (sSeq (sFor (mIter (mVar 0)) (gVar 2) (sAsg (mKnown (mLc2 (mIter (mVar 1)) (Tg.sem (.var 3)) ((fun _ st => ok true st)) (mIter (mIte (mBool (mOp2 eqT (mVar 2) (mC (.int (-1))))) (mTup (mCons (mC (.int (-1))) (mNil))) (mTup (mCons (mC (.int (-1))) (mCons (mVar 2) (mNil)))))) (Tg.sem (.var 4)) ((fun _ st => ok true st)) (mOp2 addT (mVar 3) (mTup (mCons (mVar 4) (mNil)))) (([("row", 3), ("one", 4)] : List (Str × Nat)).map (·.2)) [4])) (gVar 1))) (sRet (mBt tupleT (mCons (mVar 1) (mNil)))))
def f_more_blanks : Sem1 := evDef false 5 m_more_blanks
def m_by_blanks : SM := sRet (mKnown (mSortK (-1) (mVar 0)))
def f_by_blanks : Sem1 := evDef false 1 m_by_blanks
def m_listed : SM := sRet (mBt tupleT (mCons (mKnown (mLc (mIter (mKnown (mBn sortedA (mCons (mVar 0) (mNil))))) (Tg.sem (.var 1)) (bAnd (mBool (mOp2 inA (mC (.int (-1))) (mVar 1))) (mBool (mOp2 neT (mOp2 ixT (mVar 0) (mVar 1)) (mC (.tup [(.int 0), (.int 1)]))))) (mTup (mCons (mVar 1) (mCons (mOp2 ixT (mVar 0) (mVar 1)) (mNil)))) (([("sheet", 1)] : List (Str × Nat)).map (·.2)))) (mNil)))
def f_listed : Sem1 := evDef false 2 m_listed
def m__rows : SM := sSeq (sAsg (mKnown (mLst (mCons (mTup (mNil)) (mNil)))) (gVar 2)) (sSeq (sFor (mIter (mFld ["Form"] "questions" (mVar 0))) (gVar 3) (sAsg (mKnown (mLc2 (mIter (mVar 2)) (Tg.sem (.var 4)) ((fun _ st => ok true st)) (mRange2 (mCons (mVar 1) (mCons (mOp2 ixT (mVar 3) (mC (.int 1))) (mNil)))) (Tg.sem (.var 5)) ((fun _ st => ok true st)) (mOp2 addT (mVar 4) (mTup (mCons (mVar 5) (mNil)))) (([("row", 4), ("answer", 5)] : List (Str × Nat)).map (·.2)) [5])) (gVar 2))) (sRet (mBt tupleT (mCons (mVar 2) (mNil)))))
def f__rows : Sem1 := evDef false 6 m__rows
def m_all_sheets : SM := sRet (mCall 2 f__rows (mCons (mVar 0) (mCons (mNeg (mC (.int 1))) (mNil))))
def f_all_sheets : Sem1 := evDef false 1 m_all_sheets
def m_truths_behind : SM := sSeq (sAsg (mKnown (mLst (mCons (mTup (mNil)) (mNil)))) (gVar 2)) (sSeq (sFor (mZip (mCons (mFld ["Form"] "questions" (mVar 0)) (mCons (mVar 1) (mNil)))) (gTupT 2 (gsCons (gVar 3) (gsCons (gVar 4) (gsNil)))) (sSeq (sAsg (mIte (mBool (mOp2 eqT (mVar 4) (mNeg (mC (.int 1))))) (mKnown (mListRg (mRg1 (mOp2 ixT (mVar 3) (mC (.int 1)))))) (mKnown (mLst (mCons (mVar 4) (mNil))))) (gVar 5)) (sAsg (mKnown (mLc2 (mIter (mVar 2)) (Tg.sem (.var 6)) ((fun _ st => ok true st)) (mIter (mVar 5)) (Tg.sem (.var 7)) ((fun _ st => ok true st)) (mOp2 addT (mVar 6) (mTup (mCons (mVar 7) (mNil)))) (([("row", 6), ("one", 7)] : List (Str × Nat)).map (·.2)) [7])) (gVar 2)))) (sRet (mBt tupleT (mCons (mVar 2) (mNil)))))
def f_truths_behind : Sem1 := evDef false 8 m_truths_behind
def m_fraction : SM := sSeq (sIf (mBool (mOp2 eqT (mVar 1) (mC (.int 0)))) (sNo) (sSkip)) (sSeq (sIf (mBool (mOp2 ltT (mVar 1) (mC (.int 0)))) (sPar (mCons (mNeg (mVar 0)) (mCons (mNeg (mVar 1)) mNil)) 0 1) (sSkip)) (sSeq (sAsg (mBt gcdT (mCons (mVar 0) (mCons (mVar 1) (mNil)))) (gVar 2)) (sRet (mTup (mCons (mOp2 fdivT (mVar 0) (mVar 2)) (mCons (mOp2 fdivT (mVar 1) (mVar 2)) (mNil)))))))
def f_fraction : Sem1 := evDef false 3 m_fraction
def m_plus : SM := sRet (mCall 2 f_fraction (mCons (mOp2 addT (mOp2 mulT (mOp2 ixT (mVar 0) (mC (.int 0))) (mOp2 ixT (mVar 1) (mC (.int 1)))) (mOp2 mulT (mOp2 ixT (mVar 1) (mC (.int 0))) (mOp2 ixT (mVar 0) (mC (.int 1))))) (mCons (mOp2 mulT (mOp2 ixT (mVar 0) (mC (.int 1))) (mOp2 ixT (mVar 1) (mC (.int 1)))) (mNil))))
def f_plus : Sem1 := evDef false 2 m_plus
def m_total_of : SM := sSeq (sAsg (mC (.tup [(.int 0), (.int 1)])) (gVar 1)) (sSeq (sFor (mIter (mVar 0)) (gVar 2) (sAsg (mCall 2 f_plus (mCons (mVar 1) (mCons (mVar 2) (mNil)))) (gVar 1))) (sRet (mVar 1)))
def f_total_of : Sem1 := evDef false 3 m_total_of
def m_lot_of : SM := sRet (mBt tupleT (mCons (mKnown (mLc (mZip (mCons (mFld ["Form"] "questions" (mVar 0)) (mCons (mVar 1) (mNil)))) (Tg.sem (.tup [.var 2, .var 3])) (mBool (mOp2 eqT (mVar 3) (mNeg (mC (.int 1))))) (mOp2 ixT (mVar 2) (mC (.int 0))) (([("pair", 2), ("answer", 3)] : List (Str × Nat)).map (·.2)))) (mNil)))
def f_lot_of : Sem1 := evDef false 4 m_lot_of
def m_over : SM := sRet (mCall 2 f_fraction (mCons (mOp2 mulT (mOp2 ixT (mVar 0) (mC (.int 0))) (mOp2 ixT (mVar 1) (mC (.int 1)))) (mCons (mOp2 mulT (mOp2 ixT (mVar 0) (mC (.int 1))) (mOp2 ixT (mVar 1) (mC (.int 0)))) (mNil))))
def f_over : Sem1 := evDef false 2 m_over
def m_whole : SM := sRet (mTup (mCons (mVar 0) (mCons (mC (.int 1)) (mNil))))
def f_whole : Sem1 := evDef false 1 m_whole
def m_times : SM := sRet (mCall 2 f_fraction (mCons (mOp2 mulT (mOp2 ixT (mVar 0) (mC (.int 0))) (mOp2 ixT (mVar 1) (mC (.int 0)))) (mCons (mOp2 mulT (mOp2 ixT (mVar 0) (mC (.int 1))) (mOp2 ixT (mVar 1) (mC (.int 1)))) (mNil))))
def f_times : Sem1 := evDef false 2 m_times
def m_sheet_of : SM := sRet (mBt tupleT (mCons (mKnown (mLc (mZip (mCons (mFld ["Form"] "questions" (mVar 0)) (mCons (mVar 2) (mNil)))) (Tg.sem (.tup [.var 3, .var 4])) ((fun _ st => ok true st)) (mIte (mBool (mOp2 inA (mOp2 ixT (mVar 3) (mC (.int 0))) (mVar 1))) (mNeg (mC (.int 1))) (mVar 4)) (([("pair", 3), ("answer", 4)] : List (Str × Nat)).map (·.2)))) (mNil)))
def f_sheet_of : Sem1 := evDef false 5 m_sheet_of
def m_lots_within : SM := sSeq (sAsg (mKnown (mLst (mCons (mTup (mNil)) (mNil)))) (gVar 1)) (sSeq (sFor (mIter (mVar 0)) (gVar 2) (sAsg (mOp2 addT (mVar 1) (mKnown (mLc (mIter (mVar 1)) (Tg.sem (.var 3)) ((fun _ st => ok true st)) (mOp2 addT (mVar 3) (mTup (mCons (mVar 2) (mNil)))) (([("one", 3)] : List (Str × Nat)).map (·.2))))) (gVar 1))) (sRet (mBt tupleT (mCons (mKnown (mBn sortedA (mCons (mVar 1) (mNil)))) (mNil)))))
def f_lots_within : Sem1 := evDef false 4 m_lots_within
def m_blanked : SM := sRet (mKnown (mLc (mIter (mCall 1 f_lots_within (mCons (mVar 2) (mNil)))) (Tg.sem (.var 3)) (mBool (mOp2 neT (mVar 3) (mTup (mNil)))) (mCall 3 f_sheet_of (mCons (mVar 0) (mCons (mVar 3) (mCons (mVar 1) (mNil))))) (([("part", 3)] : List (Str × Nat)).map (·.2))))
def f_blanked : Sem1 := evDef false 4 m_blanked
def m_product_all : SM := sSeq (sAsg (mC (.tup [(.int 1), (.int 1)])) (gVar 1)) (sSeq (sFor (mIter (mVar 0)) (gVar 2) (sAsg (mCall 2 f_times (mCons (mVar 1) (mCons (mVar 2) (mNil)))) (gVar 1))) (sRet (mVar 1)))
def f_product_all : Sem1 := evDef false 3 m_product_all
def m_kept_weight : SM := sSeq (sIf (mBool (mOp2 ninA (mVar 3) (mVar 1))) (sRet (mC (.tup [(.int 0), (.int 1)]))) (sSkip)) (sSeq (sIf (mBool (mOp2 ninA (mC (.int (-1))) (mVar 3))) (sRet (mC (.tup [(.int 1), (.int 1)]))) (sSkip)) (sSeq (sPar (mCons (mCell (mLst (mNil))) (mCons (mCall 2 f_lot_of (mCons (mVar 0) (mCons (mVar 3) (mNil)))) mNil)) 4 5) (sSeq (sFor (mIter (mCall 2 f_truths_behind (mCons (mVar 0) (mCons (mVar 3) (mNil))))) (gVar 6) (sIf (mBool (mOp2 inA (mVar 6) (mVar 1))) (sSeq (sAsg (mKnown (mLc (mIter (mCall 3 f_blanked (mCons (mVar 0) (mCons (mVar 6) (mCons (mVar 5) (mNil)))))) (Tg.sem (.var 8)) (mBool (mOp2 neT (mVar 8) (mVar 3))) (mOp2 ixT (mVar 2) (mVar 8)) (([("one", 8)] : List (Str × Nat)).map (·.2)))) (gVar 7)) (sExpr (mMut fAppend (mVar 4) (mCons (mCall 2 f_times (mCons (mCall 1 f_whole (mCons (mOp2 ixT (mVar 1) (mVar 6)) (mNil))) (mCons (mCall 1 f_product_all (mCons (mVar 7) (mNil))) (mNil)))) (mNil))))) (sSkip))) (sSeq (sAsg (mCall 1 f_total_of (mCons (mFrz (mVar 4)) (mNil))) (gVar 9)) (sRet (mIte (mBool (mOp2 eqT (mVar 9) (mC (.tup [(.int 0), (.int 1)])))) (mC (.tup [(.int 0), (.int 1)])) (mCall 2 f_over (mCons (mCall 1 f_whole (mCons (mOp2 ixT (mVar 1) (mVar 3)) (mNil))) (mCons (mVar 9) (mNil))))))))))
def f_kept_weight : Sem1 := evDef false 10 m_kept_weight
def m_weights_by : SM := sSeq (sPar (mCons (mKnown (mDc (mIter (mVar 1)) (Tg.sem (.tup [.var 4, .var 5])) ((fun _ st => ok true st)) (mVar 4) (mVar 5) (([("sheet", 4), ("many", 5)] : List (Str × Nat)).map (·.2)))) (mCons (mCell ((fun _ st => ok (.dct [] []) st))) mNil)) 2 3) (sSeq (sFor (mIter (mCall 1 f_by_blanks (mCons (mCall 1 f_all_sheets (mCons (mVar 0) (mNil))) (mNil)))) (gVar 4) (sAsg (mCall 4 f_kept_weight (mCons (mVar 0) (mCons (mVar 2) (mCons (mVar 3) (mCons (mVar 4) (mNil)))))) (gSet (mVar 3) (mVar 4)))) (sRet (mCall 1 f_listed (mCons (mVar 3) (mNil)))))
def f_weights_by : Sem1 := evDef false 6 m_weights_by
def m__law_more : SM := sSeq (sAsg (mKnown (mLst (mCons (mTup (mNil)) (mNil)))) (gVar 1)) (sSeq (sFor (mIter (mVar 0)) (gVar 2) (sSeq (sAsg (mKnown (mLst (mNil))) (gVar 3)) (sSeq (sFor (mIter (mVar 1)) (gVar 4) (sAsg (mOp2 addT (mVar 3) (mKnown (mLc (mIter (mKnown (mSortSet (mKnown (mLst (mCons (mNeg (mC (.int 1))) (mCons (mVar 2) (mNil)))))))) (Tg.sem (.var 5)) ((fun _ st => ok true st)) (mOp2 addT (mVar 4) (mTup (mCons (mVar 5) (mNil)))) (([("_law_one", 5)] : List (Str × Nat)).map (·.2))))) (gVar 3))) (sAsg (mVar 3) (gVar 1))))) (sRet (mVar 1)))
def f__law_more : Sem1 := evDef false 6 m__law_more
end KM
/-! what is computed, read off -/
namespace PL
open PySem PySem.Spec PyProof.Rows L2

/-- it gives a value and a store such that -/
def Ev {α : Type} (r : Res α) (Q : α → Store → Prop) : Prop := ∃ a st, r = some (.ok a, st) ∧ Q a st
def SR.noex : SR → Prop
  | .ex _ _ => False
  | _ => True
/-- it ends without an error such that -/
def EvS (r : SO) (Q : SR → Store → Prop) : Prop := ∃ a st, r = some (a, st) ∧ a.noex ∧ Q a st
def EvG (r : Option (En × Store)) (Q : En → Store → Prop) : Prop := ∃ e st, r = some (e, st) ∧ Q e st
section
variable {α β : Type} {Q : α → Store → Prop} {st : Store} {env : En}
theorem Ev.mono {r : Res α} {Q' : α → Store → Prop} (h : Ev r Q) (i : ∀ a st, Q a st → Q' a st) : Ev r Q' := let ⟨a, st, e, q⟩ := h; ⟨a, st, e, i a st q⟩
theorem EvS.mono {r : SO} {Q Q' : SR → Store → Prop} (h : EvS r Q) (i : ∀ a st, Q a st → Q' a st) : EvS r Q' := let ⟨a, st, e, n, q⟩ := h; ⟨a, st, e, n, i a st q⟩
@[simp] theorem ev_ok {a : α} : Ev (ok a st) Q ↔ Q a st := ⟨fun ⟨b, s, e, q⟩ => by cases e; exact q, fun q => ⟨a, st, rfl, q⟩⟩
@[simp] theorem ev_some {a : α} : Ev (some (.ok a, st)) Q ↔ Q a st := ev_ok
@[simp] theorem ev_none : Ev (none : Res α) Q ↔ False := ⟨fun ⟨_, _, e, _⟩ => (by cases e), False.elim⟩
@[simp] theorem ev_ex {e : Exn} : Ev (some (.ex e, st) : Res α) Q ↔ False := ⟨fun ⟨_, _, e, _⟩ => (by cases e), False.elim⟩
@[simp] theorem ev_bnd {m : M β} {k : β → M α} : Ev (mBnd m k env st) Q ↔ Ev (m env st) fun a st1 => Ev (k a env st1) Q := by
  constructor
  · rintro ⟨a, s, e, q⟩
    unfold mBnd Res.bnd at e
    split at e
    · cases e
    · rename_i b s1 e1; exact ⟨b, s1, e1, a, s, e, q⟩
    · cases e
  · rintro ⟨b, s1, e1, a, s, e, q⟩
    exact ⟨a, s, by unfold mBnd; rw [e1]; exact e, q⟩
@[simp] theorem ev_rbnd {r : Res β} {k : β → Store → Res α} : Ev (r.bnd k) Q ↔ Ev r fun a st1 => Ev (k a st1) Q := by
  constructor
  · rintro ⟨a, s, e, q⟩
    cases r with
    | none => cases e
    | some r => obtain ⟨r, s1⟩ := r; cases r with
      | ok b => exact ⟨b, s1, rfl, a, s, e, q⟩
      | ex x => cases e
  · rintro ⟨b, s1, rfl, a, s, e, q⟩
    exact ⟨a, s, e, q⟩
@[simp] theorem ev_ofO {o : Option α} : Ev (Res.ofO o st) Q ↔ ∃ a, o = some a ∧ Q a st := by
  cases o <;> simp [Res.ofO]
theorem ev_ite {c : Prop} [Decidable c] {a b : Res α} : Ev (if c then a else b) Q ↔ if c then Ev a Q else Ev b Q := by split <;> rfl
@[simp] theorem ev_iteN {c : Prop} [Decidable c] {a : Res α} : Ev (if c then a else none) Q ↔ c ∧ Ev a Q := by by_cases h : c <;> simp [h]
theorem ev_eq {r : Res α} {x : α} {s : Store} : Ev r (fun a t => a = x ∧ t = s) ↔ r = some (.ok x, s) := by
  constructor
  · rintro ⟨a, t, e, rfl, rfl⟩; exact e
  · rintro rfl; exact ⟨_, _, rfl, rfl, rfl⟩
theorem Ev.of {r : Res α} {x : α} {s : Store} (e : r = some (.ok x, s)) (q : Q x s) : Ev r Q := by rw [e]; exact ev_some.mpr q
end
/-! what a thing is, and on -/
def isB (t : T) (P : Bool → Prop) : Prop := match t with | .bl c => P c | _ => False
def isI (t : T) (P : Int → Prop) : Prop := match t with | .int c => P c | _ => False
def isI1 (ts : List T) (P : Int → Prop) : Prop := match ts with | [.int c] => P c | _ => False
def isI2 (ts : List T) (P : Int → Int → Prop) : Prop := match ts with | [.int c, .int d] => P c d | _ => False
def is2 (ts : List T) (P : T → T → Prop) : Prop := match ts with | [c, d] => P c d | _ => False
def isZ (ts : List T) (P : List T → List T → Prop) : Prop := match ts with | [.lst xs, .lst ys] => P xs ys | [.tup xs, .tup ys] => P xs ys | _ => False
@[simp] theorem isB_bl {c : Bool} {P : Bool → Prop} : isB (.bl c) P ↔ P c := Iff.rfl
@[simp] theorem isI_int {c : Int} {P : Int → Prop} : isI (.int c) P ↔ P c := Iff.rfl
@[simp] theorem isI1_int {c : Int} {P : Int → Prop} : isI1 [.int c] P ↔ P c := Iff.rfl
@[simp] theorem isI2_int {c d : Int} {P : Int → Int → Prop} : isI2 [.int c, .int d] P ↔ P c d := Iff.rfl
@[simp] theorem is2_two {c d : T} {P : T → T → Prop} : is2 [c, d] P ↔ P c d := Iff.rfl
@[simp] theorem isZ_lst {c d : List T} {P : List T → List T → Prop} : isZ [.lst c, .lst d] P ↔ P c d := Iff.rfl
@[simp] theorem isZ_tup {c d : List T} {P : List T → List T → Prop} : isZ [.tup c, .tup d] P ↔ P c d := Iff.rfl
section
variable {Q : En → Store → Prop} {st : Store}
@[simp] theorem evG_some {e : En} : EvG (some (e, st)) Q ↔ Q e st := ⟨fun ⟨b, s, e, q⟩ => (by cases e; exact q), fun q => ⟨e, st, rfl, q⟩⟩
@[simp] theorem evG_none : EvG none Q ↔ False := ⟨fun ⟨_, _, e, _⟩ => (by cases e), False.elim⟩
end
section
variable {α : Type} {Q : SR → Store → Prop} {st : Store} {env : En}
@[simp] theorem evS_some {x : SR} : EvS (some (x, st)) Q ↔ x.noex ∧ Q x st := ⟨fun ⟨b, s, e, n, q⟩ => (by cases e; exact ⟨n, q⟩), fun ⟨n, q⟩ => ⟨x, st, rfl, n, q⟩⟩
@[simp] theorem noex_nx {e : En} : (SR.nx e).noex ↔ True := Iff.rfl
@[simp] theorem noex_rt {t : T} : (SR.rt t).noex ↔ True := Iff.rfl
@[simp] theorem noex_bk {e : En} : (SR.bk e).noex ↔ True := Iff.rfl
@[simp] theorem noex_ct {e : En} : (SR.ct e).noex ↔ True := Iff.rfl
@[simp] theorem noex_ex {x : Exn} {e : En} : (SR.ex x e).noex ↔ False := Iff.rfl
@[simp] theorem evS_none : EvS none Q ↔ False := ⟨fun ⟨_, _, e, _⟩ => (by cases e), False.elim⟩
/-- on from a block -/
def onN (n : SM) (Q : SR → Store → Prop) : SR → Store → Prop
  | .nx e, st => EvS (n e st) Q
  | x, st => Q x st
@[simp] theorem onN_nx {n : SM} {e : En} : onN n Q (.nx e) st ↔ EvS (n e st) Q := Iff.rfl
@[simp] theorem onN_rt {n : SM} {t : T} : onN n Q (.rt t) st ↔ Q (.rt t) st := Iff.rfl
@[simp] theorem onN_bk {n : SM} {e : En} : onN n Q (.bk e) st ↔ Q (.bk e) st := Iff.rfl
@[simp] theorem onN_ct {n : SM} {e : En} : onN n Q (.ct e) st ↔ Q (.ct e) st := Iff.rfl
@[simp] theorem evS_seq {m n : SM} : EvS (sSeq m n env st) Q ↔ EvS (m env st) (onN n Q) := by
  unfold sSeq
  cases h : m env st with
  | none => simp
  | some r =>
    obtain ⟨x, s⟩ := r
    cases x <;> simp
@[simp] theorem evS_skip : EvS (sSkip env st) Q ↔ Q (.nx env) st := by simp [sSkip]
@[simp] theorem evS_E {m : M α} {k : α → SM} : EvS (sE m k env st) Q ↔ Ev (m env st) fun a s => EvS (k a env s) Q := by
  unfold sE
  cases h : m env st with
  | none => simp
  | some r =>
    obtain ⟨x, s⟩ := r
    cases x <;> simp
@[simp] theorem evS_expr {m : M T} : EvS (sExpr m env st) Q ↔ Ev (m env st) fun _ s => Q (.nx env) s := by simp [sExpr]
@[simp] theorem evS_ret {m : M T} : EvS (sRet m env st) Q ↔ Ev (m env st) fun a s => Q (.rt a) s := by simp [sRet]
theorem evS_ite {c : Prop} [Decidable c] {a b : SM} {e : En} : EvS ((if c then a else b) e st) Q ↔ if c then EvS (a e st) Q else EvS (b e st) Q := by split <;> rfl
@[simp] theorem evS_if {n : M Bool} {a b : SM} : EvS (sIf n a b env st) Q ↔ Ev (n env st) fun c s => if c = true then EvS (a env s) Q else EvS (b env s) Q := by simp [sIf, evS_ite]
@[simp] theorem evS_asg {m : M T} {g : GM} : EvS (sAsg m g env st) Q ↔ Ev (m env st) fun a s => EvG (g a env s) fun e s => Q (.nx e) s := by
  have key : ∀ a s, EvS (match g a env s with | some (env', st') => some (.nx env', st') | none => none) Q ↔ EvG (g a env s) fun e s => Q (.nx e) s := fun a s => by
    cases h : g a env s with
    | none => simp
    | some r => obtain ⟨x, s⟩ := r; simp
  simp only [sAsg, evS_E]
  exact ⟨fun h => h.mono fun a s q => (key a s).mp q, fun h => h.mono fun a s q => (key a s).mpr q⟩
@[simp] theorem evS_par {ms : M (List T)} {i j : Nat} : EvS (sPar ms i j env st) Q ↔ Ev (ms env st) fun ts s => is2 ts fun a b => Q (.nx ((env.set i (some a)).set j (some b))) s := by
  simp only [sPar, evS_E]
  constructor
  · refine fun h => h.mono fun ts s q => ?_
    match ts with
    | [] => simp [gsCons] at q
    | [a] => simp [gsCons, gVar] at q
    | [a, b] => simpa [gsCons, gVar, gsNil] using q
    | a :: b :: c :: r => simp [gsCons, gVar, gsNil] at q
  · refine fun h => h.mono fun ts s q => ?_
    match ts with
    | [] => cases q
    | [a] => cases q
    | [a, b] => simpa [gsCons, gVar, gsNil] using q
    | a :: b :: c :: r => cases q
@[simp] theorem evS_for {m : M (List T)} {g : GM} {b : SM} : EvS (sFor m g b env st) Q ↔ Ev (m env st) fun ts s => EvS (loopF g b ts env s) Q := by simp [sFor]
@[simp] theorem evS_loop0 {g : GM} {b : SM} : EvS (loopF g b [] env st) Q ↔ Q (.nx env) st := by simp [loopF]
/-- behind a turn -/
def onT (k : En → Store → Prop) (Q : SR → Store → Prop) : SR → Store → Prop
  | .nx e, st => k e st
  | .ct e, st => k e st
  | .bk e, st => Q (.nx e) st
  | x, st => Q x st
@[simp] theorem onT_nx {k : En → Store → Prop} {e : En} : onT k Q (.nx e) st ↔ k e st := Iff.rfl
@[simp] theorem onT_ct {k : En → Store → Prop} {e : En} : onT k Q (.ct e) st ↔ k e st := Iff.rfl
@[simp] theorem onT_bk {k : En → Store → Prop} {e : En} : onT k Q (.bk e) st ↔ Q (.nx e) st := Iff.rfl
@[simp] theorem onT_rt {k : En → Store → Prop} {t : T} : onT k Q (.rt t) st ↔ Q (.rt t) st := Iff.rfl
theorem evS_loop1 {g : GM} {b : SM} {t : T} {ts : List T} : EvS (loopF g b (t :: ts) env st) Q ↔ EvG (g t env st) fun e s => EvS (b e s) (onT (fun e s => EvS (loopF g b ts e s) Q) Q) := by
  conv => lhs; unfold loopF
  cases h : g t env st with
  | none => simp
  | some r =>
    obtain ⟨e, s⟩ := r
    simp only [evG_some]
    cases h2 : b e s with
    | none => simp
    | some r =>
      obtain ⟨x, s2⟩ := r
      cases x <;> simp
/-- a loop by what stands ahead of each turn -/
theorem EvS.loopI {α : Type} (f : α → T) (I : List α → En → Store → Prop) {g : GM} {b : SM} {xs : List α} (h0 : I xs env st) (h1 : ∀ x xs env st, I (x :: xs) env st → EvG (g (f x) env st) fun e s => EvS (b e s) (onT (I xs) Q)) (h2 : ∀ env st, I [] env st → Q (.nx env) st) : EvS (loopF g b (xs.map f) env st) Q := by
  induction xs generalizing env st with
  | nil => simpa using h2 env st h0
  | cons x xs ih =>
    rw [List.map_cons, evS_loop1]
    obtain ⟨e, s, e1, x2, s2, e2, n, q⟩ := h1 x xs env st h0
    refine ⟨e, s, e1, x2, s2, e2, n, ?_⟩
    cases x2 with
    | nx e3 => exact ih q
    | ct e3 => exact ih q
    | _ => exact q
theorem evS_while1 {n : M Bool} {b : SM} {k : Nat} : EvS (loopW n b (k + 1) env st) Q ↔ Ev (n env st) fun c s => if c = true then EvS (b env s) (onT (fun e s => EvS (loopW n b k e s) Q) Q) else Q (.nx env) s := by
  conv => lhs; unfold loopW
  rw [evS_E]
  have key : ∀ (c : Bool) s, EvS ((if c = true then (fun env st =>
      match b env st with
      | some (.nx env2, st2) => loopW n b k env2 st2
      | some (.ct env2, st2) => loopW n b k env2 st2
      | some (.bk env2, st2) => some (.nx env2, st2)
      | r => r) else sSkip) env s) Q ↔ if c = true then EvS (b env s) (onT (fun e s => EvS (loopW n b k e s) Q) Q) else Q (.nx env) s := fun c s => by
    cases c with
    | false => simp
    | true =>
      simp only [if_true]
      cases h2 : b env s with
      | none => simp
      | some r =>
        obtain ⟨x, s2⟩ := r
        cases x <;> simp
  exact ⟨fun h => h.mono fun c s q => (key c s).mp q, fun h => h.mono fun c s q => (key c s).mpr q⟩
/-- a while by what stands ahead of each turn, and a measure -/
theorem EvS.whileI (I : Nat → En → Store → Prop) {c : M Bool} {b : SM} {k n : Nat} (h0 : I n env st) (hn : n < k) (h1 : ∀ n env st, I n env st → Ev (c env st) fun x s => if x = true then EvS (b env s) (onT (fun e s => ∃ m, m < n ∧ I m e s) Q) else Q (.nx env) s) : EvS (loopW c b k env st) Q := by
  induction k generalizing n env st with
  | zero => omega
  | succ k ih =>
    rw [evS_while1]
    refine (h1 n env st h0).mono fun x s q => ?_
    cases x with
    | false => simpa using q
    | true =>
      simp only [if_true] at q ⊢
      refine q.mono fun y s2 q => ?_
      cases y with
      | nx e => obtain ⟨m, hm, q⟩ := q; exact ih q (by omega)
      | ct e => obtain ⟨m, hm, q⟩ := q; exact ih q (by omega)
      | _ => exact q
/-- the end of a def -/
def onD (kp : Bool) (n : Nat) (Q : T → Store → Prop) : SR → Store → Prop
  | .rt t, s => Ev (finD kp n t s) Q
  | .nx _, s => Ev (finD kp n .non s) Q
  | _, _ => False
@[simp] theorem onD_rt {kp : Bool} {n : Nat} {Q : T → Store → Prop} {t : T} : onD kp n Q (.rt t) st ↔ Ev (finD kp n t st) Q := Iff.rfl
@[simp] theorem onD_nx {kp : Bool} {n : Nat} {Q : T → Store → Prop} {e : En} : onD kp n Q (.nx e) st ↔ Ev (finD kp n .non st) Q := Iff.rfl
theorem ev_def {kp : Bool} {n : Nat} {m : SM} {ts : List T} {Q : T → Store → Prop} : Ev (evDef kp n m ts st) Q ↔ EvS (m (ts.map some ++ List.replicate (n - ts.length) none) st) (onD kp st.length Q) := by
  unfold evDef
  cases h : m (ts.map some ++ List.replicate (n - ts.length) none) st with
  | none => simp
  | some r =>
    obtain ⟨x, s2⟩ := r
    cases x <;> simp [onD]
end
section
variable {Q : En → Store → Prop} {st : Store} {env : En} {t : T}
@[simp] theorem evG_var {i : Nat} : EvG (gVar i t env st) Q ↔ Q (env.set i (some t)) st := evG_some
theorem EvG.tup {n : Nat} {g : GMs} {ts : List T} (e : look st t = .tup ts) (h : ts.length = n) (q : EvG (g ts env st) Q) : EvG (gTupT n g t env st) Q := by
  unfold gTupT; rw [e]; simpa [h] using q
@[simp] theorem evG_nil : EvG (gsNil [] env st) Q ↔ Q env st := evG_some
@[simp] theorem evG_cons {g : GM} {h : GMs} {ts : List T} : EvG (gsCons g h (t :: ts) env st) Q ↔ EvG (g t env st) fun e s => EvG (h ts e s) Q := by
  unfold gsCons
  constructor
  · rintro ⟨e, s, e1, q⟩
    obtain ⟨⟨e2, s2⟩, h1, h2⟩ := Option.bind_eq_some_iff.mp e1
    exact ⟨e2, s2, h1, e, s, h2, q⟩
  · rintro ⟨e2, s2, h1, e, s, h2, q⟩
    exact ⟨e, s, by simp only [h1, Option.bind_some]; exact h2, q⟩
theorem EvG.set_ {mo mi : M T} (h : Ev (mo env st) fun a s => Ev (mi env s) fun b s2 => ∃ s3, putIt s2 a b t = some s3 ∧ Q env s3) : EvG (gSet mo mi t env st) Q := by
  obtain ⟨a, s, e1, b, s2, e2, s3, e3, q⟩ := h
  refine ⟨env, s3, ?_, q⟩
  unfold gSet
  simp only [e1, e2, e3, Option.map_some]
end
/-! ### expressions -/
section
variable {Q : T → Store → Prop} {Qs : List T → Store → Prop} {Qb : Bool → Store → Prop} {Qn : M0 → Store → Prop} {st : Store} {env : En}
theorem ev_var {i : Nat} {t : T} (h : env[i]? = some (some t)) : Ev (mVar i env st) Q ↔ Q (deref st t) st := by unfold mVar; rw [h]; simp
@[simp] theorem ev_var0 {t : T} {r : En} : Ev (mVar 0 (some t :: r) st) Q ↔ Q (deref st t) st := ev_var rfl
@[simp] theorem ev_varS {i : Nat} {x : Option T} {r : En} : Ev (mVar (i + 1) (x :: r) st) Q ↔ Ev (mVar i r st) Q := by simp [mVar]
@[simp] theorem ev_C {t : T} : Ev (mC t env st) Q ↔ Q t st := ev_ok
@[simp] theorem ev_nil : Ev (mNil env st) Qs ↔ Qs [] st := ev_ok
@[simp] theorem ev_cons {a : M T} {r : M (List T)} : Ev (mCons a r env st) Qs ↔ Ev (a env st) fun t s => Ev (r env s) fun ts s => Qs (t :: ts) s := by simp [mCons]
@[simp] theorem ev_tup {a : M (List T)} : Ev (mTup a env st) Q ↔ Ev (a env st) fun ts s => ts.length ≤ 1000000 ∧ Q (.tup ts) s := by simp [mTup]
@[simp] theorem ev_known {m : M M0} : Ev (mKnown m env st) Q ↔ Ev (m env st) fun x s => Q x.t s := by simp [mKnown]
@[simp] theorem ev_cell {m : M M0} : Ev (mCell m env st) Q ↔ Ev (m env st) fun x s => x.pure = true ∧ Q (.cell s.length) (s ++ [.one x]) := by simp [mCell]
@[simp] theorem ev_lst {a : M (List T)} : Ev (mLst a env st) Qn ↔ Ev (a env st) fun ts s => ts.length ≤ 1000000 ∧ Qn (.lst ts) s := by simp [mLst]
@[simp] theorem ev_op2 {o : Store → T → T → Option T} {a b : M T} : Ev (mOp2 o a b env st) Q ↔ Ev (a env st) fun x s => Ev (b env s) fun y s => ∃ t, o s x y = some t ∧ Q t s := by simp [mOp2]
@[simp] theorem ev_bool {m : M T} : Ev (mBool m env st) Qb ↔ Ev (m env st) fun t s => isB t fun c => Qb c s := by
  unfold mBool
  rw [ev_bnd]
  exact ⟨fun h => h.mono fun t s q => by cases t <;> simp [isB] at q ⊢; exact q, fun h => h.mono fun t s q => by cases t <;> simp [isB] at q ⊢; exact q⟩
@[simp] theorem ev_neg {a : M T} : Ev (mNeg a env st) Q ↔ Ev (a env st) fun t s => isI t fun i => Q (.int (-i)) s := by
  unfold mNeg
  rw [ev_bnd]
  exact ⟨fun h => h.mono fun t s q => by cases t <;> simp [isI] at q ⊢; exact q, fun h => h.mono fun t s q => by cases t <;> simp [isI] at q ⊢; exact q⟩
@[simp] theorem ev_and {m n : M Bool} : Ev (bAnd m n env st) Qb ↔ Ev (m env st) fun c s => if c = true then Ev (n env s) Qb else Qb false s := by
  unfold bAnd
  rw [ev_bnd]
  exact ⟨fun h => h.mono fun c s q => by cases c <;> simpa using q, fun h => h.mono fun c s q => by cases c <;> simpa using q⟩
@[simp] theorem ev_or {m n : M Bool} : Ev (bOr m n env st) Qb ↔ Ev (m env st) fun c s => if c = true then Qb true s else Ev (n env s) Qb := by
  unfold bOr
  rw [ev_bnd]
  exact ⟨fun h => h.mono fun c s q => by cases c <;> simpa using q, fun h => h.mono fun c s q => by cases c <;> simpa using q⟩
@[simp] theorem ev_not {m : M Bool} : Ev (bNot m env st) Qb ↔ Ev (m env st) fun c s => Qb (!c) s := by simp [bNot]
@[simp] theorem ev_mIte {n : M Bool} {a b : M T} : Ev (mIte n a b env st) Q ↔ Ev (n env st) fun c s => if c = true then Ev (a env s) Q else Ev (b env s) Q := by
  unfold mIte
  rw [ev_bnd]
  exact ⟨fun h => h.mono fun c s q => by cases c <;> simpa using q, fun h => h.mono fun c s q => by cases c <;> simpa using q⟩
@[simp] theorem ev_call {n : Nat} {sem : Sem1} {a : M (List T)} : Ev (mCall n sem a env st) Q ↔ Ev (a env st) fun ts s => ts.length = n ∧ Ev (sem ts s) Q := by simp [mCall]
@[simp] theorem ev_callK {np nk n : Nat} {is : List Nat} {sem : Sem1} {a b : M (List T)} : Ev (mCallK np nk n is sem a b env st) Q ↔ Ev (a env st) fun ts s => Ev (b env s) fun us s => (ts.length = np ∧ us.length = nk ∧ (pick is (ts ++ us)).length = n) ∧ Ev (sem (pick is (ts ++ us)) s) Q := by simp [mCallK]
@[simp] theorem ev_bt {sem : BS} {a : M (List T)} : Ev (mBt sem a env st) Q ↔ Ev (a env st) fun ts s => ∃ t, sem s ts = some t ∧ Q t s := by simp [mBt]
@[simp] theorem ev_bn {sem : BN} {a : M (List T)} : Ev (mBn sem a env st) Qn ↔ Ev (a env st) fun ts s => ∃ t, sem s ts = some t ∧ Qn t s := by simp [mBn]
@[simp] theorem ev_iter {m : M T} : Ev (mIter m env st) Qs ↔ Ev (m env st) fun t s => ∃ ts, itemsO t = some ts ∧ Qs ts s := by simp [mIter]
@[simp] theorem ev_range1 {m : M (List T)} : Ev (mRange1 m env st) Qs ↔ Ev (m env st) fun ts s => isI1 ts fun j => (-1000000000 ≤ j ∧ j < 1000000000) ∧ Qs (rangeT 0 j) s := by
  unfold mRange1
  rw [ev_bnd]
  constructor
  · refine fun h => h.mono fun ts s q => ?_
    split at q
    · rw [ev_iteN, ev_ok] at q; exact q
    · simp at q
  · refine fun h => h.mono fun ts s q => ?_
    unfold isI1 at q
    split at q
    · simp only [ev_iteN, ev_ok]; exact q
    · exact q.elim
@[simp] theorem ev_range2 {m : M (List T)} : Ev (mRange2 m env st) Qs ↔ Ev (m env st) fun ts s => isI2 ts fun i j => (-1000000000 ≤ i ∧ i < 1000000000 ∧ -1000000000 ≤ j ∧ j < 1000000000) ∧ Qs (rangeT i j) s := by
  unfold mRange2
  rw [ev_bnd]
  constructor
  · refine fun h => h.mono fun ts s q => ?_
    split at q
    · rw [ev_iteN, ev_ok] at q; exact q
    · simp at q
  · refine fun h => h.mono fun ts s q => ?_
    unfold isI2 at q
    split at q
    · simp only [ev_iteN, ev_ok]; exact q
    · exact q.elim
@[simp] theorem ev_zip {m : M (List T)} : Ev (mZip m env st) Qs ↔ Ev (m env st) fun ts s => isZ ts fun xs ys => Qs (zipT xs ys) s := by
  unfold mZip
  rw [ev_bnd]
  constructor
  · refine fun h => h.mono fun ts s q => ?_
    split at q
    · simpa using q
    · simpa using q
    · simp at q
  · refine fun h => h.mono fun ts s q => ?_
    unfold isZ at q
    split at q
    · simpa using q
    · simpa using q
    · exact q.elim
@[simp] theorem ev_rg1 {m : M T} {Qr : Int × Int → Store → Prop} : Ev (mRg1 m env st) Qr ↔ Ev (m env st) fun t s => isI t fun j => Qr (0, j) s := by
  unfold mRg1
  rw [ev_bnd]
  exact ⟨fun h => h.mono fun t s q => by cases t <;> simp [isI] at q ⊢; exact q, fun h => h.mono fun t s q => by cases t <;> simp [isI] at q ⊢; exact q⟩
@[simp] theorem ev_listRg {m : M (Int × Int)} : Ev (mListRg m env st) Qn ↔ Ev (m env st) fun ab s => (-1000000 ≤ ab.1 ∧ ab.1 ≤ 1000000 ∧ -1000000 ≤ ab.2 ∧ ab.2 ≤ 1000000) ∧ Qn (.lst (rangeT ab.1 ab.2)) s := by simp [mListRg]
@[simp] theorem ev_fld {cs : List String} {f : String} {m : M T} : Ev (mFld cs f m env st) Q ↔ Ev (m env st) fun t s => ∃ u, fldT cs f s t = some u ∧ Q u s := by simp [mFld]
@[simp] theorem ev_frz {m : M T} : Ev (mFrz m env st) Q ↔ Ev (m env st) fun t s => Q (frzT t s).1 (frzT t s).2 := by simp [mFrz]
@[simp] theorem ev_revN {m : M T} : Ev (mRevN m env st) Qn ↔ Ev (m env st) fun t s => ∃ u, revN s t = some u ∧ Qn u s := by simp [mRevN]
@[simp] theorem ev_sortSet {m : M T} : Ev (mSortSet m env st) Qn ↔ Ev (m env st) fun t s => ∃ u, sortSetO s t = some u ∧ Qn u s := by simp [mSortSet]
@[simp] theorem ev_sortK {b : Int} {m : M T} : Ev (mSortK b m env st) Qn ↔ Ev (m env st) fun t s => ∃ u, ((rowsOf s t).bind (sortK b)).map .lst = some u ∧ Qn u s := by simp [mSortK]
@[simp] theorem ev_finF {n : Nat} {t : T} : Ev (finD false n t st) Q ↔ t.pure = true ∧ Q t (st.take n) := by simp [finD]
@[simp] theorem ev_finT {n : Nat} {t : T} : Ev (finD true n t st) Q ↔ Q t st := by simp [finD]
end
/-! ### comprehensions -/
section
variable {Qn : M0 → Store → Prop} {st : Store} {env : En}
def EvA {α : Type} (r : Option (α × Store)) (Q : α → Store → Prop) : Prop := ∃ a s, r = some (a, s) ∧ Q a s
theorem EvA.mono {α : Type} {r : Option (α × Store)} {Q Q' : α → Store → Prop} (h : EvA r Q) (i : ∀ a st, Q a st → Q' a st) : EvA r Q' := let ⟨a, st, e, q⟩ := h; ⟨a, st, e, i a st q⟩
variable {Q : List T → Store → Prop}
@[simp] theorem evA_lc0 {g : GM} {n : M Bool} {me : M T} {acc : List T} : EvA (lcF g n me [] acc env st) Q ↔ Q acc st := ⟨fun ⟨b, s, e, q⟩ => by cases e; exact q, fun q => ⟨acc, st, rfl, q⟩⟩
theorem evA_lc1 {g : GM} {n : M Bool} {me : M T} {t : T} {ts acc : List T} (h : EvG (g t env st) fun e s => Ev (n e s) fun c s => if c = true then Ev (me e s) fun y s => acc.length < 1000000 ∧ EvA (lcF g n me ts (acc ++ [y]) env s) Q else EvA (lcF g n me ts acc env s) Q) : EvA (lcF g n me (t :: ts) acc env st) Q := by
  obtain ⟨e, s, e1, c, s2, e2, q⟩ := h
  unfold lcF lcTurn
  simp only [e1, e2]
  cases c with
  | false => simpa using q
  | true =>
    simp only [if_true] at q
    obtain ⟨y, s3, e3, l, q⟩ := q
    simp only [lcElt, e3, l, if_true]
    exact q
theorem ev_lc {mi : M (List T)} {g : GM} {n : M Bool} {me : M T} {vs : List Nat} : Ev (mLc mi g n me vs env st) Qn ↔ Ev (mi env st) fun items s => EvA (lcF g n me items [] (wipeE env vs) s) fun acc s => Qn (.lst acc) s := by
  unfold mLc
  rw [ev_bnd]
  constructor
  · refine fun h => h.mono fun items s q => ?_
    split at q
    · rename_i acc s2 e; exact ⟨acc, s2, e, ev_ok.mp q⟩
    · simp at q
  · refine fun h => h.mono fun items s ⟨acc, s2, e, q⟩ => ?_
    simp only [e, ev_ok]; exact q
/-- a comprehension whose parts change nothing -/
theorem lc_pure {g : GM} {n : M Bool} {me : M T} {α : Type} (f : α → T) (c : α → Bool) (y : α → T) (xs : List α) (acc : List T) (hl : acc.length + xs.length ≤ 1000000) (h : ∀ x ∈ xs, EvG (g (f x) env st) fun e s => Ev (n e s) fun b s => b = c x ∧ if c x = true then Ev (me e s) fun z s => z = y x ∧ s = st else s = st) :
    lcF g n me (xs.map f) acc env st = some (acc ++ (xs.filter c).map y, st) := by
  induction xs generalizing acc with
  | nil => simp [lcF]
  | cons x xs ih =>
    obtain ⟨e, s, e1, b, s2, e2, rfl, q⟩ := h x List.mem_cons_self
    simp only [List.length_cons] at hl
    rw [List.map_cons]
    unfold lcF lcTurn
    simp only [e1, e2]
    cases hc : c x with
    | false =>
      rw [hc] at q
      simp only [Bool.false_eq_true, if_false] at q
      subst q
      simp only []
      rw [ih acc (by omega) fun z hz => h z (List.mem_cons_of_mem _ hz)]
      simp [hc]
    | true =>
      rw [hc] at q
      simp only [if_true] at q
      obtain ⟨z, s3, e3, rfl, rfl⟩ := q
      simp only [lcElt, e3, show acc.length < 1000000 by omega, if_true]
      rw [ih (acc ++ [y x]) (by rw [List.length_append, List.length_singleton]; omega) fun z hz => h z (List.mem_cons_of_mem _ hz)]
      simp [hc]
theorem Ev.lcP {mi : M (List T)} {g : GM} {n : M Bool} {me : M T} {vs : List Nat} {α : Type} (f : α → T) (c : α → Bool) (y : α → T) (h : Ev (mi env st) fun items s => ∃ xs : List α, items = xs.map f ∧ xs.length ≤ 1000000 ∧ (∀ x ∈ xs, EvG (g (f x) (wipeE env vs) s) fun e s' => Ev (n e s') fun b s' => b = c x ∧ if c x = true then Ev (me e s') fun z s' => z = y x ∧ s' = s else s' = s) ∧ Qn (.lst ((xs.filter c).map y)) s) :
    Ev (mLc mi g n me vs env st) Qn := by
  rw [ev_lc]
  refine h.mono fun items s ⟨xs, e, hl, hx, q⟩ => ?_
  subst e
  exact ⟨_, _, lc_pure f c y xs [] (by simpa using hl) hx, by simpa using q⟩
/-- the same where every item is taken -/
theorem Ev.lcM {mi : M (List T)} {g : GM} {me : M T} {vs : List Nat} {α : Type} (f y : α → T) (h : Ev (mi env st) fun items s => ∃ xs : List α, items = xs.map f ∧ xs.length ≤ 1000000 ∧ (∀ x ∈ xs, EvG (g (f x) (wipeE env vs) s) fun e s' => Ev (me e s') fun z s' => z = y x ∧ s' = s) ∧ Qn (.lst (xs.map y)) s) :
    Ev (mLc mi g (fun _ st => ok true st) me vs env st) Qn := by
  refine Ev.lcP f (fun _ => true) y (h.mono fun items s ⟨xs, e, hl, hx, q⟩ => ⟨xs, e, hl, fun x m => ?_, by rw [List.filter_eq_self.mpr fun _ _ => rfl]; exact q⟩)
  obtain ⟨e, s', e1, q⟩ := hx x m
  exact ⟨e, s', e1, by simpa using q⟩
/-- two loops, where nothing changes and every item is taken -/
theorem lc2_pure {g g1 : GM} {mi1 : M (List T)} {me : M T} {vs1 : List Nat} {α β : Type} (f : α → T) (h : β → T) (ys : α → List β) (y : α → β → T) (xs : List α) (acc : List T) (hl : acc.length + (xs.flatMap ys).length ≤ 1000000)
    (hx : ∀ x ∈ xs, EvG (g (f x) env st) fun e s => s = st ∧ Ev (mi1 e st) fun items s => s = st ∧ items = (ys x).map h ∧ ∀ b ∈ ys x, EvG (g1 (h b) (wipeE e vs1) st) fun e2 s2 => Ev (me e2 s2) fun z s3 => z = y x b ∧ s3 = st) :
    lcF2 g (fun _ st => ok true st) (lcIn mi1 g1 (fun _ st => ok true st) me vs1) (xs.map f) acc env st = some (acc ++ xs.flatMap fun x => (ys x).map (y x), st) := by
  induction xs generalizing acc with
  | nil => simp [lcF2]
  | cons x xs ih =>
    obtain ⟨e, s, e1, rfl, items, s2, e2, rfl, e3, hb⟩ := hx x List.mem_cons_self
    simp only [List.flatMap_cons, List.length_append] at hl
    have key := lc_pure (g := g1) (n := fun _ st => ok true st) (me := me) (env := wipeE e vs1) (st := s2) h (fun _ => true) (y x) (ys x) acc (by omega) fun b m => by
      obtain ⟨e4, s4, e5, q⟩ := hb b m
      exact ⟨e4, s4, e5, by simpa using q⟩
    rw [List.map_cons]
    unfold lcF2 lcTurn
    simp only [e1, ok, lcIn, e2, e3]
    simp only [ok] at key
    rw [key]
    simp only []
    have ih2 := ih (acc ++ List.map (y x) (List.filter (fun x => true) (ys x))) (by rw [List.filter_eq_self.mpr fun _ _ => rfl]; simp only [List.length_append, List.length_map]; omega) fun z hz => hx z (List.mem_cons_of_mem _ hz)
    simp only [ok] at ih2
    rw [ih2, List.filter_eq_self.mpr fun _ _ => rfl]
    simp
theorem ev_lc2 {mi mi1 : M (List T)} {g g1 : GM} {n n1 : M Bool} {me : M T} {vs vs1 : List Nat} : Ev (mLc2 mi g n mi1 g1 n1 me vs vs1 env st) Qn ↔ Ev (mi env st) fun items s => EvA (lcF2 g n (lcIn mi1 g1 n1 me vs1) items [] (wipeE env vs) s) fun acc s => Qn (.lst acc) s := by
  unfold mLc2
  rw [ev_bnd]
  constructor
  · refine fun h => h.mono fun items s q => ?_
    split at q
    · rename_i acc s2 e; exact ⟨acc, s2, e, ev_ok.mp q⟩
    · simp at q
  · refine fun h => h.mono fun items s ⟨acc, s2, e, q⟩ => ?_
    simp only [e, ev_ok]; exact q
theorem Ev.lc2M {mi mi1 : M (List T)} {g g1 : GM} {me : M T} {vs vs1 : List Nat} {α β : Type} (f : α → T) (h : β → T) (ys : α → List β) (y : α → β → T) (hm : Ev (mi env st) fun items s => ∃ xs : List α, items = xs.map f ∧ (xs.flatMap ys).length ≤ 1000000 ∧
    (∀ x ∈ xs, EvG (g (f x) (wipeE env vs) s) fun e s' => s' = s ∧ Ev (mi1 e s) fun items s' => s' = s ∧ items = (ys x).map h ∧ ∀ b ∈ ys x, EvG (g1 (h b) (wipeE e vs1) s) fun e2 s2 => Ev (me e2 s2) fun z s3 => z = y x b ∧ s3 = s) ∧ Qn (.lst (xs.flatMap fun x => (ys x).map (y x))) s) :
    Ev (mLc2 mi g (fun _ st => ok true st) mi1 g1 (fun _ st => ok true st) me vs vs1 env st) Qn := by
  rw [ev_lc2]
  refine hm.mono fun items s ⟨xs, e, hl, hx, q⟩ => ?_
  subst e
  exact ⟨_, _, lc2_pure f h ys y xs [] (by simpa using hl) hx, by simpa using q⟩
/-- a comprehension by what stands ahead of each turn -/
theorem Ev.lcI {mi : M (List T)} {g : GM} {n : M Bool} {me : M T} {vs : List Nat} {α : Type} (f : α → T) (I : List α → List T → Store → Prop) (h : Ev (mi env st) fun items s => ∃ xs : List α, items = xs.map f ∧ I xs [] s ∧
    (∀ x xs acc s, I (x :: xs) acc s → EvG (g (f x) (wipeE env vs) s) fun e s => Ev (n e s) fun c s => if c = true then Ev (me e s) fun y s => acc.length < 1000000 ∧ I xs (acc ++ [y]) s else I xs acc s) ∧ ∀ acc s, I [] acc s → Qn (.lst acc) s) : Ev (mLc mi g n me vs env st) Qn := by
  rw [ev_lc]
  refine h.mono fun items s ⟨xs, e, h0, h1, h2⟩ => ?_
  subst e
  have key : ∀ (xs : List α) (acc : List T) (s : Store), I xs acc s → EvA (lcF g n me (xs.map f) acc (wipeE env vs) s) fun acc s => I [] acc s := by
    intro xs
    induction xs with
    | nil => intro acc s h; simpa using h
    | cons x xs ih =>
      intro acc s h
      rw [List.map_cons]
      refine evA_lc1 ?_
      obtain ⟨e, s1, e1, q⟩ := h1 x xs acc s h
      refine ⟨e, s1, e1, q.mono fun c s2 q => ?_⟩
      cases c with
      | false => simp only [Bool.false_eq_true, if_false] at q ⊢; exact ih acc s2 q
      | true => simp only [if_true] at q ⊢; exact q.mono fun y s3 q => ⟨q.1, ih _ s3 q.2⟩
  exact (key xs [] s h0).mono h2
end
end PL
/-! fractions -/
namespace KM
open PySem L2 PL
def frT (x : Int × Int) : T := .tup [.int x.1, .int x.2]
/-- top over bottom, shortened; the bottom above 0 -/
def fr (a b : Int) : Int × Int := (a / (Nat.gcd a.natAbs b.natAbs : Nat), b / (Nat.gcd a.natAbs b.natAbs : Nat))
def plusF (x y : Int × Int) : Int × Int := fr (x.1 * y.2 + y.1 * x.2) (x.2 * y.2)
def timesF (x y : Int × Int) : Int × Int := fr (x.1 * y.1) (x.2 * y.2)
def overF (x y : Int × Int) : Int × Int := fr (x.1 * y.2) (x.2 * y.1)
/-- a fraction of so many bits, not below 0 -/
structure FrOk (n : Nat) (x : Int × Int) : Prop where
  p : 0 ≤ x.1
  q : 0 < x.2
  l : x.1 < 2 ^ n
  m : x.2 < 2 ^ n
variable {st : Store}
@[simp] theorem deref_int {i : Int} : deref st (.int i) = .int i := rfl
@[simp] theorem deref_str {i : Str} : deref st (.str i) = .str i := rfl
@[simp] theorem deref_tup {i : List T} : deref st (.tup i) = .tup i := rfl
@[simp] theorem deref_lst {i : List T} : deref st (.lst i) = .lst i := rfl
@[simp] theorem deref_dct {i j : List T} : deref st (.dct i j) = .dct i j := rfl
@[simp] theorem deref_obj {i j k} : deref st (.obj i j k) = .obj i j k := rfl
@[simp] theorem deref_par {i : List T} : deref st (.par i) = .par i := rfl
@[simp] theorem look_int {i : Int} : look st (.int i) = .int i := rfl
@[simp] theorem look_str {i : Str} : look st (.str i) = .str i := rfl
@[simp] theorem look_tup {i : List T} : look st (.tup i) = .tup i := rfl
@[simp] theorem look_lst {i : List T} : look st (.lst i) = .lst i := rfl
@[simp] theorem look_dct {i j : List T} : look st (.dct i j) = .dct i j := rfl
@[simp] theorem look_par {i : List T} : look st (.par i) = .tup i := rfl
@[simp] theorem rclAt_tup {i : List T} {b : T} : rclAt st (.tup i) b = none := rfl
@[simp] theorem rclAt_lst {i : List T} {b : T} : rclAt st (.lst i) b = none := rfl
@[simp] theorem rclAt_dct {i j : List T} {b : T} : rclAt st (.dct i j) b = none := rfl
@[simp] theorem rclAt_par {i : List T} {b : T} : rclAt st (.par i) b = none := rfl
@[simp] theorem rclAt_str {i : Str} {b : T} : rclAt st (.str i) b = none := rfl
@[simp] theorem rclAt_fld {i j k : Nat} {b : T} : rclAt st (.fld i j k) b = none := rfl
@[simp] theorem eqO_int {i j : Int} : eqO st (.int i) (.int j) = some (decide (i = j)) := by by_cases h : i = j <;> simp [eqO, T.dat, T.eqv, T.data, PyData.eqv, h]
@[simp] theorem eqT_int {i j : Int} : eqT st (.int i) (.int j) = some (.bl (decide (i = j))) := by simp [eqT]
@[simp] theorem neT_int {i j : Int} : neT st (.int i) (.int j) = some (.bl (!decide (i = j))) := by simp [neT]
@[simp] theorem ltT_int {i j : Int} : ltT st (.int i) (.int j) = some (.bl (decide (i < j))) := by simp [ltT, T.dat, T.lt]
@[simp] theorem addT_int {i j : Int} : addT st (.int i) (.int j) = some (.int (i + j)) := rfl
@[simp] theorem subT_int {i j : Int} : subT st (.int i) (.int j) = some (.int (i - j)) := rfl
theorem mulT_int {i j : Int} (h : mulOk i j = true) : mulT st (.int i) (.int j) = some (.int (i * j)) := by simp [mulT, h]
theorem fdivT_int {i j : Int} (h : divOk j = true) : fdivT st (.int i) (.int j) = some (.int (i / j)) := by simp [fdivT, h]
@[simp] theorem modT_int {i j : Int} (h : 0 < j) : modT st (.int i) (.int j) = some (.int (i % j)) := by simp [modT, h]
@[simp] theorem T_pure_tup {xs : List T} : (T.tup xs).pure = T.pures xs := rfl
@[simp] theorem T_pure_lst {xs : List T} : (T.lst xs).pure = T.pures xs := rfl
@[simp] theorem T_pure_int {i : Int} : (T.int i).pure = true := rfl
@[simp] theorem T_pure_str {i : Str} : (T.str i).pure = true := rfl
@[simp] theorem T_pure_bl {i : Bool} : (T.bl i).pure = true := rfl
@[simp] theorem T_pures_nil : T.pures [] = true := rfl
@[simp] theorem T_pures_cons {x : T} {xs : List T} : T.pures (x :: xs) = (x.pure && T.pures xs) := rfl
@[simp] theorem frT_pure {x : Int × Int} : (frT x).pure = true := rfl
theorem gcd_div {b : Int} (a : Int) (hb : 0 < b) : 0 < ((Nat.gcd a.natAbs b.natAbs : Nat) : Int) ∧ ((Nat.gcd a.natAbs b.natAbs : Nat) : Int) ≤ b := by
  have h1 : 0 < Nat.gcd a.natAbs b.natAbs := Nat.gcd_pos_of_pos_right _ (by omega)
  have h2 := Nat.gcd_le_right a.natAbs (n := b.natAbs) (by omega)
  omega
theorem log2_lt {n k : Nat} (h : n < 2 ^ k) (hk : 0 < k) : n.log2 < k := by
  by_cases h0 : n = 0
  · subst h0; simpa using hk
  · exact (Nat.log2_lt h0).mpr h
theorem log2_lt' {i : Int} {k : Nat} (h0 : 0 ≤ i) (h : i < 2 ^ k) (hk : 0 < k) : i.natAbs.log2 < k := by
  refine log2_lt ?_ hk
  have : ((2 : Int) ^ k) = ((2 ^ k : Nat) : Int) := by simp
  omega
theorem divOk_of {j : Int} {k : Nat} (h0 : 0 < j) (h : j < 2 ^ k) (hk : k ≤ 9000) : divOk j = true := by
  have : 0 < k := by
    cases k with
    | zero => simp at h; omega
    | succ k => omega
  have := log2_lt' (by omega) h this
  simp only [divOk, Bool.and_eq_true, decide_eq_true_eq]
  omega
theorem mulOk_of {i j : Int} {n m : Nat} (hi : 0 ≤ i) (hj : 0 ≤ j) (h : i < 2 ^ n) (h' : j < 2 ^ m) (hn : 0 < n) (hm : 0 < m) (hk : n + m ≤ 100000) : mulOk i j = true := by
  have := log2_lt' hi h hn
  have := log2_lt' hj h' hm
  simp only [mulOk, decide_eq_true_eq]
  omega
theorem run_fraction {a b : Int} {k : Nat} (hb : 0 < b) (hs : b < 2 ^ k) (hk : k ≤ 9000) : f_fraction [.int a, .int b] st = some (.ok (frT (fr a b)), st) := by
  rw [← ev_eq]
  obtain ⟨g1, g2⟩ := gcd_div a hb
  have hd := divOk_of g1 (Int.lt_of_le_of_lt g2 hs) hk
  unfold f_fraction m_fraction
  rw [ev_def]
  simp [show b ≠ 0 by omega, show ¬ b < 0 by omega, gcdT, fdivT, hd, fr, frT, T.pure, T.pures]
theorem fr_ok {a b : Int} {n : Nat} (ha : 0 ≤ a) (hb : 0 < b) (h1 : a < 2 ^ n) (h2 : b < 2 ^ n) : FrOk n (fr a b) := by
  obtain ⟨g1, g2⟩ := gcd_div a hb
  have d : ((Nat.gcd a.natAbs b.natAbs : Nat) : Int) ∣ b := by
    have := Nat.gcd_dvd_right a.natAbs b.natAbs
    exact Int.ofNat_dvd_left.mpr this
  refine ⟨Int.ediv_nonneg ha (by omega), ?_, ?_, ?_⟩
  · exact Int.ediv_pos_of_pos_of_dvd hb (by omega) d
  · exact Int.lt_of_le_of_lt (Int.ediv_le_self _ ha) h1
  · exact Int.lt_of_le_of_lt (Int.ediv_le_self _ (by omega)) h2
theorem mul_lt {a b : Int} {n m : Nat} (ha : 0 ≤ a) (hb : 0 ≤ b) (h1 : a < 2 ^ n) (h2 : b < 2 ^ m) : a * b < 2 ^ (n + m) := by
  rw [Int.pow_add]
  have p : (0 : Int) < 2 ^ n := Int.pow_pos (by decide)
  exact Int.lt_of_le_of_lt (Int.mul_le_mul_of_nonneg_right (Int.le_of_lt h1) hb) (Int.mul_lt_mul_of_pos_left h2 p)
theorem FrOk.times {n m : Nat} {x y : Int × Int} (hx : FrOk n x) (hy : FrOk m y) : FrOk (n + m) (timesF x y) :=
  fr_ok (Int.mul_nonneg hx.p hy.p) (Int.mul_pos hx.q hy.q) (mul_lt hx.p hy.p hx.l hy.l) (mul_lt (by have := hx.q; omega) (by have := hy.q; omega) hx.m hy.m)
theorem FrOk.plus {n m : Nat} {x y : Int × Int} (hx : FrOk n x) (hy : FrOk m y) : FrOk (n + m + 1) (plusF x y) := by
  have hx2 := hx.q
  have hy2 := hy.q
  have a1 := mul_lt hx.p (by omega) hx.l hy.m
  have a2 := mul_lt hy.p (by omega) hy.l hx.m
  have a3 := mul_lt (by omega) (by omega) hx.m hy.m
  rw [Nat.add_comm m n] at a2
  have e : (2 : Int) ^ (n + m + 1) = 2 ^ (n + m) + 2 ^ (n + m) := by rw [Int.pow_succ]; omega
  refine fr_ok (Int.add_nonneg (Int.mul_nonneg hx.p (by omega)) (Int.mul_nonneg hy.p (by omega))) (Int.mul_pos hx.q hy.q) (by omega) ?_
  have : (0 : Int) < 2 ^ (n + m) := Int.pow_pos (by decide)
  omega
theorem FrOk.over {n m : Nat} {x y : Int × Int} (hx : FrOk n x) (hy : FrOk m y) (h : y.1 ≠ 0) : FrOk (n + m) (overF x y) := by
  have hx2 := hx.q
  have hy2 := hy.q
  have hy1 := hy.p
  exact fr_ok (Int.mul_nonneg hx.p (by omega)) (Int.mul_pos hx.q (by omega)) (mul_lt hx.p (by omega) hx.l hy.m) (mul_lt (by omega) (by omega) hx.m hy.l)
theorem FrOk.mono {n m : Nat} {x : Int × Int} (h : FrOk n x) (l : n ≤ m) : FrOk m x := by
  have : (2 : Int) ^ n ≤ 2 ^ m := by
    obtain ⟨k, rfl⟩ := Nat.exists_eq_add_of_le l
    induction k with
    | zero => simp
    | succ k ih =>
      have := ih (by omega)
      have e : (2 : Int) ^ (n + (k + 1)) = 2 ^ (n + k) + 2 ^ (n + k) := by rw [show n + (k + 1) = (n + k) + 1 by omega, Int.pow_succ]; omega
      have : (0 : Int) < 2 ^ (n + k) := Int.pow_pos (by decide)
      omega
  have := h.l
  have := h.m
  exact ⟨h.p, h.q, by omega, by omega⟩
theorem FrOk.pos {n : Nat} {x : Int × Int} (h : FrOk n x) : 0 < n := by
  cases n with
  | zero => have := h.q; have := h.m; simp at this; omega
  | succ n => omega
theorem ix0 {a b : T} : ixT st (.tup [a, b]) (.int 0) = some a := rfl
theorem ix1 {a b : T} : ixT st (.tup [a, b]) (.int 1) = some b := rfl
theorem run_times {n m : Nat} {x y : Int × Int} (hx : FrOk n x) (hy : FrOk m y) (hk : n + m ≤ 9000) : f_times [frT x, frT y] st = some (.ok (frT (timesF x y)), st) := by
  rw [← ev_eq]
  have hx2 := hx.q
  have hy2 := hy.q
  have m1 : mulOk x.1 y.1 = true := mulOk_of hx.p hy.p hx.l hy.l hx.pos hy.pos (by omega)
  have m2 : mulOk x.2 y.2 = true := mulOk_of (by omega) (by omega) hx.m hy.m hx.pos hy.pos (by omega)
  unfold f_times m_times
  rw [ev_def]
  simp only [frT]
  simp [ix0, ix1, mulT, m1, m2]
  exact .of (run_fraction (Int.mul_pos hx.q hy.q) (mul_lt (by omega) (by omega) hx.m hy.m) hk) (by simp [timesF, frT])
theorem run_plus {n m : Nat} {x y : Int × Int} (hx : FrOk n x) (hy : FrOk m y) (hk : n + m ≤ 9000) : f_plus [frT x, frT y] st = some (.ok (frT (plusF x y)), st) := by
  rw [← ev_eq]
  have hx2 := hx.q
  have hy2 := hy.q
  have m1 : mulOk x.1 y.2 = true := mulOk_of hx.p (by omega) hx.l hy.m hx.pos hy.pos (by omega)
  have m3 : mulOk y.1 x.2 = true := mulOk_of hy.p (by omega) hy.l hx.m hy.pos hx.pos (by omega)
  have m2 : mulOk x.2 y.2 = true := mulOk_of (by omega) (by omega) hx.m hy.m hx.pos hy.pos (by omega)
  unfold f_plus m_plus
  rw [ev_def]
  simp only [frT]
  simp [ix0, ix1, mulT, m1, m2, m3]
  exact .of (run_fraction (Int.mul_pos hx.q hy.q) (mul_lt (by omega) (by omega) hx.m hy.m) hk) (by simp [plusF, frT])
theorem run_over {n m : Nat} {x y : Int × Int} (hx : FrOk n x) (hy : FrOk m y) (h : y.1 ≠ 0) (hk : n + m ≤ 9000) : f_over [frT x, frT y] st = some (.ok (frT (overF x y)), st) := by
  rw [← ev_eq]
  have hx2 := hx.q
  have hy2 := hy.q
  have hy1 := hy.p
  have m1 : mulOk x.1 y.2 = true := mulOk_of hx.p (by omega) hx.l hy.m hx.pos hy.pos (by omega)
  have m2 : mulOk x.2 y.1 = true := mulOk_of (by omega) (by omega) hx.m hy.l hx.pos hy.pos (by omega)
  unfold f_over m_over
  rw [ev_def]
  simp only [frT]
  simp [ix0, ix1, mulT, m1, m2]
  exact .of (run_fraction (Int.mul_pos hx.q (by omega)) (mul_lt (by omega) (by omega) hx.m hy.l) hk) (by simp [overF, frT])
theorem run_whole {i : Int} : f_whole [.int i] st = some (.ok (frT (i, 1)), st) := by
  rw [← ev_eq]
  unfold f_whole m_whole
  rw [ev_def]
  simp [frT]
end KM
/-! rows -/
namespace KM
open PySem L2 PL
variable {st : Store}
abbrev Row := List Int
def rowT (r : Row) : T := .tup (r.map .int)
abbrev Qs := List (Str × Int)
def qT (q : Str × Int) : T := .tup [.str q.1, .int q.2]
def qsT (qs : Qs) : T := .tup (qs.map qT)
def formT (qs : Qs) : T := .obj "Form" ["questions"] [qsT qs]
def rangeI (lo hi : Int) : List Int := (List.range (hi - lo).toNat).map fun i => lo + (i : Nat)
theorem rangeT_eq (lo hi : Int) : rangeT lo hi = (rangeI lo hi).map T.int := by simp [rangeT, rangeI]
@[simp] theorem length_rangeI {lo hi : Int} : (rangeI lo hi).length = (hi - lo).toNat := by simp [rangeI]
theorem mem_rangeI {lo hi i : Int} : i ∈ rangeI lo hi ↔ lo ≤ i ∧ i < hi := by
  simp only [rangeI, List.mem_map, List.mem_range]
  constructor
  · rintro ⟨k, hk, rfl⟩; omega
  · intro h; exact ⟨(i - lo).toNat, by omega, by omega⟩
/-- longer by one of the answers -/
def grow (least : Int) (found : List Row) (q : Str × Int) : List Row := found.flatMap fun r => (rangeI least q.2).map fun a => r ++ [a]
def rowsF (least : Int) (qs : Qs) (found : List Row) : List Row := qs.foldl (grow least) found
def allRows (least : Int) (qs : Qs) : List Row := rowsF least qs [[]]
@[simp] theorem itemsO_tup {xs : List T} : itemsO (.tup xs) = some xs := rfl
@[simp] theorem itemsO_lst {xs : List T} : itemsO (.lst xs) = some xs := rfl
@[simp] theorem addT_tup {x y : List T} : addT st (.tup x) (.tup y) = if x.length + y.length ≤ 1000000 then some (.tup (x ++ y)) else none := rfl
@[simp] theorem addT_lst {x y : List T} : addT st (.lst x) (.lst y) = if x.length + y.length ≤ 1000000 then some (.lst (x ++ y)) else none := rfl
@[simp] theorem fldT_form {qs : Qs} : fldT ["Form"] "questions" st (formT qs) = some (qsT qs) := rfl
@[simp] theorem M0t_lst {xs : List T} : (M0.lst xs).t = .lst xs := rfl
@[simp] theorem M0p_lst {xs : List T} : (M0.lst xs).pure = T.pures xs := rfl
@[simp] theorem deref_form {qs : Qs} : deref st (formT qs) = formT qs := rfl
@[simp] theorem deref_row {r : Row} : deref st (rowT r) = rowT r := rfl
@[simp] theorem deref_qs {r : Qs} : deref st (qsT r) = qsT r := rfl
@[simp] theorem deref_q {r : Str × Int} : deref st (qT r) = qT r := rfl
@[simp] theorem deref_fr {r : Int × Int} : deref st (frT r) = frT r := rfl
theorem pures_map {α : Type} {f : α → T} {xs : List α} (h : ∀ x ∈ xs, (f x).pure = true) : T.pures (xs.map f) = true := by
  induction xs with
  | nil => rfl
  | cons x xs ih => simp [h x List.mem_cons_self, ih fun z m => h z (List.mem_cons_of_mem _ m)]
theorem pures_int {xs : List Int} : T.pures (xs.map T.int) = true := pures_map fun _ _ => rfl
theorem pures_str {xs : List Str} : T.pures (xs.map T.str) = true := pures_map fun _ _ => rfl
@[simp] theorem rowT_pure {r : Row} : (rowT r).pure = true := pures_int
@[simp] theorem rows_pure {r : List Row} : T.pures (r.map rowT) = true := pures_map fun _ _ => rowT_pure
theorem grow_len {least : Int} {found : List Row} {q : Str × Int} : (grow least found q).length = found.length * (q.2 - least).toNat := by
  unfold grow
  induction found with
  | nil => simp
  | cons r rs ih => simp [List.flatMap_cons, ih, Nat.add_mul, Nat.add_comm]
theorem rows_loop (least : Int) (b : SM) (hb : b = sAsg (mKnown (mLc2 (mIter (mVar 2)) (Tg.sem (.var 4)) ((fun _ st => ok true st)) (mRange2 (mCons (mVar 1) (mCons (mOp2 ixT (mVar 3) (mC (.int 1))) (mNil)))) (Tg.sem (.var 5)) ((fun _ st => ok true st)) (mOp2 addT (mVar 4) (mTup (mCons (mVar 5) (mNil)))) (([("row", 4), ("answer", 5)] : List (Str × Nat)).map (·.2)) [5])) (gVar 2))
    (hl : -10 ≤ least ∧ least ≤ 10) (t : T) (Q : SR → Store → Prop) : ∀ (qs : Qs) (found : List Row) (j3 j4 j5 : Option T), (∀ q ∈ qs, -10 ≤ q.2 ∧ q.2 ≤ 10) → found.length * 20 ^ qs.length ≤ 1000000 → (∀ r ∈ found, r.length + qs.length ≤ 1000) →
    (∀ j3 j4 j5, Q (.nx [some t, some (.int least), some (.lst ((rowsF least qs found).map rowT)), j3, j4, j5]) st) → EvS (loopF (gVar 3) b (qs.map qT) [some t, some (.int least), some (.lst (found.map rowT)), j3, j4, j5] st) Q
  | [], found, j3, j4, j5, _, _, _, h => by simpa [rowsF] using h j3 j4 j5
  | q :: qs, found, j3, j4, j5, h1, h2, h3, h => by
    rw [List.map_cons, evS_loop1]
    have hq := h1 q List.mem_cons_self
    have g1 := grow_len (least := least) (found := found) (q := q)
    have p1 : found.length * (q.2 - least).toNat ≤ found.length * 20 := Nat.mul_le_mul_left _ (by omega)
    have p2 : 1 ≤ 20 ^ qs.length := Nat.one_le_pow _ _ (by decide)
    rw [List.length_cons, Nat.pow_succ] at h2
    have p3 : found.length * 20 ≤ found.length * (20 ^ qs.length * 20) := Nat.mul_le_mul_left _ (by omega)
    subst hb
    simp only [evG_var, evS_asg, ev_known]
    refine Ev.lc2M (α := Row) (β := Int) rowT T.int (fun _ => rangeI least q.2) (fun r a => rowT (r ++ [a])) ?_
    simp
    refine ⟨found, rfl, ?_, ?_, ?_⟩
    · have := g1; unfold grow at this
      simp only [List.length_flatMap, List.length_map, length_rangeI] at this ⊢
      omega
    · intro r hr
      have := h3 r hr
      simp only [List.length_cons] at this
      simp [wipeE, Tg.sem, qT, ix1]
      refine ⟨by omega, rangeT_eq _ _, fun a ha => ?_⟩
      simp [rowT]
      omega
    · have := rows_loop least _ rfl hl t Q qs (grow least found q) (some (qT q)) j4 j5 (fun z m => h1 z (List.mem_cons_of_mem _ m)) (by rw [g1]; calc _ ≤ found.length * 20 * 20 ^ qs.length := Nat.mul_le_mul_right _ p1
          _ = found.length * (20 ^ qs.length * 20) := by rw [Nat.mul_assoc, Nat.mul_comm 20]
          _ ≤ _ := h2) (fun r hr => by
          unfold grow at hr
          simp only [List.mem_flatMap, List.mem_map] at hr
          obtain ⟨r0, m0, a, _, rfl⟩ := hr
          have := h3 r0 m0
          simp only [List.length_cons] at this
          simp; omega) (fun j3 j4 j5 => h j3 j4 j5)
      have e : (List.map (fun (r : Row) => List.map (fun a => rowT (r ++ [a])) (rangeI least q.2)) found).flatten = (grow least found q).map rowT := by
        simp [grow, List.flatMap, List.map_flatten, Function.comp_def]
      simpa [← e, List.flatMap] using this
theorem run_rows {qs : Qs} {least : Int} (hl : -10 ≤ least ∧ least ≤ 10) (h1 : ∀ q ∈ qs, -10 ≤ q.2 ∧ q.2 ≤ 10) (h2 : qs.length ≤ 4) : f__rows [formT qs, .int least] st = some (.ok (.tup ((allRows least qs).map rowT)), st) := by
  rw [← ev_eq]
  unfold f__rows m__rows
  rw [ev_def]
  simp
  have h3 : [([] : Row)].length * 20 ^ qs.length ≤ 1000000 := by
    have : 20 ^ qs.length ≤ 20 ^ 4 := Nat.pow_le_pow_right (by decide) h2
    simp; omega
  have := rows_loop (st := st) least _ rfl hl (formT qs)
  refine ⟨qs.map qT, rfl, ?_⟩
  refine this _ qs [[]] none none none h1 h3 (by simp; omega) fun j3 j4 j5 => ?_
  simp [tupleT, seqO, allRows]
end KM
/-! sheets, lots -/
namespace KM
open PySem L2 PL
variable {st : Store}
def NmOk (n : Str) : Prop := PyData.strOk n = true
abbrev Lot := List Str
def lotT (l : Lot) : T := .tup (l.map .str)
@[simp] theorem deref_lot {r : Lot} : deref st (lotT r) = lotT r := rfl
@[simp] theorem lotT_pure {r : Lot} : (lotT r).pure = true := pures_str
@[simp] theorem lots_pure {r : List Lot} : T.pures (r.map lotT) = true := pures_map fun _ _ => lotT_pure
theorem dats_str {n : Nat} {l : Lot} (h : ∀ x ∈ l, NmOk x) : T.dats n (l.map .str) = true := by
  induction l with
  | nil => rfl
  | cons x xs ih => simp only [List.map_cons, T.dats, T.dat, Bool.and_eq_true]; exact ⟨h x List.mem_cons_self, ih fun z m => h z (List.mem_cons_of_mem _ m)⟩
theorem dats_int {n : Nat} {l : Row} : T.dats n (l.map .int) = true := by
  induction l with
  | nil => rfl
  | cons x xs ih => simp only [List.map_cons, T.dats, T.dat, Bool.true_and]; exact ih
theorem dats_map {α : Type} {n : Nat} {f : α → T} {l : List α} (h : ∀ x ∈ l, (f x).dat n = true) : T.dats n (l.map f) = true := by
  induction l with
  | nil => rfl
  | cons x xs ih => simp only [List.map_cons, T.dats, Bool.and_eq_true]; exact ⟨h x List.mem_cons_self, ih fun z m => h z (List.mem_cons_of_mem _ m)⟩
theorem dat_lot {n : Nat} {l : Lot} (h : ∀ x ∈ l, NmOk x) : (lotT l).dat (n + 1) = true := dats_str h
theorem dat_row {n : Nat} {l : Row} : (rowT l).dat (n + 1) = true := dats_int
theorem keys_int {n : Nat} {l : Row} : T.keys n (l.map .int) = true := by
  induction l with
  | nil => cases n <;> rfl
  | cons x xs ih => cases n <;> simp only [List.map_cons, T.keys, T.key, Bool.true_and] <;> exact ih
theorem keys_str {n : Nat} {l : Lot} (h : ∀ x ∈ l, NmOk x) : T.keys n (l.map .str) = true := by
  induction l with
  | nil => cases n <;> rfl
  | cons x xs ih => cases n <;> simp only [List.map_cons, T.keys, T.key, Bool.and_eq_true] <;> exact ⟨h x List.mem_cons_self, ih fun z m => h z (List.mem_cons_of_mem _ m)⟩
theorem key_row {l : Row} : (rowT l).key 7 = true := keys_int
theorem key_lot {l : Lot} (h : ∀ x ∈ l, NmOk x) : (lotT l).key 7 = true := keys_str h
@[simp] theorem dkey_row {l : Row} : (rowT l).dkey = true := by simp [T.dkey, rowT, T.isTup]; exact key_row
theorem map_inj {α β : Type} {f : α → β} (h : ∀ a b, f a = f b → a = b) {l m : List α} (e : l.map f = m.map f) : l = m := (List.map_inj_right h).mp e
theorem rowT_inj {a b : Row} (h : rowT a = rowT b) : a = b := by
  unfold rowT at h
  injection h with h
  exact map_inj (fun a b e => by injection e) h
theorem lotT_inj {a b : Lot} (h : lotT a = lotT b) : a = b := by
  unfold lotT at h
  injection h with h
  exact map_inj (fun a b e => by injection e) h
@[simp] theorem eqv_row {a b : Row} : T.eqv (rowT a) (rowT b) = decide (a = b) := by
  rw [eqv_dec key_row key_row]
  by_cases h : a = b
  · simp [h]
  · simp [h]; exact fun e => h (rowT_inj e)
theorem eqv_lot {a b : Lot} (ha : ∀ x ∈ a, NmOk x) (hb : ∀ x ∈ b, NmOk x) : T.eqv (lotT a) (lotT b) = decide (a = b) := by
  rw [eqv_dec (key_lot ha) (key_lot hb)]
  by_cases h : a = b
  · simp [h]
  · simp [h]; exact fun e => h (lotT_inj e)
theorem eqv_str {a b : Str} (ha : NmOk a) (hb : NmOk b) : T.eqv (.str a) (.str b) = decide (a = b) := by
  rw [eqv_dec (show (T.str a).key 7 = true from ha) (show (T.str b).key 7 = true from hb)]
  by_cases h : a = b
  · simp [h]
  · simp [h]
@[simp] theorem eqv_int {a b : Int} : T.eqv (.int a) (.int b) = decide (a = b) := by
  rw [eqv_dec (show (T.int a).key 7 = true from rfl) (show (T.int b).key 7 = true from rfl)]
  by_cases h : a = b
  · simp [h]
  · simp [h]
theorem inA_lot {l : Lot} {x : Str} (h : ∀ x ∈ l, NmOk x) (hx : NmOk x) : inA st (.str x) (lotT l) = some (.bl (decide (x ∈ l))) := by
  have e : (l.map T.str).any (fun y => T.eqv y (.str x)) = decide (x ∈ l) := by
    induction l with
    | nil => simp
    | cons y ys ih =>
      rw [List.map_cons, List.any_cons, eqv_str (h y List.mem_cons_self) hx, ih fun z m => h z (List.mem_cons_of_mem _ m)]
      by_cases e : y = x
      · simp [e]
      · simp [e, Ne.symm e]
  have d1 : (T.str x).dat 60 = true := hx
  have d2 : (T.tup (l.map T.str)).dat 60 = true := dats_str h
  simp [inA, inO2, inO, lotT, d1, d2]
  rw [← e]
  simp
theorem any_int {l : Row} {x : Int} : (l.map T.int).any (fun y => T.eqv y (.int x)) = decide (x ∈ l) := by
  induction l with
  | nil => simp
  | cons y ys ih =>
    rw [List.map_cons, List.any_cons, eqv_int, ih]
    by_cases e : y = x
    · simp [e]
    · simp [e, Ne.symm e]
theorem inO_row {l : Row} {x : Int} : inO2 st (.int x) (rowT l) = some (decide (x ∈ l)) := by
  have d2 : (T.tup (l.map T.int)).dat 60 = true := dats_int
  have d1 : (T.int x).dat 60 = true := rfl
  show (if (T.int x).dat 60 && (T.tup (l.map T.int)).dat 60 then some ((l.map T.int).any fun y => T.eqv y (.int x)) else none) = _
  rw [d1, d2, any_int]; rfl
theorem inA_row {l : Row} {x : Int} : inA st (.int x) (rowT l) = some (.bl (decide (x ∈ l))) := by simp [inA, inO_row]
theorem ninA_row {l : Row} {x : Int} : ninA st (.int x) (rowT l) = some (.bl (!decide (x ∈ l))) := by simp [ninA, inO_row]
theorem eqO_row {a b : Row} : eqO st (rowT a) (rowT b) = some (decide (a = b)) := by
  have h1 : (rowT a).dat 60 = true := dat_row
  have h2 : (rowT b).dat 60 = true := dat_row
  show (if (rowT a).dat 60 && (rowT b).dat 60 then some (T.eqv (rowT a) (rowT b)) else none) = _
  rw [h1, h2, eqv_row]; rfl
theorem neT_row {a b : Row} : PL.neT st (rowT a) (rowT b) = some (.bl (!decide (a = b))) := by simp [PL.neT, eqO_row]
theorem eqT_row {a b : Row} : PL.eqT st (rowT a) (rowT b) = some (.bl (decide (a = b))) := by simp [PL.eqT, eqO_row]
theorem eqO_lot {a b : Lot} (ha : ∀ x ∈ a, NmOk x) (hb : ∀ x ∈ b, NmOk x) : eqO st (lotT a) (lotT b) = some (decide (a = b)) := by
  have h1 : (lotT a).dat 60 = true := dat_lot ha
  have h2 : (lotT b).dat 60 = true := dat_lot hb
  show (if (lotT a).dat 60 && (lotT b).dat 60 then some (T.eqv (lotT a) (lotT b)) else none) = _
  rw [h1, h2, eqv_lot ha hb]; rfl
theorem neT_lot0 {a : Lot} (ha : ∀ x ∈ a, NmOk x) : PL.neT st (lotT a) (.tup []) = some (.bl (!decide (a = []))) := by
  have := eqO_lot (st := st) (b := []) ha (by simp)
  unfold PL.neT
  rw [show (T.tup []) = lotT [] from rfl, this]; rfl

/-! what the program's small defs compute -/
def lotOf (qs : Qs) (s : Row) : Lot := ((qs.zip s).filter fun p => decide (p.2 = -1)).map fun p => p.1.1
def sheetOf (qs : Qs) (lot : Lot) (t : Row) : Row := (qs.zip t).map fun p => if p.1.1 ∈ lot then -1 else p.2
def answersF (p : (Str × Int) × Int) : List Int := if p.2 = -1 then rangeI 0 p.1.2 else [p.2]
def growB (found : List Row) (p : (Str × Int) × Int) : List Row := found.flatMap fun r => (answersF p).map fun a => r ++ [a]
def truthsOf (qs : Qs) (s : Row) : List Row := (qs.zip s).foldl growB [[]]
def growL (found : List Lot) (n : Str) : List Lot := found ++ found.map fun l => l ++ [n]
def subs (l : Lot) : List Lot := l.foldl growL [[]]
def lotsW (l : Lot) : List Lot := (subs l).mergeSort fun a b => T.leD (lotT a) (lotT b)
def blankedF (qs : Qs) (t : Row) (lot : Lot) : List Row := ((lotsW lot).filter fun p => !decide (p = [])).map fun p => sheetOf qs p t
def prodF (xs : List (Int × Int)) : Int × Int := xs.foldl timesF (1, 1)
def sumF (xs : List (Int × Int)) : Int × Int := xs.foldl plusF (0, 1)
structure QsOk (qs : Qs) : Prop where
  len : qs.length ≤ 4
  many : ∀ q ∈ qs, 2 ≤ q.2 ∧ q.2 ≤ 5
  nm : ∀ q ∈ qs, NmOk q.1
  nd : (qs.map (·.1)).Nodup
def parT (p : (Str × Int) × Int) : T := .par [qT p.1, .int p.2]
theorem zipT_qs : ∀ (qs : Qs) (s : Row), zipT (qs.map qT) (s.map T.int) = (qs.zip s).map parT
  | [], s => by cases s <;> rfl
  | q :: qs, [] => rfl
  | q :: qs, a :: s => by simp [zipT, zipT_qs qs s, parT]
theorem zip_len {qs : Qs} {s : Row} (h : qs.length ≤ 4) : (qs.zip s).length ≤ 4 := by rw [List.length_zip]; omega
theorem evG_par2 {i j : Nat} {a b : T} {env : En} {Q : En → Store → Prop} (q : Q ((env.set i (some a)).set j (some b)) st) : EvG ((Tg.tup [.var i, .var j]).sem (.par [a, b]) env st) Q := by
  show EvG (gTupT 2 (Tg.sems [.var i, .var j]) (.par [a, b]) env st) Q
  refine EvG.tup (ts := [a, b]) rfl rfl ?_
  simpa [Tg.sems, Tg.sem] using q
theorem evG_tup2 {i j : Nat} {a b : T} {env : En} {Q : En → Store → Prop} (q : Q ((env.set i (some a)).set j (some b)) st) : EvG ((Tg.tup [.var i, .var j]).sem (.tup [a, b]) env st) Q := by
  show EvG (gTupT 2 (Tg.sems [.var i, .var j]) (.tup [a, b]) env st) Q
  refine EvG.tup (ts := [a, b]) rfl rfl ?_
  simpa [Tg.sems, Tg.sem] using q
theorem run_lot_of {qs : Qs} {s : Row} (hq : QsOk qs) : f_lot_of [formT qs, rowT s] st = some (.ok (lotT (lotOf qs s)), st) := by
  rw [← ev_eq]
  unfold f_lot_of m_lot_of
  rw [ev_def]
  simp
  refine Ev.lcP parT (fun p => decide (p.2 = -1)) (fun p => .str p.1.1) ?_
  simp [qsT, rowT]
  refine ⟨qs.zip s, zipT_qs qs s, by have := zip_len (s := s) hq.len; simp only [List.length_zip] at this ⊢; omega, fun n m a ha => ?_, ?_⟩
  · refine evG_par2 ?_
    simp [wipeE, qT, ix0]
  · simp [tupleT, seqO, lotT, lotOf, Function.comp_def]
theorem mem_zip1 {qs : Qs} {s : Row} {p : (Str × Int) × Int} (h : p ∈ qs.zip s) : p.1 ∈ qs := (List.of_mem_zip (a := p.1) (b := p.2) h).1
theorem mem_zip2 {qs : Qs} {s : Row} {p : (Str × Int) × Int} (h : p ∈ qs.zip s) : p.2 ∈ s := (List.of_mem_zip (a := p.1) (b := p.2) h).2
theorem run_sheet_of {qs : Qs} {lot : Lot} {t : Row} (hq : QsOk qs) (hl : ∀ x ∈ lot, NmOk x) : f_sheet_of [formT qs, lotT lot, rowT t] st = some (.ok (rowT (sheetOf qs lot t)), st) := by
  rw [← ev_eq]
  unfold f_sheet_of m_sheet_of
  rw [ev_def]
  simp
  refine Ev.lcM parT (fun p => .int (if p.1.1 ∈ lot then -1 else p.2)) ?_
  simp [qsT, rowT]
  refine ⟨qs.zip t, zipT_qs qs t, by have := zip_len (s := t) hq.len; simp only [List.length_zip] at this ⊢; omega, fun n m a ha => ?_, ?_⟩
  · refine evG_par2 ?_
    have hn := hq.nm _ (mem_zip1 ha)
    have hn : NmOk n := hn
    simp [wipeE, qT, ix0, inA_lot hl hn]
    by_cases hc : n ∈ lot <;> simp [hc]
  · simp [tupleT, seqO, sheetOf, Function.comp_def]
    exact pures_map fun _ _ => rfl
theorem run_product {n : Nat} (xs : List (Int × Int)) (hx : ∀ x ∈ xs, FrOk n x) (hk : 1 + xs.length * n ≤ 9000) : f_product_all [.lst (xs.map frT)] st = some (.ok (frT (prodF xs)), st) := by
  rw [← ev_eq]
  unfold f_product_all m_product_all
  rw [ev_def]
  simp
  have key : ∀ (ys : List (Int × Int)) (z : Int × Int) (k : Nat) (j : Option T) (Q : SR → Store → Prop), (∀ x ∈ ys, FrOk n x) → FrOk k z → k + ys.length * n ≤ 9000 → (∀ j, Q (.nx [some (.lst (xs.map frT)), some (frT (ys.foldl timesF z)), j]) st) →
      EvS (loopF (gVar 2) (sAsg (mCall 2 f_times (mCons (mVar 1) (mCons (mVar 2) (mNil)))) (gVar 1)) (ys.map frT) [some (.lst (xs.map frT)), some (frT z), j] st) Q := by
    intro ys
    induction ys with
    | nil => intro z k j Q _ _ _ h; simpa using h j
    | cons y ys ih =>
      intro z k j Q h1 h2 h3 h
      rw [List.length_cons, Nat.add_mul] at h3
      rw [List.map_cons, evS_loop1]
      simp
      refine .of (run_times h2 (h1 y List.mem_cons_self) (by omega)) ?_
      exact ih _ (k + n) _ Q (fun x m => h1 x (List.mem_cons_of_mem _ m)) (h2.times (h1 y List.mem_cons_self)) (by omega) h
  refine key xs (1, 1) 1 none _ hx ⟨by decide, by decide, by decide, by decide⟩ (by omega) fun j => ?_
  simp [prodF]
theorem prodF_ok {n : Nat} : ∀ (xs : List (Int × Int)) (z : Int × Int) (k : Nat), (∀ x ∈ xs, FrOk n x) → FrOk k z → FrOk (k + xs.length * n) (xs.foldl timesF z)
  | [], z, k, _, h => by simpa using h
  | x :: xs, z, k, hx, h => by
    have := prodF_ok xs (timesF z x) (k + n) (fun y m => hx y (List.mem_cons_of_mem _ m)) (h.times (hx x List.mem_cons_self))
    rw [List.length_cons, Nat.add_mul]
    rwa [show k + n + xs.length * n = k + (xs.length * n + 1 * n) by omega] at this
theorem run_total {n : Nat} (xs : List (Int × Int)) (hx : ∀ x ∈ xs, FrOk n x) (hk : 1 + xs.length * (n + 1) ≤ 9000) : f_total_of [.lst (xs.map frT)] st = some (.ok (frT (sumF xs)), st) := by
  rw [← ev_eq]
  unfold f_total_of m_total_of
  rw [ev_def]
  simp
  have key : ∀ (ys : List (Int × Int)) (z : Int × Int) (k : Nat) (j : Option T) (Q : SR → Store → Prop), (∀ x ∈ ys, FrOk n x) → FrOk k z → k + ys.length * (n + 1) ≤ 9000 → (∀ j, Q (.nx [some (.lst (xs.map frT)), some (frT (ys.foldl plusF z)), j]) st) →
      EvS (loopF (gVar 2) (sAsg (mCall 2 f_plus (mCons (mVar 1) (mCons (mVar 2) (mNil)))) (gVar 1)) (ys.map frT) [some (.lst (xs.map frT)), some (frT z), j] st) Q := by
    intro ys
    induction ys with
    | nil => intro z k j Q _ _ _ h; simpa using h j
    | cons y ys ih =>
      intro z k j Q h1 h2 h3 h
      rw [List.length_cons, Nat.add_mul] at h3
      rw [List.map_cons, evS_loop1]
      simp
      refine .of (run_plus h2 (h1 y List.mem_cons_self) (by omega)) ?_
      exact ih _ (k + n + 1) _ Q (fun x m => h1 x (List.mem_cons_of_mem _ m)) (h2.plus (h1 y List.mem_cons_self)) (by omega) h
  refine key xs (0, 1) 1 none _ hx ⟨by decide, by decide, by decide, by decide⟩ (by omega) fun j => ?_
  simp [sumF]
theorem sumF_ok {n : Nat} : ∀ (xs : List (Int × Int)) (z : Int × Int) (k : Nat), (∀ x ∈ xs, FrOk n x) → FrOk k z → FrOk (k + xs.length * (n + 1)) (xs.foldl plusF z)
  | [], z, k, _, h => by simpa using h
  | x :: xs, z, k, hx, h => by
    have := sumF_ok xs (plusF z x) (k + n + 1) (fun y m => hx y (List.mem_cons_of_mem _ m)) (h.plus (hx x List.mem_cons_self))
    rw [List.length_cons, Nat.add_mul]
    rwa [show k + n + 1 + xs.length * (n + 1) = k + (xs.length * (n + 1) + 1 * (n + 1)) by omega] at this
end KM
/-! truths behind a sheet, lots within a lot -/
namespace KM
open PySem L2 PL
variable {st : Store}
theorem growB_len {found : List Row} {p : (Str × Int) × Int} : (growB found p).length = found.length * (answersF p).length := by
  unfold growB
  induction found with
  | nil => simp
  | cons r rs ih => simp [List.flatMap_cons, ih, Nat.add_mul, Nat.add_comm]
theorem answers_len {p : (Str × Int) × Int} (h : p.1.2 ≤ 10) : (answersF p).length ≤ 10 := by
  unfold answersF
  split
  · rw [length_rangeI]; omega
  · simp
theorem flat_rows (found : List Row) (ys : List Int) : (found.flatMap fun r => ys.map fun a => rowT (r ++ [a])) = (found.flatMap fun r => ys.map fun a => r ++ [a]).map rowT := by
  simp [List.flatMap, List.map_flatten, Function.comp_def]
theorem run_truths {qs : Qs} {s : Row} (hq : QsOk qs) : f_truths_behind [formT qs, rowT s] st = some (.ok (.tup ((truthsOf qs s).map rowT)), st) := by
  rw [← ev_eq]
  unfold f_truths_behind m_truths_behind
  rw [ev_def]
  simp
  rw [show qsT qs = .tup (qs.map qT) from rfl, show rowT s = .tup (s.map T.int) from rfl, isZ_tup, zipT_qs]
  have hz := zip_len (s := s) hq.len
  refine EvS.loopI parT (fun ps env s' => s' = st ∧ ∃ found j3 j4 j5 j6 j7, env = [some (formT qs), some (rowT s), some (.lst (found.map rowT)), j3, j4, j5, j6, j7] ∧ (∀ p ∈ ps, -10 ≤ p.1.2 ∧ p.1.2 ≤ 10) ∧ found.length * 10 ^ ps.length ≤ 1000000 ∧ (∀ r ∈ found, r.length + ps.length ≤ 1000) ∧ ps.foldl growB found = truthsOf qs s) ?_ ?_ ?_
  · refine ⟨rfl, [[]], none, none, none, none, none, rfl, fun p m => ?_, ?_, by simp only [List.mem_singleton, forall_eq, List.length_nil]; omega, rfl⟩
    · have := hq.many _ (mem_zip1 m); omega
    · have : 10 ^ (qs.zip s).length ≤ 10 ^ 4 := Nat.pow_le_pow_right (by decide) hz
      simp only [List.length_singleton]; omega
  · rintro p ps env st ⟨rfl, found, j3, j4, j5, j6, j7, rfl, h1, h2, h3, h4⟩
    have hp := h1 p List.mem_cons_self
    have g1 := growB_len (found := found) (p := p)
    have a1 := answers_len hp.2
    have p1 : found.length * (answersF p).length ≤ found.length * 10 := Nat.mul_le_mul_left _ a1
    have p2 : 1 ≤ 10 ^ ps.length := Nat.one_le_pow _ _ (by decide)
    rw [List.length_cons, Nat.pow_succ] at h2
    have p3 : found.length * 10 ≤ found.length * (10 ^ ps.length * 10) := Nat.mul_le_mul_left _ (by omega)
    refine EvG.tup (ts := [qT p.1, .int p.2]) rfl rfl ?_
    simp only [evG_cons, evG_var, evG_nil, evS_seq, evS_asg]
    refine Ev.of (x := .lst ((answersF p).map T.int)) (s := st) ?_ ?_
    · rw [← ev_eq]
      by_cases hc : p.2 = -1
      · simp [hc, qT, ix1, answersF, rangeT_eq]; omega
      · simp [hc, answersF]
    · simp only [onN_nx, evS_asg, ev_known, evG_var]
      refine Ev.lc2M (α := Row) (β := Int) rowT T.int (fun _ => answersF p) (fun r a => rowT (r ++ [a])) ?_
      simp
      refine ⟨found, rfl, ?_, ?_, ?_⟩
      · have := g1; unfold growB at this
        simp only [List.length_flatMap, List.length_map] at this ⊢
        omega
      · intro r hr
        have := h3 r hr
        simp only [List.length_cons] at this
        simp [wipeE, Tg.sem]
        intro a ha
        simp [rowT]
        omega
      · refine ⟨growB found p, ?_, fun a b c m => h1 ((a, b), c) (List.mem_cons_of_mem _ m), ?_, fun r hr => ?_, h4⟩
        · simp [growB, List.flatMap, List.map_flatten, Function.comp_def]
        · rw [g1]
          calc _ ≤ found.length * 10 * 10 ^ ps.length := Nat.mul_le_mul_right _ p1
            _ = found.length * (10 ^ ps.length * 10) := by rw [Nat.mul_assoc, Nat.mul_comm 10]
            _ ≤ _ := h2
        · unfold growB at hr
          simp only [List.mem_flatMap, List.mem_map] at hr
          obtain ⟨r0, m0, a, _, rfl⟩ := hr
          have := h3 r0 m0
          simp only [List.length_cons] at this
          simp; omega
  · rintro env st ⟨rfl, found, j3, j4, j5, j6, j7, rfl, h1, h2, h3, h4⟩
    simp only [List.foldl_nil] at h4
    simp [tupleT, seqO, h4]
/-! lots -/
theorem growL_len {found : List Lot} {n : Str} : (growL found n).length = found.length * 2 := by simp [growL]; omega
theorem subs_len : ∀ (l : Lot) (found : List Lot), (l.foldl growL found).length = found.length * 2 ^ l.length
  | [], found => by simp
  | n :: l, found => by rw [List.foldl_cons, subs_len l, growL_len, List.length_cons, Nat.pow_succ, Nat.mul_assoc, Nat.mul_comm 2]
theorem subs_mem : ∀ (l : Lot) (found : List Lot) (x : Lot), x ∈ l.foldl growL found → ∃ y ∈ found, ∃ z, z.Sublist l ∧ x = y ++ z
  | [], found, x, h => ⟨x, h, [], .slnil, by simp⟩
  | n :: l, found, x, h => by
    rw [List.foldl_cons] at h
    obtain ⟨y, hy, z, hz, rfl⟩ := subs_mem l _ x h
    simp only [growL, List.mem_append, List.mem_map] at hy
    rcases hy with hy | ⟨y0, hy, rfl⟩
    · exact ⟨y, hy, z, hz.cons n, rfl⟩
    · exact ⟨y0, hy, n :: z, hz.cons₂ n, by simp⟩
theorem mem_lotsW {l x : Lot} (h : x ∈ lotsW l) : x.Sublist l := by
  unfold lotsW at h
  rw [List.mem_mergeSort] at h
  obtain ⟨y, hy, z, hz, rfl⟩ := subs_mem l [[]] x h
  simp only [List.mem_singleton] at hy
  subst hy
  simpa using hz
theorem lotsW_len {l : Lot} : (lotsW l).length = 2 ^ l.length := by
  unfold lotsW
  rw [List.length_mergeSort]
  unfold subs; simpa using subs_len l [[]]
theorem alikeAll_str : ∀ (a b : Lot), PySem.W.alikeAll (T.datas (a.map .str)) (T.datas (b.map .str)) = true
  | [], b => by cases b <;> simp [T.datas, PySem.W.alikeAll]
  | x :: xs, [] => by simp [T.datas, PySem.W.alikeAll]
  | x :: xs, y :: ys => by simp [T.datas, T.data, PySem.W.alikeAll, PySem.W.alike, alikeAll_str xs ys]
theorem alikeAll_int : ∀ (a b : Row), PySem.W.alikeAll (T.datas (a.map .int)) (T.datas (b.map .int)) = true
  | [], b => by cases b <;> simp [T.datas, PySem.W.alikeAll]
  | x :: xs, [] => by simp [T.datas, PySem.W.alikeAll]
  | x :: xs, y :: ys => by simp [T.datas, T.data, PySem.W.alikeAll, PySem.W.alike, alikeAll_int xs ys]
theorem alike_lot (a b : Lot) : T.alike (lotT a) (lotT b) = true := by simp [T.alike, lotT, T.data, PySem.W.alike, alikeAll_str]
theorem alike_row (a b : Row) : T.alike (rowT a) (rowT b) = true := by simp [T.alike, rowT, T.data, PySem.W.alike, alikeAll_int]
/-- things that are tuples and alike may be sorted -/
theorem srtOk_of {ks : List T} (h1 : ks.length ≤ 1000000) (h2 : ∀ a ∈ ks, a.dat 60 = true) (h3 : ∀ a ∈ ks, ∀ b ∈ ks, a.alike b = true) (h4 : ∀ a ∈ ks, isTupD a.data = true) : srtOk ks = true := by
  simp only [srtOk, Bool.and_eq_true, Bool.or_eq_true, List.all_eq_true, decide_eq_true_eq]
  exact ⟨⟨⟨h1, h2⟩, h3⟩, .inl h4⟩
theorem srtOk_map {α : Type} {f : α → T} {l : List α} (h1 : l.length ≤ 1000000) (h2 : ∀ a ∈ l, (f a).dat 60 = true) (h3 : ∀ a ∈ l, ∀ b ∈ l, (f a).alike (f b) = true) (h4 : ∀ a ∈ l, isTupD (f a).data = true) : srtOk (l.map f) = true := by
  refine srtOk_of (by simpa using h1) (fun a m => ?_) (fun a m b n => ?_) fun a m => ?_
  all_goals obtain ⟨x, hx, rfl⟩ := List.mem_map.mp m
  · exact h2 x hx
  · obtain ⟨y, hy, rfl⟩ := List.mem_map.mp n
    exact h3 x hx y hy
  · exact h4 x hx
theorem srtT_map {α : Type} {f : α → T} {l : List α} : srtT (l.map f) = (l.mergeSort fun a b => T.leD (f a) (f b)).map f := (List.map_mergeSort (r := fun a b => T.leD (f a) (f b)) (s := T.leD) (f := f) fun _ _ _ _ => rfl).symm
theorem run_lots {l : Lot} (hl : ∀ x ∈ l, NmOk x) (hn : l.length ≤ 10) : f_lots_within [lotT l] st = some (.ok (.tup ((lotsW l).map lotT)), st) := by
  rw [← ev_eq]
  unfold f_lots_within m_lots_within
  rw [ev_def]
  simp
  have hb : 2 ^ l.length ≤ 2 ^ 10 := Nat.pow_le_pow_right (by decide) hn
  refine ⟨l.map T.str, rfl, ?_⟩
  refine EvS.loopI T.str (fun ns env s' => s' = st ∧ ∃ found j2 j3, env = [some (lotT l), some (.lst (found.map lotT)), j2, j3] ∧ found.length * 2 ^ ns.length ≤ 1000000 ∧ (∀ r ∈ found, r.length + ns.length ≤ 1000) ∧ ns.foldl growL found = subs l) ?_ ?_ ?_
  · exact ⟨rfl, [[]], none, none, rfl, by simp; omega, by simp; omega, rfl⟩
  · rintro n ns env st ⟨rfl, found, j2, j3, rfl, h1, h2, h3⟩
    rw [List.length_cons, Nat.pow_succ] at h1
    have p2 : 1 ≤ 2 ^ ns.length := Nat.one_le_pow _ _ (by decide)
    have p3 : found.length * 2 ≤ found.length * (2 ^ ns.length * 2) := Nat.mul_le_mul_left _ (by omega)
    simp
    refine Ev.lcM lotT (fun x => lotT (x ++ [n])) ?_
    simp
    refine ⟨found, rfl, by omega, ?_, ?_⟩
    · intro x hx
      have := h2 x hx
      simp only [List.length_cons] at this
      simp [wipeE, Tg.sem, lotT]
      omega
    · refine ⟨_, ⟨by omega, rfl⟩, growL found n, by simp [growL, Function.comp_def], by rw [growL_len, Nat.mul_assoc, Nat.mul_comm 2]; exact h1, fun r hr => ?_, h3⟩
      simp only [growL, List.mem_append, List.mem_map] at hr
      rcases hr with hr | ⟨r0, hr, rfl⟩
      · have := h2 r hr; simp only [List.length_cons] at this; omega
      · have := h2 r0 hr; simp only [List.length_cons] at this; simp; omega
  · rintro env st ⟨rfl, found, j2, j3, rfl, h1, h2, h3⟩
    simp only [List.foldl_nil] at h3
    subst h3
    have e : srtOk ((subs l).map lotT) = true := by
      refine srtOk_map ?_ (fun a m => ?_) (fun a _ b _ => alike_lot a b) fun a _ => rfl
      · have := subs_len l [[]]; unfold subs; simp at this; omega
      · obtain ⟨y, hy, z, hz, rfl⟩ := subs_mem l [[]] a m
        simp only [List.mem_singleton] at hy
        subst hy
        exact dat_lot fun x hx => hl x (hz.subset (by simpa using hx))
    simp [sortedA, e, tupleT, seqO, srtT_map, lotsW]
theorem run_blanked {qs : Qs} {t : Row} {lot : Lot} (hq : QsOk qs) (hl : ∀ x ∈ lot, NmOk x) (hn : lot.length ≤ 10) : f_blanked [formT qs, rowT t, lotT lot] st = some (.ok (.lst ((blankedF qs t lot).map rowT)), st) := by
  rw [← ev_eq]
  unfold f_blanked m_blanked
  rw [ev_def]
  simp
  refine Ev.lcP lotT (fun p => !decide (p = [])) (fun p => rowT (sheetOf qs p t)) ?_
  simp
  refine .of (run_lots hl hn) ?_
  refine ⟨_, rfl, lotsW lot, rfl, ?_, ?_, ?_⟩
  · rw [lotsW_len]
    have hb : 2 ^ lot.length ≤ 2 ^ 10 := Nat.pow_le_pow_right (by decide) hn
    omega
  · intro p hp
    have hs := mem_lotsW hp
    have hok : ∀ x ∈ p, NmOk x := fun x m => hl x (hs.subset m)
    simp [wipeE, Tg.sem, neT_lot0 hok]
    by_cases h0 : p = []
    · simp [h0]
    · simp [h0]
      exact .of (run_sheet_of hq hok) ⟨rfl, rfl⟩
  · simp [blankedF, Function.comp_def]
    exact pures_map fun _ _ => rowT_pure
end KM
/-! kept weights -/
namespace KM
open PySem L2 PL
variable {st : Store}
theorem Ev.mut {f : MF} {mo : M T} {ma : M (List T)} {env : En} {Q : T → Store → Prop} (h : Ev (mo env st) fun t s => isL s t = true ∧ Ev (ma env s) fun ts s2 => ∃ m r m', m0At s2 t = some m ∧ f m ts = some (r, m') ∧ m'.pure = true ∧ Q r (putM s2 t m')) : Ev (mMut f mo ma env st) Q := by
  unfold mMut
  rw [ev_bnd]
  refine h.mono fun t s ⟨h1, h2⟩ => ?_
  rw [if_pos h1, ev_bnd]
  refine h2.mono fun ts s2 ⟨m, r, m', e1, e2, pu, q⟩ => ?_
  simp only [e1, e2, pu, if_true, ev_ok]
  exact q
/-! the newest cell -/
section
variable {m m' : M0} {mo : MO} {t : T}
@[simp] theorem at_top : (st ++ [mo])[st.length]? = some mo := by simp
theorem at_old {j : Nat} {x : MO} (h : st[j]? = some x) : (st ++ [mo])[j]? = some x := by
  have := (List.getElem?_eq_some_iff.mp h).1
  rw [List.getElem?_append_left this]; exact h
@[simp] theorem m0At_top : m0At (st ++ [.one m]) (.cell st.length) = some m := by simp [m0At]
@[simp] theorem putM_top : putM (st ++ [.one m]) (.cell st.length) m' = st ++ [.one m'] := by simp [putM, List.set_append]
@[simp] theorem deref_top : deref (st ++ [.one m]) (.cell st.length) = .cell st.length := by simp [deref]
@[simp] theorem frz_top : frzT (.cell st.length) (st ++ [.one m]) = (m.t, st ++ [.frz m.t]) := by simp [frzT, List.set_append]
@[simp] theorem isL_top {xs : List T} : isL (st ++ [.one (.lst xs)]) (.cell st.length) = true := by simp [isL]
@[simp] theorem take_top : (st ++ [mo]).take st.length = st := by simp
end
theorem deref_one {j : Nat} {m : M0} (h : st[j]? = some (.one m)) : deref st (.cell j) = .cell j := by simp [deref, h]
theorem look_one {j : Nat} {m : M0} (h : st[j]? = some (.one m)) : look st (.cell j) = m.t := by simp [look, h, MO.look]
theorem rclAt_one {j : Nat} {m : M0} {b : T} (h : st[j]? = some (.one m)) : rclAt st (.cell j) b = none := by
  cases b <;> simp [rclAt, h]
/-! dicts by rows -/
section
variable {β : Type} {g : β → T} {F : List (Row × β)} {r : Row}
def kT (F : List (Row × β)) : List T := F.map fun p => rowT p.1
def vT (g : β → T) (F : List (Row × β)) : List T := F.map fun p => g p.2
theorem dGet_row : dGet (kT F) (vT g F) (rowT r) = (F.lookup r).map g := by
  induction F with
  | nil => rfl
  | cons p F ih =>
    obtain ⟨a, b⟩ := p
    show (if T.eqv (rowT a) (rowT r) then some (g b) else dGet (kT F) (vT g F) (rowT r)) = _
    rw [ih, eqv_row, List.lookup_cons]
    by_cases h : a = r
    · subst h; simp
    · simp [h, show (r == a) = false from by simpa using fun e => h e.symm]
theorem dHas_row : dHas (kT F) (rowT r) = (F.lookup r).isSome := by
  induction F with
  | nil => rfl
  | cons p F ih =>
    obtain ⟨a, b⟩ := p
    have ih : (kT F).any (fun k => T.eqv k (rowT r)) = (F.lookup r).isSome := ih
    show (T.eqv (rowT a) (rowT r) || (kT F).any fun k => T.eqv k (rowT r)) = _
    rw [ih, eqv_row, List.lookup_cons]
    by_cases h : a = r
    · subst h; simp
    · simp [h, show (r == a) = false from by simpa using fun e => h e.symm]
theorem ixT_dct : ixT st (.dct (kT F) (vT g F)) (rowT r) = (F.lookup r).map g := by
  simp [ixT, dGet_row]
theorem ixT_cell {j : Nat} (h : st[j]? = some (.one (.dct (kT F) (vT g F)))) : ixT st (.cell j) (rowT r) = (F.lookup r).map g := by
  simp [ixT, rclAt_one h, look_one h, M0.t, dGet_row]
theorem inA_dct : inA st (rowT r) (.dct (kT F) (vT g F)) = some (.bl (F.lookup r).isSome) := by simp [inA, inO2, dHas_row]
theorem ninA_dct : ninA st (rowT r) (.dct (kT F) (vT g F)) = some (.bl (!(F.lookup r).isSome)) := by simp [ninA, inO2, dHas_row]
end
abbrev Cts := List (Row × Int)
abbrev Fnd := List (Row × (Int × Int))
def ctT (C : Cts) : T := .dct (kT C) (vT T.int C)
def partsF (qs : Qs) (F : Fnd) (s t : Row) : List (Int × Int) := ((blankedF qs t (lotOf qs s)).filter fun o => !decide (o = s)).map fun o => (F.lookup o).getD (0, 1)
def termF (qs : Qs) (C : Cts) (F : Fnd) (s t : Row) : Option (Int × Int) := (C.lookup t).map fun m => timesF (m, 1) (prodF (partsF qs F s t))
def termsF (qs : Qs) (C : Cts) (F : Fnd) (s : Row) : List (Int × Int) := (truthsOf qs s).filterMap (termF qs C F s)
def keptF (qs : Qs) (C : Cts) (F : Fnd) (s : Row) : Int × Int := match C.lookup s with
  | none => (0, 1)
  | some c => if -1 ∈ s then (if sumF (termsF qs C F s) = (0, 1) then (0, 1) else overF (c, 1) (sumF (termsF qs C F s))) else (1, 1)
@[simp] theorem deref_ct {C : Cts} : deref st (ctT C) = ctT C := rfl
theorem lookup_mem {β : Type} {F : List (Row × β)} {r : Row} {b : β} (h : F.lookup r = some b) : (r, b) ∈ F := by
  induction F with
  | nil => simp at h
  | cons p F ih =>
    obtain ⟨a, c⟩ := p
    rw [List.lookup_cons] at h
    by_cases e : r = a
    · subst e; simp at h; subst h; exact List.mem_cons_self
    · rw [show (r == a) = false from by simpa using e] at h
      exact List.mem_cons_of_mem _ (ih h)
theorem eqO_fr {x y : Int × Int} : eqO st (frT x) (frT y) = some (decide (x = y)) := by
  have e : T.eqv (frT x) (frT y) = decide (x = y) := by
    rw [show frT x = rowT [x.1, x.2] from rfl, show frT y = rowT [y.1, y.2] from rfl, eqv_row]
    by_cases h : x = y
    · subst h; simp
    · have : ¬ ([x.1, x.2] = [y.1, y.2]) := fun e => h (by injection e with e1 e2; injection e2 with e2 _; exact Prod.ext e1 e2)
      simp [h, this]
  show (if (frT x).dat 60 && (frT y).dat 60 then some (T.eqv (frT x) (frT y)) else none) = _
  rw [e]; rfl
theorem fr_whole {m : Int} (h : 0 ≤ m ∧ m < 8) : FrOk 3 (m, 1) := ⟨h.1, by simp, by simp; omega, by simp⟩
theorem fr_zero {a b : Int} (ha : 0 ≤ a) (hb : 0 < b) (h : (fr a b).1 = 0) : fr a b = (0, 1) := by
  have g := gcd_div a hb
  have d : ((Nat.gcd a.natAbs b.natAbs : Nat) : Int) ∣ a := Int.ofNat_dvd_left.mpr (Nat.gcd_dvd_left _ _)
  have a0 : a = 0 := by
    have h : a / ((Nat.gcd a.natAbs b.natAbs : Nat) : Int) = 0 := h
    have e := Int.ediv_mul_cancel d
    rw [h] at e
    simpa using e.symm
  subst a0
  have e : ((Nat.gcd (0 : Int).natAbs b.natAbs : Nat) : Int) = b := by simp; omega
  unfold fr
  rw [e, Int.ediv_self (by omega)]; simp
theorem sum_zero_to {n : Nat} : ∀ (xs : List (Int × Int)) (z : Int × Int) (k : Nat), (∀ x ∈ xs, FrOk n x) → FrOk k z → (z.1 = 0 → z = (0, 1)) → (xs.foldl plusF z).1 = 0 → xs.foldl plusF z = (0, 1)
  | [], z, _, _, _, h, e => h e
  | x :: xs, z, k, hx, hz, _, e => by
    have h1 := hx x List.mem_cons_self
    refine sum_zero_to xs (plusF z x) _ (fun y m => hx y (List.mem_cons_of_mem _ m)) (hz.plus h1) (fun e => ?_) e
    have := hz.q
    have := h1.q
    exact fr_zero (Int.add_nonneg (Int.mul_nonneg hz.p (by omega)) (Int.mul_nonneg h1.p (by omega))) (Int.mul_pos hz.q h1.q) e
theorem sum_zero {n : Nat} {xs : List (Int × Int)} (hx : ∀ x ∈ xs, FrOk n x) (e : (sumF xs).1 = 0) : sumF xs = (0, 1) := sum_zero_to xs (0, 1) 1 hx ⟨by decide, by decide, by decide, by decide⟩ (fun _ => rfl) e
theorem rows_fr {l : List (Int × Int)} : T.pures (l.map frT) = true := pures_map fun _ _ => frT_pure
section
variable {qs : Qs} {C : Cts} {F : Fnd} {s : Row} {j n P M : Nat}
theorem term_ok (hC : ∀ p ∈ C, 0 ≤ p.2 ∧ p.2 < 8) {t : Row} {x : Int × Int} (hF : ∀ o ∈ blankedF qs t (lotOf qs s), o ≠ s → ∃ x, F.lookup o = some x ∧ FrOk n x) (hP : (partsF qs F s t).length ≤ P) (e : termF qs C F s t = some x) : FrOk (3 + (1 + P * n)) x := by
  unfold termF at e
  obtain ⟨m, e1, rfl⟩ := Option.map_eq_some_iff.mp e
  have h1 : ∀ x ∈ partsF qs F s t, FrOk n x := fun x hx => by
    unfold partsF at hx
    simp only [List.mem_map, List.mem_filter] at hx
    obtain ⟨o, ⟨ho, hne⟩, rfl⟩ := hx
    obtain ⟨y, e, hy⟩ := hF o ho (by simpa using hne)
    rw [e]; exact hy
  have h2 := hP
  have h3 := prodF_ok _ (1, 1) 1 h1 ⟨by decide, by decide, by decide, by decide⟩
  exact (fr_whole (hC _ (lookup_mem e1))).times (h3.mono (by have := Nat.mul_le_mul_right n h2; omega))
theorem lots_of_ok (hq : QsOk qs) : ∀ x ∈ lotOf qs s, NmOk x := fun x hx => by
  unfold lotOf at hx
  simp only [List.mem_map, List.mem_filter] at hx
  obtain ⟨p, ⟨hp, _⟩, rfl⟩ := hx
  exact hq.nm _ (mem_zip1 hp)
theorem lotOf_len (hq : QsOk qs) : (lotOf qs s).length ≤ 4 := by
  unfold lotOf
  rw [List.length_map]
  exact Nat.le_trans (List.length_filter_le _ _) (zip_len hq.len)
theorem truths_len (hq : QsOk qs) : (truthsOf qs s).length ≤ 100000 := by
  have key : ∀ (ps : List ((Str × Int) × Int)) (found : List Row), (∀ p ∈ ps, p.1.2 ≤ 10) → (ps.foldl growB found).length ≤ found.length * 10 ^ ps.length := by
    intro ps
    induction ps with
    | nil => intro found _; simp
    | cons p ps ih =>
      intro found h
      rw [List.foldl_cons, List.length_cons, Nat.pow_succ]
      refine Nat.le_trans (ih _ fun z m => h z (List.mem_cons_of_mem _ m)) ?_
      rw [growB_len, Nat.mul_assoc, Nat.mul_comm (10 ^ _)]
      exact Nat.mul_le_mul_left _ (Nat.mul_le_mul_right _ (answers_len (h p List.mem_cons_self)))
  have := key (qs.zip s) [[]] fun p m => by have := hq.many _ (mem_zip1 m); omega
  have hz := zip_len (s := s) hq.len
  have : 10 ^ (qs.zip s).length ≤ 10 ^ 4 := Nat.pow_le_pow_right (by decide) hz
  unfold truthsOf
  simp only [List.length_singleton] at *
  omega
theorem blanked_len (hq : QsOk qs) (t : Row) : (blankedF qs t (lotOf qs s)).length ≤ 16 := by
  unfold blankedF
  rw [List.length_map]
  refine Nat.le_trans (List.length_filter_le _ _) ?_
  rw [lotsW_len]
  have : 2 ^ (lotOf qs s).length ≤ 2 ^ 4 := Nat.pow_le_pow_right (by decide) (lotOf_len hq)
  omega
theorem kept_ok (hC : ∀ p ∈ C, 0 ≤ p.2 ∧ p.2 < 8) (hF : ∀ t ∈ truthsOf qs s, ∀ o ∈ blankedF qs t (lotOf qs s), o ≠ s → ∃ x, F.lookup o = some x ∧ FrOk n x)
    (hP : ∀ t ∈ truthsOf qs s, (partsF qs F s t).length ≤ P) (hM : (truthsOf qs s).length ≤ M) : FrOk (3 + (1 + M * (3 + (1 + P * n) + 1))) (keptF qs C F s) := by
  have hz : FrOk (3 + (1 + M * (3 + (1 + P * n) + 1))) (0, 1) := FrOk.mono (n := 1) ⟨by decide, by decide, by decide, by decide⟩ (by omega)
  have h1 : FrOk (3 + (1 + M * (3 + (1 + P * n) + 1))) (1, 1) := FrOk.mono (n := 1) ⟨by decide, by decide, by decide, by decide⟩ (by omega)
  have ht : ∀ x ∈ termsF qs C F s, FrOk (3 + (1 + P * n)) x := fun x hx => by
    obtain ⟨t, m, e⟩ := List.mem_filterMap.mp hx
    exact term_ok hC (hF t m) (hP t m) e
  unfold keptF
  cases hc : C.lookup s with
  | none => exact hz
  | some c =>
    simp only []
    split
    · split
      · exact hz
      · rename_i h0
        have hok := sumF_ok (termsF qs C F s) (0, 1) 1 ht ⟨by decide, by decide, by decide, by decide⟩
        have hl : (termsF qs C F s).length ≤ M := Nat.le_trans (List.length_filterMap_le _ _) hM
        have hl2 := Nat.mul_le_mul_right (3 + (1 + P * n) + 1) hl
        exact ((fr_whole (hC _ (lookup_mem hc))).over hok fun z => h0 (sum_zero ht z)).mono (by omega)
    · exact h1
theorem run_kept (hq : QsOk qs) (hs : st[j]? = some (.one (.dct (kT F) (vT frT F)))) (hC : ∀ p ∈ C, 0 ≤ p.2 ∧ p.2 < 8) (hF : ∀ t ∈ truthsOf qs s, ∀ o ∈ blankedF qs t (lotOf qs s), o ≠ s → ∃ x, F.lookup o = some x ∧ FrOk n x)
    (hP : ∀ t ∈ truthsOf qs s, (partsF qs F s t).length ≤ P) (hM : (truthsOf qs s).length ≤ M) (hz : 3 + (1 + M * (3 + (1 + P * n) + 1)) ≤ 9000) : f_kept_weight [formT qs, ctT C, .cell j, rowT s] st = some (.ok (frT (keptF qs C F s)), st) := by
  have hj := (List.getElem?_eq_some_iff.mp hs).1
  rw [← ev_eq]
  unfold f_kept_weight m_kept_weight
  rw [ev_def]
  simp
  refine ⟨_, ninA_dct (F := C) (g := T.int), ?_⟩
  cases hc : C.lookup s with
  | none => simp [keptF, hc, frT]
  | some c =>
    simp [ninA_row]
    by_cases hb : -1 ∈ s
    · simp [hb]
      refine .of (run_lot_of hq) ?_
      have hd : deref (st ++ [.one (.lst [])]) (.cell j) = .cell j := deref_one (at_old hs)
      refine .of (run_truths hq) ?_
      refine ⟨_, rfl, ?_⟩
      refine EvS.loopI rowT (fun ts env s' => ∃ (acc : List (Int × Int)) (j6 j7 j8 j9 : Option T), s' = st ++ [.one (.lst (acc.map frT))] ∧ env = [some (formT qs), some (ctT C), some (.cell j), some (rowT s), some (.cell st.length), some (lotT (lotOf qs s)), j6, j7, j8, j9] ∧ (∀ t ∈ ts, t ∈ truthsOf qs s) ∧
        acc.length + ts.length ≤ M ∧ (∀ x ∈ acc, FrOk (3 + (1 + P * n)) x) ∧ acc ++ ts.filterMap (termF qs C F s) = termsF qs C F s) ?_ ?_ ?_
      · exact ⟨[], none, none, none, none, rfl, rfl, fun t m => m, by simpa using hM, by simp, rfl⟩
      · rintro t ts env s' ⟨acc, j6, j7, j8, j9, rfl, rfl, h1, h2, h3, h4⟩
        have hs' : (st ++ [MO.one (.lst (acc.map frT))])[j]? = some (.one (.dct (kT F) (vT frT F))) := at_old hs
        simp
        refine ⟨_, inA_dct (F := C) (g := T.int), ?_⟩
        simp only [List.length_cons] at h2
        rw [List.filterMap_cons] at h4
        cases ht : C.lookup t with
        | none =>
          simp [ht]
          have e : termF qs C F s t = none := by simp [termF, ht]
          rw [e] at h4
          exact ⟨acc, rfl, fun z m => h1 z (List.mem_cons_of_mem _ m), by omega, fun a b m => h3 (a, b) m, h4⟩
        | some m =>
          simp [ht]
          have e : termF qs C F s t = some (timesF (m, 1) (prodF (partsF qs F s t))) := by simp [termF, ht]
          rw [e] at h4
          have hFt := hF t (h1 t List.mem_cons_self)
          refine Ev.lcP rowT (fun o => !decide (o = s)) (fun o => frT ((F.lookup o).getD (0, 1))) ?_
          simp
          refine .of (run_blanked hq (lots_of_ok hq) (by have := lotOf_len (s := s) hq; omega)) ?_
          refine ⟨_, rfl, blankedF qs t (lotOf qs s), rfl, by have := blanked_len (s := s) hq t; omega, ?_, ?_⟩
          · intro o ho
            simp [wipeE, Tg.sem, neT_row]
            by_cases ho2 : o = s
            · simp [ho2]
            · obtain ⟨x, ex, _⟩ := hFt o ho ho2
              simp [ho2, deref_one hs', ixT_cell hs', ex]
          · refine Ev.mut ?_
            simp
            refine ⟨T.int m, by rw [show ctT C = .dct (kT C) (vT T.int C) from rfl, ixT_dct, ht]; rfl, ?_⟩
            refine .of run_whole ?_
            have hx : ∀ x ∈ partsF qs F s t, FrOk n x := fun x hx => by
              unfold partsF at hx
              simp only [List.mem_map, List.mem_filter] at hx
              obtain ⟨o, ⟨ho, hne⟩, rfl⟩ := hx
              obtain ⟨y, e, hy⟩ := hFt o ho (by simpa using hne)
              rw [e]; exact hy
            have hl := hP t (h1 t List.mem_cons_self)
            have hl2 := Nat.mul_le_mul_right n hl
            have hM1 : 1 * (3 + (1 + P * n) + 1) ≤ M * (3 + (1 + P * n) + 1) := Nat.mul_le_mul_right _ (by omega)
            have ep : (List.map (fun o => frT ((F.lookup o).getD (0, 1))) (List.filter (fun o => !decide (o = s)) (blankedF qs t (lotOf qs s)))) = (partsF qs F s t).map frT := by simp [partsF, Function.comp_def]
            rw [ep]
            refine .of (run_product (n := n) _ hx (by omega)) ?_
            have hok := prodF_ok _ (1, 1) 1 hx ⟨by decide, by decide, by decide, by decide⟩
            refine .of (run_times (fr_whole (hC _ (lookup_mem ht))) hok (by omega)) ?_
            refine ⟨_, m0At_top, .non, .lst ((acc ++ [timesF (m, 1) (prodF (partsF qs F s t))]).map frT), ?_, rows_fr, acc ++ [timesF (m, 1) (prodF (partsF qs F s t))], putM_top, fun z q => h1 z (List.mem_cons_of_mem _ q), by simp; omega, ?_, by simpa using h4⟩
            · have hM5 : M * 5 ≤ M * (3 + (1 + P * n) + 1) := Nat.mul_le_mul_left _ (by omega)
              simp [fAppend]; omega
            · intro a b hm
              rcases List.mem_append.mp hm with hm | hm
              · exact h3 (a, b) hm
              · rw [List.mem_singleton] at hm
                rw [hm]
                exact term_ok hC hFt hl e
      · rintro env s' ⟨acc, j6, j7, j8, j9, rfl, rfl, h1, h2, h3, h4⟩
        simp at h4
        subst h4
        simp
        have hlen : (termsF qs C F s).length ≤ M := by simpa using h2
        have hl2 := Nat.mul_le_mul_right (3 + (1 + P * n) + 1) hlen
        refine .of (run_total (n := 3 + (1 + P * n)) _ h3 (by omega)) ?_
        simp
        rw [show T.tup [.int 0, .int 1] = frT (0, 1) from rfl, PL.eqT, eqO_fr]
        have hok := sumF_ok (termsF qs C F s) (0, 1) 1 h3 ⟨by decide, by decide, by decide, by decide⟩
        by_cases hz0 : sumF (termsF qs C F s) = (0, 1)
        · simp [hz0, keptF, hc, hb]
        · simp [hz0]
          refine ⟨.int c, by rw [show ctT C = .dct (kT C) (vT T.int C) from rfl, ixT_dct, hc]; rfl, ?_⟩
          refine .of run_whole ?_
          have hn0 : (sumF (termsF qs C F s)).1 ≠ 0 := fun z => hz0 (sum_zero h3 z)
          refine .of (run_over (fr_whole (hC _ (lookup_mem hc))) hok hn0 (by omega)) ?_
          simp [keptF, hc, hb, hz0]
    · simp [hb, keptF, hc, frT]
end
end KM
/-! the order of the sheets; which sheets hang on which -/
namespace KM
open PySem L2 PL
variable {st : Store}
def Pw {α β : Type} (R : α → β → Prop) : List α → List β → Prop
  | [], [] => True
  | a :: as, b :: bs => R a b ∧ Pw R as bs
  | _, _ => False
theorem Pw.len {α β : Type} {R : α → β → Prop} : ∀ {as : List α} {bs : List β}, Pw R as bs → as.length = bs.length
  | [], [], _ => rfl
  | a :: as, b :: bs, h => by simp [h.2.len]
  | [], _ :: _, h => h.elim
  | _ :: _, [], h => h.elim
theorem Pw.mono {α β : Type} {R S : α → β → Prop} (i : ∀ a b, R a b → S a b) : ∀ {as : List α} {bs : List β}, Pw R as bs → Pw S as bs
  | [], [], _ => trivial
  | a :: as, b :: bs, h => ⟨i _ _ h.1, h.2.mono i⟩
  | [], _ :: _, h => h.elim
  | _ :: _, [], h => h.elim
theorem Pw.rfl' {α : Type} {R : α → α → Prop} (i : ∀ a, R a a) : ∀ {as : List α}, Pw R as as
  | [] => trivial
  | a :: as => ⟨i a, Pw.rfl' i⟩
theorem Pw.trans {α β γ : Type} {R : α → β → Prop} {S : β → γ → Prop} {U : α → γ → Prop} (i : ∀ a b c, R a b → S b c → U a c) : ∀ {as : List α} {bs : List β} {cs : List γ}, Pw R as bs → Pw S bs cs → Pw U as cs
  | [], [], [], _, _ => trivial
  | a :: as, b :: bs, c :: cs, h, k => ⟨i _ _ _ h.1 k.1, h.2.trans i k.2⟩
  | [], [], _ :: _, _, k => k.elim
  | [], _ :: _, _, h, _ => h.elim
  | _ :: _, [], _, h, _ => h.elim
  | _ :: _, _ :: _, [], _, k => k.elim
/-- a sheet of these questions -/
def Shp (qs : Qs) (s : Row) : Prop := Pw (fun (a : Int) (q : Str × Int) => -1 ≤ a ∧ a < q.2) s qs
/-- u is s with some blanks answered -/
def Fil (u s : Row) : Prop := Pw (fun (a b : Int) => a = b ∨ b = -1) u s
abbrev blk (s : Row) : Nat := s.count (-1)
theorem Fil.refl {s : Row} : Fil s s := Pw.rfl' fun _ => .inl rfl
theorem Fil.trans {a b c : Row} (h : Fil a b) (k : Fil b c) : Fil a c := Pw.trans (fun a b c h k => by rcases k with rfl | k; exact h; exact .inr k) h k
theorem Fil.blk : ∀ {u s : Row}, Fil u s → blk u ≤ blk s ∧ (u ≠ s → blk u < blk s)
  | [], [], _ => ⟨Nat.le_refl _, fun h => absurd rfl h⟩
  | a :: u, b :: s, h => by
    obtain ⟨h1, h2⟩ := Fil.blk h.2
    simp only [KM.blk, List.count_cons] at h1 h2 ⊢
    rcases h.1 with e | e
    · subst e
      refine ⟨by omega, fun ne => ?_⟩
      have := h2 fun e => ne (by rw [e])
      omega
    · subst e
      by_cases ha : a = -1
      · subst ha
        refine ⟨by omega, fun ne => ?_⟩
        have := h2 fun e => ne (by rw [e])
        omega
      · simp [ha]
        omega
  | [], _ :: _, h => h.elim
  | _ :: _, [], h => h.elim
theorem mem_grows {least : Int} : ∀ (qs : Qs) (found : List Row) (s : Row), s ∈ rowsF least qs found ↔ ∃ r ∈ found, ∃ u, Pw (fun (a : Int) (q : Str × Int) => least ≤ a ∧ a < q.2) u qs ∧ s = r ++ u
  | [], found, s => by
    simp only [rowsF, List.foldl_nil]
    constructor
    · exact fun h => ⟨s, h, [], trivial, by simp⟩
    · rintro ⟨r, hr, u, hu, rfl⟩
      cases u with
      | nil => simpa using hr
      | cons _ _ => exact hu.elim
  | q :: qs, found, s => by
    have ih := mem_grows (least := least) qs (grow least found q) s
    simp only [rowsF, List.foldl_cons] at ih ⊢
    rw [ih]
    constructor
    · rintro ⟨r, hr, u, hu, rfl⟩
      simp only [grow, List.mem_flatMap, List.mem_map] at hr
      obtain ⟨r0, hr0, a, ha, rfl⟩ := hr
      exact ⟨r0, hr0, a :: u, ⟨mem_rangeI.mp ha, hu⟩, by simp⟩
    · rintro ⟨r, hr, u, hu, rfl⟩
      cases u with
      | nil => exact hu.elim
      | cons a u =>
        refine ⟨r ++ [a], ?_, u, hu.2, by simp⟩
        simp only [grow, List.mem_flatMap, List.mem_map]
        exact ⟨r, hr, a, mem_rangeI.mpr hu.1, rfl⟩
theorem mem_sheets {qs : Qs} {s : Row} : s ∈ allRows (-1) qs ↔ Shp qs s := by
  unfold allRows
  rw [mem_grows]
  simp [Shp]
theorem mem_truths : ∀ (ps : List ((Str × Int) × Int)) (found : List Row) (s : Row), s ∈ ps.foldl growB found → ∃ r ∈ found, ∃ u, Pw (fun (a : Int) p => a ∈ answersF p) u ps ∧ s = r ++ u
  | [], found, s, h => ⟨s, h, [], trivial, by simp⟩
  | p :: ps, found, s, h => by
    obtain ⟨r, hr, u, hu, rfl⟩ := mem_truths ps (growB found p) s h
    simp only [growB, List.mem_flatMap, List.mem_map] at hr
    obtain ⟨r0, hr0, a, ha, rfl⟩ := hr
    exact ⟨r0, hr0, a :: u, ⟨ha, hu⟩, by simp⟩
theorem mem_answers {q : Str × Int} {a b : Int} (h : a ∈ answersF (q, b)) : (b = -1 ∧ 0 ≤ a ∧ a < q.2) ∨ (b ≠ -1 ∧ a = b) := by
  unfold answersF at h
  split at h
  · rename_i e; exact .inl ⟨e, mem_rangeI.mp h⟩
  · rename_i e; exact .inr ⟨e, by simpa using h⟩
/-- a truth behind a sheet, sign by sign -/
theorem truth_at : ∀ {qs : Qs} {s t : Row}, s.length = qs.length → Pw (fun (a : Int) p => a ∈ answersF p) t (qs.zip s) → Fil t s ∧ (Shp qs s → Shp qs t)
  | [], [], [], _, _ => ⟨trivial, fun h => h⟩
  | [], [], _ :: _, _, h => h.elim
  | q :: qs, b :: s, [], _, h => h.elim
  | q :: qs, b :: s, a :: t, hl, h => by
    obtain ⟨h1, h2⟩ := truth_at (qs := qs) (s := s) (t := t) (by simpa using hl) h.2
    rcases mem_answers h.1 with ⟨e1, e2, e3⟩ | ⟨e1, e2⟩
    · exact ⟨⟨.inr e1, h1⟩, fun hs => ⟨⟨by omega, e3⟩, h2 hs.2⟩⟩
    · subst e2
      exact ⟨⟨.inl rfl, h1⟩, fun hs => ⟨hs.1, h2 hs.2⟩⟩
  | [], _ :: _, _, hl, _ => by simp at hl
  | _ :: _, [], _, hl, _ => by simp at hl
/-- a part of the lot blanked in a truth behind -/
theorem part_at : ∀ {qs : Qs} {s t : Row} {part : Lot}, s.length = qs.length → Pw (fun (a : Int) p => a ∈ answersF p) t (qs.zip s) → (∀ p ∈ qs.zip s, p.1.1 ∈ part → p.2 = -1) → Fil (sheetOf qs part t) s ∧ (Shp qs s → Shp qs (sheetOf qs part t)) ∧ ((∀ p ∈ qs.zip s, p.2 = -1 → p.1.1 ∈ part) → sheetOf qs part t = s)
  | [], [], [], _, _, _, _ => ⟨trivial, fun h => h, fun _ => rfl⟩
  | [], [], _ :: _, _, _, h, _ => h.elim
  | q :: qs, b :: s, [], _, _, h, _ => h.elim
  | q :: qs, b :: s, a :: t, part, hl, h, hp => by
    obtain ⟨h1, h2, h3⟩ := part_at (qs := qs) (s := s) (t := t) (part := part) (by simpa using hl) h.2 fun p m => hp p (by rw [List.zip_cons_cons]; exact List.mem_cons_of_mem _ m)
    have hq := hp (q, b) (by rw [List.zip_cons_cons]; exact List.mem_cons_self)
    have e : sheetOf (q :: qs) part (a :: t) = (if q.1 ∈ part then -1 else a) :: sheetOf qs part t := rfl
    rw [e]
    refine ⟨⟨?_, h1⟩, fun hs => ⟨?_, h2 hs.2⟩, fun hb => ?_⟩
    · by_cases c : q.1 ∈ part
      · exact .inr (hq c)
      · rw [if_neg c]
        rcases mem_answers h.1 with ⟨e1, _⟩ | ⟨_, e2⟩
        · exact .inr e1
        · exact .inl e2
    · by_cases c : q.1 ∈ part
      · rw [if_pos c]; have := hs.1; omega
      · rw [if_neg c]
        rcases mem_answers h.1 with ⟨e1, e2, e3⟩ | ⟨_, e2⟩
        · omega
        · subst e2; exact hs.1
    · rw [h3 fun p m => hb p (by rw [List.zip_cons_cons]; exact List.mem_cons_of_mem _ m)]
      have hb0 := hb (q, b) (by rw [List.zip_cons_cons]; exact List.mem_cons_self)
      by_cases c : q.1 ∈ part
      · rw [if_pos c, show b = -1 from hq c]
      · rw [if_neg c]
        rcases mem_answers h.1 with ⟨e1, _⟩ | ⟨_, e2⟩
        · exact absurd (hb0 e1) c
        · rw [e2]
  | [], _ :: _, _, _, hl, _, _ => by simp at hl
  | _ :: _, [], _, _, hl, _, _ => by simp at hl
/-- in a lot stand the names of the blanks -/
theorem lot_at {qs : Qs} (nd : (qs.map (·.1)).Nodup) {s : Row} : ∀ p ∈ qs.zip s, (p.1.1 ∈ lotOf qs s ↔ p.2 = -1) := by
  intro p hp
  constructor
  · intro h
    unfold lotOf at h
    simp only [List.mem_map, List.mem_filter, decide_eq_true_eq] at h
    obtain ⟨p', ⟨hp', e⟩, en⟩ := h
    obtain ⟨i, hi, ei⟩ := List.mem_iff_getElem.mp hp
    obtain ⟨j, hj, ej⟩ := List.mem_iff_getElem.mp hp'
    rw [List.getElem_zip] at ei ej
    simp only [List.length_zip] at hi hj
    have e1 : qs[i]'(by omega) = p.1 := congrArg Prod.fst ei
    have e2 : qs[j]'(by omega) = p'.1 := congrArg Prod.fst ej
    have : i = j := by
      refine (List.getElem_inj (h₀ := by simp; omega) (h₁ := by simp; omega) nd).mp ?_
      rw [List.getElem_map, List.getElem_map, e1, e2, en]
    subst this
    have f1 : s[i]'(by omega) = p.2 := congrArg Prod.snd ei
    have f2 : s[i]'(by omega) = p'.2 := congrArg Prod.snd ej
    rw [← f1, f2, e]
  · intro h
    unfold lotOf
    simp only [List.mem_map, List.mem_filter, decide_eq_true_eq]
    exact ⟨p, ⟨hp, h⟩, rfl⟩
end KM
/-! the weights of counts -/
namespace KM
open PySem L2 PL
variable {st : Store} {qs : Qs} {C C' : Cts} {F : Fnd} {s t o : Row}
structure Shaped (qs : Qs) (s : Row) : Prop where
  sh : Shp qs s
theorem shp_len (h : Shp qs s) : s.length = qs.length := Pw.len h
theorem mem_truthsOf (h : t ∈ truthsOf qs s) : Pw (fun (a : Int) p => a ∈ answersF p) t (qs.zip s) := by
  obtain ⟨r, hr, u, hu, rfl⟩ := mem_truths _ _ _ h
  simp only [List.mem_singleton] at hr
  subst hr
  simpa using hu
theorem truths_fil (hs : Shp qs s) (h : t ∈ truthsOf qs s) : Fil t s ∧ Shp qs t :=
  (truth_at (shp_len hs) (mem_truthsOf h)).imp id fun f => f hs
theorem blanked_at (nd : (qs.map (·.1)).Nodup) (hs : Shp qs s) (ht : t ∈ truthsOf qs s) (ho : o ∈ blankedF qs t (lotOf qs s)) : Fil o s ∧ Shp qs o := by
  unfold blankedF at ho
  simp only [List.mem_map, List.mem_filter] at ho
  obtain ⟨part, ⟨hp, _⟩, rfl⟩ := ho
  have hsub := mem_lotsW hp
  obtain ⟨h1, h2, _⟩ := part_at (part := part) (shp_len hs) (mem_truthsOf ht) fun p m h => (lot_at nd p m).mp (hsub.subset h)
  exact ⟨h1, h2 hs⟩
theorem grow_mem : ∀ (l : Lot) (found : List Lot), (∀ x ∈ found, x ∈ l.foldl growL found) ∧ (∀ x ∈ found, x ++ l ∈ l.foldl growL found)
  | [], found => by simp
  | n :: l, found => by
    obtain ⟨h1, h2⟩ := grow_mem l (growL found n)
    rw [List.foldl_cons]
    exact ⟨fun x hx => h1 x (by simp [growL, hx]), fun x hx => by
      have := h2 (x ++ [n]) (by simp [growL, hx])
      simpa using this⟩
theorem lotsW_nil {l : Lot} : [] ∈ lotsW l := by
  unfold lotsW; rw [List.mem_mergeSort]; exact (grow_mem l [[]]).1 [] (by simp)
theorem lotsW_self {l : Lot} : l ∈ lotsW l := by
  unfold lotsW subs; rw [List.mem_mergeSort]; simpa using (grow_mem l [[]]).2 [] (by simp)
theorem filter_lt {α : Type} {p : α → Bool} {l : List α} {x : α} (hx : x ∈ l) (hp : p x = false) : (l.filter p).length + 1 ≤ l.length := by
  induction l with
  | nil => cases hx
  | cons y ys ih =>
    by_cases hy : p y = true
    · rw [List.filter_cons_of_pos hy]
      rcases List.mem_cons.mp hx with e | hx
      · subst e; rw [hp] at hy; cases hy
      · have := ih hx; simp only [List.length_cons]; omega
    · rw [List.filter_cons_of_neg hy]
      have := List.length_filter_le p ys
      simp only [List.length_cons]; omega
theorem lotOf_len2 (hs : s.length = qs.length) : (lotOf qs s).length = blk s := by
  unfold lotOf
  rw [List.length_map]
  induction qs generalizing s with
  | nil => cases s with
    | nil => rfl
    | cons _ _ => simp at hs
  | cons q qs ih => cases s with
    | nil => simp at hs
    | cons a s =>
      have := ih (s := s) (by simpa using hs)
      simp only [List.zip_cons_cons, blk, List.count_cons] at this ⊢
      by_cases e : a = -1
      · subst e; simp [this]
      · simp [e, this]
theorem parts_len (nd : (qs.map (·.1)).Nodup) (hs : Shp qs s) (ht : t ∈ truthsOf qs s) : (partsF qs F s t).length ≤ 2 ^ blk s - 2 := by
  unfold partsF
  rw [List.length_map]
  by_cases h0 : blk s = 0
  · have e : lotOf qs s = [] := List.eq_nil_of_length_eq_zero (by rw [lotOf_len2 (shp_len hs)]; exact h0)
    have : blankedF qs t [] = [] := by
      have hl : ∀ x ∈ lotsW [], x = [] := fun x hx => by simpa using mem_lotsW hx
      unfold blankedF
      rw [List.filter_eq_nil_iff.mpr fun x hx => by simp [hl x hx]]
      rfl
    rw [e, this]
    simp
  · have h1 := filter_lt (p := fun p => !decide (p = ([] : Lot))) (lotsW_nil (l := lotOf qs s)) (by simp)
    have hne : lotOf qs s ≠ [] := fun e => h0 (by rw [← lotOf_len2 (shp_len hs), e]; rfl)
    have hself : s ∈ blankedF qs t (lotOf qs s) := by
      unfold blankedF
      simp only [List.mem_map, List.mem_filter]
      refine ⟨lotOf qs s, ⟨lotsW_self, by simpa using hne⟩, ?_⟩
      exact (part_at (shp_len hs) (mem_truthsOf ht) fun p m h => (lot_at nd p m).mp h).2.2 fun p m h => (lot_at nd p m).mpr h
    have h2 := filter_lt (p := fun o => !decide (o = s)) hself (by simp)
    have h3 : (blankedF qs t (lotOf qs s)).length = ((lotsW (lotOf qs s)).filter fun p => !decide (p = [])).length := by unfold blankedF; rw [List.length_map]
    rw [lotsW_len, lotOf_len2 (shp_len hs)] at h1
    omega
theorem truths_len2 {m : Nat} (hm : ∀ q ∈ qs, q.2 ≤ m) (hs : s.length = qs.length) : (truthsOf qs s).length ≤ m ^ blk s := by
  have key : ∀ (qs : Qs) (s : Row) (found : List Row), (∀ q ∈ qs, q.2 ≤ m) → s.length = qs.length → ((qs.zip s).foldl growB found).length ≤ found.length * m ^ blk s := by
    intro qs
    induction qs with
    | nil => intro s found _ h; cases s with
      | nil => simp
      | cons _ _ => simp at h
    | cons q qs ih =>
      intro s found h1 h2
      cases s with
      | nil => simp at h2
      | cons a s =>
        rw [List.zip_cons_cons, List.foldl_cons]
        refine Nat.le_trans (ih s _ (fun z m => h1 z (List.mem_cons_of_mem _ m)) (by simpa using h2)) ?_
        rw [growB_len]
        simp only [blk, List.count_cons]
        have hq := h1 q List.mem_cons_self
        by_cases e : a = -1
        · subst e
          have : (answersF (q, -1)).length ≤ m := by simp [answersF]; omega
          simp only [beq_self_eq_true, if_true, Nat.pow_succ]
          rw [Nat.mul_assoc, Nat.mul_comm (m ^ _)]
          exact Nat.mul_le_mul_left _ (Nat.mul_le_mul_right _ this)
        · have : (answersF (q, a)).length = 1 := by simp [answersF, e]
          simp [e, this]
  unfold truthsOf; simpa using key qs s [[]] hm hs
/-- bits of a weight of so many blanks -/
def bnd (m : Nat) : Nat → Nat
  | 0 => 1
  | k + 1 => 3 + (1 + m ^ (k + 1) * (3 + (1 + (2 ^ (k + 1) - 2) * bnd m k) + 1))
theorem bnd_mono1 {m k : Nat} (hm : 2 ≤ m) : bnd m k ≤ bnd m (k + 1) := by
  induction k with
  | zero => simp [bnd]; omega
  | succ k ih =>
    have p1 : m ^ (k + 1) ≤ m ^ (k + 2) := Nat.pow_le_pow_right (by omega) (by omega)
    have p2 : 2 ^ (k + 1) - 2 ≤ 2 ^ (k + 2) - 2 := by
      have : 2 ^ (k + 1) ≤ 2 ^ (k + 2) := Nat.pow_le_pow_right (by omega) (by omega)
      omega
    have := Nat.mul_le_mul p2 ih
    have := Nat.mul_le_mul p1 (show 3 + (1 + (2 ^ (k + 1) - 2) * bnd m k) + 1 ≤ 3 + (1 + (2 ^ (k + 2) - 2) * bnd m (k + 1)) + 1 by omega)
    show 3 + (1 + m ^ (k + 1) * (3 + (1 + (2 ^ (k + 1) - 2) * bnd m k) + 1)) ≤ 3 + (1 + m ^ (k + 2) * (3 + (1 + (2 ^ (k + 2) - 2) * bnd m (k + 1)) + 1))
    omega
theorem bnd_mono {m j k : Nat} (hm : 2 ≤ m) (h : j ≤ k) : bnd m j ≤ bnd m k := by
  obtain ⟨d, rfl⟩ := Nat.exists_eq_add_of_le h
  clear h
  induction d with
  | zero => exact Nat.le_refl _
  | succ d ih => exact Nat.le_trans ih (bnd_mono1 hm)
/-- few questions -/
structure Few (qs : Qs) (m : Nat) : Prop extends QsOk qs where
  m2 : 2 ≤ m
  many2 : ∀ q ∈ qs, q.2 ≤ m
  small : bnd m qs.length ≤ 9000
theorem blk_le : blk s ≤ s.length := List.count_le_length
theorem few_run {m j : Nat} (hq : Few qs m) (hs : Shp qs s) (hst : st[j]? = some (.one (.dct (kT F) (vT frT F)))) (hC : ∀ p ∈ C, 0 ≤ p.2 ∧ p.2 < 8) (hF : ∀ o, Fil o s → Shp qs o → blk o < blk s → ∃ x, F.lookup o = some x ∧ FrOk (bnd m (blk o)) x) :
    f_kept_weight [formT qs, ctT C, .cell j, rowT s] st = some (.ok (frT (keptF qs C F s)), st) ∧ FrOk (bnd m (blk s)) (keptF qs C F s) := by
  have hb := Nat.le_trans (bnd_mono hq.m2 (Nat.le_trans (blk_le (s := s)) (Nat.le_of_eq (shp_len hs)))) hq.small
  have hT := truths_len2 (s := s) hq.many2 (shp_len hs)
  by_cases h0 : blk s = 0
  · have hP : ∀ t ∈ truthsOf qs s, (partsF qs F s t).length ≤ 0 := fun t ht => by
      have := parts_len (F := F) hq.nd hs ht
      rw [h0] at this
      simpa using this
    have hF' : ∀ t ∈ truthsOf qs s, ∀ o ∈ blankedF qs t (lotOf qs s), o ≠ s → ∃ x, F.lookup o = some x ∧ FrOk 0 x := fun t ht o ho hne => by
      have := (blanked_at hq.nd hs ht ho).1.blk.2 hne
      rw [h0] at this
      exact absurd this (Nat.not_lt_zero _)
    rw [h0, Nat.pow_zero] at hT
    refine ⟨run_kept (n := 0) (P := 0) (M := 1) hq.toQsOk hst hC hF' hP hT (show 3 + (1 + 1 * (3 + (1 + 0 * 0) + 1)) ≤ 9000 by decide), ?_⟩
    rw [h0]
    have hn : ¬ -1 ∈ s := fun h => absurd (List.count_pos_iff.mpr h) (by rw [show s.count (-1) = 0 from h0]; exact Nat.lt_irrefl _)
    show FrOk 1 _
    unfold keptF
    split
    · exact ⟨by decide, by decide, by decide, by decide⟩
    · rw [if_neg hn]; exact ⟨by decide, by decide, by decide, by decide⟩
  · obtain ⟨k, hk⟩ : ∃ k, blk s = k + 1 := ⟨blk s - 1, by omega⟩
    have hP : ∀ t ∈ truthsOf qs s, (partsF qs F s t).length ≤ 2 ^ (k + 1) - 2 := fun t ht => by
      have := parts_len (F := F) hq.nd hs ht
      rwa [hk] at this
    have hF' : ∀ t ∈ truthsOf qs s, ∀ o ∈ blankedF qs t (lotOf qs s), o ≠ s → ∃ x, F.lookup o = some x ∧ FrOk (bnd m k) x := fun t ht o ho hne => by
      obtain ⟨f, sh⟩ := blanked_at hq.nd hs ht ho
      have hlt := f.blk.2 hne
      obtain ⟨x, e, hx⟩ := hF o f sh hlt
      exact ⟨x, e, hx.mono (bnd_mono hq.m2 (by omega))⟩
    rw [hk] at hT hb ⊢
    exact ⟨run_kept (n := bnd m k) (P := 2 ^ (k + 1) - 2) (M := m ^ (k + 1)) hq.toQsOk hst hC hF' hP hT hb, kept_ok hC hF' hP hT⟩
/-! the weight by itself -/
def partsG (qs : Qs) (f : Row → Int × Int) (s t : Row) : List (Int × Int) := ((blankedF qs t (lotOf qs s)).filter fun o => !decide (o = s)).map f
def termsG (qs : Qs) (C : Cts) (f : Row → Int × Int) (s : Row) : List (Int × Int) := (truthsOf qs s).filterMap fun t => (C.lookup t).map fun m => timesF (m, 1) (prodF (partsG qs f s t))
def keptG (qs : Qs) (C : Cts) (f : Row → Int × Int) (s : Row) : Int × Int := match C.lookup s with
  | none => (0, 1)
  | some c => if -1 ∈ s then (if sumF (termsG qs C f s) = (0, 1) then (0, 1) else overF (c, 1) (sumF (termsG qs C f s))) else (1, 1)
theorem keptF_G : keptF qs C F s = keptG qs C (fun o => (F.lookup o).getD (0, 1)) s := rfl
theorem filterMap_congr' {α β : Type} {f g : α → Option β} {l : List α} (h : ∀ x ∈ l, f x = g x) : l.filterMap f = l.filterMap g := by
  induction l with
  | nil => rfl
  | cons x xs ih => rw [List.filterMap_cons, List.filterMap_cons, h x List.mem_cons_self, ih fun z m => h z (List.mem_cons_of_mem _ m)]
/-- it hangs on the counts behind, and the weights behind -/
theorem keptG_congr (nd : (qs.map (·.1)).Nodup) (hs : Shp qs s) {f f' : Row → Int × Int} (h1 : ∀ u, Fil u s → C.lookup u = C'.lookup u) (h2 : ∀ o, Fil o s → Shp qs o → blk o < blk s → f o = f' o) : keptG qs C f s = keptG qs C' f' s := by
  have e : termsG qs C f s = termsG qs C' f' s := by
    unfold termsG
    refine filterMap_congr' fun t ht => ?_
    rw [h1 t (truths_fil hs ht).1]
    have : partsG qs f s t = partsG qs f' s t := by
      unfold partsG
      refine List.map_congr_left fun o ho => ?_
      obtain ⟨ho, hne⟩ := List.mem_filter.mp ho
      obtain ⟨fo, sh⟩ := blanked_at nd hs ht ho
      exact h2 o fo sh (fo.blk.2 (by simpa using hne))
    rw [this]
  unfold keptG
  rw [h1 s .refl, e]
def Wt (qs : Qs) (C : Cts) : Nat → Row → Int × Int
  | 0, s => keptG qs C (fun _ => (0, 1)) s
  | k + 1, s => keptG qs C (Wt qs C k) s
theorem Wt_congr (nd : (qs.map (·.1)).Nodup) : ∀ (j k : Nat) (s : Row), Shp qs s → blk s ≤ j → blk s ≤ k → (∀ u, Fil u s → C.lookup u = C'.lookup u) → Wt qs C j s = Wt qs C' k s
  | 0, 0, s, hs, hj, hk, h => keptG_congr nd hs h fun o _ _ ho => by omega
  | 0, k + 1, s, hs, hj, hk, h => keptG_congr nd hs h fun o _ _ ho => by omega
  | j + 1, 0, s, hs, hj, hk, h => keptG_congr nd hs h fun o _ _ ho => by omega
  | j + 1, k + 1, s, hs, hj, hk, h => keptG_congr nd hs h fun o fo sh ho => Wt_congr nd j k o sh (by omega) (by omega) fun u hu => h u (hu.trans fo)
def Wg (qs : Qs) (C : Cts) (s : Row) : Int × Int := Wt qs C (blk s) s
theorem Wg_congr (nd : (qs.map (·.1)).Nodup) (hs : Shp qs s) (h : ∀ u, Fil u s → C.lookup u = C'.lookup u) : Wg qs C s = Wg qs C' s := Wt_congr nd _ _ s hs (Nat.le_refl _) (Nat.le_refl _) h
/-- what the weights are -/
theorem Wg_eq (nd : (qs.map (·.1)).Nodup) (hs : Shp qs s) : Wg qs C s = keptG qs C (Wg qs C) s := by
  unfold Wg
  cases h : blk s with
  | zero => exact keptG_congr nd hs (fun _ _ => rfl) fun o _ _ ho => by omega
  | succ k => exact keptG_congr nd hs (fun _ _ => rfl) fun o _ sh ho => Wt_congr nd _ _ o sh (by omega) (Nat.le_refl _) fun _ _ => rfl
end KM
/-! the order of the sheets, dicts filled -/
namespace KM
open PySem L2 PL
variable {st : Store}
theorem rowI_row {r : Row} : rowI (rowT r) = some r := by
  show intsOf (r.map T.int) = some r
  induction r with
  | nil => rfl
  | cons i r ih => simp [intsOf, ih]
def leR (a b : Row) : Bool := leK (-1) (rowT a) (rowT b)
theorem leR_total : PySem.W.TotalLe leR := by
  have h := PySem.W.sortLe_total (PyProof.Rows.listOrd PyProof.Rows.itemOrd) false fun b : Row => PySem.W.keyToks (keyT (-1) (rowT b))
  exact h
theorem count_P (r : Row) : (r.countP fun i => decide (i = -1)) = blk r := by
  unfold blk List.count
  congr 1
theorem leR_blk {a b : Row} (h : leR a b = true) : blk a ≤ blk b := by
  refine Nat.le_of_not_lt fun hlt => ?_
  have e : ∀ r : Row, PySem.W.keyToks (keyT (-1) (rowT r)) = .inl 1 :: .inl (blk r : Int) :: PySem.W.keyToksAll [.tuple (r.map PyData.int)] := fun r => by
    simp [keyT, rowI_row, keyD, PySem.W.keyToks, PySem.W.keyToksAll, count_P]
  have h1 : (!PyProof.Rows.lexLt PyProof.Rows.itemOrd (PySem.W.keyToks (keyT (-1) (rowT b))) (PySem.W.keyToks (keyT (-1) (rowT a)))) = true := h
  rw [e, e] at h1
  simp [PyProof.Rows.lexLt, PyProof.Rows.itemOrd, PyProof.Rows.itemLt] at h1
  omega
def orderF (rows : List Row) : List Row := rows.mergeSort leR
theorem run_by_blanks {rows : List Row} (h1 : rows.length ≤ 1000000) (h2 : ∀ r ∈ rows, r.length ≤ 1000000) : f_by_blanks [.tup (rows.map rowT)] st = some (.ok (.lst ((orderF rows).map rowT)), st) := by
  have e : sortK (-1) (rows.map rowT) = some ((orderF rows).map rowT) := by
    unfold sortK
    rw [if_pos]
    · rw [orderF, ← List.map_mergeSort (r := leR) (s := leK (-1)) (f := rowT) fun _ _ _ _ => rfl]
    · refine ⟨by simpa using h1, List.all_eq_true.mpr fun t ht => ?_⟩
      obtain ⟨r, hr, rfl⟩ := List.mem_map.mp ht
      simp only [rowI_row, decide_eq_true_eq]
      exact h2 r hr
  rw [← ev_eq]
  unfold f_by_blanks m_by_blanks
  rw [ev_def]
  simp [PL.rowsOf, e]
theorem order_before {rows : List Row} {pre post : List Row} {s o : Row} (e : orderF rows = pre ++ s :: post) (ho : o ∈ rows) (hb : blk o < blk s) : o ∈ pre := by
  have hm : o ∈ orderF rows := List.mem_mergeSort.mpr ho
  rw [e] at hm
  rcases List.mem_append.mp hm with h | h
  · exact h
  · rcases List.mem_cons.mp h with h | h
    · subst h; omega
    · have hp := PySem.W.sort_pairwise leR_total rows
      rw [show rows.mergeSort leR = pre ++ s :: post from e] at hp
      have := (List.pairwise_append.mp hp).2.1
      have := leR_blk ((List.pairwise_cons.mp this).1 o h)
      omega
/-! filling a dict -/
section
variable {β : Type} {g : β → T} {F : List (Row × β)} {r x : Row} {b : β}
def putA : List (Row × β) → Row → β → List (Row × β)
  | [], r, b => [(r, b)]
  | (a, c) :: F, r, b => if a = r then (a, b) :: F else (a, c) :: putA F r b
theorem dPut_row : dPut (kT F) (vT g F) (rowT r) (g b) = (kT (putA F r b), vT g (putA F r b)) := by
  unfold dPut
  rw [dHas_row]
  induction F with
  | nil => rfl
  | cons p F ih =>
    obtain ⟨a, c⟩ := p
    rw [List.lookup_cons]
    by_cases h : a = r
    · subst h
      simp [putA, kT, vT, dSetV]
    · rw [show (r == a) = false from by simpa using fun e => h e.symm]
      simp only [putA, if_neg h]
      have e1 : kT ((a, c) :: F) = rowT a :: kT F := rfl
      have e2 : vT g ((a, c) :: F) = g c :: vT g F := rfl
      have e3 : kT ((a, c) :: putA F r b) = rowT a :: kT (putA F r b) := rfl
      have e4 : vT g ((a, c) :: putA F r b) = g c :: vT g (putA F r b) := rfl
      rw [e1, e2, e3, e4]
      by_cases hs : (F.lookup r).isSome = true
      · simp only [hs, if_true] at ih ⊢
        injection ih with i1 i2
        rw [← i1, ← i2]
        simp [dSetV, h]
      · simp only [hs, if_false] at ih ⊢
        injection ih with i1 i2
        rw [← i1, ← i2]
        simp
theorem lookup_put : (putA F r b).lookup x = if x = r then some b else F.lookup x := by
  induction F with
  | nil => simp [putA, List.lookup_cons]; split <;> simp_all
  | cons p F ih =>
    obtain ⟨a, c⟩ := p
    simp only [putA]
    by_cases h : a = r
    · subst h
      simp only [if_true, List.lookup_cons]
      by_cases e : x = a
      · subst e; simp
      · rw [show (x == a) = false from by simpa using e, if_neg e]
    · simp only [if_neg h, List.lookup_cons, ih]
      by_cases e : x = a
      · subst e; simp [h]
      · rw [show (x == a) = false from by simpa using e]
theorem put_len : (putA F r b).length ≤ F.length + 1 := by
  induction F with
  | nil => simp [putA]
  | cons p F ih =>
    obtain ⟨a, c⟩ := p
    simp only [putA]
    split
    · simp
    · simp only [List.length_cons]; omega
theorem put_new (h : r ∉ F.map (·.1)) : putA F r b = F ++ [(r, b)] := by
  induction F with
  | nil => rfl
  | cons p F ih =>
    obtain ⟨a, c⟩ := p
    simp only [List.map_cons, List.mem_cons, not_or] at h
    simp only [putA, if_neg (Ne.symm h.1), ih h.2, List.cons_append]
theorem mem_put {p : Row × β} (h : p ∈ putA F r b) : p = (r, b) ∨ p ∈ F := by
  induction F with
  | nil => simpa [putA] using h
  | cons q F ih =>
    obtain ⟨a, c⟩ := q
    simp only [putA] at h
    split at h
    · rename_i e
      rcases List.mem_cons.mp h with h | h
      · subst e; exact .inl h
      · exact .inr (List.mem_cons_of_mem _ h)
    · rcases List.mem_cons.mp h with h | h
      · exact .inr (by rw [h]; exact List.mem_cons_self)
      · rcases ih h with h | h
        · exact .inl h
        · exact .inr (List.mem_cons_of_mem _ h)
theorem kT_pure : T.pures (kT F) = true := pures_map fun _ _ => rowT_pure
theorem vT_pure (h : ∀ b, (g b).pure = true) : T.pures (vT g F) = true := pures_map fun _ _ => h _
/-- known[r] = b -/
theorem putIt_row {j : Nat} (hs : st[j]? = some (.one (.dct (kT F) (vT g F)))) (hg : ∀ b, (g b).pure = true) (hl : F.length < 1000000) : putIt st (.cell j) (rowT r) (g b) = some (st.set j (.one (.dct (kT (putA F r b)) (vT g (putA F r b))))) := by
  have h1 : rclSet st (.cell j) (rowT r) (g b) = none := by simp [rclSet, rowT]
  have h2 : m0At st (.cell j) = some (.dct (kT F) (vT g F)) := by simp [m0At, hs]
  have h3 : (kT F).length = F.length := by simp [kT]
  unfold putIt
  rw [h1, h2]
  simp only [dPut_row, dkey_row, h3, hl, rowT_pure, vT_pure hg, kT_pure, decide_true, Bool.and_self, if_true, putM]
end
/-! dict comprehensions -/
section
variable {env : En} {Qn : M0 → Store → Prop}
theorem ev_dc {mi : M (List T)} {g : GM} {n : M Bool} {mk mv : M T} {vs : List Nat} : Ev (mDc mi g n mk mv vs env st) Qn ↔ Ev (mi env st) fun items s => EvA (dcF g n mk mv items ([], []) (wipeE env vs) s) fun acc s => Qn (.dct acc.1 acc.2) s := by
  unfold mDc
  rw [ev_bnd]
  constructor
  · refine fun h => h.mono fun items s q => ?_
    split at q
    · rename_i acc s2 e; exact ⟨acc, s2, e, ev_ok.mp q⟩
    · simp at q
  · refine fun h => h.mono fun items s ⟨acc, s2, e, q⟩ => ?_
    simp only [e, ev_ok]; exact q
theorem dc_pure {g : GM} {mk mv : M T} {α β : Type} {v : β → T} (f : α → T) (k : α → Row) (y : α → β) (xs : List α) (F : List (Row × β)) (hl : F.length + xs.length ≤ 1000000)
    (h : ∀ x ∈ xs, EvG (g (f x) env st) fun e s => s = st ∧ Ev (mk e s) fun z s => (z = rowT (k x) ∧ s = st) ∧ Ev (mv e s) fun z s => z = v (y x) ∧ s = st) :
    dcF g (fun _ st => ok true st) mk mv (xs.map f) (kT F, vT v F) env st = some ((kT (xs.foldl (fun F x => putA F (k x) (y x)) F), vT v (xs.foldl (fun F x => putA F (k x) (y x)) F)), st) := by
  induction xs generalizing F with
  | nil => simp [dcF]
  | cons x xs ih =>
    obtain ⟨e, s, e1, rfl, z, s2, e2, ⟨rfl, rfl⟩, z2, s3, e3, rfl, rfl⟩ := h x List.mem_cons_self
    simp only [List.length_cons] at hl
    rw [List.map_cons]
    unfold dcF lcTurn
    have hk : (kT F).length < 1000000 := by simp [kT]; omega
    simp only [e1, ok, dcElt, e2, e3, dkey_row, hk, and_self, if_true, dPut_row]
    have := ih (putA F (k x) (y x)) (by have := put_len (F := F) (r := k x) (b := y x); omega) fun z m => h z (List.mem_cons_of_mem _ m)
    simp only [ok] at this
    rw [this]
    rfl
theorem Ev.dcM {mi : M (List T)} {g : GM} {mk mv : M T} {vs : List Nat} {α β : Type} {v : β → T} (f : α → T) (k : α → Row) (y : α → β) (hm : Ev (mi env st) fun items s => ∃ xs : List α, items = xs.map f ∧ xs.length ≤ 1000000 ∧
    (∀ x ∈ xs, EvG (g (f x) (wipeE env vs) s) fun e s' => s' = s ∧ Ev (mk e s') fun z s' => (z = rowT (k x) ∧ s' = s) ∧ Ev (mv e s') fun z s' => z = v (y x) ∧ s' = s) ∧ Qn (.dct (kT (xs.foldl (fun F x => putA F (k x) (y x)) [])) (vT v (xs.foldl (fun F x => putA F (k x) (y x)) []))) s) :
    Ev (mDc mi g (fun _ st => ok true st) mk mv vs env st) Qn := by
  rw [ev_dc]
  refine hm.mono fun items s ⟨xs, e, hl, hx, q⟩ => ?_
  subst e
  exact ⟨_, _, dc_pure f k y xs [] (by simpa using hl) hx, q⟩
end
end KM
/-! weights_by -/
namespace KM
open PySem L2 PL
variable {st : Store} {qs : Qs} {s o : Row}
abbrev WPair := Row × (Int × Int)
def wpT (p : WPair) : T := .tup [rowT p.1, frT p.2]
def cpT (p : Row × Int) : T := .tup [rowT p.1, .int p.2]
def ctsT (l : Cts) : T := .tup (l.map cpT)
def dictOf (l : Cts) : Cts := l.foldl (fun F p => putA F p.1 p.2) []
def sortedS (rows : List Row) : List Row := rows.mergeSort fun a b => T.leD (rowT a) (rowT b)
def listedF (rows : List Row) (W : Row → Int × Int) : List WPair := ((sortedS rows).filter fun s => decide (-1 ∈ s) && !decide (W s = (0, 1))).map fun s => (s, W s)
@[simp] theorem deref_cts {l : Cts} : deref st (ctsT l) = ctsT l := rfl
@[simp] theorem wpT_pure {p : WPair} : (wpT p).pure = true := by simp [wpT]
theorem neT_fr {x y : Int × Int} : PL.neT st (frT x) (frT y) = some (.bl (!decide (x = y))) := by simp [PL.neT, eqO_fr]
theorem lookup_map {β : Type} {f : Row → β} : ∀ {rows : List Row}, s ∈ rows → (rows.map fun r => (r, f r)).lookup s = some (f s)
  | [], h => by cases h
  | r :: rows, h => by
    rw [List.map_cons, List.lookup_cons]
    by_cases e : s = r
    · subst e; simp
    · rw [show (s == r) = false from by simpa using e]
      rcases List.mem_cons.mp h with h | h
      · exact absurd h e
      · exact lookup_map h
theorem srtOk_rows {rows : List Row} (h : rows.length ≤ 1000000) : srtOk (rows.map rowT) = true :=
  srtOk_map h (fun _ _ => dat_row) (fun a _ b _ => alike_row a b) fun _ _ => rfl
theorem kT_map {β : Type} {f : Row → β} {rows : List Row} : kT (rows.map fun r => (r, f r)) = rows.map rowT := by simp [kT, Function.comp_def]
theorem run_listed {j : Nat} {rows : List Row} {W : Row → Int × Int} (hs : st[j]? = some (.one (.dct (kT (rows.map fun r => (r, W r))) (vT frT (rows.map fun r => (r, W r)))))) (hl : rows.length ≤ 1000000) : f_listed [.cell j] st = some (.ok (.tup ((listedF rows W).map wpT)), st) := by
  have hd := deref_one hs
  have hk := look_one hs
  rw [← ev_eq]
  unfold f_listed m_listed
  rw [ev_def]
  simp
  refine Ev.lcP rowT (fun s => decide (-1 ∈ s) && !decide (W s = (0, 1))) (fun s => wpT (s, W s)) ?_
  simp [hd]
  refine ⟨.lst ((sortedS rows).map rowT), ?_, ?_⟩
  · simp only [sortedA, hk, M0.t, kT_map, srtOk_rows hl, if_true, srtT_map, sortedS]
  · refine ⟨_, rfl, sortedS rows, rfl, by unfold sortedS; rw [List.length_mergeSort]; exact hl, ?_, ?_⟩
    · intro r hr
      have hr' : r ∈ rows := List.mem_mergeSort.mp hr
      have hi : ixT st (.cell j) (rowT r) = some (frT (W r)) := by rw [ixT_cell hs, lookup_map hr']; rfl
      simp [wipeE, Tg.sem, inA_row, hd, hi]
      rw [show T.tup [.int 0, .int 1] = frT (0, 1) from rfl]
      simp only [neT_fr]
      by_cases h1 : -1 ∈ r
      · by_cases h2 : W r = (0, 1)
        · simp [h1, h2]
        · simp [h1, h2, hd, hi, wpT]
      · simp [h1]
    · simp [tupleT, seqO, listedF, Function.comp_def]
      exact pures_map fun _ _ => wpT_pure
theorem nodup_rangeI {lo hi : Int} : (rangeI lo hi).Nodup := by
  unfold rangeI List.Nodup
  rw [List.pairwise_map]
  exact (List.nodup_range).imp fun h e => h (by omega)
theorem nodup_rows {least : Int} : ∀ (qs : Qs) (found : List Row), found.Nodup → (rowsF least qs found).Nodup
  | [], found, h => h
  | q :: qs, found, h => by
    refine nodup_rows qs (grow least found q) ?_
    unfold grow List.Nodup
    rw [List.pairwise_flatMap]
    refine ⟨fun r _ => ?_, h.imp fun {a b} hne x hx y hy e => ?_⟩
    · rw [List.pairwise_map]
      exact nodup_rangeI.imp fun hne e => hne (by simpa using e)
    · obtain ⟨i, _, rfl⟩ := List.mem_map.mp hx
      obtain ⟨k, _, rfl⟩ := List.mem_map.mp hy
      exact hne (List.append_inj' e rfl).1
theorem nodup_sheets : (allRows (-1) qs).Nodup := nodup_rows qs [[]] (by simp)
theorem sheets_len (hq : QsOk qs) : (allRows (-1) qs).length ≤ 1000000 := by
  have key : ∀ (qs : Qs) (found : List Row), (∀ q ∈ qs, q.2 ≤ 9) → (rowsF (-1) qs found).length ≤ found.length * 10 ^ qs.length := by
    intro qs
    induction qs with
    | nil => intro found _; simp [rowsF]
    | cons q qs ih =>
      intro found h
      have := ih (grow (-1) found q) fun z m => h z (List.mem_cons_of_mem _ m)
      rw [grow_len] at this
      have hq := h q List.mem_cons_self
      have e : found.length * (q.2 - -1).toNat ≤ found.length * 10 := Nat.mul_le_mul_left _ (by omega)
      have e2 := Nat.mul_le_mul_right (10 ^ qs.length) e
      rw [List.length_cons, Nat.pow_succ]
      show (rowsF (-1) qs (grow (-1) found q)).length ≤ _
      rw [Nat.mul_comm (10 ^ qs.length), ← Nat.mul_assoc]
      omega
  have := key qs [[]] fun q m => by have := hq.many q m; omega
  have h2 : 10 ^ qs.length ≤ 10 ^ 4 := Nat.pow_le_pow_right (by decide) hq.len
  unfold allRows
  simp only [List.length_singleton] at this
  omega
theorem run_all_sheets (hq : QsOk qs) : f_all_sheets [formT qs] st = some (.ok (.tup ((allRows (-1) qs).map rowT)), st) := by
  rw [← ev_eq]
  unfold f_all_sheets m_all_sheets
  rw [ev_def]
  simp
  refine .of (run_rows (by decide) (fun q m => by have := hq.many q m; omega) hq.len) ?_
  simp
theorem dictOf_mem {l : Cts} {p : Row × Int} (h : p ∈ dictOf l) : p ∈ l := by
  have key : ∀ (l F : Cts), p ∈ l.foldl (fun F p => putA F p.1 p.2) F → p ∈ F ∨ p ∈ l := by
    intro l
    induction l with
    | nil => intro F h; exact .inl h
    | cons q l ih =>
      intro F h
      rcases ih _ h with h | h
      · rcases mem_put h with h | h
        · exact .inr (by rw [h]; exact List.mem_cons_self)
        · exact .inl h
      · exact .inr (List.mem_cons_of_mem _ h)
  rcases key l [] h with h | h
  · cases h
  · exact h
def weightsF (qs : Qs) (l : Cts) : List WPair := listedF (orderF (allRows (-1) qs)) (Wg qs (dictOf l))
theorem run_weights {m : Nat} {l : Cts} (hq : Few qs m) (hl : l.length ≤ 1000000) (hC : ∀ p ∈ l, 0 ≤ p.2 ∧ p.2 < 8) : f_weights_by [formT qs, ctsT l] st = some (.ok (.tup ((weightsF qs l).map wpT)), st) := by
  have hC' : ∀ p ∈ dictOf l, 0 ≤ p.2 ∧ p.2 < 8 := fun p hp => hC p (dictOf_mem hp)
  rw [← ev_eq]
  unfold f_weights_by m_weights_by
  rw [ev_def]
  simp
  refine Ev.dcM (v := T.int) cpT (fun p => p.1) (fun p => p.2) ?_
  simp [ctsT]
  refine ⟨l, rfl, hl, fun r i hp => ?_, ?_⟩
  · refine evG_tup2 ?_
    simp [wipeE]
  refine ⟨rfl, ?_⟩
  have hlen := sheets_len hq.toQsOk
  refine .of (run_all_sheets hq.toQsOk) ?_
  refine .of (run_by_blanks hlen fun r hr => ?_) ?_
  · have := shp_len (mem_sheets.mp hr); have := hq.len; omega
  refine ⟨_, rfl, ?_⟩
  have hfold : (l.foldl (fun F x => putA F x.1 x.2) [] : Cts) = dictOf l := rfl
  simp only [M0.t]
  rw [hfold]
  refine EvS.loopI rowT (fun rest env s' => ∃ (pre : List Row) (j4 j5 : Option T), orderF (allRows (-1) qs) = pre ++ rest ∧ s' = st ++ [.one (.dct (kT (pre.map fun s => (s, Wg qs (dictOf l) s))) (vT frT (pre.map fun s => (s, Wg qs (dictOf l) s))))] ∧
    env = [some (formT qs), some (.tup (l.map cpT)), some (ctT (dictOf l)), some (.cell st.length), j4, j5] ∧ ∀ o ∈ pre, FrOk (bnd m (blk o)) (Wg qs (dictOf l) o)) ?_ ?_ ?_
  · exact ⟨[], none, none, rfl, rfl, rfl, by simp⟩
  · rintro s rest env s' ⟨pre, j4, j5, e, rfl, rfl, hw⟩
    have hs : Shp qs s := mem_sheets.mp (List.mem_mergeSort.mp (show s ∈ orderF (allRows (-1) qs) by rw [e]; simp))
    have hF : ∀ o, Fil o s → Shp qs o → blk o < blk s → ∃ x, (pre.map fun s => (s, Wg qs (dictOf l) s)).lookup o = some x ∧ FrOk (bnd m (blk o)) x := fun o _ so ho => by
      have hp := order_before e (mem_sheets.mpr so) ho
      exact ⟨_, lookup_map hp, hw o hp⟩
    obtain ⟨h1, h2⟩ := few_run (C := dictOf l) (F := pre.map fun s => (s, Wg qs (dictOf l) s)) (st := st ++ [.one (.dct (kT (pre.map fun s => (s, Wg qs (dictOf l) s))) (vT frT (pre.map fun s => (s, Wg qs (dictOf l) s))))]) (j := st.length) hq hs at_top hC' hF
    have hv : keptF qs (dictOf l) (pre.map fun s => (s, Wg qs (dictOf l) s)) s = Wg qs (dictOf l) s := by
      rw [Wg_eq hq.nd hs, keptF_G]
      refine keptG_congr hq.nd hs (fun _ _ => rfl) fun o _ so ho => ?_
      rw [lookup_map (order_before e (mem_sheets.mpr so) ho)]; rfl
    rw [hv] at h1 h2
    have hsz : pre.length ≤ 1000000 - 1 := by
      have := congrArg List.length e
      have h3 : (orderF (allRows (-1) qs)).length = (allRows (-1) qs).length := List.length_mergeSort _
      rw [List.length_append, List.length_cons] at this
      omega
    simp
    refine .of h1 ?_
    refine EvG.set_ ?_
    simp
    have hnew : s ∉ (pre.map fun s => (s, Wg qs (dictOf l) s)).map (·.1) := fun hm => by
      have nd : (orderF (allRows (-1) qs)).Nodup := (List.mergeSort_perm _ _).nodup_iff.mpr nodup_sheets
      rw [e] at nd
      have := (List.nodup_append.mp nd).2.2 s (by simpa using hm) s List.mem_cons_self
      exact this rfl
    refine ⟨_, putIt_row at_top (fun _ => frT_pure) (by rw [List.length_map]; omega), ?_⟩
    refine ⟨pre ++ [s], by simp [e], ?_, fun o ho => ?_⟩
    · rw [put_new hnew]
      simp [List.set_append]
    · rcases List.mem_append.mp ho with h | h
      · exact hw o h
      · rw [List.mem_singleton] at h; subst h; exact h2
  · rintro env s' ⟨pre, j4, j5, e, rfl, rfl, hw⟩
    rw [List.append_nil] at e
    subst e
    simp
    refine .of (run_listed at_top (by rw [orderF, List.length_mergeSort]; exact hlen)) ?_
    simp [weightsF]
    exact pures_map fun _ _ => wpT_pure
end KM
/-! draws -/
namespace KM
open PySem L2 PL
variable {st : Store}
def dealMO (cells : List Int) (mix : Int) : MO := .rcl [.own 0 (.lst (cells.map .int)), .val (.int mix)]
structure DealOk (cells : List Int) (mix : Int) : Prop where
  pos : ∀ c ∈ cells, 0 ≤ c
  few : cells.length ≤ 63
  m0 : 0 ≤ mix
  m1 : mix < 2147483647
/-- the store but for the deal at i -/
def Dl (i : Nat) (st st' : Store) : Prop := ∃ cells mix, DealOk cells mix ∧ i < st.length ∧ st' = st.set i (dealMO cells mix)
theorem Dl.at_ {i : Nat} {st st' : Store} (h : Dl i st st') : ∃ cells mix, DealOk cells mix ∧ st'[i]? = some (dealMO cells mix) ∧ i < st'.length := by
  obtain ⟨c, m, d, hi, rfl⟩ := h
  exact ⟨c, m, d, by simp [hi], by simpa using hi⟩
theorem Dl.of {i : Nat} {cells : List Int} {mix : Int} (e : st[i]? = some (dealMO cells mix)) (d : DealOk cells mix) : Dl i st st := by
  have hi := (List.getElem?_eq_some_iff.mp e).1
  refine ⟨cells, mix, d, hi, ?_⟩
  have := (List.getElem?_eq_some_iff.mp e).2
  rw [← this, List.set_getElem_self]
theorem Dl.trans {i : Nat} {a b c : Store} (h : Dl i a b) (k : Dl i b c) : Dl i a c := by
  obtain ⟨c1, m1, d1, h1, rfl⟩ := h
  obtain ⟨c2, m2, d2, h2, rfl⟩ := k
  exact ⟨c2, m2, d2, h1, by simp⟩
theorem Dl.refl {i : Nat} {a b : Store} (h : Dl i a b) : Dl i b b := by
  obtain ⟨c, m, d, e, hi⟩ := h.at_
  exact .of e d
theorem Dl.len {i : Nat} {a b : Store} (h : Dl i a b) : b.length = a.length := by
  obtain ⟨c1, m1, d1, h1, rfl⟩ := h
  simp
theorem Dl.app {i : Nat} {a b : Store} (h : Dl i a b) (c : Store) : Dl i (a ++ c) (b ++ c) := by
  obtain ⟨c1, m1, d1, h1, rfl⟩ := h
  exact ⟨c1, m1, d1, by simp; omega, by rw [List.set_append_left _ _ h1]⟩
theorem Dl.unapp {i : Nat} {a c s : Store} (hi : i < a.length) (h : Dl i (a ++ c) s) : ∃ b, s = b ++ c ∧ Dl i a b := by
  obtain ⟨c1, m1, d1, h1, rfl⟩ := h
  exact ⟨_, List.set_append_left _ _ hi, c1, m1, d1, hi, rfl⟩
theorem Dl.lt {i : Nat} {a b : Store} (h : Dl i a b) : i < a.length := by
  obtain ⟨c1, m1, d1, h1, rfl⟩ := h
  exact h1
theorem Dl.take {i n : Nat} {a b : Store} (h : Dl i a b) (hn : n = a.length) : b.take n = b := by
  rw [hn, ← h.len, List.take_length]
section
variable {i : Nat} {cells : List Int} {mix : Int} (e : st[i]? = some (dealMO cells mix))
include e
theorem deal_deref : deref st (.cell i) = .cell i := by simp [deref, e, dealMO]
theorem deal_ix0 : ixT st (.cell i) (.int 0) = some (.fld i 0 0) := by simp [ixT, rclAt, e, dealMO, ixN, fmT]
theorem deal_ix1 : ixT st (.cell i) (.int 1) = some (.int mix) := by simp [ixT, rclAt, e, dealMO, ixN, fmT]
theorem deal_look : look st (.fld i 0 0) = .lst (cells.map .int) := by simp [look, e, dealMO, fmAt, MO.fms, M0.t]
theorem deal_m0 : m0At st (.fld i 0 0) = some (.lst (cells.map .int)) := by simp [m0At, e, dealMO, fmAt, MO.fms]
theorem deal_isL : isL st (.fld i 0 0) = true := by simp [isL, deal_m0 e]
theorem deal_put {c2 : List Int} : putM st (.fld i 0 0) (.lst (c2.map .int)) = st.set i (dealMO c2 mix) := by simp [putM, e, dealMO, MO.putF]
theorem deal_set {k : Int} : putIt st (.cell i) (.int 1) (.int k) = some (st.set i (dealMO cells k)) := by simp [putIt, rclSet, e, dealMO, ixN]
theorem deal_ne : PL.neT st (.fld i 0 0) (.lst []) = some (.bl (!decide (cells = []))) := by
  have d : (T.lst (cells.map .int)).dat 60 = true := dats_int
  have h : T.eqv (.lst (cells.map .int)) (.lst []) = decide (cells = []) := by
    cases cells <;> simp [T.eqv, T.data, T.datas, PyData.eqv, PyData.eqvAll]
  simp only [PL.neT, eqO, deal_look e, look_lst, d, h]
  rfl
theorem deal_last : ixT st (.fld i 0 0) (.int (-1)) = (cells.getLast?).map .int := by
  simp only [ixT, rclAt_fld, deal_look e]
  show atI (cells.map T.int) (-1) = _
  rw [List.getLast?_eq_getElem?]
  unfold atI ixN
  simp
  by_cases h : 1 ≤ cells.length
  · rw [if_pos (by omega)]
    simp only [Option.bind_some, List.getElem?_map]
    congr 2
    omega
  · have : cells = [] := List.eq_nil_of_length_eq_zero (by omega)
    subst this
    simp
end
theorem DealOk.drop {cells : List Int} {mix : Int} (d : DealOk cells mix) : DealOk cells.dropLast mix :=
  ⟨fun c m => d.pos c (List.dropLast_subset _ m), by have := d.few; simp; omega, d.m0, d.m1⟩
theorem divOk_small {b : Int} (h0 : 0 < b) (h1 : b ≤ 1000000000) : divOk b = true := divOk_of (k := 64) h0 (by omega) (by decide)
theorem fPop_int {cells : List Int} {c : Int} (hl : cells.getLast? = some c) : fPop (.lst (cells.map .int)) [] = some (.int c, .lst (cells.dropLast.map .int)) := by
  rw [List.getLast?_eq_getElem?] at hl
  simp [fPop, hl]
theorem getLast_mem {cells : List Int} {c : Int} (hl : cells.getLast? = some c) : c ∈ cells := List.mem_of_getLast? hl
theorem run_any {i : Nat} {b : Int} (hd : Dl i st st) (h0 : 0 < b) (h1 : b ≤ 1000000000) : Ev (f__law_any [.cell i, .int b] st) fun t st' => ∃ r, t = .int r ∧ 0 ≤ r ∧ r < b ∧ Dl i st st' := by
  obtain ⟨cells, mix, d, e, hi⟩ := hd.at_
  have hm : ∀ x : Int, 0 ≤ x % b ∧ x % b < b := fun x => ⟨Int.emod_nonneg _ (by omega), Int.emod_lt_of_pos _ h0⟩
  unfold f__law_any m__law_any
  rw [ev_def, evS_seq]
  refine EvS.whileI (n := cells.length) (fun n env s => env = [some (.cell i), some (.int b), none] ∧ ∃ cells, n = cells.length ∧ DealOk cells mix ∧ s = st.set i (dealMO cells mix)) ⟨by simp, cells, rfl, d, ?_⟩ (by have := d.few; omega) ?_
  · have := (List.getElem?_eq_some_iff.mp e).2
    rw [← this, List.set_getElem_self]
  · rintro n env s ⟨rfl, cells, rfl, d, rfl⟩
    have e : (st.set i (dealMO cells mix))[i]? = some (dealMO cells mix) := by simp [hi]
    simp [deal_deref e, deal_ix0 e, deal_ne e]
    by_cases hc : cells = []
    · subst hc
      simp [deal_deref e, deal_ix0 e, deal_ne e, deal_ix1 e]
      have mk : mulOk mix 48271 = true := mulOk_of (n := 31) (m := 16) d.m0 (by decide) (by have := d.m1; omega) (by decide) (by decide) (by decide) (by decide)
      have hm2 : 0 ≤ (mix * 48271 + 79) % 2147483647 ∧ (mix * 48271 + 79) % 2147483647 < 2147483647 := ⟨Int.emod_nonneg _ (by decide), Int.emod_lt_of_pos _ (by decide)⟩
      simp [mulT, mk, intT]
      refine EvG.set_ ?_
      simp [deal_deref e, deal_set e]
      have e2 : (st.set i (dealMO [] ((mix * 48271 + 79) % 2147483647)))[i]? = some (dealMO [] ((mix * 48271 + 79) % 2147483647)) := by simp [hi]
      simp [deal_deref e2, deal_ix1 e2, fdivT, divOk_small]
      refine ⟨.int (((mix * 48271 + 79) % 2147483647 / 64) % b), by simp [h0], rfl, _, rfl, (hm _).1, (hm _).2, [], _, ⟨by simp, by simp, hm2.1, hm2.2⟩, hi, ?_⟩
      rw [List.take_of_length_le (by simp)]
    · obtain ⟨c, hl⟩ : ∃ c, cells.getLast? = some c := by
        cases h : cells.getLast? with
        | none => exact absurd (List.getLast?_eq_none_iff.mp h) hc
        | some c => exact ⟨c, rfl⟩
      simp [hc, deal_deref e, deal_ix0 e, deal_ne e, deal_last e, hl]
      by_cases hz : c = 0
      · subst hz
        simp
        refine Ev.mut ?_
        simp [deal_deref e, deal_ix0 e, deal_isL e, deal_m0 e]
        refine ⟨_, _, fPop_int hl, pures_int, cells.dropLast.length, ?_, cells.dropLast, rfl, d.drop, ?_⟩
        · have : cells.length ≠ 0 := fun h => hc (List.eq_nil_of_length_eq_zero h)
          simp; omega
        · rw [deal_put e]; simp
      · simp [hz, deal_deref e, deal_ix0 e, deal_ne e, hc]
        refine Ev.mut ?_
        simp [deal_deref e, deal_ix0 e, deal_isL e, deal_m0 e]
        refine ⟨_, _, fPop_int hl, pures_int, .int c, rfl, ?_⟩
        rw [deal_put e]
        simp
        have e2 : (st.set i (dealMO cells.dropLast mix))[i]? = some (dealMO cells.dropLast mix) := by simp [hi]
        refine Ev.mut ?_
        simp [deal_deref e2, deal_ix0 e2, deal_isL e2, deal_m0 e2, fdivT, divOk_small h0 h1]
        have hcp := d.pos c (getLast_mem hl)
        refine ⟨.non, .lst ((cells.dropLast ++ [c / b]).map .int), by simp [fAppend]; have := d.few; omega, pures_int, .int (c % b), by simp [h0], rfl, _, rfl, (hm _).1, (hm _).2, cells.dropLast ++ [c / b], mix, ⟨?_, ?_, d.m0, d.m1⟩, hi, ?_⟩
        · intro x hx
          rcases List.mem_append.mp hx with hx | hx
          · exact d.drop.pos x hx
          · rw [List.mem_singleton] at hx; subst hx; exact Int.ediv_nonneg hcp (by omega)
        · have : cells.length ≠ 0 := fun h => hc (List.eq_nil_of_length_eq_zero h)
          have := d.few
          simp; omega
        · rw [deal_put e2, List.take_of_length_le (by simp)]
          simp
end KM
/-! the deal, things drawn, names -/
namespace KM
open PySem L2 PL
variable {st : Store}
theorem cut_map {α : Type} (f : α → T) (l : List α) (lo hi : Option Int) : ∃ m : List α, m.Sublist l ∧ cutT (l.map f) lo hi = m.map f := by
  refine ⟨(l.drop (HT.sIx l.length 0 lo)).take (HT.sIx l.length l.length hi - HT.sIx l.length 0 lo), (List.take_sublist _ _).trans (List.drop_sublist _ _), ?_⟩
  simp [cutT, List.map_take, List.map_drop]
@[simp] theorem deref_scr {xs : List Int} : deref st (.scr xs) = .scr xs := rfl
theorem run_deal {ns : List Int} {base : Int} (hn : ns.length ≤ 63) (h0 : 0 ≤ base) (h1 : base ≤ 1000) : Ev (f__law_deal [.scr ns, .int base] st) fun t st' => ∃ cells mix, t = .cell st.length ∧ st' = st ++ [dealMO cells mix] ∧ DealOk cells mix := by
  unfold f__law_deal m__law_deal
  rw [ev_def]
  simp
  obtain ⟨xs, hsub, hcut⟩ := cut_map T.int ns none (some 63)
  have hlen := hsub.length_le
  refine Ev.lcM T.int (fun i => .int (if i < 0 then -i else i)) ?_
  simp [mSl, mPart, slT, look, hcut]
  refine ⟨xs, rfl, by omega, fun x _ => ?_, ?_⟩
  · simp [wipeE, Tg.sem, intT, absT]
  have mk : mulOk 52363 base = true := by
    by_cases hb : base = 0
    · subst hb; decide
    · exact mulOk_of (n := 16) (m := 10) (by decide) h0 (by decide) (by omega) (by decide) (by decide) (by decide)
  simp [mulT, mk]
  have hmap : (List.map (fun i => T.int (if i < 0 then -i else i)) xs) = (xs.map fun i => if i < 0 then -i else i).map T.int := by simp [Function.comp_def]
  rw [hmap]
  refine EvS.loopI T.int (fun rest env s => s = st ∧ ∃ (mix : Int) (j : Option T), env = [some (.scr ns), some (.int base), some (.lst ((xs.map fun i => if i < 0 then -i else i).map T.int)), j, some (.int mix)] ∧ 0 ≤ mix ∧ mix < 2147483647) ⟨rfl, _, none, rfl, by omega, by omega⟩ ?_ ?_
  · rintro c rest env s ⟨rfl, mix, j, rfl, m0, m1⟩
    have mk : mulOk mix 48271 = true := mulOk_of (n := 31) (m := 16) m0 (by decide) (by omega) (by decide) (by decide) (by decide) (by decide)
    have hm2 : 0 ≤ (mix * 48271 + c % 2147483563 + 53) % 2147483647 ∧ (mix * 48271 + c % 2147483563 + 53) % 2147483647 < 2147483647 := ⟨Int.emod_nonneg _ (by decide), Int.emod_lt_of_pos _ (by decide)⟩
    simp [mulT, mk, intT]
    exact hm2
  · rintro env s ⟨rfl, mix, j, rfl, m0, m1⟩
    simp [mDeal]
    refine Ev.lcP T.int (fun i => decide (1000000000000000000 ≤ i)) T.int ?_
    simp
    refine ⟨xs.map fun i => if i < 0 then -i else i, by simp, by rw [List.length_map]; omega, fun x _ => ?_, ?_⟩
    · simp [wipeE, Tg.sem, powT, geT]
    · refine ⟨.lst ((((xs.map fun i => if i < 0 then -i else i).filter fun i => decide (1000000000000000000 ≤ i)).reverse).map T.int), by simp [revN, List.map_reverse], ?_⟩
      simp only [M0p_lst, pures_int, if_true, ev_ok, evS_some]
      refine ⟨trivial, _, mix, rfl, fun c hc => ?_, ?_, m0, m1⟩
      · rw [List.mem_reverse, List.mem_filter] at hc
        have := of_decide_eq_true hc.2
        omega
      · rw [List.length_reverse]
        refine Nat.le_trans (List.length_filter_le _ _) ?_
        rw [List.length_map]; omega
theorem atI_nat {α : Type} {xs : List α} {r : Int} (h0 : 0 ≤ r) (h1 : r < xs.length) : ∃ x, x ∈ xs ∧ atI xs r = some x := by
  have hl : r.toNat < xs.length := by omega
  refine ⟨xs[r.toNat], List.getElem_mem _, ?_⟩
  simp [atI, ixN, h0, h1]
theorem run_of_seq {i : Nat} {u : T} {xs : List T} (hd : Dl i st st) (hu : u = .lst xs ∨ u = .tup xs) (hn : xs ≠ []) (hl : xs.length ≤ 1000000000) (hp : T.pures xs = true) : Ev (f__law_of [.cell i, u] st) fun t st' => t ∈ xs ∧ Dl i st st' := by
  obtain ⟨cells, mix, d, e, hi⟩ := hd.at_
  have h0 : 0 < xs.length := List.length_pos_iff.mpr hn
  unfold f__law_of m__law_of
  rw [ev_def]
  have hpm : ∀ x ∈ xs, x.pure = true := by
    clear hl h0 hn hu
    induction xs with
    | nil => simp
    | cons x xs ih =>
      simp only [T_pures_cons, Bool.and_eq_true] at hp
      intro y hy
      rcases List.mem_cons.mp hy with h | h
      · rw [h]; exact hp.1
      · exact ih hp.2 y h
  rcases hu with rfl | rfl
  all_goals
    simp [deal_deref e, lenT, seqO]
    refine (run_any hd (b := (xs.length : Int)) (by omega) (by omega)).mono fun t s ⟨r, e1, r0, r1, hs⟩ => ?_
    subst e1
    obtain ⟨x, hx, ex⟩ := atI_nat r0 r1
    refine ⟨x, by simp [ixT, ex], hpm x hx, hx, ?_⟩
    rw [hs.take rfl]; exact hs
theorem run_of_str {i : Nat} {z : Str} (hd : Dl i st st) (hn : z.cps.toList ≠ []) (hl : z.length ≤ 1000000) : Ev (f__law_of [.cell i, .str z] st) fun t st' => (∃ c ∈ z.cps.toList, t = .str ⟨#[c]⟩) ∧ Dl i st st' := by
  obtain ⟨cells, mix, d, e, hi⟩ := hd.at_
  have h0 : 0 < z.cps.toList.length := List.length_pos_iff.mpr hn
  have hz : z.length = z.cps.toList.length := by simp [Str.length]
  unfold f__law_of m__law_of
  rw [ev_def]
  simp [deal_deref e, lenT, show z.length ≤ 16777216 by omega]
  refine (run_any hd (b := (z.length : Int)) (by omega) (by omega)).mono fun t s ⟨r, e1, r0, r1, hs⟩ => ?_
  subst e1
  obtain ⟨x, hx, ex⟩ := atI_nat (xs := z.cps.toList) r0 (by rw [← hz]; exact r1)
  refine ⟨.str ⟨#[x]⟩, by simp [ixT, ex, show z.length ≤ 16777216 by omega], rfl, ⟨x, by simpa using hx, rfl⟩, ?_⟩
  rw [hs.take rfl]; exact hs
/-! names -/
theorem nm_app {a b : Str} (ha : NmOk a) (hb : NmOk b) : NmOk (a ++ b) := by
  have e : (a ++ b).cps = a.cps ++ b.cps := rfl
  unfold NmOk PyData.strOk at *
  rw [e, Array.all_append, ha, hb]; rfl
theorem len_app {a b : Str} : (a ++ b).length = a.length + b.length := by
  show (a.cps ++ b.cps).size = _
  rw [Array.size_append]; rfl
theorem app_inj {p a b q : Str} (h : p ++ a ++ q = p ++ b ++ q) : a = b := by
  have e : (p.cps ++ a.cps ++ q.cps) = (p.cps ++ b.cps ++ q.cps) := congrArg Str.cps h
  have e2 : p.cps.toList ++ a.cps.toList ++ q.cps.toList = p.cps.toList ++ b.cps.toList ++ q.cps.toList := by simpa using congrArg Array.toList e
  have e3 := List.append_cancel_left (List.append_cancel_right e2)
  obtain ⟨a⟩ := a
  obtain ⟨b⟩ := b
  simp only [Array.toList_inj] at e3
  rw [e3]
theorem strsO_map (l : List Str) : strsO (l.map T.str) = some l := by
  induction l with
  | nil => rfl
  | cons x xs ih => simp [strsO, ih]
theorem nm_nil : NmOk (Str.ofString "") := by unfold NmOk; decide +kernel
theorem join_ok (l : List Str) (h : ∀ x ∈ l, NmOk x ∧ x.length = 1) : NmOk (Txt.join (Str.ofString "") l) ∧ (Txt.join (Str.ofString "") l).length ≤ l.length := by
  have e : Txt.join (Str.ofString "") l = Str.join (Str.ofString "") l := StrLaws.glued_eq_join _ _
  rw [e]
  induction l with
  | nil => exact ⟨nm_nil, Nat.le_refl _⟩
  | cons x xs ih => cases xs with
    | nil => exact ⟨(h x List.mem_cons_self).1, Nat.le_of_eq (h x List.mem_cons_self).2⟩
    | cons y ys =>
      obtain ⟨h1, h2⟩ := ih (fun z m => h z (List.mem_cons_of_mem _ m)) (StrLaws.glued_eq_join _ _)
      show NmOk (x ++ Str.ofString "" ++ Str.join (Str.ofString "") (y :: ys)) ∧ (x ++ Str.ofString "" ++ Str.join (Str.ofString "") (y :: ys)).length ≤ _
      refine ⟨nm_app (nm_app (h x List.mem_cons_self).1 nm_nil) h1, ?_⟩
      rw [len_app, len_app, (h x List.mem_cons_self).2]
      simp only [List.length_cons] at h2 ⊢
      have : (Str.ofString "").length = 0 := rfl
      omega
theorem sum_ones (l : List Str) (h : ∀ x ∈ l, x.length = 1) : (l.map fun y => y.length).sum = l.length := by
  induction l with
  | nil => rfl
  | cons x xs ih => simp [h x List.mem_cons_self, ih fun z m => h z (List.mem_cons_of_mem _ m)]; omega
/-- a joined part of single letters -/
theorem join_cut {l : List Str} (h : ∀ x ∈ l, NmOk x ∧ x.length = 1) (hl : l.length ≤ 100) (lo hi : Option Int) : ∃ P : Str, NmOk P ∧ P.length ≤ 100 ∧ ∃ u, slT st (.lst (l.map T.str)) lo hi = some u ∧ joinT st (Str.ofString "") u = some (.str P) := by
  obtain ⟨m, hs, e⟩ := cut_map T.str l lo hi
  have hm : ∀ x ∈ m, NmOk x ∧ x.length = 1 := fun x hx => h x (hs.subset hx)
  have hlen := hs.length_le
  obtain ⟨j1, j2⟩ := join_ok m hm
  refine ⟨_, j1, by omega, .lst (m.map T.str), by simp [slT, e], ?_⟩
  have := sum_ones m fun x hx => (hm x hx).2
  have e0 : (Str.ofString "").length = 0 := rfl
  simp [joinT, seqO, strsO_map, this, e0]
  omega
theorem alike_str (a b : Str) : T.alike (.str a) (.str b) = true := by simp [T.alike, T.data, PySem.W.alike]
theorem srtOk_strs {l : List Str} (hl : l.length ≤ 1000000) (h : ∀ x ∈ l, NmOk x) : srtOk (l.map T.str) = true := by
  simp only [srtOk, Bool.and_eq_true, Bool.or_eq_true, List.all_eq_true, decide_eq_true_eq]
  refine ⟨⟨⟨by simpa using hl, fun t ht => ?_⟩, fun a ha b hb => ?_⟩, .inr fun t ht => ?_⟩
  · obtain ⟨x, hx, rfl⟩ := List.mem_map.mp ht; exact h x hx
  · obtain ⟨x, _, rfl⟩ := List.mem_map.mp ha; obtain ⟨y, _, rfl⟩ := List.mem_map.mp hb; exact alike_str x y
  · obtain ⟨x, hx, rfl⟩ := List.mem_map.mp ht; simp [T.data, isTupD]
theorem sort_strs {l : List Str} : ∃ m : List Str, m.Perm l ∧ srtT (l.map T.str) = m.map T.str := ⟨_, List.mergeSort_perm _ _, srtT_map⟩
def letters : Str := Str.ofString "abcdefghijklmnopqrstuvwxyz"
def lettersL : List Str := letters.cps.toList.map fun c => ⟨#[c]⟩
theorem letters_ok : ∀ x ∈ lettersL, NmOk x ∧ x.length = 1 := by
  have : lettersL.all (fun x => PyData.strOk x && decide (x.length = 1)) = true := by decide +kernel
  intro x hx
  have := List.all_eq_true.mp this x hx
  simpa [NmOk] using this
theorem letters_nd : lettersL.Nodup := by decide +kernel
theorem signs_letters : signs letters = lettersL.map T.str := by simp [signs, lettersL, Function.comp_def]
section
variable {b : Store} {x y x' y' : M0} {n : Nat}
theorem at0 (hb : b.length = n) : (b ++ [MO.one x, MO.one y])[n]? = some (.one x) := by subst hb; simp
theorem at1 (hb : b.length = n) : (b ++ [MO.one x, MO.one y])[n + 1]? = some (.one y) := by subst hb; simp [List.getElem?_append_right]
theorem put0 (hb : b.length = n) : (b ++ [MO.one x, MO.one y]).set n (.one x') = b ++ [.one x', .one y] := by subst hb; simp [List.set_append]
theorem put1 (hb : b.length = n) : (b ++ [MO.one x, MO.one y]).set (n + 1) (.one y') = b ++ [.one x, .one y'] := by subst hb; simp [List.set_append]
end
theorem seqIndex_nat {r : Int} {n : Nat} (h0 : 0 ≤ r) (h1 : r < n) : seqIndex? r n = some r.toNat := by
  unfold seqIndex?
  simp only [show ¬ r < 0 by omega, if_false]
  simp [h0, h1]
theorem erase_perm {α : Type} : ∀ {pool : List α} {k : Nat} (hk : k < pool.length), (pool[k] :: pool.eraseIdx k).Perm pool
  | x :: xs, 0, _ => by simp
  | x :: xs, k + 1, hk => by
    have := erase_perm (pool := xs) (k := k) (by simpa using hk)
    simp only [List.getElem_cons_succ, List.eraseIdx_cons_succ]
    exact (List.Perm.swap _ _ _).trans (this.cons x)
theorem perm_move {α : Type} {row pool all : List α} {k : Nat} (hk : k < pool.length) (p : (row ++ pool).Perm all) : ((row ++ [pool[k]]) ++ pool.eraseIdx k).Perm all := by
  refine List.Perm.trans ?_ p
  rw [List.append_assoc]
  exact List.Perm.append_left row (erase_perm hk)
theorem eraseIdx_map' {α β : Type} (f : α → β) : ∀ (l : List α) (k : Nat), (l.map f).eraseIdx k = (l.eraseIdx k).map f
  | [], k => by simp
  | x :: xs, 0 => by simp
  | x :: xs, k + 1 => by simp [eraseIdx_map' f xs k]
theorem addT_str {a b : Str} (h : a.length + b.length ≤ 1000000) : addT st (.str a) (.str b) = some (.str (a ++ b)) := by simp [addT, h]
theorem run_names {i : Nat} {many : Int} (hd : Dl i st st) (h0 : 0 ≤ many) (h1 : many ≤ 20) : Ev (f__law_names [.cell i, .int many] st) fun t st' => ∃ ns : List Str, t = .lst (ns.map T.str) ∧ ns.length = many.toNat ∧ ns.Nodup ∧ (∀ n ∈ ns, NmOk n) ∧ Dl i st st' := by
  obtain ⟨cells, mix, d, e, hi⟩ := hd.at_
  unfold f__law_names m__law_names
  rw [ev_def]
  have hll : letters.length ≤ 1000000 := by decide +kernel
  simp only [List.map_cons, List.map_nil, List.length_cons, List.length_nil, List.replicate, evS_seq, evS_asg, ev_C, evG_var, onN_nx]
  simp
  have hL : listS (st ++ [.one (.lst [])]) [.str (Str.ofString "abcdefghijklmnopqrstuvwxyz")] = some (.lst (lettersL.map T.str)) := by
    show (if letters.length ≤ 1000000 then some (M0.lst (signs letters)) else none) = _
    rw [if_pos hll, signs_letters]
  refine ⟨_, hL, pures_str, ?_⟩
  have hperm0 : ([] ++ lettersL : List Str).Perm lettersL := List.Perm.refl _
  have hl26 : lettersL.length = 26 := by decide +kernel
  refine EvS.whileI (n := many.toNat) (fun n env s => env = [some (.cell i), some (.int many), some (.str letters), some (.cell st.length), some (.cell (st.length + 1)), none, none, none, none] ∧ ∃ (b : Store) (row pool : List Str), s = b ++ [.one (.lst (row.map T.str)), .one (.lst (pool.map T.str))] ∧ Dl i st b ∧ (row ++ pool).Perm lettersL ∧ n + row.length = many.toNat) ⟨rfl, st, [], lettersL, by simp, hd, hperm0, by simp⟩ (by omega) ?_
  rintro n env s ⟨rfl, b, row, pool, rfl, hb, hp, hm⟩
  have hbl := hb.len
  have hnd : (row ++ pool).Nodup := hp.nodup_iff.mpr letters_nd
  have hlen : row.length + pool.length = 26 := by rw [← List.length_append, hp.length_eq, hl26]
  have hnm : ∀ x ∈ row ++ pool, NmOk x ∧ x.length = 1 := fun x hx => letters_ok x (hp.mem_iff.mp hx)
  have e0 := at0 (b := b) (x := .lst (row.map T.str)) (y := .lst (pool.map T.str)) hbl
  have e1 := at1 (b := b) (x := .lst (row.map T.str)) (y := .lst (pool.map T.str)) hbl
  have hdb : Dl i (b ++ [MO.one (.lst (row.map T.str)), .one (.lst (pool.map T.str))]) (b ++ [MO.one (.lst (row.map T.str)), .one (.lst (pool.map T.str))]) := (hb.refl).app _
  obtain ⟨c2, m2, d2, e2, hi2⟩ := hdb.at_
  have hib : i < b.length := by rw [hbl]; exact hi
  simp [deref_one e0, lenT, look_one e0, seqO]
  by_cases hlt : (row.length : Int) < many
  · simp [hlt]
    refine Ev.mut ?_
    simp [deref_one e0, isL, m0At, e0]
    refine Ev.mut ?_
    simp [deref_one e1, isL, m0At, e1, deal_deref e2, look_one e1, lenT, seqO]
    refine (run_any hdb (b := (pool.length : Int)) (by omega) (by omega)).mono fun t s ⟨r, er, r0, r1, hs⟩ => ?_
    subst er
    obtain ⟨b2, rfl, hb2⟩ := hs.unapp hib
    have hbl2 : b2.length = st.length := by rw [hb2.len, hbl]
    have f0 := at0 (b := b2) (x := .lst (row.map T.str)) (y := .lst (pool.map T.str)) hbl2
    have f1 := at1 (b := b2) (x := .lst (row.map T.str)) (y := .lst (pool.map T.str)) hbl2
    have hr : r.toNat < pool.length := by omega
    have hpop : fPopAt (.lst (pool.map T.str)) [.int r] = some (.str pool[r.toNat], .lst ((pool.eraseIdx r.toNat).map T.str)) := by
      simp [fPopAt, seqIndex_nat (n := pool.length) r0 r1, hr, eraseIdx_map', show -1000000000 ≤ r by omega, show r < 1000000000 by omega]
    refine ⟨_, by simp [m0At, f1], _, _, hpop, pures_str, ?_⟩
    simp only [putM, put1 hbl2]
    have g0 := at0 (b := b2) (x := .lst (row.map T.str)) (y := .lst ((pool.eraseIdx r.toNat).map T.str)) hbl2
    refine ⟨.lst (row.map T.str), by simp [m0At, g0], .non, .lst ((row ++ [pool[r.toNat]]).map T.str), by simp [fAppend]; omega, pures_str, ?_⟩
    simp only [put0 hbl2]
    refine ⟨many.toNat - (row.length + 1), by omega, b2, row ++ [pool[r.toNat]], pool.eraseIdx r.toNat, rfl, hb.trans hb2, perm_move hr hp, by simp; omega⟩
  · simp [hlt]
    have hrl : row.length = many.toNat := by omega
    have hrnd : row.Nodup := (List.nodup_append.mp hnd).1
    have hrow : ∀ x ∈ row, NmOk x ∧ x.length = 1 := fun x hx => hnm x (List.mem_append_left _ hx)
    simp [deal_deref e2]
    refine (run_any hdb (b := 2) (by decide) (by decide)).mono fun t s ⟨r, er, r0, r1, hs⟩ => ?_
    subst er
    obtain ⟨b2, rfl, hb2⟩ := hs.unapp hib
    have hbl2 : b2.length = st.length := by rw [hb2.len, hbl]
    have f0 := at0 (b := b2) (x := .lst (row.map T.str)) (y := .lst (pool.map T.str)) hbl2
    have htk : ∀ (b : Store) (c : Store), b.length = st.length → List.take st.length (b ++ c) = b := fun b c h => by rw [← h]; simp
    by_cases hr0 : r = 0
    · subst hr0
      obtain ⟨m, hpm, hsm⟩ := sort_strs (l := row)
      simp [deref_one f0, sortedA, look_one f0, M0.t, srtOk_strs (l := row) (by omega) fun x hx => (hrow x hx).1, hsm]
      refine ⟨pures_str, m, rfl, by rw [hpm.length_eq, hrl], hpm.nodup_iff.mpr hrnd, fun x hx => (hrow x (hpm.mem_iff.mp hx)).1, ?_⟩
      rw [htk _ _ hbl2]
      exact hb.trans hb2
    · simp [hr0]
      have hdb2 := (hb2.refl).app [MO.one (.lst (row.map T.str)), .one (.lst (pool.map T.str))]
      obtain ⟨c4, m4, d4, e4, hi4⟩ := hdb2.at_
      have hib2 : i < b2.length := by rw [hbl2]; exact hi
      refine Ev.lcI T.int (fun xs acc s => ∃ (b3 : Store) (base : List Str), s = b3 ++ [.one (.lst (row.map T.str)), .one (.lst (pool.map T.str))] ∧ Dl i st b3 ∧ acc = base.map T.str ∧ (∀ x ∈ base, NmOk x ∧ x.length = 1) ∧ base.length + xs.length ≤ 10) ?_
      simp [deal_deref e4]
      refine (run_any hdb2 (b := 7) (by decide) (by decide)).mono fun t s ⟨r, er, r0, r1, hs⟩ => ?_
      subst er
      obtain ⟨b3, rfl, hb3⟩ := hs.unapp hib2
      simp
      refine ⟨by omega, rangeI 0 (1 + r), rangeT_eq _ _, ⟨hb.trans (hb2.trans hb3), by simp; omega⟩, ?_, ?_⟩
      · rintro x xs acc s b4 rfl hb4 base rfl hbase hl4
        have hd4 := (hb4.refl).app [MO.one (.lst (row.map T.str)), .one (.lst (pool.map T.str))]
        obtain ⟨c5, m5, d5, e5, hi5⟩ := hd4.at_
        simp [wipeE, Tg.sem, deal_deref e5]
        refine (run_of_str hd4 (z := letters) (by decide +kernel) hll).mono fun t s ⟨⟨c, hc, ec⟩, hs⟩ => ?_
        subst ec
        obtain ⟨b5, rfl, hb5⟩ := hs.unapp (by rw [hb4.len]; exact hi)
        refine ⟨by omega, b5, rfl, hb4.trans hb5, base ++ [⟨#[c]⟩], by simp, fun y hy => ?_, by simp; omega⟩
        rcases List.mem_append.mp hy with hy | hy
        · exact hbase y hy
        · rw [List.mem_singleton] at hy
          rw [hy]
          exact letters_ok _ (List.mem_map.mpr ⟨c, hc, rfl⟩)
      · rintro acc s b4 rfl hb4 base rfl hbase hl4
        have hbl4 : b4.length = st.length := hb4.len
        have hd4 := (hb4.refl).app [MO.one (.lst (row.map T.str)), .one (.lst (pool.map T.str))]
        obtain ⟨c5, m5, d5, e5, hi5⟩ := hd4.at_
        simp [deal_deref e5, lenT, seqO]
        refine (run_any hd4 (b := (base.length : Int) + 1) (by omega) (by omega)).mono fun t s ⟨pl, er, r0, r1, hs⟩ => ?_
        subst er
        obtain ⟨b5, rfl, hb5⟩ := hs.unapp (by rw [hbl4]; exact hi)
        have hbl5 : b5.length = st.length := by rw [hb5.len, hbl4]
        have f0 := at0 (b := b5) (x := .lst (row.map T.str)) (y := .lst (pool.map T.str)) hbl5
        have hfz : frzT (.cell st.length) (b5 ++ [MO.one (.lst (row.map T.str)), .one (.lst (pool.map T.str))]) = (.lst (row.map T.str), (b5 ++ [MO.one (.lst (row.map T.str)), .one (.lst (pool.map T.str))]).set st.length (.frz (.lst (row.map T.str)))) := by simp [frzT, f0]
        have hset : (b5 ++ [MO.one (.lst (row.map T.str)), .one (.lst (pool.map T.str))]).set st.length (.frz (.lst (row.map T.str))) = b5 ++ [MO.frz (.lst (row.map T.str)), .one (.lst (pool.map T.str))] := by rw [← hbl5]; simp [List.set_append]
        rw [hset] at hfz
        obtain ⟨P, P1, P2, u, pu, pj⟩ := join_cut (st := b5 ++ [MO.frz (.lst (row.map T.str)), .one (.lst (pool.map T.str))]) hbase (by omega) none (some pl)
        obtain ⟨S, S1, S2, v, sv, sj⟩ := join_cut (st := b5 ++ [MO.frz (.lst (row.map T.str)), .one (.lst (pool.map T.str))]) hbase (by omega) (some pl) none
        refine Ev.lcM T.str (fun x => .str (P ++ x ++ S)) ?_
        simp [deref_one f0, hfz]
        refine ⟨row, rfl, by omega, fun x hx => ?_, ?_⟩
        · have hx1 := (hrow x hx).2
          simp [wipeE, Tg.sem, mJoin, mSl, mPart, pu, pj, sv, sj]
          rw [addT_str (by omega)]
          simp only [Option.some.injEq, exists_eq_left']
          rw [addT_str (by rw [len_app]; omega)]
        · have hnew : ((row.map fun x => P ++ x ++ S).map T.str) = row.map fun x => .str (P ++ x ++ S) := by simp [Function.comp_def]
          have hok : ∀ x ∈ row.map fun x => P ++ x ++ S, NmOk x := fun y hy => by
            obtain ⟨x, hx, rfl⟩ := List.mem_map.mp hy
            exact nm_app (nm_app P1 (hrow x hx).1) S1
          have hnd2 : (row.map fun x => P ++ x ++ S).Nodup := by
            unfold List.Nodup
            rw [List.pairwise_map]
            exact hrnd.imp fun hne e => hne (app_inj e)
          obtain ⟨m, hpm, hsm⟩ := sort_strs (l := row.map fun x => P ++ x ++ S)
          rw [← hnew]
          simp only [sortedA, look_lst, srtOk_strs (l := row.map fun x => P ++ x ++ S) (by rw [List.length_map]; omega) hok, if_true, hsm]
          refine ⟨_, rfl, ?_⟩
          simp
          refine ⟨pures_str, m, rfl, by rw [hpm.length_eq, List.length_map, hrl], hpm.nodup_iff.mpr hnd2, fun x hx => hok x (hpm.mem_iff.mp hx), ?_⟩
          rw [htk _ _ hbl5]
          exact hb4.trans hb5
end KM
/-! questions; rows, truths, all sheets by the law's own hand -/
namespace KM
open PySem L2 PL
variable {st : Store} {qs : Qs} {i : Nat}
/-- the questions of a form as they are drawn -/
structure QsL (qs : Qs) : Prop where
  l1 : 1 ≤ qs.length
  l2 : qs.length ≤ 3
  nd : (qs.map (·.1)).Nodup
  nm : ∀ q ∈ qs, NmOk q.1
  many : ∀ q ∈ qs, 2 ≤ q.2 ∧ q.2 ≤ 3 ∧ (3 ≤ qs.length → q.2 = 2)
theorem QsL.ok (h : QsL qs) : QsOk qs := ⟨by have := h.l2; omega, fun q m => by have := h.many q m; omega, h.nm, h.nd⟩
theorem QsL.few (h : QsL qs) : ∃ m, Few qs m := by
  by_cases hl : 3 ≤ qs.length
  · refine ⟨2, ⟨h.ok, by decide, fun q m => by have := (h.many q m).2.2 hl; omega, ?_⟩⟩
    have : qs.length = 3 := by have := h.l2; omega
    rw [this]; decide
  · refine ⟨3, ⟨h.ok, by decide, fun q m => by have := (h.many q m).2.1; omega, ?_⟩⟩
    exact Nat.le_trans (bnd_mono (by decide) (show qs.length ≤ 2 by omega)) (by decide)
theorem dl_take {a b : Store} (h : Dl i a b) : b.take a.length = b := h.take rfl
@[simp] theorem deref_cts2 {l : List Str} : deref st (.lst (l.map T.str)) = .lst (l.map T.str) := rfl
theorem run_questions {most : Int} (hd : Dl i st st) (h0 : 1 ≤ most) (h1 : most ≤ 3) : Ev (f__law_questions [.cell i, .int most] st) fun t st' => ∃ qs : Qs, t = qsT qs ∧ QsL qs ∧ (qs.length : Int) ≤ most ∧ Dl i st st' := by
  obtain ⟨cells, mix, d, e, hi⟩ := hd.at_
  unfold f__law_questions m__law_questions
  rw [ev_def]
  simp [deal_deref e]
  refine (run_any hd (b := most) (by omega) (by omega)).mono fun t s ⟨r, er, r0, r1, hs⟩ => ?_
  subst er
  simp
  refine (run_names hs.refl (many := 1 + r) (by omega) (by omega)).mono fun t s2 ⟨ns, et, hlen, hnd, hnm, hs2⟩ => ?_
  subst et
  have hs3 := hs.trans hs2
  refine Ev.lcI T.str (fun xs acc s => ∃ qs : Qs, acc = qs.map qT ∧ qs.map (·.1) ++ xs = ns ∧ (∀ q ∈ qs, 2 ≤ q.2 ∧ q.2 ≤ 3 ∧ (3 ≤ ns.length → q.2 = 2)) ∧ Dl i st s) ?_
  simp
  refine ⟨ns, rfl, ⟨rfl, hs3⟩, ?_, ?_⟩
  · rintro x xs acc s qs rfl hqs hmany hds
    obtain ⟨c5, m5, d5, e5, hi5⟩ := hds.at_
    have hle : qs.length < 4 := by
      have := congrArg List.length hqs
      simp at this; omega
    simp [wipeE, Tg.sem, lenT, seqO, deal_deref e5]
    by_cases h3 : (ns.length : Int) < 3
    · simp [h3]
      refine (run_any hds.refl (b := 2) (by decide) (by decide)).mono fun t s ⟨r, er, r0, r1, hs⟩ => ?_
      subst er
      simp
      refine ⟨by omega, qs ++ [(x, 2 + r)], by simp [qT], by simpa using hqs, fun q1 q2 hq => ?_, hds.trans hs⟩
      rcases List.mem_append.mp hq with hq | hq
      · exact hmany q1 q2 hq
      · rw [List.mem_singleton] at hq; cases hq; exact ⟨by omega, by omega, fun h => by omega⟩
    · simp [h3]
      refine ⟨by omega, qs ++ [(x, 2)], by simp [qT], by simpa using hqs, fun q1 q2 hq => ?_, hds⟩
      rcases List.mem_append.mp hq with hq | hq
      · exact hmany q1 q2 hq
      · rw [List.mem_singleton] at hq; cases hq; exact ⟨by omega, by omega, fun h => rfl⟩
  · rintro acc s qs rfl hqs hmany hds
    have hl : qs.length = ns.length := by rw [← hqs, List.length_map]
    simp [tupleT, seqO]
    refine ⟨pures_map fun _ _ => rfl, qs, rfl, ⟨by omega, by omega, by rw [hqs]; exact hnd, fun q m => hnm _ (by rw [← hqs]; exact List.mem_map.mpr ⟨q, m, rfl⟩), fun q m => by rw [hl]; exact hmany q.1 q.2 m⟩, by omega, ?_⟩
    rw [dl_take hds]; exact hds
/-! rows -/
def lawRows (sizes : List Int) : List Row := sizes.foldl (fun f n => grow 0 f (Str.ofString "", n)) [[]]
theorem run_law_rows {sizes : List Int} (h1 : ∀ n ∈ sizes, 0 ≤ n ∧ n ≤ 10) (h2 : sizes.length ≤ 4) : f__law_rows [.lst (sizes.map T.int)] st = some (.ok (.lst ((lawRows sizes).map rowT)), st) := by
  rw [← ev_eq]
  unfold f__law_rows m__law_rows
  rw [ev_def]
  simp
  refine EvS.loopI T.int (fun rest env s => s = st ∧ ∃ (found : List Row) (j2 j3 j4 j5 : Option T), env = [some (.lst (sizes.map T.int)), some (.lst (found.map rowT)), j2, j3, j4, j5] ∧ (∀ n ∈ rest, 0 ≤ n ∧ n ≤ 10) ∧ found.length * 10 ^ rest.length ≤ 1000000 ∧ (∀ r ∈ found, r.length + rest.length ≤ 1000) ∧ rest.foldl (fun f n => grow 0 f (Str.ofString "", n)) found = lawRows sizes) ?_ ?_ ?_
  · refine ⟨rfl, [[]], none, none, none, none, rfl, h1, ?_, by simp; omega, rfl⟩
    have : 10 ^ sizes.length ≤ 10 ^ 4 := Nat.pow_le_pow_right (by decide) h2
    simp only [List.length_singleton]; omega
  · rintro n rest env s ⟨rfl, found, j2, j3, j4, j5, rfl, g1, g2, g3, g4⟩
    have hn := g1 n List.mem_cons_self
    have gl := grow_len (least := 0) (found := found) (q := (Str.ofString "", n))
    have p1 : found.length * (n - 0).toNat ≤ found.length * 10 := Nat.mul_le_mul_left _ (by omega)
    have p2 : 1 ≤ 10 ^ rest.length := Nat.one_le_pow _ _ (by decide)
    rw [List.length_cons, Nat.pow_succ] at g2
    have p3 : found.length * 10 ≤ found.length * (10 ^ rest.length * 10) := Nat.mul_le_mul_left _ (by omega)
    simp
    refine EvS.loopI rowT (fun rs env s' => s' = s ∧ ∃ (longer : List Row) (j4 j5 : Option T), env = [some (.lst (sizes.map T.int)), some (.lst (found.map rowT)), some (.int n), some (.lst (longer.map rowT)), j4, j5] ∧ longer ++ grow 0 rs (Str.ofString "", n) = grow 0 found (Str.ofString "", n) ∧ (∀ r ∈ rs, r ∈ found)) ⟨rfl, [], j4, j5, rfl, by simp, fun r m => m⟩ ?_ ?_
    · rintro r rs env s' ⟨rfl, longer, k4, k5, rfl, hg, hm⟩
      have hr := g3 r (hm r List.mem_cons_self)
      have hll : longer.length + (grow 0 (r :: rs) (Str.ofString "", n)).length = found.length * (n - 0).toNat := by
        rw [← List.length_append, hg]; exact gl
      have hgr : (grow 0 (r :: rs) (Str.ofString "", n)) = ((rangeI 0 n).map fun a => r ++ [a]) ++ grow 0 rs (Str.ofString "", n) := by simp [grow]
      have hgl := congrArg List.length hgr
      simp only [List.length_append, List.length_map, length_rangeI] at hgl
      simp
      refine Ev.lcM T.int (fun a => rowT (r ++ [a])) ?_
      simp only [List.length_cons] at hr
      simp [rangeT_eq]
      refine ⟨by omega, rangeI 0 n, rfl, by simp; omega, fun a ha => ?_, ?_⟩
      · simp [wipeE, Tg.sem, rowT]; omega
      · refine ⟨_, ⟨by simp; omega, rfl⟩, longer ++ (rangeI 0 n).map fun a => r ++ [a], by simp [Function.comp_def], ?_, fun z m => hm z (List.mem_cons_of_mem _ m)⟩
        rw [← hg, hgr, List.append_assoc]
    · rintro env s' ⟨rfl, longer, k4, k5, rfl, hg, hm⟩
      simp
      have hg : longer = grow 0 found (Str.ofString "", n) := by simpa [grow] using hg
      subst hg
      refine ⟨_, rfl, fun z m => g1 z (List.mem_cons_of_mem _ m), ?_, fun r hr => ?_, g4⟩
      · rw [gl]
        calc _ ≤ found.length * 10 * 10 ^ rest.length := Nat.mul_le_mul_right _ p1
          _ = found.length * (10 ^ rest.length * 10) := by rw [Nat.mul_assoc, Nat.mul_comm 10]
          _ ≤ _ := g2
      · simp only [grow, List.mem_flatMap, List.mem_map] at hr
        obtain ⟨r0, m0, a, _, rfl⟩ := hr
        have := g3 r0 m0
        simp only [List.length_cons] at this
        simp; omega
  · rintro env s ⟨rfl, found, j2, j3, j4, j5, rfl, g1, g2, g3, g4⟩
    simp only [List.foldl_nil] at g4
    subst g4
    simp
theorem lawRows_qs {qs : Qs} {f : Str × Int → Int} {least : Int} : ∀ {found : List Row}, (qs.map f).foldl (fun g n => grow 0 g (Str.ofString "", n)) found = (qs.map fun q => (q.1, f q)).foldl (grow 0) found := by
  induction qs with
  | nil => intro found; rfl
  | cons q qs ih =>
    intro found
    simp only [List.map_cons, List.foldl_cons]
    rw [ih]
    rfl
theorem run_truths_law (hq : QsOk qs) : f__law_truths [qsT qs] st = some (.ok (.lst ((allRows 0 qs).map rowT)), st) := by
  rw [← ev_eq]
  unfold f__law_truths m__law_truths
  rw [ev_def]
  simp
  refine Ev.lcM qT (fun q => .int q.2) ?_
  simp [qsT]
  refine ⟨qs, rfl, by have := hq.len; omega, fun n m hm => ?_, ?_⟩
  · refine evG_tup2 ?_
    simp [wipeE]
  · have e : (qs.map fun q => T.int q.2) = (qs.map fun q => q.2).map T.int := by simp [Function.comp_def]
    rw [e]
    refine .of (run_law_rows (fun n hn => ?_) (by rw [List.length_map]; exact hq.len)) ?_
    · obtain ⟨q, hq2, rfl⟩ := List.mem_map.mp hn
      have := hq.many q hq2; omega
    · have e2 : lawRows (qs.map fun q => q.2) = allRows 0 qs := by
        unfold lawRows allRows rowsF
        rw [lawRows_qs (least := 0)]
        congr 1
        simp
      simp [e2]
def lessOne (r : Row) : Row := r.map fun a => a - 1
def lawEvery (qs : Qs) : List Row := (lawRows (qs.map fun q => q.2 + 1)).map lessOne
theorem grow_less {found : List Row} {x y : Str} {n : Int} : (grow 0 found (x, n + 1)).map lessOne = grow (-1) (found.map lessOne) (y, n) := by
  unfold grow
  have e : rangeI (-1) n = (rangeI 0 (n + 1)).map fun a => a - 1 := by
    unfold rangeI
    rw [List.map_map, show (n - -1).toNat = (n + 1 - 0).toNat by omega]
    exact List.map_congr_left fun a _ => by simp; omega
  rw [e]
  induction found with
  | nil => rfl
  | cons r rs ih =>
    simp only [List.flatMap_cons, List.map_append, List.map_cons, ih, List.map_map]
    congr 1
    exact List.map_congr_left fun a _ => by simp [lessOne]
theorem lawEvery_eq : lawEvery qs = allRows (-1) qs := by
  unfold lawEvery lawRows allRows rowsF
  have key : ∀ (qs : Qs) (found : List Row), ((qs.map fun q => q.2 + 1).foldl (fun f n => grow 0 f (Str.ofString "", n)) found).map lessOne = qs.foldl (grow (-1)) (found.map lessOne) := by
    intro qs
    induction qs with
    | nil => intro found; rfl
    | cons q qs ih =>
      intro found
      simp only [List.map_cons, List.foldl_cons]
      rw [ih, grow_less (y := q.1)]
  exact key qs [[]]
theorem run_every (hq : QsOk qs) : f__law_every [qsT qs] st = some (.ok (.lst ((lawEvery qs).map rowT)), st) := by
  rw [← ev_eq]
  unfold f__law_every m__law_every
  rw [ev_def]
  simp
  refine Ev.lcM rowT (fun r => rowT (lessOne r)) ?_
  simp
  refine Ev.lcM qT (fun q => .int (q.2 + 1)) ?_
  simp [qsT]
  refine ⟨qs, rfl, by have := hq.len; omega, fun n m hm => ?_, ?_⟩
  · refine evG_tup2 ?_
    simp [wipeE]
  · have e : (qs.map fun q => T.int (q.2 + 1)) = (qs.map fun q => q.2 + 1).map T.int := by simp [Function.comp_def]
    rw [e]
    have hev := lawEvery_eq (qs := qs)
    have hlen : (lawRows (qs.map fun q => q.2 + 1)).length ≤ 1000000 := by
      have := sheets_len hq
      rw [← hev, lawEvery, List.length_map] at this
      exact this
    have hmem : ∀ r ∈ lawRows (qs.map fun q => q.2 + 1), r.length ≤ 1000 := fun r hr => by
      have h1 : lessOne r ∈ lawEvery qs := List.mem_map.mpr ⟨r, hr, rfl⟩
      rw [hev] at h1
      have h2 := shp_len (mem_sheets.mp h1)
      have := hq.len
      simp [lessOne] at h2
      omega
    refine .of (run_law_rows (fun n hn => ?_) (by rw [List.length_map]; exact hq.len)) ?_
    · obtain ⟨q, hq2, rfl⟩ := List.mem_map.mp hn
      have := hq.many q hq2; omega
    · refine ⟨_, rfl, _, rfl, hlen, fun r hr => ?_, ?_⟩
      · simp [wipeE, Tg.sem]
        refine Ev.lcM T.int (fun a => .int (a - 1)) ?_
        have := hmem r hr
        simp [rowT]
        refine ⟨r, rfl, by omega, fun a ha => ?_, ?_⟩
        · simp [wipeE, Tg.sem]
        · simp [tupleT, seqO, lessOne, Function.comp_def]
      · simp [lawEvery, Function.comp_def]
        exact pures_map fun _ _ => rowT_pure
end KM
/-! lots, sheets, truths drawn, counts drawn -/
namespace KM
open PySem L2 PL
variable {st : Store} {qs : Qs} {i : Nat}
theorem run_within {l : Lot} (hl : ∀ x ∈ l, NmOk x) (hn : l.length ≤ 10) : f__law_within [lotT l] st = some (.ok (.lst ((lotsW l).map lotT)), st) := by
  rw [← ev_eq]
  unfold f__law_within m__law_within
  rw [ev_def]
  simp
  have hb : 2 ^ l.length ≤ 2 ^ 10 := Nat.pow_le_pow_right (by decide) hn
  refine ⟨l.map T.str, rfl, ?_⟩
  refine EvS.loopI T.str (fun ns env s' => s' = st ∧ ∃ found j2 j3, env = [some (lotT l), some (.lst (found.map lotT)), j2, j3] ∧ found.length * 2 ^ ns.length ≤ 1000000 ∧ (∀ r ∈ found, r.length + ns.length ≤ 1000) ∧ ns.foldl growL found = subs l) ?_ ?_ ?_
  · exact ⟨rfl, [[]], none, none, rfl, by simp; omega, by simp; omega, rfl⟩
  · rintro n ns env st ⟨rfl, found, j2, j3, rfl, h1, h2, h3⟩
    rw [List.length_cons, Nat.pow_succ] at h1
    have p2 : 1 ≤ 2 ^ ns.length := Nat.one_le_pow _ _ (by decide)
    have p3 : found.length * 2 ≤ found.length * (2 ^ ns.length * 2) := Nat.mul_le_mul_left _ (by omega)
    simp
    refine Ev.lcM lotT (fun x => lotT (x ++ [n])) ?_
    simp
    refine ⟨found, rfl, by omega, ?_, ?_⟩
    · intro x hx
      have := h2 x hx
      simp only [List.length_cons] at this
      simp [wipeE, Tg.sem, lotT]
      omega
    · refine ⟨_, ⟨by omega, rfl⟩, growL found n, by simp [growL, Function.comp_def], by rw [growL_len, Nat.mul_assoc, Nat.mul_comm 2]; exact h1, fun r hr => ?_, h3⟩
      simp only [growL, List.mem_append, List.mem_map] at hr
      rcases hr with hr | ⟨r0, hr, rfl⟩
      · have := h2 r hr; simp only [List.length_cons] at this; omega
      · have := h2 r0 hr; simp only [List.length_cons] at this; simp; omega
  · rintro env st ⟨rfl, found, j2, j3, rfl, h1, h2, h3⟩
    simp only [List.foldl_nil] at h3
    subst h3
    have e : srtOk ((subs l).map lotT) = true := by
      refine srtOk_map ?_ (fun a m => ?_) (fun a _ b _ => alike_lot a b) fun a _ => rfl
      · have := subs_len l [[]]; unfold subs; simp at this; omega
      · obtain ⟨y, hy, z, hz, rfl⟩ := subs_mem l [[]] a m
        simp only [List.mem_singleton] at hy
        subst hy
        exact dat_lot fun x hx => hl x (hz.subset (by simpa using hx))
    simp [sortedA, e, srtT_map, lotsW]
def namesOf (qs : Qs) : Lot := qs.map (·.1)
theorem names_ok (hq : QsOk qs) : ∀ x ∈ namesOf qs, NmOk x := fun x hx => by
  obtain ⟨q, m, rfl⟩ := List.mem_map.mp hx; exact hq.nm q m
theorem run_lots_law (hq : QsOk qs) : f__law_lots [qsT qs] st = some (.ok (.lst ((lotsW (namesOf qs)).map lotT)), st) := by
  rw [← ev_eq]
  unfold f__law_lots m__law_lots
  rw [ev_def]
  simp
  refine Ev.lcM qT (fun q => .str q.1) ?_
  simp [qsT]
  refine ⟨qs, rfl, by have := hq.len; omega, fun n m hm => ?_, ?_⟩
  · refine evG_tup2 ?_
    simp [wipeE]
  · have e : (qs.map fun q => T.str q.1) = (namesOf qs).map T.str := by simp [namesOf, Function.comp_def]
    simp [tupleT, seqO, e]
    refine .of (run_within (names_ok hq) (by unfold namesOf; rw [List.length_map]; have := hq.len; omega)) ?_
    simp
theorem zip_get : ∀ (qs : Qs) (t : Row) (lot : Lot), t.length = qs.length → sheetOf qs lot t = (List.range qs.length).map fun k => if (qs.getD k (Str.ofString "", 0)).1 ∈ lot then -1 else t.getD k 0
  | [], [], _, _ => rfl
  | q :: qs, a :: t, lot, h => by
    have := zip_get qs t lot (by simpa using h)
    show (if q.1 ∈ lot then -1 else a) :: sheetOf qs lot t = _
    rw [this, List.length_cons, List.range_succ_eq_map]
    simp [Function.comp_def]
  | [], _ :: _, _, h => by simp at h
  | _ :: _, [], _, h => by simp at h
theorem atI_get {α : Type} {xs : List α} {k : Nat} (h : k < xs.length) : atI xs (k : Int) = some xs[k] := by
  simp [atI, ixN, h]
theorem run_law_sheet {lot : Lot} {t : Row} (hq : QsOk qs) (hl : ∀ x ∈ lot, NmOk x) (ht : t.length = qs.length) : f__law_sheet [qsT qs, lotT lot, rowT t] st = some (.ok (rowT (sheetOf qs lot t)), st) := by
  rw [← ev_eq]
  unfold f__law_sheet m__law_sheet
  rw [ev_def]
  simp
  have h4 := hq.len
  refine Ev.lcM (fun k : Nat => T.int (k : Int)) (fun k => .int (if (qs.getD k (Str.ofString "", 0)).1 ∈ lot then -1 else t.getD k 0)) ?_
  simp [lenT, qsT, seqO]
  refine ⟨by omega, List.range qs.length, by simp [rangeT], by simp; omega, fun k hk => ?_, ?_⟩
  · rw [List.mem_range] at hk
    have e1 : ixT st (.tup (qs.map qT)) (.int (k : Int)) = some (qT qs[k]) := by simp [ixT, atI_get (xs := qs.map qT) (k := k) (by simpa using hk)]
    have e2 : ixT st (rowT t) (.int (k : Int)) = some (.int (t[k]'(by omega))) := by simp [ixT, rowT, atI_get (xs := t.map T.int) (k := k) (by simp; omega)]
    have hn := hq.nm qs[k] (List.getElem_mem _)
    have g1 : qs.getD k (Str.ofString "", 0) = qs[k] := by simp [hk]
    have g2 : t.getD k 0 = t[k]'(by omega) := by simp [show k < t.length by omega]
    simp [wipeE, Tg.sem, e1, qT, ix0, inA_lot hl hn, e2]
    by_cases hc : qs[k].1 ∈ lot
    · simp [hc, hk]
    · simp [hc, hk, e2, show k < t.length by omega]
  · have := zip_get qs t lot ht
    simp [tupleT, seqO, this, rowT, Function.comp_def]
/-! sets of such things -/
def dedupA {α : Type} [DecidableEq α] : List α → List α
  | [] => []
  | x :: xs => x :: (dedupA xs).filter fun y => !decide (x = y)
section
variable {α : Type} [DecidableEq α] {f : α → T}
theorem dedupA_sub : ∀ {l : List α} {x : α}, x ∈ dedupA l ↔ x ∈ l
  | [], x => by simp [dedupA]
  | y :: l, x => by
    simp only [dedupA, List.mem_cons, List.mem_filter, dedupA_sub (l := l)]
    by_cases h : x = y
    · simp [h]
    · simp [h, Ne.symm h]
theorem dedupA_nd : ∀ {l : List α}, (dedupA l).Nodup
  | [] => by simp [dedupA]
  | y :: l => by
    simp only [dedupA, List.nodup_cons, List.mem_filter]
    exact ⟨fun h => by simp at h, (dedupA_nd (l := l)).filter _⟩
theorem dedupT_map (l : List α) (h : ∀ a ∈ l, ∀ b ∈ l, T.eqv (f a) (f b) = decide (a = b)) : dedupT (l.map f) = (dedupA l).map f := by
  induction l with
  | nil => rfl
  | cons x l ih =>
    simp only [List.map_cons, dedupT, dedupA]
    rw [ih fun a ha b hb => h a (List.mem_cons_of_mem _ ha) b (List.mem_cons_of_mem _ hb), List.filter_map]
    congr 2
    refine List.filter_congr fun y hy => ?_
    simp only [Function.comp_apply]
    rw [h x List.mem_cons_self y (List.mem_cons_of_mem _ (dedupA_sub.mp hy))]
theorem nd_len {l m : List α} (h : l.Nodup) (hs : ∀ x ∈ l, x ∈ m) : l.length ≤ m.length := by
  induction l generalizing m with
  | nil => simp
  | cons x l ih =>
    rw [List.nodup_cons] at h
    have hx := hs x List.mem_cons_self
    have := ih (m := m.erase x) h.2 fun y hy => by
      have hne : y ≠ x := fun e => h.1 (e ▸ hy)
      exact (List.mem_erase_of_ne hne).mpr (hs y (List.mem_cons_of_mem _ hy))
    rw [List.length_erase_of_mem hx] at this
    have := List.length_pos_of_mem hx
    simp only [List.length_cons]
    omega
theorem sortSet_ok {l m : List α} (h : ∀ a ∈ l, ∀ b ∈ l, T.eqv (f a) (f b) = decide (a = b)) (hk : ∀ a ∈ l, (f a).dkey = true) (hm : ∀ a ∈ l, a ∈ m) (h64 : m.length < 64) (hd : ∀ a ∈ l, (f a).dat 60 = true) (ha : ∀ a ∈ l, ∀ b ∈ l, (f a).alike (f b) = true) (ht : ∀ a ∈ l, isTupD (f a).data = true) :
    ∃ u : List α, u.Nodup ∧ (∀ x, x ∈ u ↔ x ∈ l) ∧ sortSetO st (.lst (l.map f)) = some (.lst (u.map f)) := by
  have hlen : (dedupA l).length < 64 := Nat.lt_of_le_of_lt (nd_len dedupA_nd fun x hx => hm x (dedupA_sub.mp hx)) h64
  have e := dedupT_map l h
  have ok : srtOk ((dedupA l).map f) = true := srtOk_map (by omega) (fun a m => hd a (dedupA_sub.mp m)) (fun a m b n => ha a (dedupA_sub.mp m) b (dedupA_sub.mp n)) fun a m => ht a (dedupA_sub.mp m)
  have so : setOk (l.map f) = true := by
    simp only [setOk, e, ok, List.length_map, hlen, decide_true, Bool.and_true, List.all_eq_true]
    intro t ht
    obtain ⟨a, ha, rfl⟩ := List.mem_map.mp ht
    exact hk a ha
  refine ⟨(dedupA l).mergeSort fun a b => T.leD (f a) (f b), (List.mergeSort_perm _ _).nodup_iff.mpr dedupA_nd, fun x => by rw [List.mem_mergeSort, dedupA_sub], ?_⟩
  simp [sortSetO, so, e, srtT_map]
end
theorem dkey_lot {l : Lot} (h : ∀ x ∈ l, NmOk x) : (lotT l).dkey = true := by simp [T.dkey, lotT, T.isTup]; exact key_lot h
theorem subs_of : ∀ (l : Lot) (found : List Lot) (y z : Lot), y ∈ found → z.Sublist l → y ++ z ∈ l.foldl growL found
  | [], found, y, z, hy, hz => by
    have : z = [] := List.sublist_nil.mp hz
    subst this; simpa using hy
  | n :: l, found, y, z, hy, hz => by
    rw [List.foldl_cons]
    cases hz with
    | cons _ h => exact subs_of l _ y z (by simp [growL, hy]) h
    | cons_cons _ h =>
      have := subs_of l (growL found n) (y ++ [n]) _ (by simp [growL, hy]) h
      simpa using this
theorem sub_mem {l z : Lot} (h : z.Sublist l) : z ∈ lotsW l := by
  unfold lotsW; rw [List.mem_mergeSort]
  have := subs_of l [[]] [] z (by simp) h
  unfold subs
  simpa using this
/-- a family of lots as it is drawn -/
def LotsL (qs : Qs) (L : List Lot) : Prop := (∀ l ∈ L, l.Sublist (namesOf qs)) ∧ L.length ≤ 8
theorem lots8 (hq : QsL qs) : (lotsW (namesOf qs)).length ≤ 8 := by
  rw [lotsW_len]
  have : 2 ^ (namesOf qs).length ≤ 2 ^ 3 := Nat.pow_le_pow_right (by decide) (by unfold namesOf; rw [List.length_map]; exact hq.l2)
  omega
theorem run_closed (hd : Dl i st st) (hq : QsL qs) : Ev (f__law_closed [.cell i, qsT qs] st) fun t st' => ∃ L, t = .lst (L.map lotT) ∧ LotsL qs L ∧ Dl i st st' := by
  obtain ⟨cells, mix, d, e, hi⟩ := hd.at_
  have h8 := lots8 hq
  have hnm := names_ok hq.ok
  unfold f__law_closed m__law_closed
  rw [ev_def]
  simp [deal_deref e]
  refine (run_any hd (b := 2) (by decide) (by decide)).mono fun t s ⟨r, er, r0, r1, hs⟩ => ?_
  subst er
  by_cases hr0 : r = 0
  · subst hr0
    simp
    refine .of (run_lots_law hq.ok) ?_
    simp
    refine ⟨_, rfl, ⟨fun l hl => mem_lotsW hl, h8⟩, ?_⟩
    rw [dl_take hs]; exact hs
  · obtain ⟨c2, m2, d2, e2, hi2⟩ := hs.at_
    simp [hr0, deal_deref e2]
    refine (run_any hs.refl (b := 4) (by decide) (by decide)).mono fun t s2 ⟨r2, er, r0, r1, hs2⟩ => ?_
    subst er
    simp
    refine ⟨by omega, ?_⟩
    rw [rangeT_eq]
    refine EvS.loopI T.int (fun xs env s => ∃ (found : List Lot) (j : Option T), env = [some (.cell i), some (qsT qs), some (.lst (found.map lotT)), j] ∧ Dl i st s ∧ (∀ l ∈ found, l.Sublist (namesOf qs)) ∧ found.length + xs.length * 8 ≤ 100) ?_ ?_ ?_
    · exact ⟨[[]], none, rfl, hs.trans hs2, by simp, by simp; omega⟩
    · rintro x xs env s ⟨found, j, rfl, hds, hf, hl⟩
      obtain ⟨c3, m3, d3, e3, hi3⟩ := hds.at_
      simp [deal_deref e3]
      refine .of (run_lots_law hq.ok) ?_
      have hne : (lotsW (namesOf qs)).map lotT ≠ [] := fun h => by
        have := congrArg List.length h
        rw [List.length_map, lotsW_len] at this
        simp at this
      refine (run_of_seq hds.refl (.inl rfl) hne (by rw [List.length_map]; omega) lots_pure).mono fun t s3 ⟨ht, hs3⟩ => ?_
      obtain ⟨lot, hlot, rfl⟩ := List.mem_map.mp ht
      have hsub := mem_lotsW hlot
      have hlen := hsub.length_le
      have hn3 : (namesOf qs).length ≤ 3 := by unfold namesOf; rw [List.length_map]; exact hq.l2
      simp only [List.length_cons] at hl
      refine .of (run_within (fun x hx => hnm x (hsub.subset hx)) (by omega)) ?_
      have hw : (lotsW lot).length ≤ 8 := by
        rw [lotsW_len]
        have : 2 ^ lot.length ≤ 2 ^ 3 := Nat.pow_le_pow_right (by decide) (by omega)
        omega
      rw [addT_lst, if_pos (by simp only [List.length_map]; omega)]
      refine ⟨_, rfl, found ++ lotsW lot, by simp, hds.trans hs3, fun l hl => ?_, by simp; omega⟩
      rcases List.mem_append.mp hl with h | h
      · exact hf l h
      · exact (mem_lotsW h).trans hsub
    · rintro env s ⟨found, j, rfl, hds, hf, hl⟩
      have hok : ∀ l ∈ found, ∀ x ∈ l, NmOk x := fun l hl x hx => hnm x ((hf l hl).subset hx)
      have hin : ∀ l ∈ found, l ∈ lotsW (namesOf qs) := fun l hl => by
        exact sub_mem (hf l hl)
      obtain ⟨u, hu, hmem, eu⟩ := sortSet_ok (st := s) (f := lotT) (l := found) (m := lotsW (namesOf qs)) (fun a ha b hb => eqv_lot (hok a ha) (hok b hb)) (fun a ha => dkey_lot (hok a ha)) hin (by omega) (fun a ha => dat_lot (hok a ha)) (fun a _ b _ => alike_lot a b) fun _ _ => rfl
      simp [eu]
      refine ⟨u, rfl, ⟨fun l hl => hf l ((hmem l).mp hl), ?_⟩, ?_⟩
      · exact Nat.le_trans (nd_len hu fun x hx => hin x ((hmem x).mp hx)) h8
      · rw [dl_take hds]; exact hds
/-! truths drawn -/
theorem mem_truthsA {r : Row} : r ∈ allRows 0 qs ↔ Pw (fun (a : Int) (q : Str × Int) => 0 ≤ a ∧ a < q.2) r qs := by
  unfold allRows
  rw [mem_grows]
  simp
theorem truth_shp {r : Row} (h : r ∈ allRows 0 qs) : Shp qs r := (mem_truthsA.mp h).mono fun a q h => by omega
theorem truth_no : ∀ {qs : Qs} {r : Row}, Pw (fun (a : Int) (q : Str × Int) => 0 ≤ a ∧ a < q.2) r qs → ¬ -1 ∈ r
  | [], [], _ => by simp
  | q :: qs, a :: r, h => by
    have := truth_no h.2
    simp only [List.mem_cons, not_or]
    exact ⟨by have := h.1; omega, this⟩
  | [], _ :: _, h => h.elim
  | _ :: _, [], h => h.elim
theorem rows_len {least : Int} (hl : -1 ≤ least) (hq : QsL qs) : (allRows least qs).length ≤ 27 := by
  have key : ∀ (qs : Qs) (found : List Row) (m : Nat), (∀ q ∈ qs, q.2 + 1 ≤ m) → (rowsF least qs found).length ≤ found.length * m ^ qs.length := by
    intro qs
    induction qs with
    | nil => intro found m _; simp [rowsF]
    | cons q qs ih =>
      intro found m h
      have := ih (grow least found q) m fun z mz => h z (List.mem_cons_of_mem _ mz)
      rw [grow_len] at this
      have hq := h q List.mem_cons_self
      have e : found.length * (q.2 - least).toNat ≤ found.length * m := Nat.mul_le_mul_left _ (by omega)
      have e2 := Nat.mul_le_mul_right (m ^ qs.length) e
      rw [List.length_cons, Nat.pow_succ]
      show (rowsF least qs (grow least found q)).length ≤ _
      rw [Nat.mul_comm (m ^ qs.length), ← Nat.mul_assoc]
      omega
  unfold allRows
  by_cases h3 : 3 ≤ qs.length
  · have := key qs [[]] 3 fun q m => by have := (hq.many q m).2.2 h3; omega
    have e : qs.length = 3 := by have := hq.l2; omega
    rw [e] at this
    exact this
  · have := key qs [[]] 4 fun q m => by have := hq.many q m; omega
    have e : 4 ^ qs.length ≤ 4 ^ 2 := Nat.pow_le_pow_right (by decide) (by omega)
    simp only [List.length_singleton] at this
    omega
theorem run_some_truths (hd : Dl i st st) (hq : QsL qs) : Ev (f__law_some_truths [.cell i, qsT qs] st) fun t st' => ∃ R : List Row, t = .lst (R.map rowT) ∧ R.Sublist (allRows 0 qs) ∧ Dl i st st' := by
  obtain ⟨cells, mix, d, e, hi⟩ := hd.at_
  have h27 := rows_len (least := 0) (by decide) hq
  have hpos : 0 < (allRows 0 qs).length := by
    refine List.length_pos_iff.mpr fun h => ?_
    have : (qs.map fun _ => (0 : Int)) ∈ allRows 0 qs := by
      rw [mem_truthsA]
      have hm := hq.many
      clear h h27 hq
      induction qs with
      | nil => trivial
      | cons q qs ih => exact ⟨⟨Int.le_refl _, by have := hm q List.mem_cons_self; show (0 : Int) < q.2; omega⟩, ih fun z m => ⟨(hm z (List.mem_cons_of_mem _ m)).1, (hm z (List.mem_cons_of_mem _ m)).2.1, fun h => (hm z (List.mem_cons_of_mem _ m)).2.2 (by simp; omega)⟩⟩
    rw [h] at this
    cases this
  unfold f__law_some_truths m__law_some_truths
  rw [ev_def]
  simp
  refine .of (run_truths_law hq.ok) ?_
  simp [deal_deref e]
  refine (run_any hd (b := 2) (by decide) (by decide)).mono fun t s ⟨r, er, r0, r1, hs⟩ => ?_
  subst er
  by_cases hr0 : r = 0
  · subst hr0
    simp
    refine ⟨_, rfl, List.Sublist.refl _, ?_⟩
    rw [dl_take hs]; exact hs
  · obtain ⟨c2, m2, d2, e2, hi2⟩ := hs.at_
    simp [hr0, deal_deref e2, lenT, seqO]
    refine (run_any hs.refl (b := ((allRows 0 qs).length : Int)) (by omega) (by omega)).mono fun t s2 ⟨base, er, r0, r1, hs2⟩ => ?_
    subst er
    have hs3 := hs.trans hs2
    refine Ev.lcI (fun p : Row × Nat => T.int (p.2 : Int)) (fun xs acc s => ∃ R : List Row, acc = R.map rowT ∧ (R ++ xs.map (·.1)).Sublist (allRows 0 qs) ∧ (∀ p ∈ xs, ∃ h : p.2 < (allRows 0 qs).length, (allRows 0 qs)[p.2] = p.1) ∧ Dl i st s) ?_
    simp [lenT, seqO]
    refine ⟨by omega, (allRows 0 qs).zipIdx, ?_, ⟨by simp, ?_, hs3⟩, ?_, ?_⟩
    · rw [show (fun p : Row × Nat => T.int (p.2 : Int)) = (fun k : Nat => T.int (k : Int)) ∘ Prod.snd from rfl, ← List.map_map, List.zipIdx_map_snd]
      simp [rangeT, List.range_eq_range']
    · intro r k hk
      have := List.mem_zipIdx hk
      simp at this
      obtain ⟨h1, h2⟩ := this
      exact ⟨h1, h2.symm⟩
    · rintro r k xs acc s R rfl hsub hk ek hall hds
      obtain ⟨c3, m3, d3, e3, hi3⟩ := hds.at_
      have hix : ∀ st : Store, ixT st (.lst ((allRows 0 qs).map rowT)) (.int (k : Int)) = some (rowT r) := fun st => by
        have : atI ((allRows 0 qs).map rowT) (k : Int) = some (rowT r) := by
          rw [atI_get (by simpa using hk)]
          simp [ek]
        simp [ixT, this]
      have hlt : R.length < 1000000 := by
        have := hsub.length_le
        simp at this; omega
      have hskip : (R ++ xs.map (·.1)).Sublist (allRows 0 qs) := by
        refine List.Sublist.trans ?_ hsub
        exact List.Sublist.append (List.Sublist.refl _) (by simp)
      simp [wipeE, Tg.sem]
      by_cases hkb : (k : Int) = base
      · simp [hkb]
        rw [← hkb, hix]
        simp
        exact ⟨hlt, R ++ [r], by simp, by simpa using hsub, hall, hds⟩
      · simp [hkb, deal_deref e3]
        refine (run_any hds.refl (b := 3) (by decide) (by decide)).mono fun t s4 ⟨r3, er, r0, r1, hs4⟩ => ?_
        subst er
        by_cases h3 : 0 < r3
        · simp [gtT, h3, hix]
          exact ⟨hlt, R ++ [r], by simp, by simpa using hsub, hall, hds.trans hs4⟩
        · simp [gtT, h3]
          exact ⟨R, rfl, hskip, hall, hds.trans hs4⟩
    · rintro acc s R rfl hsub hds
      simp
      exact ⟨R, rfl, hsub, by rw [dl_take hds]; exact hds⟩
/-! the sheets that come -/
theorem sheet_shp {lot : Lot} : ∀ {qs : Qs} {t : Row}, Pw (fun (a : Int) (q : Str × Int) => 0 ≤ a ∧ a < q.2) t qs → Shp qs (sheetOf qs lot t)
  | [], [], _ => trivial
  | q :: qs, a :: t, h => by
    have ih := sheet_shp (lot := lot) h.2
    show Shp (q :: qs) ((if q.1 ∈ lot then -1 else a) :: sheetOf qs lot t)
    refine ⟨?_, ih⟩
    have := h.1
    split <;> omega
  | [], _ :: _, h => h.elim
  | _ :: _, [], h => h.elim
theorem sheet_blank {lot : Lot} {n : Str} (hn : n ∈ lot) : ∀ {qs : Qs} {t : Row}, t.length = qs.length → n ∈ namesOf qs → -1 ∈ sheetOf qs lot t
  | [], [], _, h => by cases h
  | q :: qs, a :: t, hl, h => by
    show -1 ∈ (if q.1 ∈ lot then -1 else a) :: sheetOf qs lot t
    simp only [namesOf, List.map_cons, List.mem_cons] at h
    rcases h with h | h
    · subst h; rw [if_pos hn]; exact List.mem_cons_self
    · exact List.mem_cons_of_mem _ (sheet_blank hn (by simpa using hl) h)
  | [], _ :: _, hl, _ => by simp at hl
  | _ :: _, [], hl, _ => by simp at hl
theorem run_came {R : List Row} {L : List Lot} (hq : QsL qs) (hR : R.Sublist (allRows 0 qs)) (hL : LotsL qs L) : Ev (f__law_came [qsT qs, .lst (R.map rowT), .lst (L.map lotT)] st) fun t st' => st' = st ∧ ∃ S : List Row, t = .lst (S.map rowT) ∧ S.Nodup ∧ ∀ s ∈ S, Shp qs s ∧ -1 ∈ s := by
  have hnm := names_ok hq.ok
  have h27 := rows_len (least := 0) (by decide) hq
  have hRl := hR.length_le
  have hLl := hL.2
  unfold f__law_came m__law_came
  rw [ev_def]
  simp
  refine EvS.loopI lotT (fun ls env s => s = st ∧ ∃ (found : List Row) (j4 j5 : Option T), env = [some (qsT qs), some (.lst (R.map rowT)), some (.lst (L.map lotT)), some (.lst (found.map rowT)), j4, j5] ∧ (∀ l ∈ ls, l.Sublist (namesOf qs)) ∧ (∀ s ∈ found, Shp qs s ∧ -1 ∈ s) ∧ found.length + ls.length * 27 ≤ 1000) ?_ ?_ ?_
  · exact ⟨rfl, [], none, none, rfl, hL.1, by simp, by simp; omega⟩
  · rintro l ls env s ⟨rfl, found, j4, j5, rfl, g1, g2, g3⟩
    have hsub := g1 l List.mem_cons_self
    have hok : ∀ x ∈ l, NmOk x := fun x hx => hnm x (hsub.subset hx)
    simp only [List.length_cons] at g3
    simp
    refine Ev.lcP rowT (fun _ => !decide (l = [])) (fun t => rowT (sheetOf qs l t)) ?_
    simp
    refine ⟨R, rfl, by omega, fun t ht => ?_, ?_⟩
    · have hs := truth_shp (hR.subset ht)
      simp [wipeE, Tg.sem, neT_lot0 hok]
      by_cases h0 : l = []
      · simp [h0]
      · simp [h0]
        exact .of (run_law_sheet hq.ok hok (shp_len hs)) ⟨rfl, rfl⟩
    · have e : (List.map (fun t => rowT (sheetOf qs l t)) (List.filter (fun _ => !decide (l = [])) R)) = (((R.filter fun _ => !decide (l = [])).map fun t => sheetOf qs l t)).map rowT := by simp [Function.comp_def]
      have hf := List.length_filter_le (fun _ => !decide (l = [])) R
      rw [e]
      refine ⟨_, ⟨by omega, rfl⟩, found ++ (R.filter fun _ => !decide (l = [])).map fun t => sheetOf qs l t, by simp, fun z m => g1 z (List.mem_cons_of_mem _ m), fun s hs => ?_, by simp only [List.length_append, List.length_map]; omega⟩
      rcases List.mem_append.mp hs with h | h
      · exact g2 s h
      · obtain ⟨t, ht, rfl⟩ := List.mem_map.mp h
        obtain ⟨ht, hne⟩ := List.mem_filter.mp ht
        have hl0 : l ≠ [] := by simpa using hne
        have htr := mem_truthsA.mp (hR.subset ht)
        obtain ⟨n, hn⟩ := List.exists_mem_of_ne_nil l hl0
        exact ⟨sheet_shp htr, sheet_blank hn htr.len (hsub.subset hn)⟩
  · rintro env s ⟨rfl, found, j4, j5, rfl, g1, g2, g3⟩
    obtain ⟨u, hu, hmem, eu⟩ := sortSet_ok (st := s) (f := rowT) (l := found) (m := allRows (-1) qs) (fun a _ b _ => eqv_row) (fun a _ => dkey_row) (fun a ha => mem_sheets.mpr (g2 a ha).1) (by have := rows_len (least := -1) (by decide) hq; omega) (fun a _ => dat_row) (fun a _ b _ => alike_row a b) fun _ _ => rfl
    simp [eu]
    exact ⟨u, rfl, hu, fun s hs => g2 s ((hmem s).mp hs)⟩
/-- counts as they are drawn -/
structure CtsL (qs : Qs) (l : Cts) : Prop where
  sh : ∀ p ∈ l, Shp qs p.1
  pos : ∀ p ∈ l, 1 ≤ p.2 ∧ p.2 ≤ 5
  nd : (l.map (·.1)).Nodup
theorem CtsL.len {l : Cts} (hq : QsL qs) (h : CtsL qs l) : l.length ≤ 27 := by
  have := nd_len h.nd (m := allRows (-1) qs) fun x hx => by
    obtain ⟨p, hp, rfl⟩ := List.mem_map.mp hx
    exact mem_sheets.mpr (h.sh p hp)
  rw [List.length_map] at this
  exact Nat.le_trans this (rows_len (by decide) hq)
theorem run_counts (hd : Dl i st st) (hq : QsL qs) : Ev (f__law_counts [.cell i, qsT qs] st) fun t st' => ∃ l : Cts, t = ctsT l ∧ CtsL qs l ∧ Dl i st st' := by
  obtain ⟨cells, mix, d, e, hi⟩ := hd.at_
  have hnd0 : (allRows 0 qs).Nodup := nodup_rows qs [[]] (by simp)
  unfold f__law_counts m__law_counts
  rw [ev_def]
  simp [deal_deref e]
  refine (run_some_truths hd hq).mono fun t s ⟨R, et, hR, hs⟩ => ?_
  subst et
  obtain ⟨c2, m2, d2, e2, hi2⟩ := hs.at_
  simp [deal_deref e2]
  refine (run_closed hs.refl hq).mono fun t s2 ⟨L, et, hL, hs2⟩ => ?_
  subst et
  refine (run_came (st := s2) hq hR hL).mono fun t s3 ⟨es, S, et, hS, hSm⟩ => ?_
  rw [es]
  subst et
  have h27 := rows_len (least := 0) (by decide) hq
  have h27' := rows_len (least := -1) (by decide) hq
  have hRl := hR.length_le
  have hSl : S.length ≤ 27 := Nat.le_trans (nd_len hS fun x hx => mem_sheets.mpr (hSm x hx).1) h27'
  rw [addT_lst, if_pos (by simp only [List.length_map]; omega)]
  have hs3 := hs.trans hs2
  obtain ⟨c4, m4, d4, e4, hi4⟩ := hs3.at_
  have erow : R.map rowT ++ S.map rowT = (R ++ S).map rowT := by simp
  rw [erow]
  have hsort : sortedA s2 [.lst ((R ++ S).map rowT)] = some (.lst ((sortedS (R ++ S)).map rowT)) := by
    simp only [sortedA, look_lst, srtOk_rows (show (R ++ S).length ≤ 1000000 by rw [List.length_append]; omega), if_true, srtT_map, sortedS]
  refine ⟨_, rfl, _, hsort, ?_⟩
  simp [deal_deref e4]
  have fin : ∀ (some_ : List Row) (s : Store) (j4 : Option T), some_.Nodup → (∀ r ∈ some_, Shp qs r) → Dl i st s → Ev (mLc (mIter (mVar 3)) (Tg.sem (.var 4)) (fun _ st => ok true st) (mTup (mCons (mVar 4) (mCons (mOp2 addT (mC (.int 1)) (mCall 2 f__law_any (mCons (mVar 0) (mCons (mC (.int 5)) (mNil))))) (mNil)))) [4] [some (.cell i), some (qsT qs), some (.lst (R.map rowT)), some (.lst (some_.map rowT)), j4] s) fun a s_1 => ∃ t, tupleT s_1 [a.t] = some t ∧ t.pure = true ∧ ∃ l : Cts, t = ctsT l ∧ CtsL qs l ∧ Dl i st (List.take (List.length st) s_1) := by
    intro some_ s j4 hnd hsh hds
    have hl : some_.length ≤ 27 := Nat.le_trans (nd_len hnd fun x hx => mem_sheets.mpr (hsh x hx)) h27'
    refine Ev.lcI rowT (fun xs acc s => ∃ l : Cts, acc = l.map cpT ∧ l.map (·.1) ++ xs = some_ ∧ (∀ p ∈ l, 1 ≤ p.2 ∧ p.2 ≤ 5) ∧ Dl i st s) ?_
    simp
    refine ⟨some_, rfl, ⟨rfl, hds⟩, ?_, ?_⟩
    · rintro x xs acc s l rfl hx hp hds
      obtain ⟨c5, m5, d5, e5, hi5⟩ := hds.at_
      simp [wipeE, Tg.sem, deal_deref e5]
      refine (run_any hds.refl (b := 5) (by decide) (by decide)).mono fun t s ⟨r, er, r0, r1, hs⟩ => ?_
      subst er
      have hll : l.length ≤ 27 := by have := congrArg List.length hx; simp at this; omega
      simp
      refine ⟨by omega, l ++ [(x, 1 + r)], by simp [cpT], by simpa using hx, fun a b hm => ?_, hds.trans hs⟩
      rcases List.mem_append.mp hm with hm | hm
      · exact hp a b hm
      · rw [List.mem_singleton] at hm; cases hm; omega
    · rintro acc s l rfl hx hp hds
      simp [tupleT, seqO]
      refine ⟨pures_map fun _ _ => by simp [cpT], l, rfl, ⟨fun p hm => hsh _ (by rw [← hx]; exact List.mem_map.mpr ⟨p, hm, rfl⟩), fun p hm => hp p.1 p.2 hm, by rw [hx]; exact hnd⟩, ?_⟩
      rw [dl_take hds]; exact hds
  refine (run_any hs3.refl (b := 3) (by decide) (by decide)).mono fun t s4 ⟨r, er, r0, r1, hs4⟩ => ?_
  subst er
  by_cases hr0 : r = 0
  · subst hr0
    simp
    refine Ev.lcI rowT (fun xs acc s => ∃ R : List Row, acc = R.map rowT ∧ (R ++ xs).Sublist (allRows (-1) qs) ∧ Dl i st s) ?_
    simp
    refine .of (run_every hq.ok) ?_
    rw [lawEvery_eq]
    refine ⟨_, rfl, allRows (-1) qs, rfl, ⟨List.Sublist.refl _, hs3.trans hs4⟩, ?_, ?_⟩
    · rintro x xs acc s R rfl hsub hds
      obtain ⟨c7, m7, d7, e7, hi7⟩ := hds.at_
      have hlt : R.length < 1000000 := by have := hsub.length_le; simp at this; omega
      have hskip : (R ++ xs).Sublist (allRows (-1) qs) := (List.Sublist.append (List.Sublist.refl _) (by simp)).trans hsub
      simp [wipeE, Tg.sem, deal_deref e7]
      refine (run_any hds.refl (b := 2) (by decide) (by decide)).mono fun t s5 ⟨r, er, r0, r1, hs5⟩ => ?_
      subst er
      by_cases hr0 : r = 0
      · subst hr0
        simp
        exact ⟨hlt, R ++ [x], by simp, by simpa using hsub, hds.trans hs5⟩
      · simp [hr0]
        exact ⟨R, rfl, hskip, hds.trans hs5⟩
    · rintro acc s R2 rfl hsub hds
      exact fin R2 s _ (nodup_sheets.sublist hsub) (fun r hr => mem_sheets.mp (hsub.subset hr)) hds
  · simp [hr0]
    refine fin (sortedS (R ++ S)) s4 none ?_ ?_ (hs3.trans hs4)
    · refine (List.mergeSort_perm _ _).nodup_iff.mpr ?_
      refine List.nodup_append.mpr ⟨hnd0.sublist hR, hS, fun a ha b hb e => ?_⟩
      subst e
      exact truth_no (mem_truthsA.mp (hR.subset ha)) (hSm a hb).2
    · intro r hr
      rcases List.mem_append.mp (List.mem_mergeSort.mp hr) with h | h
      · exact truth_shp (hR.subset h)
      · exact (hSm r h).1
end KM
/-! the sheets with more blanks; how they are shown -/
namespace KM
open PySem L2 PL
variable {st : Store} {qs : Qs} {i : Nat} {s : Row}
def optsF (a : Int) : List Int := if a = -1 then [-1] else [-1, a]
def growM (found : List Row) (a : Int) : List Row := found.flatMap fun r => (optsF a).map fun b => r ++ [b]
def moreF (s : Row) : List Row := s.foldl growM [[]]
theorem opts_len {a : Int} : (optsF a).length ≤ 2 := by unfold optsF; split <;> simp
theorem growM_len {found : List Row} {a : Int} : (growM found a).length = found.length * (optsF a).length := by
  unfold growM
  induction found with
  | nil => simp
  | cons r rs ih => simp [List.flatMap_cons, ih, Nat.add_mul, Nat.add_comm]
theorem run_more (hl : s.length ≤ 10) : f_more_blanks [rowT s] st = some (.ok (.tup ((moreF s).map rowT)), st) := by
  rw [← ev_eq]
  unfold f_more_blanks m_more_blanks
  rw [ev_def]
  simp
  refine ⟨s.map T.int, rfl, ?_⟩
  refine EvS.loopI T.int (fun rest env s' => s' = st ∧ ∃ (found : List Row) (j2 j3 j4 : Option T), env = [some (rowT s), some (.lst (found.map rowT)), j2, j3, j4] ∧ found.length * 2 ^ rest.length ≤ 10000 ∧ (∀ r ∈ found, r.length + rest.length ≤ 1000) ∧ rest.foldl growM found = moreF s) ?_ ?_ ?_
  · refine ⟨rfl, [[]], none, none, none, rfl, ?_, by simp; omega, rfl⟩
    have : 2 ^ s.length ≤ 2 ^ 10 := Nat.pow_le_pow_right (by decide) hl
    simp only [List.length_singleton]; omega
  · rintro a rest env s' ⟨rfl, found, j2, j3, j4, rfl, h1, h2, h3⟩
    have gl := growM_len (found := found) (a := a)
    have ol := opts_len (a := a)
    have p1 : found.length * (optsF a).length ≤ found.length * 2 := Nat.mul_le_mul_left _ ol
    have p2 : 1 ≤ 2 ^ rest.length := Nat.one_le_pow _ _ (by decide)
    rw [List.length_cons, Nat.pow_succ] at h1
    have p3 : found.length * 2 ≤ found.length * (2 ^ rest.length * 2) := Nat.mul_le_mul_left _ (by omega)
    simp
    refine Ev.lc2M (α := Row) (β := Int) rowT T.int (fun _ => optsF a) (fun r b => rowT (r ++ [b])) ?_
    simp
    refine ⟨found, rfl, ?_, ?_, ?_⟩
    · have := gl; unfold growM at this
      simp only [List.length_flatMap, List.length_map] at this ⊢
      omega
    · intro r hr
      have := h2 r hr
      simp only [List.length_cons] at this
      simp [wipeE, Tg.sem]
      by_cases ha : a = -1
      · simp [ha, optsF, rowT]; omega
      · simp [ha, optsF, rowT]; omega
    · refine ⟨growM found a, by simp [growM, List.flatMap, List.map_flatten, Function.comp_def], ?_, fun r hr => ?_, h3⟩
      · rw [gl]
        calc _ ≤ found.length * 2 * 2 ^ rest.length := Nat.mul_le_mul_right _ p1
          _ = found.length * (2 ^ rest.length * 2) := by rw [Nat.mul_assoc, Nat.mul_comm 2]
          _ ≤ _ := h1
      · unfold growM at hr
        simp only [List.mem_flatMap, List.mem_map] at hr
        obtain ⟨r0, m0, b, _, rfl⟩ := hr
        have := h2 r0 m0
        simp only [List.length_cons] at this
        simp; omega
  · rintro env s' ⟨rfl, found, j2, j3, j4, rfl, h1, h2, h3⟩
    simp only [List.foldl_nil] at h3
    subst h3
    simp [tupleT, seqO]
theorem set_opts {a : Int} (ha : -1 ≤ a) : sortSetO st (.lst [.int (-1), .int a]) = some (.lst ((optsF a).map T.int)) := by
  have so : setOk [.int (-1), .int a] = false := by simp [setOk, T.dkey, T.isTup]
  have e : sdI [-1, a] = optsF a := by
    simp only [sdI, insI, optsF]
    by_cases h : a = -1
    · subst h; simp
    · rw [if_pos (by omega), if_neg h]
  simp [sortSetO, so, intsO, e]
theorem run_law_more (hl : s.length ≤ 10) (ha : ∀ a ∈ s, -1 ≤ a) : f__law_more [rowT s] st = some (.ok (.lst ((moreF s).map rowT)), st) := by
  rw [← ev_eq]
  unfold f__law_more m__law_more
  rw [ev_def]
  simp
  refine ⟨s.map T.int, rfl, ?_⟩
  refine EvS.loopI T.int (fun rest env s' => s' = st ∧ ∃ (found : List Row) (j2 j3 j4 j5 : Option T), env = [some (rowT s), some (.lst (found.map rowT)), j2, j3, j4, j5] ∧ (∀ a ∈ rest, -1 ≤ a) ∧ found.length * 2 ^ rest.length ≤ 10000 ∧ (∀ r ∈ found, r.length + rest.length ≤ 1000) ∧ rest.foldl growM found = moreF s) ?_ ?_ ?_
  · refine ⟨rfl, [[]], none, none, none, none, rfl, ha, ?_, by simp; omega, rfl⟩
    have : 2 ^ s.length ≤ 2 ^ 10 := Nat.pow_le_pow_right (by decide) hl
    simp only [List.length_singleton]; omega
  · rintro a rest env s' ⟨rfl, found, j2, j3, j4, j5, rfl, h0, h1, h2, h3⟩
    have gl := growM_len (found := found) (a := a)
    have ol := opts_len (a := a)
    have ha1 := h0 a List.mem_cons_self
    have p1 : found.length * (optsF a).length ≤ found.length * 2 := Nat.mul_le_mul_left _ ol
    have p2 : 1 ≤ 2 ^ rest.length := Nat.one_le_pow _ _ (by decide)
    rw [List.length_cons, Nat.pow_succ] at h1
    have p3 : found.length * 2 ≤ found.length * (2 ^ rest.length * 2) := Nat.mul_le_mul_left _ (by omega)
    simp
    refine EvS.loopI rowT (fun rs env s'' => s'' = s' ∧ ∃ (longer : List Row) (k4 k5 : Option T), env = [some (rowT s), some (.lst (found.map rowT)), some (.int a), some (.lst (longer.map rowT)), k4, k5] ∧ longer ++ growM rs a = growM found a ∧ (∀ r ∈ rs, r ∈ found)) ⟨rfl, [], j4, j5, rfl, by simp, fun r m => m⟩ ?_ ?_
    · rintro r rs env s'' ⟨rfl, longer, k4, k5, rfl, hg, hm⟩
      have hr := h2 r (hm r List.mem_cons_self)
      simp only [List.length_cons] at hr
      have hgr : growM (r :: rs) a = ((optsF a).map fun b => r ++ [b]) ++ growM rs a := by simp [growM]
      have hll : longer.length + (growM (r :: rs) a).length = found.length * (optsF a).length := by
        rw [← List.length_append, hg]; exact gl
      have hgl := congrArg List.length hgr
      simp only [List.length_append, List.length_map] at hgl
      simp
      refine Ev.lcM T.int (fun b => rowT (r ++ [b])) ?_
      simp [set_opts ha1]
      refine ⟨optsF a, rfl, by omega, fun b hb => ?_, ?_⟩
      · simp [wipeE, Tg.sem, rowT]; omega
      · refine ⟨_, ⟨by omega, rfl⟩, longer ++ (optsF a).map fun b => r ++ [b], by simp [Function.comp_def], ?_, fun z m => hm z (List.mem_cons_of_mem _ m)⟩
        rw [← hg, hgr, List.append_assoc]
    · rintro env s'' ⟨rfl, longer, k4, k5, rfl, hg, hm⟩
      simp
      have hg : longer = growM found a := by simpa [growM] using hg
      subst hg
      refine ⟨_, rfl, fun z m => h0 z (List.mem_cons_of_mem _ m), ?_, fun r hr => ?_, h3⟩
      · rw [gl]
        calc _ ≤ found.length * 2 * 2 ^ rest.length := Nat.mul_le_mul_right _ p1
          _ = found.length * (2 ^ rest.length * 2) := by rw [Nat.mul_assoc, Nat.mul_comm 2]
          _ ≤ _ := h1
      · unfold growM at hr
        simp only [List.mem_flatMap, List.mem_map] at hr
        obtain ⟨r0, m0, b, _, rfl⟩ := hr
        have := h2 r0 m0
        simp only [List.length_cons] at this
        simp; omega
  · rintro env s' ⟨rfl, found, j2, j3, j4, j5, rfl, h0, h1, h2, h3⟩
    simp only [List.foldl_nil] at h3
    subst h3
    simp
theorem mem_more : ∀ (s : Row) (found : List Row) (x : Row), x ∈ s.foldl growM found ↔ ∃ r ∈ found, ∃ u, Pw (fun (a b : Int) => a = b ∨ b = -1) s u ∧ x = r ++ u
  | [], found, x => by
    simp only [List.foldl_nil]
    constructor
    · exact fun h => ⟨x, h, [], trivial, by simp⟩
    · rintro ⟨r, hr, u, hu, rfl⟩
      cases u with
      | nil => simpa using hr
      | cons _ _ => exact hu.elim
  | a :: s, found, x => by
    rw [List.foldl_cons, mem_more s (growM found a) x]
    have ho : ∀ b, b ∈ optsF a ↔ (a = b ∨ b = -1) := fun b => by
      unfold optsF
      by_cases h : a = -1
      · subst h; simp; omega
      · simp [h]; omega
    constructor
    · rintro ⟨r, hr, u, hu, rfl⟩
      simp only [growM, List.mem_flatMap, List.mem_map] at hr
      obtain ⟨r0, hr0, b, hb, rfl⟩ := hr
      exact ⟨r0, hr0, b :: u, ⟨(ho b).mp hb, hu⟩, by simp⟩
    · rintro ⟨r, hr, u, hu, rfl⟩
      cases u with
      | nil => exact hu.elim
      | cons b u =>
        refine ⟨r ++ [b], ?_, u, hu.2, by simp⟩
        simp only [growM, List.mem_flatMap, List.mem_map]
        exact ⟨r, hr, b, (ho b).mpr hu.1, rfl⟩
theorem mem_moreF {x : Row} : x ∈ moreF s ↔ Fil s x := by
  unfold moreF
  rw [mem_more]
  simp [Fil]
theorem more_len : ∀ (s : Row) (found : List Row), (s.foldl growM found).length = found.length * 2 ^ (s.filter fun a => !decide (a = -1)).length
  | [], found => by simp
  | a :: s, found => by
    rw [List.foldl_cons, more_len s, growM_len]
    by_cases h : a = -1
    · simp [h, optsF]
    · simp [h, optsF, Nat.pow_succ, Nat.mul_assoc, Nat.mul_comm 2]
/-! how things are shown -/
structure ShOk (n : Nat) (t : T) : Prop where
  s : t.data.showable = true
  o : NmOk t.data.shown
  l : t.data.shown.length ≤ n
theorem nm_lit : NmOk (Str.ofString ", ") ∧ NmOk (Str.ofString "(") ∧ NmOk (Str.ofString ")") ∧ NmOk (Str.ofString ",)") := by unfold NmOk; decide +kernel
theorem join_sh {n : Nat} : ∀ {ts : List Str}, (∀ x ∈ ts, NmOk x ∧ x.length ≤ n) → NmOk (Str.join (Str.ofString ", ") ts) ∧ (Str.join (Str.ofString ", ") ts).length ≤ ts.length * (n + 2)
  | [], _ => ⟨nm_nil, Nat.zero_le _⟩
  | [x], h => ⟨(h x List.mem_cons_self).1, by have := (h x List.mem_cons_self).2; show x.length ≤ _; simp; omega⟩
  | x :: y :: r, h => by
    obtain ⟨h1, h2⟩ := join_sh (ts := y :: r) fun z m => h z (List.mem_cons_of_mem _ m)
    have hx := h x List.mem_cons_self
    show NmOk (x ++ Str.ofString ", " ++ Str.join (Str.ofString ", ") (y :: r)) ∧ (x ++ Str.ofString ", " ++ Str.join (Str.ofString ", ") (y :: r)).length ≤ _
    refine ⟨nm_app (nm_app hx.1 nm_lit.1) h1, ?_⟩
    rw [len_app, len_app, List.length_cons, Nat.add_mul]
    have : (Str.ofString ", ").length = 2 := rfl
    omega
theorem shownAll_map (xs : List T) : PyData.shownAll (T.datas xs) = xs.map fun x => x.data.shown := by
  induction xs with
  | nil => rfl
  | cons x xs ih => simp [T.datas, PyData.shownAll, ih]
theorem showableAll_of {xs : List T} (h : ∀ x ∈ xs, x.data.showable = true) : PyData.showableAll (T.datas xs) = true := by
  induction xs with
  | nil => rfl
  | cons x xs ih => simp only [T.datas, PyData.showableAll, Bool.and_eq_true]; exact ⟨h x List.mem_cons_self, ih fun z m => h z (List.mem_cons_of_mem _ m)⟩
theorem tup_sh {n : Nat} {xs : List T} (h : ∀ x ∈ xs, ShOk n x) : ShOk (xs.length * (n + 2) + 3) (.tup xs) := by
  have e : (T.tup xs).data.shown = Str.ofString "(" ++ Str.join (Str.ofString ", ") (xs.map fun x => x.data.shown) ++ (if ((xs.map fun x => x.data.shown).length == 1) = true then Str.ofString ",)" else Str.ofString ")") := by
    show PyData.shown (.tuple (T.datas xs)) = _
    simp only [PyData.shown, shownAll_map, tupleText]
    split <;> rfl
  obtain ⟨j1, j2⟩ := join_sh (n := n) (ts := xs.map fun x => x.data.shown) fun z hz => by
    obtain ⟨x, hx, rfl⟩ := List.mem_map.mp hz
    exact ⟨(h x hx).o, (h x hx).l⟩
  rw [List.length_map] at j2
  refine ⟨?_, ?_, ?_⟩
  · show PyData.showable (.tuple (T.datas xs)) = true
    simp only [PyData.showable]
    exact showableAll_of fun x hx => (h x hx).s
  · rw [e]
    refine nm_app (nm_app nm_lit.2.1 j1) ?_
    split
    · exact nm_lit.2.2.2
    · exact nm_lit.2.2.1
  · rw [e, len_app, len_app]
    have h1 : (Str.ofString "(").length = 1 := rfl
    have h2 : (Str.ofString ",)").length = 2 := rfl
    have h3 : (Str.ofString ")").length = 1 := rfl
    split <;> omega
theorem int_sh {a : Int} (h : -1 ≤ a ∧ a ≤ 5) : ShOk 2 (.int a) := by
  have : a = -1 ∨ a = 0 ∨ a = 1 ∨ a = 2 ∨ a = 3 ∨ a = 4 ∨ a = 5 := by omega
  rcases this with rfl | rfl | rfl | rfl | rfl | rfl | rfl <;> exact ⟨by decide +kernel, by unfold NmOk; decide +kernel, by decide +kernel⟩
theorem row_sh {r : Row} (h : ∀ a ∈ r, -1 ≤ a ∧ a ≤ 5) (hl : r.length ≤ 10) : ShOk 100 (rowT r) := by
  have := tup_sh (n := 2) (xs := r.map T.int) fun x hx => by
    obtain ⟨a, ha, rfl⟩ := List.mem_map.mp hx
    exact int_sh (h a ha)
  rw [List.length_map] at this
  exact ⟨this.s, this.o, by have := this.l; exact Nat.le_trans this (by omega)⟩
/-- repr of such a thing -/
theorem repr_of {t : T} {n : Nat} (hl : look st t = t) (h : ShOk n t) (hd : t.dat 60 = true) (hn : n ≤ 1000000) : reprT st [t] = some (.str t.data.shown) ∧ NmOk t.data.shown := by
  have := h.l
  have e : shownOk t.data = true := by
    simp only [shownOk, Bool.and_eq_true, decide_eq_true_eq]
    exact ⟨h.s, by omega⟩
  exact ⟨by simp [reprT, hl, hd, e], h.o⟩
theorem neT_str {a : Str} (h : NmOk a) : PL.neT st (.str a) (.str a) = some (.bl false) := by
  have d : (T.str a).dat 60 = true := h
  have e : T.eqv (.str a) (.str a) = true := by rw [eqv_str h h]; simp
  simp [PL.neT, eqO, d, e]
end KM

namespace K82
open PySem PySem.Spec PyProof.Rows L2 PL KM
def m_law : SM := sSeq (sAsg (mCall 2 f__law_deal (mCons (mVar 0) (mCons (mC (.int 82)) (mNil)))) (gVar 1)) (sSeq (sFor (mRange1 (mCons (mC (.int 2)) (mNil))) (gVar 2) (sSeq (sAsg (mCall 2 f__law_questions (mCons (mVar 1) (mCons (mC (.int 3)) (mNil)))) (gVar 3)) (sSeq (sPar (mCons (mMake true 2 "Form" f_Form____init__ (mCons (mVar 3) (mNil))) (mCons (mCall 2 f__law_counts (mCons (mVar 1) (mCons (mVar 3) (mNil)))) mNil)) 5 6) (sFor (mRange1 (mCons (mC (.int 2)) (mNil))) (gVar 4) (sSeq (sAsg (mCall 2 f__law_of (mCons (mVar 1) (mCons (mCall 1 f__law_every (mCons (mVar 3) (mNil))) (mNil)))) (gVar 7)) (sSeq (sAsg (mCallK 0 (["sheet"] : List Str).length 1 [0] f_more_blanks mNil (mCons (mVar 7) (mNil))) (gVar 8)) (sSeq (sIf (mBool (mOp2 neT (mBt reprT (mCons (mVar 8) (mNil))) (mBt reprT (mCons (mBt tupleT (mCons (mCall 1 f__law_more (mCons (mVar 7) (mNil))) (mNil))) (mNil))))) (sRet (mC (.bl false))) (sSkip)) (sSeq (sIf (mBool (mOp2 neT (mBt lenT (mCons (mVar 8) (mNil))) (mOp2 ixT (mKnown (mLst (mCons (mC (.int 1)) (mCons (mC (.int 2)) (mCons (mC (.int 4)) (mCons (mC (.int 8)) (mNil))))))) (mBt lenT (mCons (mKnown (mLc (mIter (mVar 7)) (Tg.sem (.var 14)) (mBool (mOp2 neT (mVar 14) (mNeg (mC (.int 1))))) (mVar 14) (([("_law_answer", 14)] : List (Str × Nat)).map (·.2)))) (mNil)))))) (sRet (mC (.bl false))) (sSkip)) (sSeq (sAsg (mCell (mLc (mIter (mVar 6)) (Tg.sem (.var 13)) (mBool (mOp2 neT (mOp2 ixT (mVar 13) (mC (.int 0))) (mVar 7))) (mVar 13) (([("_law_pair", 13)] : List (Str × Nat)).map (·.2)))) (gVar 9)) (sSeq (sAsg (mCall 2 f__law_any (mCons (mVar 1) (mCons (mC (.int 6)) (mNil)))) (gVar 10)) (sSeq (sIf (mBool (mOp2 gtT (mVar 10) (mC (.int 0)))) (sExpr (mMut fAppend (mVar 9) (mCons (mTup (mCons (mVar 7) (mCons (mVar 10) (mNil)))) (mNil)))) (sSkip)) (sSeq (sPar (mCons (mCallK 0 (["counts", "form"] : List Str).length 2 [1, 0] f_weights_by mNil (mCons (mVar 6) (mCons (mVar 5) (mNil)))) (mCons (mCall 2 f_weights_by (mCons (mVar 5) (mCons (mBt tupleT (mCons (mKnown (mBn sortedA (mCons (mVar 9) (mNil)))) (mNil))) (mNil)))) mNil)) 11 12) (sIf (mBool (mOp2 neT (mKnown (mLc (mIter (mVar 11)) (Tg.sem (.var 13)) (mBool (mOp2 ninA (mOp2 ixT (mVar 13) (mC (.int 0))) (mVar 8))) (mVar 13) (([("_law_pair", 13)] : List (Str × Nat)).map (·.2)))) (mKnown (mLc (mIter (mVar 12)) (Tg.sem (.var 13)) (mBool (mOp2 ninA (mOp2 ixT (mVar 13) (mC (.int 0))) (mVar 8))) (mVar 13) (([("_law_pair", 13)] : List (Str × Nat)).map (·.2)))))) (sRet (mC (.bl false))) (sSkip)))))))))))))) (sRet (mC (.bl true))))
def f_law : Sem1 := evDef false 15 m_law
end K82
/-! k82: the plain law -/
namespace K82
open PySem L2 PL KM
variable {st : Store} {qs : Qs}
theorem ev_form {a : M (List T)} {env : En} {Q : T → Store → Prop} (h : Ev (a env st) fun ts s => ∃ qs : Qs, ts = [qsT qs] ∧ Q (formT qs) s) : Ev (mMake true 2 "Form" f_Form____init__ a env st) Q := by
  unfold mMake
  rw [ev_bnd]
  refine h.mono fun ts s ⟨qs, e, q⟩ => ?_
  subst e
  have hp : (qsT qs).pure = true := pures_map fun _ _ => rfl
  have e : f_Form____init__ [.cell s.length, qsT qs] (s ++ [.ins "Form" [] []]) = some (.ok .non, s ++ [.ins "Form" ["questions"] [.val (qsT qs)]]) := by
    have hd : deref (s ++ [.ins "Form" [] []]) (.cell s.length) = .cell s.length := by simp [deref]
    simp [f_Form____init__, evDef, m_Form____init__, sFldSet, sE, mVar, ok, hd, fldSet, insAt, hp, putN, idxS, finD, T.pure, List.set_append]
    rw [List.take_of_length_le (by simp)]
  simp only [List.length_cons, List.length_nil, e, if_true]
  simp [finMake, allV, formT, ok]
  exact q
theorem shp_bnd (hq : QsL qs) : ∀ {s : Row}, Shp qs s → (∀ a ∈ s, -1 ≤ a ∧ a ≤ 5) := by
  have hm : ∀ q ∈ qs, q.2 ≤ 3 := fun q m => (hq.many q m).2.1
  clear hq
  induction qs with
  | nil => intro s h; cases s with
    | nil => simp
    | cons _ _ => exact h.elim
  | cons q qs ih => intro s h; cases s with
    | nil => exact h.elim
    | cons a s =>
      intro b hb
      rcases List.mem_cons.mp hb with e | hb
      · subst e; have := h.1; have := hm q List.mem_cons_self; omega
      · exact ih (fun z m => hm z (List.mem_cons_of_mem _ m)) h.2 b hb
theorem lookup_iff {l : Cts} (nd : (l.map (·.1)).Nodup) {u : Row} {b : Int} : l.lookup u = some b ↔ (u, b) ∈ l := by
  refine ⟨lookup_mem, fun h => ?_⟩
  induction l with
  | nil => cases h
  | cons p l ih =>
    obtain ⟨a, c⟩ := p
    rw [List.map_cons, List.nodup_cons] at nd
    rw [List.lookup_cons]
    rcases List.mem_cons.mp h with e | h
    · cases e; simp
    · have : u ≠ a := fun e => nd.1 (List.mem_map.mpr ⟨(u, b), h, e⟩)
      rw [show (u == a) = false from by simpa using this]
      exact ih nd.2 h
theorem lookup_eq {l l' : Cts} (nd : (l.map (·.1)).Nodup) (nd' : (l'.map (·.1)).Nodup) {u : Row} (h : ∀ b, (u, b) ∈ l ↔ (u, b) ∈ l') : l.lookup u = l'.lookup u := by
  cases e : l.lookup u with
  | some b => exact ((lookup_iff nd').mpr ((h b).mp ((lookup_iff nd).mp e))).symm
  | none => cases e' : l'.lookup u with
    | none => rfl
    | some b => rw [(lookup_iff nd).mpr ((h b).mpr ((lookup_iff nd').mp e'))] at e; cases e
theorem dictOf_nd {l : Cts} (nd : (l.map (·.1)).Nodup) : dictOf l = l := by
  have key : ∀ (l F : Cts), ((F ++ l).map (·.1)).Nodup → l.foldl (fun F p => putA F p.1 p.2) F = F ++ l := by
    intro l
    induction l with
    | nil => intro F _; simp
    | cons p l ih =>
      intro F h
      rw [List.foldl_cons, put_new, ih]
      · simp
      · simpa using h
      · intro hm
        rw [List.map_append, List.nodup_append] at h
        exact h.2.2 p.1 hm p.1 (by simp) rfl
  unfold dictOf; simpa using key l [] (by simpa using nd)
def stepC : SM := (sSeq (sPar (mCons (mCallK 0 (["counts", "form"] : List Str).length 2 [1, 0] f_weights_by mNil (mCons (mVar 6) (mCons (mVar 5) (mNil)))) (mCons (mCall 2 f_weights_by (mCons (mVar 5) (mCons (mBt tupleT (mCons (mKnown (mBn sortedA (mCons (mVar 9) (mNil)))) (mNil))) (mNil)))) mNil)) 11 12) (sIf (mBool (mOp2 PL.neT (mKnown (mLc (mIter (mVar 11)) (Tg.sem (.var 13)) (mBool (mOp2 ninA (mOp2 ixT (mVar 13) (mC (.int 0))) (mVar 8))) (mVar 13) (([("_law_pair", 13)] : List (Str × Nat)).map (·.2)))) (mKnown (mLc (mIter (mVar 12)) (Tg.sem (.var 13)) (mBool (mOp2 ninA (mOp2 ixT (mVar 13) (mC (.int 0))) (mVar 8))) (mVar 13) (([("_law_pair", 13)] : List (Str × Nat)).map (·.2)))))) (sRet (mC (.bl false))) (sSkip)))
def stepS : SM := (sSeq (sAsg (mCall 2 f__law_of (mCons (mVar 1) (mCons (mCall 1 f__law_every (mCons (mVar 3) (mNil))) (mNil)))) (gVar 7)) (sSeq (sAsg (mCallK 0 (["sheet"] : List Str).length 1 [0] f_more_blanks mNil (mCons (mVar 7) (mNil))) (gVar 8)) (sSeq (sIf (mBool (mOp2 PL.neT (mBt reprT (mCons (mVar 8) (mNil))) (mBt reprT (mCons (mBt tupleT (mCons (mCall 1 f__law_more (mCons (mVar 7) (mNil))) (mNil))) (mNil))))) (sRet (mC (.bl false))) (sSkip)) (sSeq (sIf (mBool (mOp2 PL.neT (mBt lenT (mCons (mVar 8) (mNil))) (mOp2 ixT (mKnown (mLst (mCons (mC (.int 1)) (mCons (mC (.int 2)) (mCons (mC (.int 4)) (mCons (mC (.int 8)) (mNil))))))) (mBt lenT (mCons (mKnown (mLc (mIter (mVar 7)) (Tg.sem (.var 14)) (mBool (mOp2 PL.neT (mVar 14) (mNeg (mC (.int 1))))) (mVar 14) (([("_law_answer", 14)] : List (Str × Nat)).map (·.2)))) (mNil)))))) (sRet (mC (.bl false))) (sSkip)) (sSeq (sAsg (mCell (mLc (mIter (mVar 6)) (Tg.sem (.var 13)) (mBool (mOp2 PL.neT (mOp2 ixT (mVar 13) (mC (.int 0))) (mVar 7))) (mVar 13) (([("_law_pair", 13)] : List (Str × Nat)).map (·.2)))) (gVar 9)) (sSeq (sAsg (mCall 2 f__law_any (mCons (mVar 1) (mCons (mC (.int 6)) (mNil)))) (gVar 10)) (sSeq (sIf (mBool (mOp2 gtT (mVar 10) (mC (.int 0)))) (sExpr (mMut fAppend (mVar 9) (mCons (mTup (mCons (mVar 7) (mCons (mVar 10) (mNil)))) (mNil)))) (sSkip)) stepC)))))))
theorem more_sh (hq : QsL qs) {s : Row} (hsh : Shp qs s) : ∃ n, n ≤ 1000000 ∧ ShOk n (.tup ((moreF s).map rowT)) := by
  have hb := shp_bnd hq hsh
  have h8 : (moreF s).length ≤ 8 := by
    unfold moreF
    rw [more_len]
    have h3 := List.length_filter_le (fun a => !decide (a = (-1 : Int))) s
    have := hq.l2
    have := shp_len hsh
    have : 2 ^ (s.filter fun a => !decide (a = -1)).length ≤ 2 ^ 3 := Nat.pow_le_pow_right (by decide) (by omega)
    simp only [List.length_singleton]; omega
  have key : ∀ {a b : Row}, Pw (fun (a b : Int) => a = b ∨ b = -1) a b → (∀ x ∈ a, -1 ≤ x ∧ x ≤ 5) → ∀ x ∈ b, -1 ≤ x ∧ x ≤ 5 := by
    intro a
    induction a with
    | nil => intro b h _; cases b with
      | nil => simp
      | cons _ _ => exact h.elim
    | cons a as ih => intro b h hx; cases b with
      | nil => exact h.elim
      | cons b bs =>
        intro x hm
        rcases List.mem_cons.mp hm with e | hm
        · subst e
          have := hx a List.mem_cons_self
          rcases h.1 with e | e <;> omega
        · exact ih h.2 (fun z m => hx z (List.mem_cons_of_mem _ m)) x hm
  have := tup_sh (n := 100) (xs := (moreF s).map rowT) fun t ht => by
    obtain ⟨r, hr, rfl⟩ := List.mem_map.mp ht
    have hf := mem_moreF.mp hr
    have := hq.l2
    have := shp_len hsh
    exact row_sh (key hf hb) (by rw [← Pw.len hf]; omega)
  refine ⟨_, ?_, this⟩
  rw [List.length_map]; omega
theorem pow_ix {n : Nat} (h : n ≤ 3) : ixT st (.lst [.int 1, .int 2, .int 4, .int 8]) (.int (n : Int)) = some (.int ((2 ^ n : Nat) : Int)) := by
  have : n = 0 ∨ n = 1 ∨ n = 2 ∨ n = 3 := by omega
  rcases this with rfl | rfl | rfl | rfl <;> rfl
theorem ninA_rows {r : Row} {l : List Row} : ninA st (rowT r) (.tup (l.map rowT)) = some (.bl (!decide (r ∈ l))) := by
  have d2 : (T.tup (l.map rowT)).dat 60 = true := dats_map fun _ _ => dat_row
  have d1 : (rowT r).dat 60 = true := dat_row
  have e : (l.map rowT).any (fun y => T.eqv y (rowT r)) = decide (r ∈ l) := by
    induction l with
    | nil => simp
    | cons y ys ih =>
      rw [List.map_cons, List.any_cons, eqv_row, ih (dats_map fun _ _ => dat_row)]
      by_cases h : y = r
      · simp [h]
      · simp [h, Ne.symm h]
  have : inO2 st (rowT r) (.tup (l.map rowT)) = some (decide (r ∈ l)) := by
    show (if (rowT r).dat 60 && (T.tup (l.map rowT)).dat 60 then some ((l.map rowT).any fun y => T.eqv y (rowT r)) else none) = _
    rw [d1, d2, e]; rfl
  simp [ninA, this]
theorem dat_wp {p : WPair} : (wpT p).dat 59 = true := by simp [wpT, T.dat, T.dats, rowT, frT, dats_int]
theorem eqv_self {l : List WPair} : T.eqv (.lst (l.map wpT)) (.lst (l.map wpT)) = true := by
  have h : ∀ p : WPair, PyData.eqv (wpT p).data (wpT p).data = true := fun p => by
    have : T.eqv (wpT p) (wpT p) = true := by
      have hk : (wpT p).key 7 = true := by
        simp only [wpT, frT, T.key, T.keys, Bool.and_true, Bool.and_eq_true]
        exact keys_int
      rw [eqv_dec hk hk]; simp
    exact this
  show PyData.eqvAll (T.datas (l.map wpT)) (T.datas (l.map wpT)) = true
  induction l with
  | nil => rfl
  | cons p l ih => simp only [List.map_cons, T.datas, PyData.eqvAll, h p, ih, Bool.and_self]
theorem neT_wps {l : List WPair} : PL.neT st (.lst (l.map wpT)) (.lst (l.map wpT)) = some (.bl false) := by
  have d : (T.lst (l.map wpT)).dat 60 = true := dats_map fun _ _ => dat_wp
  simp [PL.neT, eqO, d, eqv_self]
theorem listed_same {rows more : List Row} {W W' : Row → Int × Int} (h : ∀ r ∈ rows, r ∉ more → W r = W' r) : (listedF rows W).filter (fun p => !decide (p.1 ∈ more)) = (listedF rows W').filter fun p => !decide (p.1 ∈ more) := by
  have key : ∀ l : List Row, (∀ r ∈ l, r ∉ more → W r = W' r) → (((l.filter fun s => decide (-1 ∈ s) && !decide (W s = (0, 1))).map fun s => (s, W s)).filter fun p => !decide (p.1 ∈ more)) = (((l.filter fun s => decide (-1 ∈ s) && !decide (W' s = (0, 1))).map fun s => (s, W' s)).filter fun p => !decide (p.1 ∈ more)) := by
    intro l
    induction l with
    | nil => intro _; rfl
    | cons r l ih =>
      intro h
      have ih := ih fun z m => h z (List.mem_cons_of_mem _ m)
      by_cases hm : r ∈ more
      · have g : ∀ W : Row → Int × Int, ((((r :: l).filter fun s => decide (-1 ∈ s) && !decide (W s = (0, 1))).map fun s => (s, W s)).filter fun p => !decide (p.1 ∈ more)) = (((l.filter fun s => decide (-1 ∈ s) && !decide (W s = (0, 1))).map fun s => (s, W s)).filter fun p => !decide (p.1 ∈ more)) := fun W => by
          rw [List.filter_cons]
          split
          · rw [List.map_cons, List.filter_cons_of_neg (by simp [hm])]
          · rfl
        rw [g, g, ih]
      · have e := h r List.mem_cons_self hm
        rw [List.filter_cons, List.filter_cons, e]
        split
        · rw [List.map_cons, List.map_cons, List.filter_cons, List.filter_cons, ih, e]
        · exact ih
  exact key _ fun r hr => h r (List.mem_mergeSort.mp hr)
theorem alike_cp (a b : Row × Int) : T.alike (cpT a) (cpT b) = true := by
  have := alike_row a.1 b.1
  unfold T.alike at this ⊢
  simp [cpT, T.data, T.datas, PySem.W.alike, PySem.W.alikeAll]
  exact this
theorem cp_pure {l : Cts} : T.pures (l.map cpT) = true := pures_map fun _ _ => by simp [cpT]
theorem sort_cts {l : Cts} (hl : l.length ≤ 1000000) : ∃ o : Cts, o.Perm l ∧ srtOk (l.map cpT) = true ∧ srtT (l.map cpT) = o.map cpT :=
  ⟨_, List.mergeSort_perm _ _, srtOk_map hl (fun a _ => by simp [cpT, T.dat, T.dats, rowT, dats_int]) (fun a _ b _ => alike_cp a b) fun _ _ => rfl, srtT_map⟩
theorem stepC_ok {Q : SR → Store → Prop} {l o : Cts} {s : Row} {n : Nat} {scr j1 j2 j4 j10 j11 j12 j13 j14 : Option T} (hq : QsL qs) (hl : CtsL qs l) (ho : CtsL qs o) (hlo : ∀ u, u ≠ s → ∀ b, (u, b) ∈ l ↔ (u, b) ∈ o) (hn : st[n]? = some (.one (.lst (o.map cpT))))
    (q : ∀ j11 j12, Q (.nx [scr, j1, j2, some (qsT qs), j4, some (formT qs), some (ctsT l), some (rowT s), some (.tup ((moreF s).map rowT)), some (.cell n), j10, j11, j12, j13, j14]) st) :
    EvS (stepC [scr, j1, j2, some (qsT qs), j4, some (formT qs), some (ctsT l), some (rowT s), some (.tup ((moreF s).map rowT)), some (.cell n), j10, j11, j12, j13, j14] st) Q := by
  obtain ⟨m, hf⟩ := hq.few
  have hll := hl.len hq
  have hol := ho.len hq
  obtain ⟨o2, hp, h1, h2⟩ := sort_cts (l := o) (by omega)
  have hC : ∀ p ∈ l, 0 ≤ p.2 ∧ p.2 < 8 := fun p hp => by have := hl.pos p hp; omega
  have hC2 : ∀ p ∈ o2, 0 ≤ p.2 ∧ p.2 < 8 := fun p h => by have := ho.pos p (hp.mem_iff.mp h); omega
  have nd2 : (o2.map (·.1)).Nodup := (hp.map _).nodup_iff.mpr ho.nd
  unfold stepC
  simp [pick]
  refine .of (run_weights hf (by omega) hC) ?_
  have hd := deref_one hn
  have hk := look_one hn
  have hsrt : sortedA st [.cell n] = some (.lst (o2.map cpT)) := by
    simp only [sortedA, hk, M0.t, h1, if_true, h2]
  rw [hd]
  refine ⟨_, hsrt, .tup (o2.map cpT), by simp [tupleT, seqO], ?_⟩
  refine .of (run_weights (l := o2) hf (by have := hp.length_eq; omega) hC2) ?_
  have hsame : (weightsF qs l).filter (fun p => !decide (p.1 ∈ moreF s)) = (weightsF qs o2).filter fun p => !decide (p.1 ∈ moreF s) := by
    unfold weightsF
    refine listed_same fun r hr hm => ?_
    have hr2 : Shp qs r := mem_sheets.mp (List.mem_mergeSort.mp hr)
    refine Wg_congr hq.nd hr2 fun u hu => ?_
    have hne : u ≠ s := fun e => hm (mem_moreF.mpr (e ▸ hu))
    rw [dictOf_nd hl.nd, dictOf_nd nd2]
    exact lookup_eq hl.nd nd2 fun b => (hlo u hne b).trans hp.mem_iff.symm
  have hw : ∀ x : Cts, (weightsF qs x).length ≤ 1000000 := fun x => by
    unfold weightsF listedF sortedS orderF
    rw [List.length_map]
    refine Nat.le_trans (List.length_filter_le _ _) ?_
    rw [List.length_mergeSort, List.length_mergeSort]
    exact sheets_len hq.ok
  refine Ev.lcP wpT (fun p => !decide (p.1 ∈ moreF s)) wpT ?_
  simp
  refine ⟨weightsF qs l, rfl, hw l, fun r c d hm => ?_, ?_⟩
  · simp [wipeE, Tg.sem, wpT, ix0, ninA_rows]
  refine Ev.lcP wpT (fun p => !decide (p.1 ∈ moreF s)) wpT ?_
  simp
  refine ⟨weightsF qs o2, rfl, hw o2, fun r c d hm => ?_, ?_⟩
  · simp [wipeE, Tg.sem, wpT, ix0, ninA_rows]
  rw [hsame, neT_wps]
  simp
  exact q _ _
/-- one step of the law -/
theorem step_ok {Q : SR → Store → Prop} {l : Cts} {scr j2 j4 j7 j8 j9 j10 j11 j12 j13 j14 : Option T} (hd : Dl 0 st st) (hq : QsL qs) (hl : CtsL qs l)
    (q : ∀ s j7 j8 j9 j10 j11 j12 j13 j14, Dl 0 s s → Q (.nx [scr, some (.cell 0), j2, some (qsT qs), j4, some (formT qs), some (ctsT l), j7, j8, j9, j10, j11, j12, j13, j14]) s) :
    EvS (stepS [scr, some (.cell 0), j2, some (qsT qs), j4, some (formT qs), some (ctsT l), j7, j8, j9, j10, j11, j12, j13, j14] st) Q := by
  obtain ⟨c0, m0, d0, e0, hi0⟩ := hd.at_
  have hlen27 := rows_len (least := -1) (by decide) hq
  unfold stepS
  simp [deal_deref e0]
  refine .of (run_every hq.ok) ?_
  rw [lawEvery_eq]
  have hne : (allRows (-1) qs).map rowT ≠ [] := fun h => by
    have hm : (qs.map fun _ => (-1 : Int)) ∈ allRows (-1) qs := by
      rw [mem_sheets]
      have hm : ∀ q ∈ qs, 2 ≤ q.2 := fun q m => (hq.many q m).1
      clear h hlen27 hq q hl
      induction qs with
      | nil => trivial
      | cons q qs ih => exact ⟨⟨Int.le_refl _, by have := hm q List.mem_cons_self; show (-1 : Int) < q.2; omega⟩, ih fun z m => hm z (List.mem_cons_of_mem _ m)⟩
    rw [List.map_eq_nil_iff.mp h] at hm
    cases hm
  refine (run_of_seq hd (.inl rfl) hne (by rw [List.length_map]; omega) rows_pure).mono fun t s1 ⟨ht, hs1⟩ => ?_
  obtain ⟨s, hs, rfl⟩ := List.mem_map.mp ht
  have hsh := mem_sheets.mp hs
  have hsl := shp_len hsh
  have hql := hq.l2
  simp [pick]
  refine .of (run_more (by omega)) ?_
  simp
  obtain ⟨nn, hnn, hsho⟩ := more_sh hq hsh
  have hmd : (T.tup ((moreF s).map rowT)).dat 60 = true := dats_map fun _ _ => dat_row
  obtain ⟨hr1, hr2⟩ := repr_of (st := s1) rfl hsho hmd hnn
  refine ⟨_, hr1, ?_⟩
  refine .of (run_law_more (by omega) fun a ha => (shp_bnd hq hsh a ha).1) ?_
  refine ⟨.tup ((moreF s).map rowT), by simp [tupleT, seqO], _, hr1, _, neT_str hr2, ?_⟩
  simp [lenT, seqO]
  refine Ev.lcP T.int (fun a => !decide (a = -1)) T.int ?_
  simp [rowT]
  refine ⟨s, rfl, by omega, fun a ha => ?_, ?_⟩
  · simp [wipeE, Tg.sem]
  have hfl := List.length_filter_le (fun a => !decide (a = (-1 : Int))) s
  refine ⟨_, pow_ix (n := (s.filter fun a => !decide (a = -1)).length) (by omega), ?_⟩
  have hml : (moreF s).length = 2 ^ (s.filter fun a => !decide (a = -1)).length := by unfold moreF; rw [more_len]; simp
  simp [hml]
  refine Ev.lcP cpT (fun p => !decide (p.1 = s)) cpT ?_
  simp [ctsT]
  have hll := hl.len hq
  refine ⟨l, rfl, by omega, fun r c hm => ?_, ?_⟩
  · have e1 : ∀ st : Store, PL.neT st (rowT r) (.tup (s.map T.int)) = some (.bl (!decide (r = s))) := fun st => neT_row
    simp [wipeE, Tg.sem, cpT, ix0, e1]
  refine ⟨cp_pure, ?_⟩
  have hdx := (hs1.refl).app [MO.one (.lst ((l.filter fun p => !decide (p.1 = s)).map cpT))]
  obtain ⟨c2, m2, d2, e2, hi2⟩ := hdx.at_
  have hi1 : 0 < s1.length := hs1.refl.lt
  rw [deal_deref e2]
  refine (run_any hdx (b := 6) (by decide) (by decide)).mono fun t s3 ⟨r, er, r0, r1, hs3⟩ => ?_
  subst er
  obtain ⟨b, rfl, hb⟩ := hs3.unapp hi1
  have hbl : b.length = s1.length := hb.len
  have ho1 : CtsL qs (l.filter fun p => !decide (p.1 = s)) := ⟨fun p hp => hl.sh p (List.mem_filter.mp hp).1, fun p hp => hl.pos p (List.mem_filter.mp hp).1, hl.nd.sublist (List.Sublist.map _ (List.filter_sublist ..))⟩
  have hmo : ∀ u, u ≠ s → ∀ b, (u, b) ∈ l ↔ (u, b) ∈ l.filter fun p => !decide (p.1 = s) := fun u hu b => by simp [List.mem_filter, hu]
  have hat : ∀ x : MO, (b ++ [x])[s1.length]? = some x := fun x => by rw [← hbl]; simp
  by_cases hr0 : 0 < r
  · simp [gtT, hr0]
    refine Ev.mut ?_
    have hcd : deref (b ++ [MO.one (.lst ((l.filter fun p => !decide (p.1 = s)).map cpT))]) (.cell s1.length) = .cell s1.length := deref_one (hat _)
    simp [hcd, isL, m0At, hat]
    refine ⟨.non, .lst (((l.filter fun p => !decide (p.1 = s)) ++ [(s, r)]).map cpT), ?_, cp_pure, ?_⟩
    · have := List.length_filter_le (fun p : Row × Int => !decide (p.1 = s)) l
      simp [fAppend, cpT, rowT]; omega
    · have hset : (b ++ [MO.one (.lst ((l.filter fun p => !decide (p.1 = s)).map cpT))]).set s1.length (.one (.lst (((l.filter fun p => !decide (p.1 = s)) ++ [(s, r)]).map cpT))) = b ++ [MO.one (.lst (((l.filter fun p => !decide (p.1 = s)) ++ [(s, r)]).map cpT))] := by rw [← hbl]; simp [List.set_append]
      simp only [putM, hset]
      have := stepC_ok (st := b ++ [MO.one (.lst (((l.filter fun p => !decide (p.1 = s)) ++ [(s, r)]).map cpT))]) (Q := Q) (l := l) (o := (l.filter fun p => !decide (p.1 = s)) ++ [(s, r)]) (s := s) (n := s1.length) (scr := scr) (j1 := some (.cell 0)) (j2 := j2) (j4 := j4) (j10 := some (.int r)) (j11 := j11) (j12 := j12) (j13 := j13) (j14 := j14) hq hl ?_ ?_ (hat _) ?_
      · simpa [ctsT, rowT] using this
      · refine ⟨fun p hp => ?_, fun p hp => ?_, ?_⟩
        · rcases List.mem_append.mp hp with h | h
          · exact ho1.sh p h
          · rw [List.mem_singleton] at h; subst h; exact hsh
        · rcases List.mem_append.mp hp with h | h
          · exact ho1.pos p h
          · rw [List.mem_singleton] at h; subst h; exact ⟨by show 1 ≤ r; omega, by show r ≤ 5; omega⟩
        · rw [List.map_append, List.nodup_append]
          refine ⟨ho1.nd, by simp, fun a ha c hc e => ?_⟩
          simp only [List.map_cons, List.map_nil, List.mem_singleton] at hc
          obtain ⟨p, hp, rfl⟩ := List.mem_map.mp ha
          have := (List.mem_filter.mp hp).2
          rw [e, hc] at this
          simp at this
      · intro u hu c
        rw [hmo u hu c, List.mem_append]
        simp [hu]
      · intro j11 j12
        exact q _ _ _ _ _ _ _ _ _ ((hs1.trans hb).refl.app _)
  · simp [gtT, hr0]
    have := stepC_ok (st := b ++ [MO.one (.lst ((l.filter fun p => !decide (p.1 = s)).map cpT))]) (Q := Q) (l := l) (o := l.filter fun p => !decide (p.1 = s)) (s := s) (n := s1.length) (scr := scr) (j1 := some (.cell 0)) (j2 := j2) (j4 := j4) (j10 := some (.int r)) (j11 := j11) (j12 := j12) (j13 := j13) (j14 := j14) hq hl ho1 hmo (hat _) (fun j11 j12 => q _ _ _ _ _ _ _ _ _ ((hs1.trans hb).refl.app _))
    simpa [ctsT, rowT] using this
/-- the law at every script -/
theorem plain (ns : List Int) (hn : ns.length ≤ 63) : ∃ st, f_law [.scr ns] [] = some (.ok (.bl true), st) := by
  have : Ev (f_law [.scr ns] []) fun t _ => t = .bl true := by
    unfold f_law m_law
    rw [ev_def]
    simp
    refine (run_deal (st := []) (base := 82) hn (by decide) (by decide)).mono fun t s ⟨cells, mix, et, es, dok⟩ => ?_
    subst et es
    have hd : Dl 0 ([] ++ [dealMO cells mix]) ([] ++ [dealMO cells mix]) := .of rfl dok
    rw [rangeT_eq]
    refine EvS.loopI T.int (fun xs env s => Dl 0 s s ∧ ∃ j2 j3 j4 j5 j6 j7 j8 j9 j10 j11 j12 j13 j14, env = [some (.scr ns), some (.cell 0), j2, j3, j4, j5, j6, j7, j8, j9, j10, j11, j12, j13, j14]) ⟨hd, none, none, none, none, none, none, none, none, none, none, none, none, none, rfl⟩ ?_ ?_
    · rintro x xs env s ⟨hd, j2, j3, j4, j5, j6, j7, j8, j9, j10, j11, j12, j13, j14, rfl⟩
      obtain ⟨c2, m2, d2, e2, hi2⟩ := hd.at_
      simp only [evG_var, evS_seq, evS_asg, ev_call, ev_cons, ev_nil, ev_varS, ev_var0, ev_C, List.set_cons_succ, List.set_cons_zero, deal_deref e2, List.length_cons, List.length_nil, true_and]
      refine (run_questions hd (most := 3) (by decide) (by decide)).mono fun t s1 ⟨qs, et, hq, _, hs1⟩ => ?_
      subst et
      obtain ⟨c3, m3, d3, e3, hi3⟩ := hs1.at_
      simp only [onN_nx, evS_seq, evS_par, ev_cons]
      refine ev_form ?_
      simp [deal_deref e3]
      refine ⟨qs, rfl, ?_⟩
      refine (run_counts hs1.refl hq).mono fun t s2 ⟨l, et, hl, hs2⟩ => ?_
      subst et
      rw [rangeT_eq]
      refine EvS.loopI T.int (fun xs env s => Dl 0 s s ∧ ∃ j2 j4 j7 j8 j9 j10 j11 j12 j13 j14, env = [some (.scr ns), some (.cell 0), j2, some (qsT qs), j4, some (formT qs), some (ctsT l), j7, j8, j9, j10, j11, j12, j13, j14]) ⟨(hs1.trans hs2).refl, _, _, _, _, _, _, _, _, _, _, rfl⟩ ?_ ?_
      · rintro y ys env s ⟨hd, j2, j4, j7, j8, j9, j10, j11, j12, j13, j14, rfl⟩
        simp only [evG_var, List.set_cons_succ, List.set_cons_zero]
        exact step_ok hd hq hl fun s j7 j8 j9 j10 j11 j12 j13 j14 hd => ⟨hd, _, _, _, _, _, _, _, _, _, _, rfl⟩
      · rintro env s ⟨hd, j2, j4, j7, j8, j9, j10, j11, j12, j13, j14, rfl⟩
        exact ⟨hd, _, _, _, _, _, _, _, _, _, _, _, _, _, rfl⟩
    · rintro env s ⟨hd, j2, j3, j4, j5, j6, j7, j8, j9, j10, j11, j12, j13, j14, rfl⟩
      simp
  obtain ⟨a, st, e, rfl⟩ := this
  exact ⟨st, e⟩
end K82

namespace K82
open PySem PySem.Spec PyProof.Rows L2 PL KM
def topS (i : Nat) : Stmt := PySem.Challenge.pw_whyblank_k82_whole_which_weights_a_chang.main.body.getD i (.Pass ⟨0, 0, 0, 0⟩)
def inClass (s : Stmt) (j : Nat) : Stmt := match s with | .ClassDef _ _ _ b _ _ _ _ _ _ _ => b.getD j (.Pass ⟨0, 0, 0, 0⟩) | _ => .Pass ⟨0, 0, 0, 0⟩
abbrev s__law_deal : Stmt := topS 32
abbrev n__law_deal : List Str := ["_law_script", "_law_base", "_law_cells", "_law_cell", "_law_mix"]
abbrev p__law_deal : List Str := ["_law_script", "_law_base"]
theorem sc__law_deal : FnScope n__law_deal p__law_deal (defScope s__law_deal) := ⟨rfl, rfl, rfl, by decide +kernel, rfl, by decide +kernel, by decide +kernel⟩
abbrev s__law_any : Stmt := topS 33
abbrev n__law_any : List Str := ["_law_deal_here", "_law_bound", "_law_rest"]
abbrev p__law_any : List Str := ["_law_deal_here", "_law_bound"]
theorem sc__law_any : FnScope n__law_any p__law_any (defScope s__law_any) := ⟨rfl, rfl, rfl, by decide +kernel, rfl, by decide +kernel, by decide +kernel⟩
abbrev s__law_of : Stmt := topS 34
abbrev n__law_of : List Str := ["_law_deal_here", "_law_some"]
abbrev p__law_of : List Str := ["_law_deal_here", "_law_some"]
theorem sc__law_of : FnScope n__law_of p__law_of (defScope s__law_of) := ⟨rfl, rfl, rfl, by decide +kernel, rfl, by decide +kernel, by decide +kernel⟩
abbrev s__law_names : Stmt := topS 35
abbrev n__law_names : List Str := ["_law_deal_here", "_law_many", "_law_letters", "_law_row", "_law_pool", "_law_base", "_law_at", "_law_place", "_law_one"]
abbrev p__law_names : List Str := ["_law_deal_here", "_law_many"]
theorem sc__law_names : FnScope n__law_names p__law_names (defScope s__law_names) := ⟨rfl, rfl, rfl, by decide +kernel, rfl, by decide +kernel, by decide +kernel⟩
abbrev s__law_questions : Stmt := topS 36
abbrev n__law_questions : List Str := ["_law_deal_here", "_law_most", "_law_names_here", "_law_name"]
abbrev p__law_questions : List Str := ["_law_deal_here", "_law_most"]
theorem sc__law_questions : FnScope n__law_questions p__law_questions (defScope s__law_questions) := ⟨rfl, rfl, rfl, by decide +kernel, rfl, by decide +kernel, by decide +kernel⟩
abbrev s_Form____init__ : Stmt := inClass (topS 5) 0
abbrev n_Form____init__ : List Str := ["self", "questions"]
abbrev p_Form____init__ : List Str := ["self", "questions"]
theorem sc_Form____init__ : FnScope n_Form____init__ p_Form____init__ (defScope s_Form____init__) := ⟨rfl, rfl, rfl, by decide +kernel, rfl, by decide +kernel, by decide +kernel⟩
abbrev s__law_rows : Stmt := topS 37
abbrev n__law_rows : List Str := ["_law_sizes", "_law_found", "_law_size", "_law_longer", "_law_row", "_law_number"]
abbrev p__law_rows : List Str := ["_law_sizes"]
theorem sc__law_rows : FnScope n__law_rows p__law_rows (defScope s__law_rows) := ⟨rfl, rfl, rfl, by decide +kernel, rfl, by decide +kernel, by decide +kernel⟩
abbrev s__law_truths : Stmt := topS 38
abbrev n__law_truths : List Str := ["_law_questions_here", "_law_name", "_law_many"]
abbrev p__law_truths : List Str := ["_law_questions_here"]
theorem sc__law_truths : FnScope n__law_truths p__law_truths (defScope s__law_truths) := ⟨rfl, rfl, rfl, by decide +kernel, rfl, by decide +kernel, by decide +kernel⟩
abbrev s__law_some_truths : Stmt := topS 44
abbrev n__law_some_truths : List Str := ["_law_deal_here", "_law_questions_here", "_law_every_here", "_law_base", "_law_at"]
abbrev p__law_some_truths : List Str := ["_law_deal_here", "_law_questions_here"]
theorem sc__law_some_truths : FnScope n__law_some_truths p__law_some_truths (defScope s__law_some_truths) := ⟨rfl, rfl, rfl, by decide +kernel, rfl, by decide +kernel, by decide +kernel⟩
abbrev s__law_sheet : Stmt := topS 41
abbrev n__law_sheet : List Str := ["_law_questions_here", "_law_lot", "_law_truth", "_law_at"]
abbrev p__law_sheet : List Str := ["_law_questions_here", "_law_lot", "_law_truth"]
theorem sc__law_sheet : FnScope n__law_sheet p__law_sheet (defScope s__law_sheet) := ⟨rfl, rfl, rfl, by decide +kernel, rfl, by decide +kernel, by decide +kernel⟩
abbrev s__law_came : Stmt := topS 45
abbrev n__law_came : List Str := ["_law_questions_here", "_law_rows_here", "_law_lots_here", "_law_found", "_law_lot", "_law_truth"]
abbrev p__law_came : List Str := ["_law_questions_here", "_law_rows_here", "_law_lots_here"]
theorem sc__law_came : FnScope n__law_came p__law_came (defScope s__law_came) := ⟨rfl, rfl, rfl, by decide +kernel, rfl, by decide +kernel, by decide +kernel⟩
abbrev s__law_within : Stmt := topS 39
abbrev n__law_within : List Str := ["_law_lot", "_law_found", "_law_name", "_law_one"]
abbrev p__law_within : List Str := ["_law_lot"]
theorem sc__law_within : FnScope n__law_within p__law_within (defScope s__law_within) := ⟨rfl, rfl, rfl, by decide +kernel, rfl, by decide +kernel, by decide +kernel⟩
abbrev s__law_lots : Stmt := topS 40
abbrev n__law_lots : List Str := ["_law_questions_here", "_law_name", "_law_many"]
abbrev p__law_lots : List Str := ["_law_questions_here"]
theorem sc__law_lots : FnScope n__law_lots p__law_lots (defScope s__law_lots) := ⟨rfl, rfl, rfl, by decide +kernel, rfl, by decide +kernel, by decide +kernel⟩
abbrev s__law_closed : Stmt := topS 43
abbrev n__law_closed : List Str := ["_law_deal_here", "_law_questions_here", "_law_found", "_law_turn"]
abbrev p__law_closed : List Str := ["_law_deal_here", "_law_questions_here"]
theorem sc__law_closed : FnScope n__law_closed p__law_closed (defScope s__law_closed) := ⟨rfl, rfl, rfl, by decide +kernel, rfl, by decide +kernel, by decide +kernel⟩
abbrev s__law_every : Stmt := topS 42
abbrev n__law_every : List Str := ["_law_questions_here", "_law_row", "_law_answer", "_law_name", "_law_many"]
abbrev p__law_every : List Str := ["_law_questions_here"]
theorem sc__law_every : FnScope n__law_every p__law_every (defScope s__law_every) := ⟨rfl, rfl, rfl, by decide +kernel, rfl, by decide +kernel, by decide +kernel⟩
abbrev s__law_counts : Stmt := topS 47
abbrev n__law_counts : List Str := ["_law_deal_here", "_law_questions_here", "_law_rows_here", "_law_some", "_law_sheet_here"]
abbrev p__law_counts : List Str := ["_law_deal_here", "_law_questions_here"]
theorem sc__law_counts : FnScope n__law_counts p__law_counts (defScope s__law_counts) := ⟨rfl, rfl, rfl, by decide +kernel, rfl, by decide +kernel, by decide +kernel⟩
abbrev s_more_blanks : Stmt := topS 27
abbrev n_more_blanks : List Str := ["sheet", "found", "answer", "row", "one"]
abbrev p_more_blanks : List Str := ["sheet"]
theorem sc_more_blanks : FnScope n_more_blanks p_more_blanks (defScope s_more_blanks) := ⟨rfl, rfl, rfl, by decide +kernel, rfl, by decide +kernel, by decide +kernel⟩
abbrev s_by_blanks : Stmt := topS 25
abbrev n_by_blanks : List Str := ["sheets"]
abbrev p_by_blanks : List Str := ["sheets"]
theorem sc_by_blanks : FnScope n_by_blanks p_by_blanks (defScope s_by_blanks) := ⟨rfl, rfl, rfl, by decide +kernel, rfl, by decide +kernel, by decide +kernel⟩
abbrev s_listed : Stmt := topS 29
abbrev n_listed : List Str := ["found", "sheet"]
abbrev p_listed : List Str := ["found"]
theorem sc_listed : FnScope n_listed p_listed (defScope s_listed) := ⟨rfl, rfl, rfl, by decide +kernel, rfl, by decide +kernel, by decide +kernel⟩
abbrev s__rows : Stmt := topS 6
abbrev n__rows : List Str := ["form", "least", "found", "pair", "row", "answer"]
abbrev p__rows : List Str := ["form", "least"]
theorem sc__rows : FnScope n__rows p__rows (defScope s__rows) := ⟨rfl, rfl, rfl, by decide +kernel, rfl, by decide +kernel, by decide +kernel⟩
abbrev s_all_sheets : Stmt := topS 7
abbrev n_all_sheets : List Str := ["form"]
abbrev p_all_sheets : List Str := ["form"]
theorem sc_all_sheets : FnScope n_all_sheets p_all_sheets (defScope s_all_sheets) := ⟨rfl, rfl, rfl, by decide +kernel, rfl, by decide +kernel, by decide +kernel⟩
abbrev s_truths_behind : Stmt := topS 11
abbrev n_truths_behind : List Str := ["form", "sheet", "found", "pair", "answer", "answers", "row", "one"]
abbrev p_truths_behind : List Str := ["form", "sheet"]
theorem sc_truths_behind : FnScope n_truths_behind p_truths_behind (defScope s_truths_behind) := ⟨rfl, rfl, rfl, by decide +kernel, rfl, by decide +kernel, by decide +kernel⟩
abbrev s_fraction : Stmt := topS 15
abbrev n_fraction : List Str := ["top", "bottom", "common"]
abbrev p_fraction : List Str := ["top", "bottom"]
theorem sc_fraction : FnScope n_fraction p_fraction (defScope s_fraction) := ⟨rfl, rfl, rfl, by decide +kernel, rfl, by decide +kernel, by decide +kernel⟩
abbrev s_plus : Stmt := topS 17
abbrev n_plus : List Str := ["one", "other"]
abbrev p_plus : List Str := ["one", "other"]
theorem sc_plus : FnScope n_plus p_plus (defScope s_plus) := ⟨rfl, rfl, rfl, by decide +kernel, rfl, by decide +kernel, by decide +kernel⟩
abbrev s_total_of : Stmt := topS 20
abbrev n_total_of : List Str := ["some", "found", "one"]
abbrev p_total_of : List Str := ["some"]
theorem sc_total_of : FnScope n_total_of p_total_of (defScope s_total_of) := ⟨rfl, rfl, rfl, by decide +kernel, rfl, by decide +kernel, by decide +kernel⟩
abbrev s_lot_of : Stmt := topS 10
abbrev n_lot_of : List Str := ["form", "sheet", "pair", "answer"]
abbrev p_lot_of : List Str := ["form", "sheet"]
theorem sc_lot_of : FnScope n_lot_of p_lot_of (defScope s_lot_of) := ⟨rfl, rfl, rfl, by decide +kernel, rfl, by decide +kernel, by decide +kernel⟩
abbrev s_over : Stmt := topS 19
abbrev n_over : List Str := ["one", "other"]
abbrev p_over : List Str := ["one", "other"]
theorem sc_over : FnScope n_over p_over (defScope s_over) := ⟨rfl, rfl, rfl, by decide +kernel, rfl, by decide +kernel, by decide +kernel⟩
abbrev s_whole : Stmt := topS 16
abbrev n_whole : List Str := ["number"]
abbrev p_whole : List Str := ["number"]
theorem sc_whole : FnScope n_whole p_whole (defScope s_whole) := ⟨rfl, rfl, rfl, by decide +kernel, rfl, by decide +kernel, by decide +kernel⟩
abbrev s_times : Stmt := topS 18
abbrev n_times : List Str := ["one", "other"]
abbrev p_times : List Str := ["one", "other"]
theorem sc_times : FnScope n_times p_times (defScope s_times) := ⟨rfl, rfl, rfl, by decide +kernel, rfl, by decide +kernel, by decide +kernel⟩
abbrev s_sheet_of : Stmt := topS 9
abbrev n_sheet_of : List Str := ["form", "lot", "truth", "pair", "answer"]
abbrev p_sheet_of : List Str := ["form", "lot", "truth"]
theorem sc_sheet_of : FnScope n_sheet_of p_sheet_of (defScope s_sheet_of) := ⟨rfl, rfl, rfl, by decide +kernel, rfl, by decide +kernel, by decide +kernel⟩
abbrev s_lots_within : Stmt := topS 8
abbrev n_lots_within : List Str := ["lot", "found", "name", "one"]
abbrev p_lots_within : List Str := ["lot"]
theorem sc_lots_within : FnScope n_lots_within p_lots_within (defScope s_lots_within) := ⟨rfl, rfl, rfl, by decide +kernel, rfl, by decide +kernel, by decide +kernel⟩
abbrev s_blanked : Stmt := topS 24
abbrev n_blanked : List Str := ["form", "truth", "lot", "part"]
abbrev p_blanked : List Str := ["form", "truth", "lot"]
theorem sc_blanked : FnScope n_blanked p_blanked (defScope s_blanked) := ⟨rfl, rfl, rfl, by decide +kernel, rfl, by decide +kernel, by decide +kernel⟩
abbrev s_product_all : Stmt := topS 21
abbrev n_product_all : List Str := ["some", "found", "one"]
abbrev p_product_all : List Str := ["some"]
theorem sc_product_all : FnScope n_product_all p_product_all (defScope s_product_all) := ⟨rfl, rfl, rfl, by decide +kernel, rfl, by decide +kernel, by decide +kernel⟩
abbrev s_kept_weight : Stmt := topS 28
abbrev n_kept_weight : List Str := ["form", "counts", "found", "sheet", "some", "lot", "truth", "parts", "one", "total"]
abbrev p_kept_weight : List Str := ["form", "counts", "found", "sheet"]
theorem sc_kept_weight : FnScope n_kept_weight p_kept_weight (defScope s_kept_weight) := ⟨rfl, rfl, rfl, by decide +kernel, rfl, by decide +kernel, by decide +kernel⟩
abbrev s_weights_by : Stmt := topS 30
abbrev n_weights_by : List Str := ["form", "counts", "known", "found", "sheet", "many"]
abbrev p_weights_by : List Str := ["form", "counts"]
theorem sc_weights_by : FnScope n_weights_by p_weights_by (defScope s_weights_by) := ⟨rfl, rfl, rfl, by decide +kernel, rfl, by decide +kernel, by decide +kernel⟩
abbrev s__law_more : Stmt := topS 46
abbrev n__law_more : List Str := ["_law_sheet_here", "_law_found", "_law_answer", "_law_longer", "_law_row", "_law_one"]
abbrev p__law_more : List Str := ["_law_sheet_here"]
theorem sc__law_more : FnScope n__law_more p__law_more (defScope s__law_more) := ⟨rfl, rfl, rfl, by decide +kernel, rfl, by decide +kernel, by decide +kernel⟩
abbrev s_law : Stmt := topS 48
abbrev n_law : List Str := ["_law_script", "_law_deal_here", "_law_turn", "_law_questions_here", "_law_step", "_law_form", "_law_counts_here", "_law_sheet_here", "_law_more_here", "_law_others", "_law_number", "_law_first", "_law_second", "_law_pair", "_law_answer"]
abbrev p_law : List Str := ["_law_script"]
theorem sc_law : FnScope n_law p_law (defScope s_law) := ⟨rfl, rfl, rfl, by decide +kernel, rfl, by decide +kernel, by decide +kernel⟩
structure Txt (Y : Yd) : Prop where
  n_int : Y.mg "int" = none
  n_abs : Y.mg "abs" = none
  n_len : Y.mg "len" = none
  n_list : Y.mg "list" = none
  n_sorted : Y.mg "sorted" = none
  n_range : Y.mg "range" = none
  n_tuple : Y.mg "tuple" = none
  n_set : Y.mg "set" = none
  n_zip : Y.mg "zip" = none
  n_repr : Y.mg "repr" = none
  i_gcd : Y.mg "gcd" = some (.builtin "math.gcd")
  g_BLANK : GlF Y "BLANK" (.int (-1))
  g_ZERO : GlF Y "ZERO" (.tup [(.int 0), (.int 1)])
  g_ONE : GlF Y "ONE" (.tup [(.int 1), (.int 1)])
  d__law_deal : ∃ f fd, Y.mg "_law_deal" = some (.ref f) ∧ L2.Fun Y.K "_law_deal" "_law_deal" s__law_deal f fd
  d__law_any : ∃ f fd, Y.mg "_law_any" = some (.ref f) ∧ L2.Fun Y.K "_law_any" "_law_any" s__law_any f fd
  d__law_of : ∃ f fd, Y.mg "_law_of" = some (.ref f) ∧ L2.Fun Y.K "_law_of" "_law_of" s__law_of f fd
  d__law_names : ∃ f fd, Y.mg "_law_names" = some (.ref f) ∧ L2.Fun Y.K "_law_names" "_law_names" s__law_names f fd
  d__law_questions : ∃ f fd, Y.mg "_law_questions" = some (.ref f) ∧ L2.Fun Y.K "_law_questions" "_law_questions" s__law_questions f fd
  d__law_rows : ∃ f fd, Y.mg "_law_rows" = some (.ref f) ∧ L2.Fun Y.K "_law_rows" "_law_rows" s__law_rows f fd
  d__law_truths : ∃ f fd, Y.mg "_law_truths" = some (.ref f) ∧ L2.Fun Y.K "_law_truths" "_law_truths" s__law_truths f fd
  d__law_some_truths : ∃ f fd, Y.mg "_law_some_truths" = some (.ref f) ∧ L2.Fun Y.K "_law_some_truths" "_law_some_truths" s__law_some_truths f fd
  d__law_sheet : ∃ f fd, Y.mg "_law_sheet" = some (.ref f) ∧ L2.Fun Y.K "_law_sheet" "_law_sheet" s__law_sheet f fd
  d__law_came : ∃ f fd, Y.mg "_law_came" = some (.ref f) ∧ L2.Fun Y.K "_law_came" "_law_came" s__law_came f fd
  d__law_within : ∃ f fd, Y.mg "_law_within" = some (.ref f) ∧ L2.Fun Y.K "_law_within" "_law_within" s__law_within f fd
  d__law_lots : ∃ f fd, Y.mg "_law_lots" = some (.ref f) ∧ L2.Fun Y.K "_law_lots" "_law_lots" s__law_lots f fd
  d__law_closed : ∃ f fd, Y.mg "_law_closed" = some (.ref f) ∧ L2.Fun Y.K "_law_closed" "_law_closed" s__law_closed f fd
  d__law_every : ∃ f fd, Y.mg "_law_every" = some (.ref f) ∧ L2.Fun Y.K "_law_every" "_law_every" s__law_every f fd
  d__law_counts : ∃ f fd, Y.mg "_law_counts" = some (.ref f) ∧ L2.Fun Y.K "_law_counts" "_law_counts" s__law_counts f fd
  d_more_blanks : ∃ f fd, Y.mg "more_blanks" = some (.ref f) ∧ L2.Fun Y.K "more_blanks" "more_blanks" s_more_blanks f fd
  d_by_blanks : ∃ f fd, Y.mg "by_blanks" = some (.ref f) ∧ L2.Fun Y.K "by_blanks" "by_blanks" s_by_blanks f fd
  d_listed : ∃ f fd, Y.mg "listed" = some (.ref f) ∧ L2.Fun Y.K "listed" "listed" s_listed f fd
  d__rows : ∃ f fd, Y.mg "_rows" = some (.ref f) ∧ L2.Fun Y.K "_rows" "_rows" s__rows f fd
  d_all_sheets : ∃ f fd, Y.mg "all_sheets" = some (.ref f) ∧ L2.Fun Y.K "all_sheets" "all_sheets" s_all_sheets f fd
  d_truths_behind : ∃ f fd, Y.mg "truths_behind" = some (.ref f) ∧ L2.Fun Y.K "truths_behind" "truths_behind" s_truths_behind f fd
  d_fraction : ∃ f fd, Y.mg "fraction" = some (.ref f) ∧ L2.Fun Y.K "fraction" "fraction" s_fraction f fd
  d_plus : ∃ f fd, Y.mg "plus" = some (.ref f) ∧ L2.Fun Y.K "plus" "plus" s_plus f fd
  d_total_of : ∃ f fd, Y.mg "total_of" = some (.ref f) ∧ L2.Fun Y.K "total_of" "total_of" s_total_of f fd
  d_lot_of : ∃ f fd, Y.mg "lot_of" = some (.ref f) ∧ L2.Fun Y.K "lot_of" "lot_of" s_lot_of f fd
  d_over : ∃ f fd, Y.mg "over" = some (.ref f) ∧ L2.Fun Y.K "over" "over" s_over f fd
  d_whole : ∃ f fd, Y.mg "whole" = some (.ref f) ∧ L2.Fun Y.K "whole" "whole" s_whole f fd
  d_times : ∃ f fd, Y.mg "times" = some (.ref f) ∧ L2.Fun Y.K "times" "times" s_times f fd
  d_sheet_of : ∃ f fd, Y.mg "sheet_of" = some (.ref f) ∧ L2.Fun Y.K "sheet_of" "sheet_of" s_sheet_of f fd
  d_lots_within : ∃ f fd, Y.mg "lots_within" = some (.ref f) ∧ L2.Fun Y.K "lots_within" "lots_within" s_lots_within f fd
  d_blanked : ∃ f fd, Y.mg "blanked" = some (.ref f) ∧ L2.Fun Y.K "blanked" "blanked" s_blanked f fd
  d_product_all : ∃ f fd, Y.mg "product_all" = some (.ref f) ∧ L2.Fun Y.K "product_all" "product_all" s_product_all f fd
  d_kept_weight : ∃ f fd, Y.mg "kept_weight" = some (.ref f) ∧ L2.Fun Y.K "kept_weight" "kept_weight" s_kept_weight f fd
  d_weights_by : ∃ f fd, Y.mg "weights_by" = some (.ref f) ∧ L2.Fun Y.K "weights_by" "weights_by" s_weights_by f fd
  d__law_more : ∃ f fd, Y.mg "_law_more" = some (.ref f) ∧ L2.Fun Y.K "_law_more" "_law_more" s__law_more f fd
  d_law : ∃ f fd, Y.mg "law" = some (.ref f) ∧ L2.Fun Y.K "law" "law" s_law f fd
  c_Form : ∃ C f fd, Y.mg "Form" = some (.ref C) ∧ Mk Y.K C f ∧ L2.Fun Y.K "__init__" "Form.__init__" s_Form____init__ f fd
  f_questions : ∀ cn ∈ ["Form"], FldF Y cn "questions"
  lam : LamY Y
variable {Y : Yd}
/-! ### _law_deal -/
theorem b__law_deal (T : Txt Y) {f : Addr} (cdv : Value) (A : Around) (outer : List Env) (s : Shared) (H : Hp) (E : XK) (hr : Room 0 (A.deeper (envOfC "_law_deal" (defScope s__law_deal) s.heap.objs.size f cdv))) : SSs (BX Y n__law_deal "_law_deal" (defScope s__law_deal) f cdv A outer s H E) (Wd E) (defBody s__law_deal) m__law_deal := by
  have u64 : (A.deeper (envOfC "_law_deal" (defScope s__law_deal) s.heap.objs.size f cdv)).units + 64 < cLine := hr.units
  have u66 : (A.deeper (envOfC "_law_deal" (defScope s__law_deal) s.heap.objs.size f cdv)).units + 66 < cLine := by have := hr.un; omega
  have u16 : (A.deeper (envOfC "_law_deal" (defScope s__law_deal) s.heap.objs.size f cdv)).units + 16 < cLine := by have := hr.un; omega
  have nd : n__law_deal.Nodup := sc__law_deal.nd
  have tk : Takes (BX Y n__law_deal "_law_deal" (defScope s__law_deal) f cdv A outer s H E) (Wd E) := takes_of rfl rfl rfl rfl
  have po := passes_of (X := BX Y n__law_deal "_law_deal" (defScope s__law_deal) f cdv A outer s H E) rfl
  exact ss_cons (ss_setLc (i := 2) (by rfl) nd (by rfl) (by rfl) (sw_true rfl rfl rfl (by decide +kernel)) (si_val (se_sl (sv 0) (so_none) (so_some (se_int)))) (blkOk_by (own := [("_law_cell", 3)]) (N := n__law_deal) (sc := defScope s__law_deal) (by decide +kernel)) (by decide) (fun _ _ _ _ _ => sgt_var (i := 3) nd (by rfl) (by first | exact .inl rfl | exact .inr rfl) (by first | exact .inl rfl | exact .inr rfl)) (fun _ _ _ _ _ => sts_nil) (fun _ _ _ _ _ => se_bt bt_abs (by rfl) T.n_abs (by decide +kernel) (sa_cons (se_ty bt_int (by rfl) T.n_int (by decide +kernel) (sa_cons (sv 3) (sa_nil) (by rfl))) (sa_nil) (by rfl))) (fun _ => rfl)) (ss_cons (ss_set (i := 4) nd (by rfl) (by first | exact .inl rfl | exact .inr rfl) (se_op op2_add (se_op op2_mul (se_int) (sv 1)) (se_int)) (by rfl) (by first | exact .inl rfl | exact .inr rfl)) (ss_cons (ss_for po (by rfl) (si_val (sv 2)) (sg_name (i := 3) nd (by rfl) (by first | exact .inl rfl | exact .inr rfl) (by first | exact .inl rfl | exact .inr rfl)) (ss_one (ss_set (i := 4) nd (by rfl) (by first | exact .inl rfl | exact .inr rfl) (se_op op2_mod (se_ty bt_int (by rfl) T.n_int (by decide +kernel) (sa_cons (se_op op2_add (se_op op2_add (se_op op2_mul (sv 4) (se_int)) (se_op op2_mod (sv 3) (se_int))) (se_int)) (sa_nil) (by rfl))) (se_int)) (by rfl) (by first | exact .inl rfl | exact .inr rfl))) (fun _ => rfl)) (ss_one (ss_ret (se_deal 4 (sn_rev (se_known (sn_lc (by rfl) nd (si_val (sv 2)) (blkOk_by (own := [("_law_cell", 3)]) (N := n__law_deal) (sc := defScope s__law_deal) (by decide +kernel)) (by decide) (fun _ _ _ _ _ => sgt_var (i := 3) nd (by rfl) (by first | exact .inl rfl | exact .inr rfl) (by first | exact .inl rfl | exact .inr rfl)) (fun _ _ _ _ _ => sts_one (sb_cmp op2_ge (sv 3) (se_op op2_pow (se_int) (se_int)) (by rfl))) (fun _ _ _ _ _ => sv 3) (fun _ => rfl)))) (by rfl) (by first | exact Or.inl rfl | exact Or.inr (Or.inl rfl) | exact Or.inr (Or.inr rfl)) (by decide) (by decide) (by rfl) (by rfl))))))
theorem ok__law_deal (T : Txt Y) : FOk Y 1 "_law_deal" 2 f__law_deal := by
  obtain ⟨f, fd, hm, F⟩ := T.d__law_deal
  exact FOk.mk true hm F sc__law_deal (F.binds fun _ _ _ _ _ _ us hl => match us, hl with | [_, _], _ => rfl) (b__law_deal T)
/-! ### _law_any -/
theorem b__law_any (T : Txt Y) {f : Addr} (cdv : Value) (A : Around) (outer : List Env) (s : Shared) (H : Hp) (E : XK) (hr : Room 0 (A.deeper (envOfC "_law_any" (defScope s__law_any) s.heap.objs.size f cdv))) : SSs (BX Y n__law_any "_law_any" (defScope s__law_any) f cdv A outer s H E) (Wd E) (defBody s__law_any) m__law_any := by
  have u64 : (A.deeper (envOfC "_law_any" (defScope s__law_any) s.heap.objs.size f cdv)).units + 64 < cLine := hr.units
  have u66 : (A.deeper (envOfC "_law_any" (defScope s__law_any) s.heap.objs.size f cdv)).units + 66 < cLine := by have := hr.un; omega
  have u16 : (A.deeper (envOfC "_law_any" (defScope s__law_any) s.heap.objs.size f cdv)).units + 16 < cLine := by have := hr.un; omega
  have nd : n__law_any.Nodup := sc__law_any.nd
  have tk : Takes (BX Y n__law_any "_law_any" (defScope s__law_any) f cdv A outer s H E) (Wd E) := takes_of rfl rfl rfl rfl
  have po := passes_of (X := BX Y n__law_any "_law_any" (defScope s__law_any) f cdv A outer s H E) rfl
  exact ss_cons (ss_while po (sb_w (sw_and (sb_cmp (op2_ne u64) (se_ix u16 (sv 0) (se_int) (fun _ _ => rfl)) (se_known (sn_lst (sa_nil))) (by rfl)) (sw_one_and (sb_cmp (op2_eq u64) (se_ix u16 (se_ix u16 (sv 0) (se_int) (fun _ _ => rfl)) (se_neg (se_int)) (fun _ _ => rfl)) (se_int) (by rfl))))) (ss_one (ss_expr (se_pop (se_ix u16 (sv 0) (se_int) (fun _ _ => rfl)) (by rfl) (by rfl)) (by rfl)))) (ss_cons (ss_if (sb_cmp (op2_ne u64) (se_ix u16 (sv 0) (se_int) (fun _ _ => rfl)) (se_known (sn_lst (sa_nil))) (by rfl)) (ss_cons (ss_set (i := 2) nd (by rfl) (by first | exact .inl rfl | exact .inr rfl) (se_ty bt_int (by rfl) T.n_int (by decide +kernel) (sa_cons (se_pop (se_ix u16 (sv 0) (se_int) (fun _ _ => rfl)) (by rfl) (by rfl)) (sa_nil) (by rfl))) (by rfl) (by first | exact .inl rfl | exact .inr rfl)) (ss_cons (ss_expr (se_append (se_ix u16 (sv 0) (se_int) (fun _ _ => rfl)) (sa_cons (se_op op2_fdiv (sv 2) (sv 1)) (sa_nil) (by rfl)) (by rfl) (by rfl) (by rfl) (by rfl) (by rfl)) (by rfl)) (ss_one (ss_ret (se_op op2_mod (sv 2) (sv 1)))))) (ss_nil)) (ss_cons (ss_asg (se_op op2_mod (se_ty bt_int (by rfl) T.n_int (by decide +kernel) (sa_cons (se_op op2_add (se_op op2_mul (se_ix u16 (sv 0) (se_int) (fun _ _ => rfl)) (se_int)) (se_int)) (sa_nil) (by rfl))) (se_int)) (sg_sub u16 (sv 0) (se_int) (fun _ => rfl)) (by rfl) (by rfl) (by rfl)) (ss_one (ss_ret (se_op op2_mod (se_ty bt_int (by rfl) T.n_int (by decide +kernel) (sa_cons (se_op op2_fdiv (se_ix u16 (sv 0) (se_int) (fun _ _ => rfl)) (se_int)) (sa_nil) (by rfl))) (sv 1))))))
theorem ok__law_any (T : Txt Y) : FOk Y 1 "_law_any" 2 f__law_any := by
  obtain ⟨f, fd, hm, F⟩ := T.d__law_any
  exact FOk.mk false hm F sc__law_any (F.binds fun _ _ _ _ _ _ us hl => match us, hl with | [_, _], _ => rfl) (b__law_any T)
/-! ### _law_of -/
theorem b__law_of (T : Txt Y) {f : Addr} (cdv : Value) (A : Around) (outer : List Env) (s : Shared) (H : Hp) (E : XK) (hr : Room 1 (A.deeper (envOfC "_law_of" (defScope s__law_of) s.heap.objs.size f cdv))) : SSs (BX Y n__law_of "_law_of" (defScope s__law_of) f cdv A outer s H E) (Wd E) (defBody s__law_of) m__law_of := by
  have u64 : (A.deeper (envOfC "_law_of" (defScope s__law_of) s.heap.objs.size f cdv)).units + 64 < cLine := hr.units
  have u66 : (A.deeper (envOfC "_law_of" (defScope s__law_of) s.heap.objs.size f cdv)).units + 66 < cLine := by have := hr.un; omega
  have u16 : (A.deeper (envOfC "_law_of" (defScope s__law_of) s.heap.objs.size f cdv)).units + 16 < cLine := by have := hr.un; omega
  have nd : n__law_of.Nodup := sc__law_of.nd
  have tk : Takes (BX Y n__law_of "_law_of" (defScope s__law_of) f cdv A outer s H E) (Wd E) := takes_of rfl rfl rfl rfl
  have po := passes_of (X := BX Y n__law_of "_law_of" (defScope s__law_of) f cdv A outer s H E) rfl
  exact ss_one (ss_ret (se_ix u16 (sv 1) (se_call (ok__law_any T) (hr.mono (by decide)) tk (by rfl) (sa_cons (sv 0) (sa_cons (se_bt bt_len (by rfl) T.n_len (by decide +kernel) (sa_cons (sv 1) (sa_nil) (by rfl))) (sa_nil) (by rfl)) (by rfl))) (fun _ _ => rfl)))
theorem ok__law_of (T : Txt Y) : FOk Y 2 "_law_of" 2 f__law_of := by
  obtain ⟨f, fd, hm, F⟩ := T.d__law_of
  exact FOk.mk false hm F sc__law_of (F.binds fun _ _ _ _ _ _ us hl => match us, hl with | [_, _], _ => rfl) (b__law_of T)
/-! ### _law_names -/
theorem b__law_names (T : Txt Y) {f : Addr} (cdv : Value) (A : Around) (outer : List Env) (s : Shared) (H : Hp) (E : XK) (hr : Room 2 (A.deeper (envOfC "_law_names" (defScope s__law_names) s.heap.objs.size f cdv))) : SSs (BX Y n__law_names "_law_names" (defScope s__law_names) f cdv A outer s H E) (Wd E) (defBody s__law_names) m__law_names := by
  have u64 : (A.deeper (envOfC "_law_names" (defScope s__law_names) s.heap.objs.size f cdv)).units + 64 < cLine := hr.units
  have u66 : (A.deeper (envOfC "_law_names" (defScope s__law_names) s.heap.objs.size f cdv)).units + 66 < cLine := by have := hr.un; omega
  have u16 : (A.deeper (envOfC "_law_names" (defScope s__law_names) s.heap.objs.size f cdv)).units + 16 < cLine := by have := hr.un; omega
  have nd : n__law_names.Nodup := sc__law_names.nd
  have tk : Takes (BX Y n__law_names "_law_names" (defScope s__law_names) f cdv A outer s H E) (Wd E) := takes_of rfl rfl rfl rfl
  have po := passes_of (X := BX Y n__law_names "_law_names" (defScope s__law_names) f cdv A outer s H E) rfl
  exact ss_cons (ss_set (i := 2) nd (by rfl) (by first | exact .inl rfl | exact .inr rfl) (se_str) (by rfl) (by first | exact .inl rfl | exact .inr rfl)) (ss_cons (ss_par (i := 3) (j := 4) (by rfl) nd (by rfl) (by rfl) (by decide) (by rfl) (by rfl) (sa_cons (se_cell (sn_lst (sa_nil))) (sa_cons (se_cell (sn_ty (bn_listS (by rfl)) (by rfl) T.n_list (by decide +kernel) (sa_cons (sv 2) (sa_nil) (by rfl)))) sa_nil (by rfl)) (by rfl)) (by rfl) (by rfl)) (ss_cons (ss_while po (sb_cmp (op2_lt u64) (se_bt bt_len (by rfl) T.n_len (by decide +kernel) (sa_cons (sv 3) (sa_nil) (by rfl))) (sv 1) (by rfl)) (ss_one (ss_expr (se_append (sv 3) (sa_cons (se_popAt (sv 4) (sa_cons (se_call (ok__law_any T) (hr.mono (by decide)) tk (by rfl) (sa_cons (sv 0) (sa_cons (se_bt bt_len (by rfl) T.n_len (by decide +kernel) (sa_cons (sv 4) (sa_nil) (by rfl))) (sa_nil) (by rfl)) (by rfl))) (sa_nil) (by rfl)) (by rfl) (by rfl) (by rfl) (by rfl) (by rfl)) (sa_nil) (by rfl)) (by rfl) (by rfl) (by rfl) (by rfl) (by rfl)) (by rfl)))) (ss_cons (ss_if (sb_cmp (op2_eq u64) (se_call (ok__law_any T) (hr.mono (by decide)) tk (by rfl) (sa_cons (sv 0) (sa_cons (se_int) (sa_nil) (by rfl)) (by rfl))) (se_int) (by rfl)) (ss_one (ss_ret (se_known (sn_bt (bn_sortedA (by rfl) u64) (by rfl) T.n_sorted (by decide +kernel) (sa_cons (sv 3) (sa_nil) (by rfl)))))) (ss_nil)) (ss_cons (ss_set (i := 5) nd (by rfl) (by first | exact .inl rfl | exact .inr rfl) (se_known (sn_lc (by rfl) nd (si_range1 (by rfl) T.n_range (sa_cons (se_op op2_add (se_int) (se_call (ok__law_any T) (hr.mono (by decide)) tk (by rfl) (sa_cons (sv 0) (sa_cons (se_int) (sa_nil) (by rfl)) (by rfl)))) (sa_nil) (by rfl)) (by rfl)) (blkOk_by (own := [("_law_at", 6)]) (N := n__law_names) (sc := defScope s__law_names) (by decide +kernel)) (by decide) (fun _ _ _ _ _ => sgt_var (i := 6) nd (by rfl) (by first | exact .inl rfl | exact .inr rfl) (by first | exact .inl rfl | exact .inr rfl)) (fun _ _ _ _ _ => sts_nil) (fun _ _ _ _ _ => se_call (ok__law_of T) (hr.mono (by decide)) takes0 (by rfl) (sa_cons (sv 0) (sa_cons (sv 2) (sa_nil) (by rfl)) (by rfl))) (fun _ => rfl))) (by rfl) (by first | exact .inl rfl | exact .inr rfl)) (ss_cons (ss_set (i := 7) nd (by rfl) (by first | exact .inl rfl | exact .inr rfl) (se_call (ok__law_any T) (hr.mono (by decide)) tk (by rfl) (sa_cons (sv 0) (sa_cons (se_op op2_add (se_bt bt_len (by rfl) T.n_len (by decide +kernel) (sa_cons (sv 5) (sa_nil) (by rfl))) (se_int)) (sa_nil) (by rfl)) (by rfl))) (by rfl) (by first | exact .inl rfl | exact .inr rfl)) (ss_one (ss_ret (se_known (sn_bt (bn_sortedA (by rfl) u64) (by rfl) T.n_sorted (by decide +kernel) (sa_cons (se_known (sn_lc (by rfl) nd (si_val (se_frz (sv 3))) (blkOk_by (own := [("_law_one", 8)]) (N := n__law_names) (sc := defScope s__law_names) (by decide +kernel)) (by decide) (fun _ _ _ _ _ => sgt_var (i := 8) nd (by rfl) (by first | exact .inl rfl | exact .inr rfl) (by first | exact .inl rfl | exact .inr rfl)) (fun _ _ _ _ _ => sts_nil) (fun _ _ _ _ _ => se_op op2_add (se_op op2_add (se_join (se_str) (se_sl (sv 5) (so_none) (so_some (sv 7))) (by rfl) (by rfl) (by rfl)) (sv 8)) (se_join (se_str) (se_sl (sv 5) (so_some (sv 7)) (so_none)) (by rfl) (by rfl) (by rfl))) (fun _ => rfl))) (sa_nil) (by rfl)))))))))))
theorem ok__law_names (T : Txt Y) : FOk Y 3 "_law_names" 2 f__law_names := by
  obtain ⟨f, fd, hm, F⟩ := T.d__law_names
  exact FOk.mk false hm F sc__law_names (F.binds fun _ _ _ _ _ _ us hl => match us, hl with | [_, _], _ => rfl) (b__law_names T)
/-! ### _law_questions -/
theorem b__law_questions (T : Txt Y) {f : Addr} (cdv : Value) (A : Around) (outer : List Env) (s : Shared) (H : Hp) (E : XK) (hr : Room 3 (A.deeper (envOfC "_law_questions" (defScope s__law_questions) s.heap.objs.size f cdv))) : SSs (BX Y n__law_questions "_law_questions" (defScope s__law_questions) f cdv A outer s H E) (Wd E) (defBody s__law_questions) m__law_questions := by
  have u64 : (A.deeper (envOfC "_law_questions" (defScope s__law_questions) s.heap.objs.size f cdv)).units + 64 < cLine := hr.units
  have u66 : (A.deeper (envOfC "_law_questions" (defScope s__law_questions) s.heap.objs.size f cdv)).units + 66 < cLine := by have := hr.un; omega
  have u16 : (A.deeper (envOfC "_law_questions" (defScope s__law_questions) s.heap.objs.size f cdv)).units + 16 < cLine := by have := hr.un; omega
  have nd : n__law_questions.Nodup := sc__law_questions.nd
  have tk : Takes (BX Y n__law_questions "_law_questions" (defScope s__law_questions) f cdv A outer s H E) (Wd E) := takes_of rfl rfl rfl rfl
  have po := passes_of (X := BX Y n__law_questions "_law_questions" (defScope s__law_questions) f cdv A outer s H E) rfl
  exact ss_cons (ss_set (i := 2) nd (by rfl) (by first | exact .inl rfl | exact .inr rfl) (se_call (ok__law_names T) (hr.mono (by decide)) tk (by rfl) (sa_cons (sv 0) (sa_cons (se_op op2_add (se_int) (se_call (ok__law_any T) (hr.mono (by decide)) tk (by rfl) (sa_cons (sv 0) (sa_cons (sv 1) (sa_nil) (by rfl)) (by rfl)))) (sa_nil) (by rfl)) (by rfl))) (by rfl) (by first | exact .inl rfl | exact .inr rfl)) (ss_one (ss_ret (se_ty bt_tuple (by rfl) T.n_tuple (by decide +kernel) (sa_cons (se_known (sn_lc (by rfl) nd (si_val (sv 2)) (blkOk_by (own := [("_law_name", 3)]) (N := n__law_questions) (sc := defScope s__law_questions) (by decide +kernel)) (by decide) (fun _ _ _ _ _ => sgt_var (i := 3) nd (by rfl) (by first | exact .inl rfl | exact .inr rfl) (by first | exact .inl rfl | exact .inr rfl)) (fun _ _ _ _ _ => sts_nil) (fun _ _ _ _ _ => se_tup (sa_cons (sv 3) (sa_cons (se_ite (sb_cmp (op2_lt u64) (se_bt bt_len (by rfl) T.n_len (by decide +kernel) (sa_cons (sv 2) (sa_nil) (by rfl))) (se_int) (by rfl)) (se_op op2_add (se_int) (se_call (ok__law_any T) (hr.mono (by decide)) takes0 (by rfl) (sa_cons (sv 0) (sa_cons (se_int) (sa_nil) (by rfl)) (by rfl)))) (se_int)) (sa_nil) (by rfl)) (by rfl))) (fun _ => rfl))) (sa_nil) (by rfl)))))
theorem ok__law_questions (T : Txt Y) : FOk Y 4 "_law_questions" 2 f__law_questions := by
  obtain ⟨f, fd, hm, F⟩ := T.d__law_questions
  exact FOk.mk false hm F sc__law_questions (F.binds fun _ _ _ _ _ _ us hl => match us, hl with | [_, _], _ => rfl) (b__law_questions T)
/-! ### Form.__init__ -/
theorem b_Form____init__ (T : Txt Y) {f : Addr} (cdv : Value) (A : Around) (outer : List Env) (s : Shared) (H : Hp) (E : XK) (hr : Room 0 (A.deeper (envOfC "Form.__init__" (defScope s_Form____init__) s.heap.objs.size f cdv))) : SSs (BX Y n_Form____init__ "Form.__init__" (defScope s_Form____init__) f cdv A outer s H E) (Wd E) (defBody s_Form____init__) m_Form____init__ := by
  have u64 : (A.deeper (envOfC "Form.__init__" (defScope s_Form____init__) s.heap.objs.size f cdv)).units + 64 < cLine := hr.units
  have u66 : (A.deeper (envOfC "Form.__init__" (defScope s_Form____init__) s.heap.objs.size f cdv)).units + 66 < cLine := by have := hr.un; omega
  have u16 : (A.deeper (envOfC "Form.__init__" (defScope s_Form____init__) s.heap.objs.size f cdv)).units + 16 < cLine := by have := hr.un; omega
  have nd : n_Form____init__.Nodup := sc_Form____init__.nd
  have tk : Takes (BX Y n_Form____init__ "Form.__init__" (defScope s_Form____init__) f cdv A outer s H E) (Wd E) := takes_of rfl rfl rfl rfl
  have po := passes_of (X := BX Y n_Form____init__ "Form.__init__" (defScope s_Form____init__) f cdv A outer s H E) rfl
  exact ss_one (ss_fld ["Form"] "questions" (sv 0) (sv 1) T.f_questions (by rfl))
theorem mk_Form (T : Txt Y) : MkF Y 1 2 "Form" f_Form____init__ := by
  obtain ⟨C, f, fd, hC, mk, F⟩ := T.c_Form
  exact ⟨C, f, fd, p_Form____init__, hC, mk, rfl, FnD.mk' false F sc_Form____init__ (F.binds fun _ _ _ _ _ _ us hl => match us, hl with | [_, _], _ => rfl) (b_Form____init__ T)⟩
/-! ### _law_rows -/
theorem b__law_rows (T : Txt Y) {f : Addr} (cdv : Value) (A : Around) (outer : List Env) (s : Shared) (H : Hp) (E : XK) (hr : Room 0 (A.deeper (envOfC "_law_rows" (defScope s__law_rows) s.heap.objs.size f cdv))) : SSs (BX Y n__law_rows "_law_rows" (defScope s__law_rows) f cdv A outer s H E) (Wd E) (defBody s__law_rows) m__law_rows := by
  have u64 : (A.deeper (envOfC "_law_rows" (defScope s__law_rows) s.heap.objs.size f cdv)).units + 64 < cLine := hr.units
  have u66 : (A.deeper (envOfC "_law_rows" (defScope s__law_rows) s.heap.objs.size f cdv)).units + 66 < cLine := by have := hr.un; omega
  have u16 : (A.deeper (envOfC "_law_rows" (defScope s__law_rows) s.heap.objs.size f cdv)).units + 16 < cLine := by have := hr.un; omega
  have nd : n__law_rows.Nodup := sc__law_rows.nd
  have tk : Takes (BX Y n__law_rows "_law_rows" (defScope s__law_rows) f cdv A outer s H E) (Wd E) := takes_of rfl rfl rfl rfl
  have po := passes_of (X := BX Y n__law_rows "_law_rows" (defScope s__law_rows) f cdv A outer s H E) rfl
  exact ss_cons (ss_set (i := 1) nd (by rfl) (by first | exact .inl rfl | exact .inr rfl) (se_known (sn_lst (sa_cons (se_tup (sa_nil)) (sa_nil) (by rfl)))) (by rfl) (by first | exact .inl rfl | exact .inr rfl)) (ss_cons (ss_for po (by rfl) (si_val (sv 0)) (sg_name (i := 2) nd (by rfl) (by first | exact .inl rfl | exact .inr rfl) (by first | exact .inl rfl | exact .inr rfl)) (ss_cons (ss_set (i := 3) nd (by rfl) (by first | exact .inl rfl | exact .inr rfl) (se_known (sn_lst (sa_nil))) (by rfl) (by first | exact .inl rfl | exact .inr rfl)) (ss_cons (ss_for po (by rfl) (si_val (sv 1)) (sg_name (i := 4) nd (by rfl) (by first | exact .inl rfl | exact .inr rfl) (by first | exact .inl rfl | exact .inr rfl)) (ss_one (ss_set (i := 3) nd (by rfl) (by first | exact .inl rfl | exact .inr rfl) (se_op op2_add (sv 3) (se_known (sn_lc (by rfl) nd (si_range1 (by rfl) T.n_range (sa_cons (sv 2) (sa_nil) (by rfl)) (by rfl)) (blkOk_by (own := [("_law_number", 5)]) (N := n__law_rows) (sc := defScope s__law_rows) (by decide +kernel)) (by decide) (fun _ _ _ _ _ => sgt_var (i := 5) nd (by rfl) (by first | exact .inl rfl | exact .inr rfl) (by first | exact .inl rfl | exact .inr rfl)) (fun _ _ _ _ _ => sts_nil) (fun _ _ _ _ _ => se_op op2_add (sv 4) (se_tup (sa_cons (sv 5) (sa_nil) (by rfl)))) (fun _ => rfl)))) (by rfl) (by first | exact .inl rfl | exact .inr rfl))) (fun _ => rfl)) (ss_one (ss_set (i := 1) nd (by rfl) (by first | exact .inl rfl | exact .inr rfl) (sv 3) (by rfl) (by first | exact .inl rfl | exact .inr rfl))))) (fun _ => rfl)) (ss_one (ss_ret (sv 1))))
theorem ok__law_rows (T : Txt Y) : FOk Y 1 "_law_rows" 1 f__law_rows := by
  obtain ⟨f, fd, hm, F⟩ := T.d__law_rows
  exact FOk.mk false hm F sc__law_rows (F.binds fun _ _ _ _ _ _ us hl => match us, hl with | [_], _ => rfl) (b__law_rows T)
/-! ### _law_truths -/
theorem b__law_truths (T : Txt Y) {f : Addr} (cdv : Value) (A : Around) (outer : List Env) (s : Shared) (H : Hp) (E : XK) (hr : Room 1 (A.deeper (envOfC "_law_truths" (defScope s__law_truths) s.heap.objs.size f cdv))) : SSs (BX Y n__law_truths "_law_truths" (defScope s__law_truths) f cdv A outer s H E) (Wd E) (defBody s__law_truths) m__law_truths := by
  have u64 : (A.deeper (envOfC "_law_truths" (defScope s__law_truths) s.heap.objs.size f cdv)).units + 64 < cLine := hr.units
  have u66 : (A.deeper (envOfC "_law_truths" (defScope s__law_truths) s.heap.objs.size f cdv)).units + 66 < cLine := by have := hr.un; omega
  have u16 : (A.deeper (envOfC "_law_truths" (defScope s__law_truths) s.heap.objs.size f cdv)).units + 16 < cLine := by have := hr.un; omega
  have nd : n__law_truths.Nodup := sc__law_truths.nd
  have tk : Takes (BX Y n__law_truths "_law_truths" (defScope s__law_truths) f cdv A outer s H E) (Wd E) := takes_of rfl rfl rfl rfl
  have po := passes_of (X := BX Y n__law_truths "_law_truths" (defScope s__law_truths) f cdv A outer s H E) rfl
  exact ss_one (ss_ret (se_call (ok__law_rows T) (hr.mono (by decide)) tk (by rfl) (sa_cons (se_known (sn_lc (by rfl) nd (si_val (sv 0)) (blkOk_by (own := [("_law_name", 1), ("_law_many", 2)]) (N := n__law_truths) (sc := defScope s__law_truths) (by decide +kernel)) (by decide) (fun _ _ _ _ _ => sgt_tup (by rfl) (sgts_cons (sgt_var (i := 1) nd (by rfl) (by first | exact .inl rfl | exact .inr rfl) (by first | exact .inl rfl | exact .inr rfl)) (sgts_cons (sgt_var (i := 2) nd (by rfl) (by first | exact .inl rfl | exact .inr rfl) (by first | exact .inl rfl | exact .inr rfl)) (sgts_nil) (by rfl)) (by rfl)) (by rfl) (by rfl)) (fun _ _ _ _ _ => sts_nil) (fun _ _ _ _ _ => sv 2) (fun _ => rfl))) (sa_nil) (by rfl))))
theorem ok__law_truths (T : Txt Y) : FOk Y 2 "_law_truths" 1 f__law_truths := by
  obtain ⟨f, fd, hm, F⟩ := T.d__law_truths
  exact FOk.mk false hm F sc__law_truths (F.binds fun _ _ _ _ _ _ us hl => match us, hl with | [_], _ => rfl) (b__law_truths T)
/-! ### _law_some_truths -/
theorem b__law_some_truths (T : Txt Y) {f : Addr} (cdv : Value) (A : Around) (outer : List Env) (s : Shared) (H : Hp) (E : XK) (hr : Room 2 (A.deeper (envOfC "_law_some_truths" (defScope s__law_some_truths) s.heap.objs.size f cdv))) : SSs (BX Y n__law_some_truths "_law_some_truths" (defScope s__law_some_truths) f cdv A outer s H E) (Wd E) (defBody s__law_some_truths) m__law_some_truths := by
  have u64 : (A.deeper (envOfC "_law_some_truths" (defScope s__law_some_truths) s.heap.objs.size f cdv)).units + 64 < cLine := hr.units
  have u66 : (A.deeper (envOfC "_law_some_truths" (defScope s__law_some_truths) s.heap.objs.size f cdv)).units + 66 < cLine := by have := hr.un; omega
  have u16 : (A.deeper (envOfC "_law_some_truths" (defScope s__law_some_truths) s.heap.objs.size f cdv)).units + 16 < cLine := by have := hr.un; omega
  have nd : n__law_some_truths.Nodup := sc__law_some_truths.nd
  have tk : Takes (BX Y n__law_some_truths "_law_some_truths" (defScope s__law_some_truths) f cdv A outer s H E) (Wd E) := takes_of rfl rfl rfl rfl
  have po := passes_of (X := BX Y n__law_some_truths "_law_some_truths" (defScope s__law_some_truths) f cdv A outer s H E) rfl
  exact ss_cons (ss_set (i := 2) nd (by rfl) (by first | exact .inl rfl | exact .inr rfl) (se_call (ok__law_truths T) (hr.mono (by decide)) tk (by rfl) (sa_cons (sv 1) (sa_nil) (by rfl))) (by rfl) (by first | exact .inl rfl | exact .inr rfl)) (ss_cons (ss_if (sb_cmp (op2_eq u64) (se_call (ok__law_any T) (hr.mono (by decide)) tk (by rfl) (sa_cons (sv 0) (sa_cons (se_int) (sa_nil) (by rfl)) (by rfl))) (se_int) (by rfl)) (ss_one (ss_ret (sv 2))) (ss_nil)) (ss_cons (ss_set (i := 3) nd (by rfl) (by first | exact .inl rfl | exact .inr rfl) (se_call (ok__law_any T) (hr.mono (by decide)) tk (by rfl) (sa_cons (sv 0) (sa_cons (se_bt bt_len (by rfl) T.n_len (by decide +kernel) (sa_cons (sv 2) (sa_nil) (by rfl))) (sa_nil) (by rfl)) (by rfl))) (by rfl) (by first | exact .inl rfl | exact .inr rfl)) (ss_one (ss_ret (se_known (sn_lc (by rfl) nd (si_range1 (by rfl) T.n_range (sa_cons (se_bt bt_len (by rfl) T.n_len (by decide +kernel) (sa_cons (sv 2) (sa_nil) (by rfl))) (sa_nil) (by rfl)) (by rfl)) (blkOk_by (own := [("_law_at", 4)]) (N := n__law_some_truths) (sc := defScope s__law_some_truths) (by decide +kernel)) (by decide) (fun _ _ _ _ _ => sgt_var (i := 4) nd (by rfl) (by first | exact .inl rfl | exact .inr rfl) (by first | exact .inl rfl | exact .inr rfl)) (fun _ _ _ _ _ => sts_one (sb_w (sw_or (sb_cmp (op2_eq u64) (sv 4) (sv 3) (by rfl)) (sw_one_or (sb_cmp op2_gt (se_call (ok__law_any T) (hr.mono (by decide)) takes0 (by rfl) (sa_cons (sv 0) (sa_cons (se_int) (sa_nil) (by rfl)) (by rfl))) (se_int) (by rfl)))))) (fun _ _ _ _ _ => se_ix u16 (sv 2) (sv 4) (fun _ _ => rfl)) (fun _ => rfl)))))))
theorem ok__law_some_truths (T : Txt Y) : FOk Y 3 "_law_some_truths" 2 f__law_some_truths := by
  obtain ⟨f, fd, hm, F⟩ := T.d__law_some_truths
  exact FOk.mk false hm F sc__law_some_truths (F.binds fun _ _ _ _ _ _ us hl => match us, hl with | [_, _], _ => rfl) (b__law_some_truths T)
/-! ### _law_sheet -/
theorem b__law_sheet (T : Txt Y) {f : Addr} (cdv : Value) (A : Around) (outer : List Env) (s : Shared) (H : Hp) (E : XK) (hr : Room 0 (A.deeper (envOfC "_law_sheet" (defScope s__law_sheet) s.heap.objs.size f cdv))) : SSs (BX Y n__law_sheet "_law_sheet" (defScope s__law_sheet) f cdv A outer s H E) (Wd E) (defBody s__law_sheet) m__law_sheet := by
  have u64 : (A.deeper (envOfC "_law_sheet" (defScope s__law_sheet) s.heap.objs.size f cdv)).units + 64 < cLine := hr.units
  have u66 : (A.deeper (envOfC "_law_sheet" (defScope s__law_sheet) s.heap.objs.size f cdv)).units + 66 < cLine := by have := hr.un; omega
  have u16 : (A.deeper (envOfC "_law_sheet" (defScope s__law_sheet) s.heap.objs.size f cdv)).units + 16 < cLine := by have := hr.un; omega
  have nd : n__law_sheet.Nodup := sc__law_sheet.nd
  have tk : Takes (BX Y n__law_sheet "_law_sheet" (defScope s__law_sheet) f cdv A outer s H E) (Wd E) := takes_of rfl rfl rfl rfl
  have po := passes_of (X := BX Y n__law_sheet "_law_sheet" (defScope s__law_sheet) f cdv A outer s H E) rfl
  exact ss_one (ss_ret (se_ty bt_tuple (by rfl) T.n_tuple (by decide +kernel) (sa_cons (se_known (sn_lc (by rfl) nd (si_range1 (by rfl) T.n_range (sa_cons (se_bt bt_len (by rfl) T.n_len (by decide +kernel) (sa_cons (sv 0) (sa_nil) (by rfl))) (sa_nil) (by rfl)) (by rfl)) (blkOk_by (own := [("_law_at", 3)]) (N := n__law_sheet) (sc := defScope s__law_sheet) (by decide +kernel)) (by decide) (fun _ _ _ _ _ => sgt_var (i := 3) nd (by rfl) (by first | exact .inl rfl | exact .inr rfl) (by first | exact .inl rfl | exact .inr rfl)) (fun _ _ _ _ _ => sts_nil) (fun _ _ _ _ _ => se_ite (sb_cmp (op2_inA u66) (se_ix u16 (se_ix u16 (sv 0) (sv 3) (fun _ _ => rfl)) (se_int) (fun _ _ => rfl)) (sv 1) (by rfl)) (se_neg (se_int)) (se_ix u16 (sv 2) (sv 3) (fun _ _ => rfl))) (fun _ => rfl))) (sa_nil) (by rfl))))
theorem ok__law_sheet (T : Txt Y) : FOk Y 1 "_law_sheet" 3 f__law_sheet := by
  obtain ⟨f, fd, hm, F⟩ := T.d__law_sheet
  exact FOk.mk false hm F sc__law_sheet (F.binds fun _ _ _ _ _ _ us hl => match us, hl with | [_, _, _], _ => rfl) (b__law_sheet T)
/-! ### _law_came -/
theorem b__law_came (T : Txt Y) {f : Addr} (cdv : Value) (A : Around) (outer : List Env) (s : Shared) (H : Hp) (E : XK) (hr : Room 1 (A.deeper (envOfC "_law_came" (defScope s__law_came) s.heap.objs.size f cdv))) : SSs (BX Y n__law_came "_law_came" (defScope s__law_came) f cdv A outer s H E) (Wd E) (defBody s__law_came) m__law_came := by
  have u64 : (A.deeper (envOfC "_law_came" (defScope s__law_came) s.heap.objs.size f cdv)).units + 64 < cLine := hr.units
  have u66 : (A.deeper (envOfC "_law_came" (defScope s__law_came) s.heap.objs.size f cdv)).units + 66 < cLine := by have := hr.un; omega
  have u16 : (A.deeper (envOfC "_law_came" (defScope s__law_came) s.heap.objs.size f cdv)).units + 16 < cLine := by have := hr.un; omega
  have nd : n__law_came.Nodup := sc__law_came.nd
  have tk : Takes (BX Y n__law_came "_law_came" (defScope s__law_came) f cdv A outer s H E) (Wd E) := takes_of rfl rfl rfl rfl
  have po := passes_of (X := BX Y n__law_came "_law_came" (defScope s__law_came) f cdv A outer s H E) rfl
  exact ss_cons (ss_set (i := 3) nd (by rfl) (by first | exact .inl rfl | exact .inr rfl) (se_known (sn_lst (sa_nil))) (by rfl) (by first | exact .inl rfl | exact .inr rfl)) (ss_cons (ss_for po (by rfl) (si_val (sv 2)) (sg_name (i := 4) nd (by rfl) (by first | exact .inl rfl | exact .inr rfl) (by first | exact .inl rfl | exact .inr rfl)) (ss_one (ss_set (i := 3) nd (by rfl) (by first | exact .inl rfl | exact .inr rfl) (se_op op2_add (sv 3) (se_known (sn_lc (by rfl) nd (si_val (sv 1)) (blkOk_by (own := [("_law_truth", 5)]) (N := n__law_came) (sc := defScope s__law_came) (by decide +kernel)) (by decide) (fun _ _ _ _ _ => sgt_var (i := 5) nd (by rfl) (by first | exact .inl rfl | exact .inr rfl) (by first | exact .inl rfl | exact .inr rfl)) (fun _ _ _ _ _ => sts_one (sb_cmp (op2_ne u64) (sv 4) (se_tup (sa_nil)) (by rfl))) (fun _ _ _ _ _ => se_call (ok__law_sheet T) (hr.mono (by decide)) takes0 (by rfl) (sa_cons (sv 0) (sa_cons (sv 4) (sa_cons (sv 5) (sa_nil) (by rfl)) (by rfl)) (by rfl))) (fun _ => rfl)))) (by rfl) (by first | exact .inl rfl | exact .inr rfl))) (fun _ => rfl)) (ss_one (ss_ret (se_known (sn_sortSet (by rfl) u64 (by rfl) T.n_sorted (by rfl) T.n_set (sv 3) (by rfl) (by rfl))))))
theorem ok__law_came (T : Txt Y) : FOk Y 2 "_law_came" 3 f__law_came := by
  obtain ⟨f, fd, hm, F⟩ := T.d__law_came
  exact FOk.mk false hm F sc__law_came (F.binds fun _ _ _ _ _ _ us hl => match us, hl with | [_, _, _], _ => rfl) (b__law_came T)
/-! ### _law_within -/
theorem b__law_within (T : Txt Y) {f : Addr} (cdv : Value) (A : Around) (outer : List Env) (s : Shared) (H : Hp) (E : XK) (hr : Room 0 (A.deeper (envOfC "_law_within" (defScope s__law_within) s.heap.objs.size f cdv))) : SSs (BX Y n__law_within "_law_within" (defScope s__law_within) f cdv A outer s H E) (Wd E) (defBody s__law_within) m__law_within := by
  have u64 : (A.deeper (envOfC "_law_within" (defScope s__law_within) s.heap.objs.size f cdv)).units + 64 < cLine := hr.units
  have u66 : (A.deeper (envOfC "_law_within" (defScope s__law_within) s.heap.objs.size f cdv)).units + 66 < cLine := by have := hr.un; omega
  have u16 : (A.deeper (envOfC "_law_within" (defScope s__law_within) s.heap.objs.size f cdv)).units + 16 < cLine := by have := hr.un; omega
  have nd : n__law_within.Nodup := sc__law_within.nd
  have tk : Takes (BX Y n__law_within "_law_within" (defScope s__law_within) f cdv A outer s H E) (Wd E) := takes_of rfl rfl rfl rfl
  have po := passes_of (X := BX Y n__law_within "_law_within" (defScope s__law_within) f cdv A outer s H E) rfl
  exact ss_cons (ss_set (i := 1) nd (by rfl) (by first | exact .inl rfl | exact .inr rfl) (se_known (sn_lst (sa_cons (se_tup (sa_nil)) (sa_nil) (by rfl)))) (by rfl) (by first | exact .inl rfl | exact .inr rfl)) (ss_cons (ss_for po (by rfl) (si_val (sv 0)) (sg_name (i := 2) nd (by rfl) (by first | exact .inl rfl | exact .inr rfl) (by first | exact .inl rfl | exact .inr rfl)) (ss_one (ss_set (i := 1) nd (by rfl) (by first | exact .inl rfl | exact .inr rfl) (se_op op2_add (sv 1) (se_known (sn_lc (by rfl) nd (si_val (sv 1)) (blkOk_by (own := [("_law_one", 3)]) (N := n__law_within) (sc := defScope s__law_within) (by decide +kernel)) (by decide) (fun _ _ _ _ _ => sgt_var (i := 3) nd (by rfl) (by first | exact .inl rfl | exact .inr rfl) (by first | exact .inl rfl | exact .inr rfl)) (fun _ _ _ _ _ => sts_nil) (fun _ _ _ _ _ => se_op op2_add (sv 3) (se_tup (sa_cons (sv 2) (sa_nil) (by rfl)))) (fun _ => rfl)))) (by rfl) (by first | exact .inl rfl | exact .inr rfl))) (fun _ => rfl)) (ss_one (ss_ret (se_known (sn_bt (bn_sortedA (by rfl) u64) (by rfl) T.n_sorted (by decide +kernel) (sa_cons (sv 1) (sa_nil) (by rfl)))))))
theorem ok__law_within (T : Txt Y) : FOk Y 1 "_law_within" 1 f__law_within := by
  obtain ⟨f, fd, hm, F⟩ := T.d__law_within
  exact FOk.mk false hm F sc__law_within (F.binds fun _ _ _ _ _ _ us hl => match us, hl with | [_], _ => rfl) (b__law_within T)
/-! ### _law_lots -/
theorem b__law_lots (T : Txt Y) {f : Addr} (cdv : Value) (A : Around) (outer : List Env) (s : Shared) (H : Hp) (E : XK) (hr : Room 1 (A.deeper (envOfC "_law_lots" (defScope s__law_lots) s.heap.objs.size f cdv))) : SSs (BX Y n__law_lots "_law_lots" (defScope s__law_lots) f cdv A outer s H E) (Wd E) (defBody s__law_lots) m__law_lots := by
  have u64 : (A.deeper (envOfC "_law_lots" (defScope s__law_lots) s.heap.objs.size f cdv)).units + 64 < cLine := hr.units
  have u66 : (A.deeper (envOfC "_law_lots" (defScope s__law_lots) s.heap.objs.size f cdv)).units + 66 < cLine := by have := hr.un; omega
  have u16 : (A.deeper (envOfC "_law_lots" (defScope s__law_lots) s.heap.objs.size f cdv)).units + 16 < cLine := by have := hr.un; omega
  have nd : n__law_lots.Nodup := sc__law_lots.nd
  have tk : Takes (BX Y n__law_lots "_law_lots" (defScope s__law_lots) f cdv A outer s H E) (Wd E) := takes_of rfl rfl rfl rfl
  have po := passes_of (X := BX Y n__law_lots "_law_lots" (defScope s__law_lots) f cdv A outer s H E) rfl
  exact ss_one (ss_ret (se_call (ok__law_within T) (hr.mono (by decide)) tk (by rfl) (sa_cons (se_ty bt_tuple (by rfl) T.n_tuple (by decide +kernel) (sa_cons (se_known (sn_lc (by rfl) nd (si_val (sv 0)) (blkOk_by (own := [("_law_name", 1), ("_law_many", 2)]) (N := n__law_lots) (sc := defScope s__law_lots) (by decide +kernel)) (by decide) (fun _ _ _ _ _ => sgt_tup (by rfl) (sgts_cons (sgt_var (i := 1) nd (by rfl) (by first | exact .inl rfl | exact .inr rfl) (by first | exact .inl rfl | exact .inr rfl)) (sgts_cons (sgt_var (i := 2) nd (by rfl) (by first | exact .inl rfl | exact .inr rfl) (by first | exact .inl rfl | exact .inr rfl)) (sgts_nil) (by rfl)) (by rfl)) (by rfl) (by rfl)) (fun _ _ _ _ _ => sts_nil) (fun _ _ _ _ _ => sv 1) (fun _ => rfl))) (sa_nil) (by rfl))) (sa_nil) (by rfl))))
theorem ok__law_lots (T : Txt Y) : FOk Y 2 "_law_lots" 1 f__law_lots := by
  obtain ⟨f, fd, hm, F⟩ := T.d__law_lots
  exact FOk.mk false hm F sc__law_lots (F.binds fun _ _ _ _ _ _ us hl => match us, hl with | [_], _ => rfl) (b__law_lots T)
/-! ### _law_closed -/
theorem b__law_closed (T : Txt Y) {f : Addr} (cdv : Value) (A : Around) (outer : List Env) (s : Shared) (H : Hp) (E : XK) (hr : Room 2 (A.deeper (envOfC "_law_closed" (defScope s__law_closed) s.heap.objs.size f cdv))) : SSs (BX Y n__law_closed "_law_closed" (defScope s__law_closed) f cdv A outer s H E) (Wd E) (defBody s__law_closed) m__law_closed := by
  have u64 : (A.deeper (envOfC "_law_closed" (defScope s__law_closed) s.heap.objs.size f cdv)).units + 64 < cLine := hr.units
  have u66 : (A.deeper (envOfC "_law_closed" (defScope s__law_closed) s.heap.objs.size f cdv)).units + 66 < cLine := by have := hr.un; omega
  have u16 : (A.deeper (envOfC "_law_closed" (defScope s__law_closed) s.heap.objs.size f cdv)).units + 16 < cLine := by have := hr.un; omega
  have nd : n__law_closed.Nodup := sc__law_closed.nd
  have tk : Takes (BX Y n__law_closed "_law_closed" (defScope s__law_closed) f cdv A outer s H E) (Wd E) := takes_of rfl rfl rfl rfl
  have po := passes_of (X := BX Y n__law_closed "_law_closed" (defScope s__law_closed) f cdv A outer s H E) rfl
  exact ss_cons (ss_if (sb_cmp (op2_eq u64) (se_call (ok__law_any T) (hr.mono (by decide)) tk (by rfl) (sa_cons (sv 0) (sa_cons (se_int) (sa_nil) (by rfl)) (by rfl))) (se_int) (by rfl)) (ss_one (ss_ret (se_call (ok__law_lots T) (hr.mono (by decide)) tk (by rfl) (sa_cons (sv 1) (sa_nil) (by rfl))))) (ss_nil)) (ss_cons (ss_set (i := 2) nd (by rfl) (by first | exact .inl rfl | exact .inr rfl) (se_known (sn_lst (sa_cons (se_tup (sa_nil)) (sa_nil) (by rfl)))) (by rfl) (by first | exact .inl rfl | exact .inr rfl)) (ss_cons (ss_for po (by rfl) (si_range1 (by rfl) T.n_range (sa_cons (se_call (ok__law_any T) (hr.mono (by decide)) tk (by rfl) (sa_cons (sv 0) (sa_cons (se_int) (sa_nil) (by rfl)) (by rfl))) (sa_nil) (by rfl)) (by rfl)) (sg_name (i := 3) nd (by rfl) (by first | exact .inl rfl | exact .inr rfl) (by first | exact .inl rfl | exact .inr rfl)) (ss_one (ss_set (i := 2) nd (by rfl) (by first | exact .inl rfl | exact .inr rfl) (se_op op2_add (sv 2) (se_call (ok__law_within T) (hr.mono (by decide)) tk (by rfl) (sa_cons (se_call (ok__law_of T) (hr.mono (by decide)) tk (by rfl) (sa_cons (sv 0) (sa_cons (se_call (ok__law_lots T) (hr.mono (by decide)) tk (by rfl) (sa_cons (sv 1) (sa_nil) (by rfl))) (sa_nil) (by rfl)) (by rfl))) (sa_nil) (by rfl)))) (by rfl) (by first | exact .inl rfl | exact .inr rfl))) (fun _ => rfl)) (ss_one (ss_ret (se_known (sn_sortSet (by rfl) u64 (by rfl) T.n_sorted (by rfl) T.n_set (sv 2) (by rfl) (by rfl)))))))
theorem ok__law_closed (T : Txt Y) : FOk Y 3 "_law_closed" 2 f__law_closed := by
  obtain ⟨f, fd, hm, F⟩ := T.d__law_closed
  exact FOk.mk false hm F sc__law_closed (F.binds fun _ _ _ _ _ _ us hl => match us, hl with | [_, _], _ => rfl) (b__law_closed T)
/-! ### _law_every -/
theorem b__law_every (T : Txt Y) {f : Addr} (cdv : Value) (A : Around) (outer : List Env) (s : Shared) (H : Hp) (E : XK) (hr : Room 1 (A.deeper (envOfC "_law_every" (defScope s__law_every) s.heap.objs.size f cdv))) : SSs (BX Y n__law_every "_law_every" (defScope s__law_every) f cdv A outer s H E) (Wd E) (defBody s__law_every) m__law_every := by
  have u64 : (A.deeper (envOfC "_law_every" (defScope s__law_every) s.heap.objs.size f cdv)).units + 64 < cLine := hr.units
  have u66 : (A.deeper (envOfC "_law_every" (defScope s__law_every) s.heap.objs.size f cdv)).units + 66 < cLine := by have := hr.un; omega
  have u16 : (A.deeper (envOfC "_law_every" (defScope s__law_every) s.heap.objs.size f cdv)).units + 16 < cLine := by have := hr.un; omega
  have nd : n__law_every.Nodup := sc__law_every.nd
  have tk : Takes (BX Y n__law_every "_law_every" (defScope s__law_every) f cdv A outer s H E) (Wd E) := takes_of rfl rfl rfl rfl
  have po := passes_of (X := BX Y n__law_every "_law_every" (defScope s__law_every) f cdv A outer s H E) rfl
  exact ss_one (ss_ret (se_known (sn_lc (by rfl) nd (si_val (se_call (ok__law_rows T) (hr.mono (by decide)) tk (by rfl) (sa_cons (se_known (sn_lc (by rfl) nd (si_val (sv 0)) (blkOk_by (own := [("_law_name", 3), ("_law_many", 4)]) (N := n__law_every) (sc := defScope s__law_every) (by decide +kernel)) (by decide) (fun _ _ _ _ _ => sgt_tup (by rfl) (sgts_cons (sgt_var (i := 3) nd (by rfl) (by first | exact .inl rfl | exact .inr rfl) (by first | exact .inl rfl | exact .inr rfl)) (sgts_cons (sgt_var (i := 4) nd (by rfl) (by first | exact .inl rfl | exact .inr rfl) (by first | exact .inl rfl | exact .inr rfl)) (sgts_nil) (by rfl)) (by rfl)) (by rfl) (by rfl)) (fun _ _ _ _ _ => sts_nil) (fun _ _ _ _ _ => se_op op2_add (sv 4) (se_int)) (fun _ => rfl))) (sa_nil) (by rfl)))) (blkOk_by (own := [("_law_row", 1)]) (N := n__law_every) (sc := defScope s__law_every) (by decide +kernel)) (by decide) (fun _ _ _ _ _ => sgt_var (i := 1) nd (by rfl) (by first | exact .inl rfl | exact .inr rfl) (by first | exact .inl rfl | exact .inr rfl)) (fun _ _ _ _ _ => sts_nil) (fun _ _ _ _ _ => se_ty bt_tuple (by rfl) T.n_tuple (by decide +kernel) (sa_cons (se_known (sn_lc (by rfl) nd (si_val (sv 1)) (blkOk_by (own := [("_law_answer", 2)]) (by rfl)) (by decide) (fun _ _ _ _ _ => sgt_var (i := 2) nd (by rfl) (by first | exact .inl rfl | exact .inr rfl) (by first | exact .inl rfl | exact .inr rfl)) (fun _ _ _ _ _ => sts_nil) (fun _ _ _ _ _ => se_op op2_sub (sv 2) (se_int)) (fun _ => rfl))) (sa_nil) (by rfl))) (fun _ => rfl))))
theorem ok__law_every (T : Txt Y) : FOk Y 2 "_law_every" 1 f__law_every := by
  obtain ⟨f, fd, hm, F⟩ := T.d__law_every
  exact FOk.mk false hm F sc__law_every (F.binds fun _ _ _ _ _ _ us hl => match us, hl with | [_], _ => rfl) (b__law_every T)
/-! ### _law_counts -/
theorem b__law_counts (T : Txt Y) {f : Addr} (cdv : Value) (A : Around) (outer : List Env) (s : Shared) (H : Hp) (E : XK) (hr : Room 3 (A.deeper (envOfC "_law_counts" (defScope s__law_counts) s.heap.objs.size f cdv))) : SSs (BX Y n__law_counts "_law_counts" (defScope s__law_counts) f cdv A outer s H E) (Wd E) (defBody s__law_counts) m__law_counts := by
  have u64 : (A.deeper (envOfC "_law_counts" (defScope s__law_counts) s.heap.objs.size f cdv)).units + 64 < cLine := hr.units
  have u66 : (A.deeper (envOfC "_law_counts" (defScope s__law_counts) s.heap.objs.size f cdv)).units + 66 < cLine := by have := hr.un; omega
  have u16 : (A.deeper (envOfC "_law_counts" (defScope s__law_counts) s.heap.objs.size f cdv)).units + 16 < cLine := by have := hr.un; omega
  have nd : n__law_counts.Nodup := sc__law_counts.nd
  have tk : Takes (BX Y n__law_counts "_law_counts" (defScope s__law_counts) f cdv A outer s H E) (Wd E) := takes_of rfl rfl rfl rfl
  have po := passes_of (X := BX Y n__law_counts "_law_counts" (defScope s__law_counts) f cdv A outer s H E) rfl
  exact ss_cons (ss_set (i := 2) nd (by rfl) (by first | exact .inl rfl | exact .inr rfl) (se_call (ok__law_some_truths T) (hr.mono (by decide)) tk (by rfl) (sa_cons (sv 0) (sa_cons (sv 1) (sa_nil) (by rfl)) (by rfl))) (by rfl) (by first | exact .inl rfl | exact .inr rfl)) (ss_cons (ss_set (i := 3) nd (by rfl) (by first | exact .inl rfl | exact .inr rfl) (se_known (sn_bt (bn_sortedA (by rfl) u64) (by rfl) T.n_sorted (by decide +kernel) (sa_cons (se_op op2_add (sv 2) (se_call (ok__law_came T) (hr.mono (by decide)) tk (by rfl) (sa_cons (sv 1) (sa_cons (sv 2) (sa_cons (se_call (ok__law_closed T) (hr.mono (by decide)) tk (by rfl) (sa_cons (sv 0) (sa_cons (sv 1) (sa_nil) (by rfl)) (by rfl))) (sa_nil) (by rfl)) (by rfl)) (by rfl)))) (sa_nil) (by rfl)))) (by rfl) (by first | exact .inl rfl | exact .inr rfl)) (ss_cons (ss_if (sb_cmp (op2_eq u64) (se_call (ok__law_any T) (hr.mono (by decide)) tk (by rfl) (sa_cons (sv 0) (sa_cons (se_int) (sa_nil) (by rfl)) (by rfl))) (se_int) (by rfl)) (ss_one (ss_setLc (i := 3) (by rfl) nd (by rfl) (by rfl) (sw_true rfl rfl rfl (by decide +kernel)) (si_val (se_call (ok__law_every T) (hr.mono (by decide)) tk (by rfl) (sa_cons (sv 1) (sa_nil) (by rfl)))) (blkOk_by (own := [("_law_sheet_here", 4)]) (N := n__law_counts) (sc := defScope s__law_counts) (by decide +kernel)) (by decide) (fun _ _ _ _ _ => sgt_var (i := 4) nd (by rfl) (by first | exact .inl rfl | exact .inr rfl) (by first | exact .inl rfl | exact .inr rfl)) (fun _ _ _ _ _ => sts_one (sb_cmp (op2_eq u64) (se_call (ok__law_any T) (hr.mono (by decide)) takes0 (by rfl) (sa_cons (sv 0) (sa_cons (se_int) (sa_nil) (by rfl)) (by rfl))) (se_int) (by rfl))) (fun _ _ _ _ _ => sv 4) (fun _ => rfl))) (ss_nil)) (ss_one (ss_ret (se_ty bt_tuple (by rfl) T.n_tuple (by decide +kernel) (sa_cons (se_known (sn_lc (by rfl) nd (si_val (sv 3)) (blkOk_by (own := [("_law_sheet_here", 4)]) (N := n__law_counts) (sc := defScope s__law_counts) (by decide +kernel)) (by decide) (fun _ _ _ _ _ => sgt_var (i := 4) nd (by rfl) (by first | exact .inl rfl | exact .inr rfl) (by first | exact .inl rfl | exact .inr rfl)) (fun _ _ _ _ _ => sts_nil) (fun _ _ _ _ _ => se_tup (sa_cons (sv 4) (sa_cons (se_op op2_add (se_int) (se_call (ok__law_any T) (hr.mono (by decide)) takes0 (by rfl) (sa_cons (sv 0) (sa_cons (se_int) (sa_nil) (by rfl)) (by rfl)))) (sa_nil) (by rfl)) (by rfl))) (fun _ => rfl))) (sa_nil) (by rfl)))))))
theorem ok__law_counts (T : Txt Y) : FOk Y 4 "_law_counts" 2 f__law_counts := by
  obtain ⟨f, fd, hm, F⟩ := T.d__law_counts
  exact FOk.mk false hm F sc__law_counts (F.binds fun _ _ _ _ _ _ us hl => match us, hl with | [_, _], _ => rfl) (b__law_counts T)
/-! ### more_blanks -/
theorem b_more_blanks (T : Txt Y) {f : Addr} (cdv : Value) (A : Around) (outer : List Env) (s : Shared) (H : Hp) (E : XK) (hr : Room 0 (A.deeper (envOfC "more_blanks" (defScope s_more_blanks) s.heap.objs.size f cdv))) : SSs (BX Y n_more_blanks "more_blanks" (defScope s_more_blanks) f cdv A outer s H E) (Wd E) (defBody s_more_blanks) m_more_blanks := by
  have u64 : (A.deeper (envOfC "more_blanks" (defScope s_more_blanks) s.heap.objs.size f cdv)).units + 64 < cLine := hr.units
  have u66 : (A.deeper (envOfC "more_blanks" (defScope s_more_blanks) s.heap.objs.size f cdv)).units + 66 < cLine := by have := hr.un; omega
  have u16 : (A.deeper (envOfC "more_blanks" (defScope s_more_blanks) s.heap.objs.size f cdv)).units + 16 < cLine := by have := hr.un; omega
  have nd : n_more_blanks.Nodup := sc_more_blanks.nd
  have tk : Takes (BX Y n_more_blanks "more_blanks" (defScope s_more_blanks) f cdv A outer s H E) (Wd E) := takes_of rfl rfl rfl rfl
  have po := passes_of (X := BX Y n_more_blanks "more_blanks" (defScope s_more_blanks) f cdv A outer s H E) rfl
  exact ss_cons (ss_set (i := 1) nd (by rfl) (by first | exact .inl rfl | exact .inr rfl) (se_known (sn_lst (sa_cons (se_tup (sa_nil)) (sa_nil) (by rfl)))) (by rfl) (by first | exact .inl rfl | exact .inr rfl)) (ss_cons (ss_for po (by rfl) (si_val (sv 0)) (sg_name (i := 2) nd (by rfl) (by first | exact .inl rfl | exact .inr rfl) (by first | exact .inl rfl | exact .inr rfl)) (ss_one (ss_setLc2 (i := 1) (by rfl) nd (by rfl) (by rfl) (sw_true rfl rfl rfl (by decide +kernel)) (si_val (sv 1)) (blkOk_by (own := [("row", 3), ("one", 4)]) (N := n_more_blanks) (sc := defScope s_more_blanks) (by decide +kernel)) (vs1 := [4]) (by decide) (by decide) (by decide) (fun _ _ _ _ _ => sgt_var (i := 3) nd (by rfl) (by first | exact .inl rfl | exact .inr rfl) (by first | exact .inl rfl | exact .inr rfl)) (fun _ _ _ _ _ => sts_nil) (fun _ _ _ _ _ => si_val (se_ite (sb_cmp (op2_eq u64) (sv 2) (se_glob T.g_BLANK (by rfl)) (by rfl)) (se_tup (sa_cons (se_glob T.g_BLANK (by rfl)) (sa_nil) (by rfl))) (se_tup (sa_cons (se_glob T.g_BLANK (by rfl)) (sa_cons (sv 2) (sa_nil) (by rfl)) (by rfl))))) (fun _ _ _ _ _ => sgt_var (i := 4) nd (by rfl) (by first | exact .inl rfl | exact .inr rfl) (by first | exact .inl rfl | exact .inr rfl)) (fun _ _ _ _ _ => sts_nil) (fun _ _ _ _ _ => se_op op2_add (sv 3) (se_tup (sa_cons (sv 4) (sa_nil) (by rfl)))) (fun _ => rfl) (fun _ _ => rfl))) (fun _ => rfl)) (ss_one (ss_ret (se_ty bt_tuple (by rfl) T.n_tuple (by decide +kernel) (sa_cons (sv 1) (sa_nil) (by rfl))))))
theorem ok_more_blanks (T : Txt Y) : FOk Y 1 "more_blanks" 1 f_more_blanks := by
  obtain ⟨f, fd, hm, F⟩ := T.d_more_blanks
  exact FOk.mk false hm F sc_more_blanks (F.binds fun _ _ _ _ _ _ us hl => match us, hl with | [_], _ => rfl) (b_more_blanks T)
theorem kw0_more_blanks (T : Txt Y) : KwF Y 1 "more_blanks" 0 ["sheet"] [0] 1 f_more_blanks := by
  obtain ⟨f, fd, hm, F⟩ := T.d_more_blanks
  have D := FnD.mk' (Y := Y) false F sc_more_blanks (F.binds fun _ _ _ _ _ _ us hl => match us, hl with | [_], _ => rfl) (b_more_blanks T)
  obtain ⟨oc, od, kV, doc, pm, an, cdv, ct, osl, rfl, lk, hcd⟩ := F.ex
  exact ⟨f, _, _, hm, D.kp, rfl, fun s us ws _ h1 h2 => .of_eq (match us, ws, h1, h2 with | [], [_], _, _ => rfl), D.ok⟩
/-! ### by_blanks -/
theorem b_by_blanks (T : Txt Y) {f : Addr} (cdv : Value) (A : Around) (outer : List Env) (s : Shared) (H : Hp) (E : XK) (ct : CodeT (BX Y n_by_blanks "by_blanks" (defScope s_by_blanks) f cdv A outer s H E)) (hr : Room 3 (A.deeper (envOfC "by_blanks" (defScope s_by_blanks) s.heap.objs.size f cdv))) : SSs (BX Y n_by_blanks "by_blanks" (defScope s_by_blanks) f cdv A outer s H E) (Wd E) (defBody s_by_blanks) m_by_blanks := by
  have u64 : (A.deeper (envOfC "by_blanks" (defScope s_by_blanks) s.heap.objs.size f cdv)).units + 64 < cLine := hr.units
  have u66 : (A.deeper (envOfC "by_blanks" (defScope s_by_blanks) s.heap.objs.size f cdv)).units + 66 < cLine := by have := hr.un; omega
  have u16 : (A.deeper (envOfC "by_blanks" (defScope s_by_blanks) s.heap.objs.size f cdv)).units + 16 < cLine := by have := hr.un; omega
  have nd : n_by_blanks.Nodup := sc_by_blanks.nd
  have tk : Takes (BX Y n_by_blanks "by_blanks" (defScope s_by_blanks) f cdv A outer s H E) (Wd E) := takes_of rfl rfl rfl rfl
  have po := passes_of (X := BX Y n_by_blanks "by_blanks" (defScope s_by_blanks) f cdv A outer s H E) rfl
  have hr3 := hr.mono (show 3 ≤ 3 by decide)
  exact ss_one (ss_ret (se_known (sn_byKeyG (x := "sheet") (by rfl) hr3 (by rfl) T.n_sorted (sv 0) ⟨⟨_, _, _, _, _, _, _, rfl, by rfl⟩, by rfl, by rfl, by rfl, by decide, by rfl, by rfl, by decide, by decide, by decide, fun _ _ _ _ _ => rfl⟩ T.g_BLANK ct (by rfl) (by rfl) (by rfl))))
theorem ok_by_blanks (T : Txt Y) : FOk Y 4 "by_blanks" 1 f_by_blanks := by
  obtain ⟨f, fd, hm, F⟩ := T.d_by_blanks
  exact FOk.mkC false hm F sc_by_blanks (F.binds fun _ _ _ _ _ _ us hl => match us, hl with | [_], _ => rfl) fun cdv A outer s H E e lk => b_by_blanks T cdv A outer s H E (codeT T.lam hm e lk)
/-! ### listed -/
theorem b_listed (T : Txt Y) {f : Addr} (cdv : Value) (A : Around) (outer : List Env) (s : Shared) (H : Hp) (E : XK) (hr : Room 0 (A.deeper (envOfC "listed" (defScope s_listed) s.heap.objs.size f cdv))) : SSs (BX Y n_listed "listed" (defScope s_listed) f cdv A outer s H E) (Wd E) (defBody s_listed) m_listed := by
  have u64 : (A.deeper (envOfC "listed" (defScope s_listed) s.heap.objs.size f cdv)).units + 64 < cLine := hr.units
  have u66 : (A.deeper (envOfC "listed" (defScope s_listed) s.heap.objs.size f cdv)).units + 66 < cLine := by have := hr.un; omega
  have u16 : (A.deeper (envOfC "listed" (defScope s_listed) s.heap.objs.size f cdv)).units + 16 < cLine := by have := hr.un; omega
  have nd : n_listed.Nodup := sc_listed.nd
  have tk : Takes (BX Y n_listed "listed" (defScope s_listed) f cdv A outer s H E) (Wd E) := takes_of rfl rfl rfl rfl
  have po := passes_of (X := BX Y n_listed "listed" (defScope s_listed) f cdv A outer s H E) rfl
  exact ss_one (ss_ret (se_ty bt_tuple (by rfl) T.n_tuple (by decide +kernel) (sa_cons (se_known (sn_lc (by rfl) nd (si_val (se_known (sn_bt (bn_sortedA (by rfl) u64) (by rfl) T.n_sorted (by decide +kernel) (sa_cons (sv 0) (sa_nil) (by rfl))))) (blkOk_by (own := [("sheet", 1)]) (N := n_listed) (sc := defScope s_listed) (by decide +kernel)) (by decide) (fun _ _ _ _ _ => sgt_var (i := 1) nd (by rfl) (by first | exact .inl rfl | exact .inr rfl) (by first | exact .inl rfl | exact .inr rfl)) (fun _ _ _ _ _ => sts_one (sb_w (sw_and (sb_cmp (op2_inA u66) (se_glob T.g_BLANK (by rfl)) (sv 1) (by rfl)) (sw_one_and (sb_cmp (op2_ne u64) (se_ix u16 (sv 0) (sv 1) (fun _ _ => rfl)) (se_glob T.g_ZERO (by rfl)) (by rfl)))))) (fun _ _ _ _ _ => se_tup (sa_cons (sv 1) (sa_cons (se_ix u16 (sv 0) (sv 1) (fun _ _ => rfl)) (sa_nil) (by rfl)) (by rfl))) (fun _ => rfl))) (sa_nil) (by rfl))))
theorem ok_listed (T : Txt Y) : FOk Y 1 "listed" 1 f_listed := by
  obtain ⟨f, fd, hm, F⟩ := T.d_listed
  exact FOk.mk false hm F sc_listed (F.binds fun _ _ _ _ _ _ us hl => match us, hl with | [_], _ => rfl) (b_listed T)
/-! ### _rows -/
theorem b__rows (T : Txt Y) {f : Addr} (cdv : Value) (A : Around) (outer : List Env) (s : Shared) (H : Hp) (E : XK) (hr : Room 0 (A.deeper (envOfC "_rows" (defScope s__rows) s.heap.objs.size f cdv))) : SSs (BX Y n__rows "_rows" (defScope s__rows) f cdv A outer s H E) (Wd E) (defBody s__rows) m__rows := by
  have u64 : (A.deeper (envOfC "_rows" (defScope s__rows) s.heap.objs.size f cdv)).units + 64 < cLine := hr.units
  have u66 : (A.deeper (envOfC "_rows" (defScope s__rows) s.heap.objs.size f cdv)).units + 66 < cLine := by have := hr.un; omega
  have u16 : (A.deeper (envOfC "_rows" (defScope s__rows) s.heap.objs.size f cdv)).units + 16 < cLine := by have := hr.un; omega
  have nd : n__rows.Nodup := sc__rows.nd
  have tk : Takes (BX Y n__rows "_rows" (defScope s__rows) f cdv A outer s H E) (Wd E) := takes_of rfl rfl rfl rfl
  have po := passes_of (X := BX Y n__rows "_rows" (defScope s__rows) f cdv A outer s H E) rfl
  exact ss_cons (ss_set (i := 2) nd (by rfl) (by first | exact .inl rfl | exact .inr rfl) (se_known (sn_lst (sa_cons (se_tup (sa_nil)) (sa_nil) (by rfl)))) (by rfl) (by first | exact .inl rfl | exact .inr rfl)) (ss_cons (ss_for po (by rfl) (si_val (se_fld ["Form"] "questions" (sv 0) T.f_questions (by rfl))) (sg_name (i := 3) nd (by rfl) (by first | exact .inl rfl | exact .inr rfl) (by first | exact .inl rfl | exact .inr rfl)) (ss_one (ss_setLc2 (i := 2) (by rfl) nd (by rfl) (by rfl) (sw_true rfl rfl rfl (by decide +kernel)) (si_val (sv 2)) (blkOk_by (own := [("row", 4), ("answer", 5)]) (N := n__rows) (sc := defScope s__rows) (by decide +kernel)) (vs1 := [5]) (by decide) (by decide) (by decide) (fun _ _ _ _ _ => sgt_var (i := 4) nd (by rfl) (by first | exact .inl rfl | exact .inr rfl) (by first | exact .inl rfl | exact .inr rfl)) (fun _ _ _ _ _ => sts_nil) (fun _ _ _ _ _ => si_range2 (by rfl) T.n_range (sa_cons (sv 1) (sa_cons (se_ix u16 (sv 3) (se_int) (fun _ _ => rfl)) (sa_nil) (by rfl)) (by rfl)) (by rfl) (by rfl)) (fun _ _ _ _ _ => sgt_var (i := 5) nd (by rfl) (by first | exact .inl rfl | exact .inr rfl) (by first | exact .inl rfl | exact .inr rfl)) (fun _ _ _ _ _ => sts_nil) (fun _ _ _ _ _ => se_op op2_add (sv 4) (se_tup (sa_cons (sv 5) (sa_nil) (by rfl)))) (fun _ => rfl) (fun _ _ => rfl))) (fun _ => rfl)) (ss_one (ss_ret (se_ty bt_tuple (by rfl) T.n_tuple (by decide +kernel) (sa_cons (sv 2) (sa_nil) (by rfl))))))
theorem ok__rows (T : Txt Y) : FOk Y 1 "_rows" 2 f__rows := by
  obtain ⟨f, fd, hm, F⟩ := T.d__rows
  exact FOk.mk false hm F sc__rows (F.binds fun _ _ _ _ _ _ us hl => match us, hl with | [_, _], _ => rfl) (b__rows T)
/-! ### all_sheets -/
theorem b_all_sheets (T : Txt Y) {f : Addr} (cdv : Value) (A : Around) (outer : List Env) (s : Shared) (H : Hp) (E : XK) (hr : Room 1 (A.deeper (envOfC "all_sheets" (defScope s_all_sheets) s.heap.objs.size f cdv))) : SSs (BX Y n_all_sheets "all_sheets" (defScope s_all_sheets) f cdv A outer s H E) (Wd E) (defBody s_all_sheets) m_all_sheets := by
  have u64 : (A.deeper (envOfC "all_sheets" (defScope s_all_sheets) s.heap.objs.size f cdv)).units + 64 < cLine := hr.units
  have u66 : (A.deeper (envOfC "all_sheets" (defScope s_all_sheets) s.heap.objs.size f cdv)).units + 66 < cLine := by have := hr.un; omega
  have u16 : (A.deeper (envOfC "all_sheets" (defScope s_all_sheets) s.heap.objs.size f cdv)).units + 16 < cLine := by have := hr.un; omega
  have nd : n_all_sheets.Nodup := sc_all_sheets.nd
  have tk : Takes (BX Y n_all_sheets "all_sheets" (defScope s_all_sheets) f cdv A outer s H E) (Wd E) := takes_of rfl rfl rfl rfl
  have po := passes_of (X := BX Y n_all_sheets "all_sheets" (defScope s_all_sheets) f cdv A outer s H E) rfl
  exact ss_one (ss_ret (se_call (ok__rows T) (hr.mono (by decide)) tk (by rfl) (sa_cons (sv 0) (sa_cons (se_neg (se_int)) (sa_nil) (by rfl)) (by rfl))))
theorem ok_all_sheets (T : Txt Y) : FOk Y 2 "all_sheets" 1 f_all_sheets := by
  obtain ⟨f, fd, hm, F⟩ := T.d_all_sheets
  exact FOk.mk false hm F sc_all_sheets (F.binds fun _ _ _ _ _ _ us hl => match us, hl with | [_], _ => rfl) (b_all_sheets T)
/-! ### truths_behind -/
theorem b_truths_behind (T : Txt Y) {f : Addr} (cdv : Value) (A : Around) (outer : List Env) (s : Shared) (H : Hp) (E : XK) (hr : Room 0 (A.deeper (envOfC "truths_behind" (defScope s_truths_behind) s.heap.objs.size f cdv))) : SSs (BX Y n_truths_behind "truths_behind" (defScope s_truths_behind) f cdv A outer s H E) (Wd E) (defBody s_truths_behind) m_truths_behind := by
  have u64 : (A.deeper (envOfC "truths_behind" (defScope s_truths_behind) s.heap.objs.size f cdv)).units + 64 < cLine := hr.units
  have u66 : (A.deeper (envOfC "truths_behind" (defScope s_truths_behind) s.heap.objs.size f cdv)).units + 66 < cLine := by have := hr.un; omega
  have u16 : (A.deeper (envOfC "truths_behind" (defScope s_truths_behind) s.heap.objs.size f cdv)).units + 16 < cLine := by have := hr.un; omega
  have nd : n_truths_behind.Nodup := sc_truths_behind.nd
  have tk : Takes (BX Y n_truths_behind "truths_behind" (defScope s_truths_behind) f cdv A outer s H E) (Wd E) := takes_of rfl rfl rfl rfl
  have po := passes_of (X := BX Y n_truths_behind "truths_behind" (defScope s_truths_behind) f cdv A outer s H E) rfl
  exact ss_cons (ss_set (i := 2) nd (by rfl) (by first | exact .inl rfl | exact .inr rfl) (se_known (sn_lst (sa_cons (se_tup (sa_nil)) (sa_nil) (by rfl)))) (by rfl) (by first | exact .inl rfl | exact .inr rfl)) (ss_cons (ss_for po (by rfl) (si_zip (by rfl) T.n_zip (sa_cons (se_fld ["Form"] "questions" (sv 0) T.f_questions (by rfl)) (sa_cons (sv 1) (sa_nil) (by rfl)) (by rfl)) (by rfl) (by rfl)) (sg_tup (by rfl) (sgs_cons (sg_name (i := 3) nd (by rfl) (by first | exact .inl rfl | exact .inr rfl) (by first | exact .inl rfl | exact .inr rfl)) (sgs_cons (sg_name (i := 4) nd (by rfl) (by first | exact .inl rfl | exact .inr rfl) (by first | exact .inl rfl | exact .inr rfl)) (sgs_nil) (by rfl)) (by rfl)) (by rfl) (by rfl)) (ss_cons (ss_set (i := 5) nd (by rfl) (by first | exact .inl rfl | exact .inr rfl) (se_ite (sb_cmp (op2_eq u64) (sv 4) (se_neg (se_int)) (by rfl)) (se_known (sn_listRg (by rfl) (by rfl) T.n_list (sr_1 (by rfl) T.n_range (se_ix u16 (sv 3) (se_int) (fun _ _ => rfl)) (by rfl)) (by rfl))) (se_known (sn_lst (sa_cons (sv 4) (sa_nil) (by rfl))))) (by rfl) (by first | exact .inl rfl | exact .inr rfl)) (ss_one (ss_setLc2 (i := 2) (by rfl) nd (by rfl) (by rfl) (sw_true rfl rfl rfl (by decide +kernel)) (si_val (sv 2)) (blkOk_by (own := [("row", 6), ("one", 7)]) (N := n_truths_behind) (sc := defScope s_truths_behind) (by decide +kernel)) (vs1 := [7]) (by decide) (by decide) (by decide) (fun _ _ _ _ _ => sgt_var (i := 6) nd (by rfl) (by first | exact .inl rfl | exact .inr rfl) (by first | exact .inl rfl | exact .inr rfl)) (fun _ _ _ _ _ => sts_nil) (fun _ _ _ _ _ => si_val (sv 5)) (fun _ _ _ _ _ => sgt_var (i := 7) nd (by rfl) (by first | exact .inl rfl | exact .inr rfl) (by first | exact .inl rfl | exact .inr rfl)) (fun _ _ _ _ _ => sts_nil) (fun _ _ _ _ _ => se_op op2_add (sv 6) (se_tup (sa_cons (sv 7) (sa_nil) (by rfl)))) (fun _ => rfl) (fun _ _ => rfl)))) (fun _ => rfl)) (ss_one (ss_ret (se_ty bt_tuple (by rfl) T.n_tuple (by decide +kernel) (sa_cons (sv 2) (sa_nil) (by rfl))))))
theorem ok_truths_behind (T : Txt Y) : FOk Y 1 "truths_behind" 2 f_truths_behind := by
  obtain ⟨f, fd, hm, F⟩ := T.d_truths_behind
  exact FOk.mk false hm F sc_truths_behind (F.binds fun _ _ _ _ _ _ us hl => match us, hl with | [_, _], _ => rfl) (b_truths_behind T)
/-! ### fraction -/
theorem b_fraction (T : Txt Y) {f : Addr} (cdv : Value) (A : Around) (outer : List Env) (s : Shared) (H : Hp) (E : XK) (hr : Room 0 (A.deeper (envOfC "fraction" (defScope s_fraction) s.heap.objs.size f cdv))) : SSs (BX Y n_fraction "fraction" (defScope s_fraction) f cdv A outer s H E) (Wd E) (defBody s_fraction) m_fraction := by
  have u64 : (A.deeper (envOfC "fraction" (defScope s_fraction) s.heap.objs.size f cdv)).units + 64 < cLine := hr.units
  have u66 : (A.deeper (envOfC "fraction" (defScope s_fraction) s.heap.objs.size f cdv)).units + 66 < cLine := by have := hr.un; omega
  have u16 : (A.deeper (envOfC "fraction" (defScope s_fraction) s.heap.objs.size f cdv)).units + 16 < cLine := by have := hr.un; omega
  have nd : n_fraction.Nodup := sc_fraction.nd
  have tk : Takes (BX Y n_fraction "fraction" (defScope s_fraction) f cdv A outer s H E) (Wd E) := takes_of rfl rfl rfl rfl
  have po := passes_of (X := BX Y n_fraction "fraction" (defScope s_fraction) f cdv A outer s H E) rfl
  exact ss_cons (ss_if (sb_cmp (op2_eq u64) (sv 1) (se_int) (by rfl)) (ss_one (ss_no)) (ss_nil)) (ss_cons (ss_if (sb_cmp (op2_lt u64) (sv 1) (se_int) (by rfl)) (ss_one (ss_par (i := 0) (j := 1) (by rfl) nd (by rfl) (by rfl) (by decide) (by rfl) (by rfl) (sa_cons (se_neg (sv 0)) (sa_cons (se_neg (sv 1)) sa_nil (by rfl)) (by rfl)) (by rfl) (by rfl))) (ss_nil)) (ss_cons (ss_set (i := 2) nd (by rfl) (by first | exact .inl rfl | exact .inr rfl) (se_imp bt_gcd (by rfl) T.i_gcd (sa_cons (sv 0) (sa_cons (sv 1) (sa_nil) (by rfl)) (by rfl))) (by rfl) (by first | exact .inl rfl | exact .inr rfl)) (ss_one (ss_ret (se_tup (sa_cons (se_op op2_fdiv (sv 0) (sv 2)) (sa_cons (se_op op2_fdiv (sv 1) (sv 2)) (sa_nil) (by rfl)) (by rfl)))))))
theorem ok_fraction (T : Txt Y) : FOk Y 1 "fraction" 2 f_fraction := by
  obtain ⟨f, fd, hm, F⟩ := T.d_fraction
  exact FOk.mk false hm F sc_fraction (F.binds fun _ _ _ _ _ _ us hl => match us, hl with | [_, _], _ => rfl) (b_fraction T)
/-! ### plus -/
theorem b_plus (T : Txt Y) {f : Addr} (cdv : Value) (A : Around) (outer : List Env) (s : Shared) (H : Hp) (E : XK) (hr : Room 1 (A.deeper (envOfC "plus" (defScope s_plus) s.heap.objs.size f cdv))) : SSs (BX Y n_plus "plus" (defScope s_plus) f cdv A outer s H E) (Wd E) (defBody s_plus) m_plus := by
  have u64 : (A.deeper (envOfC "plus" (defScope s_plus) s.heap.objs.size f cdv)).units + 64 < cLine := hr.units
  have u66 : (A.deeper (envOfC "plus" (defScope s_plus) s.heap.objs.size f cdv)).units + 66 < cLine := by have := hr.un; omega
  have u16 : (A.deeper (envOfC "plus" (defScope s_plus) s.heap.objs.size f cdv)).units + 16 < cLine := by have := hr.un; omega
  have nd : n_plus.Nodup := sc_plus.nd
  have tk : Takes (BX Y n_plus "plus" (defScope s_plus) f cdv A outer s H E) (Wd E) := takes_of rfl rfl rfl rfl
  have po := passes_of (X := BX Y n_plus "plus" (defScope s_plus) f cdv A outer s H E) rfl
  exact ss_one (ss_ret (se_call (ok_fraction T) (hr.mono (by decide)) tk (by rfl) (sa_cons (se_op op2_add (se_op op2_mul (se_ix u16 (sv 0) (se_int) (fun _ _ => rfl)) (se_ix u16 (sv 1) (se_int) (fun _ _ => rfl))) (se_op op2_mul (se_ix u16 (sv 1) (se_int) (fun _ _ => rfl)) (se_ix u16 (sv 0) (se_int) (fun _ _ => rfl)))) (sa_cons (se_op op2_mul (se_ix u16 (sv 0) (se_int) (fun _ _ => rfl)) (se_ix u16 (sv 1) (se_int) (fun _ _ => rfl))) (sa_nil) (by rfl)) (by rfl))))
theorem ok_plus (T : Txt Y) : FOk Y 2 "plus" 2 f_plus := by
  obtain ⟨f, fd, hm, F⟩ := T.d_plus
  exact FOk.mk false hm F sc_plus (F.binds fun _ _ _ _ _ _ us hl => match us, hl with | [_, _], _ => rfl) (b_plus T)
/-! ### total_of -/
theorem b_total_of (T : Txt Y) {f : Addr} (cdv : Value) (A : Around) (outer : List Env) (s : Shared) (H : Hp) (E : XK) (hr : Room 2 (A.deeper (envOfC "total_of" (defScope s_total_of) s.heap.objs.size f cdv))) : SSs (BX Y n_total_of "total_of" (defScope s_total_of) f cdv A outer s H E) (Wd E) (defBody s_total_of) m_total_of := by
  have u64 : (A.deeper (envOfC "total_of" (defScope s_total_of) s.heap.objs.size f cdv)).units + 64 < cLine := hr.units
  have u66 : (A.deeper (envOfC "total_of" (defScope s_total_of) s.heap.objs.size f cdv)).units + 66 < cLine := by have := hr.un; omega
  have u16 : (A.deeper (envOfC "total_of" (defScope s_total_of) s.heap.objs.size f cdv)).units + 16 < cLine := by have := hr.un; omega
  have nd : n_total_of.Nodup := sc_total_of.nd
  have tk : Takes (BX Y n_total_of "total_of" (defScope s_total_of) f cdv A outer s H E) (Wd E) := takes_of rfl rfl rfl rfl
  have po := passes_of (X := BX Y n_total_of "total_of" (defScope s_total_of) f cdv A outer s H E) rfl
  exact ss_cons (ss_set (i := 1) nd (by rfl) (by first | exact .inl rfl | exact .inr rfl) (se_glob T.g_ZERO (by rfl)) (by rfl) (by first | exact .inl rfl | exact .inr rfl)) (ss_cons (ss_for po (by rfl) (si_val (sv 0)) (sg_name (i := 2) nd (by rfl) (by first | exact .inl rfl | exact .inr rfl) (by first | exact .inl rfl | exact .inr rfl)) (ss_one (ss_set (i := 1) nd (by rfl) (by first | exact .inl rfl | exact .inr rfl) (se_call (ok_plus T) (hr.mono (by decide)) tk (by rfl) (sa_cons (sv 1) (sa_cons (sv 2) (sa_nil) (by rfl)) (by rfl))) (by rfl) (by first | exact .inl rfl | exact .inr rfl))) (fun _ => rfl)) (ss_one (ss_ret (sv 1))))
theorem ok_total_of (T : Txt Y) : FOk Y 3 "total_of" 1 f_total_of := by
  obtain ⟨f, fd, hm, F⟩ := T.d_total_of
  exact FOk.mk false hm F sc_total_of (F.binds fun _ _ _ _ _ _ us hl => match us, hl with | [_], _ => rfl) (b_total_of T)
/-! ### lot_of -/
theorem b_lot_of (T : Txt Y) {f : Addr} (cdv : Value) (A : Around) (outer : List Env) (s : Shared) (H : Hp) (E : XK) (hr : Room 0 (A.deeper (envOfC "lot_of" (defScope s_lot_of) s.heap.objs.size f cdv))) : SSs (BX Y n_lot_of "lot_of" (defScope s_lot_of) f cdv A outer s H E) (Wd E) (defBody s_lot_of) m_lot_of := by
  have u64 : (A.deeper (envOfC "lot_of" (defScope s_lot_of) s.heap.objs.size f cdv)).units + 64 < cLine := hr.units
  have u66 : (A.deeper (envOfC "lot_of" (defScope s_lot_of) s.heap.objs.size f cdv)).units + 66 < cLine := by have := hr.un; omega
  have u16 : (A.deeper (envOfC "lot_of" (defScope s_lot_of) s.heap.objs.size f cdv)).units + 16 < cLine := by have := hr.un; omega
  have nd : n_lot_of.Nodup := sc_lot_of.nd
  have tk : Takes (BX Y n_lot_of "lot_of" (defScope s_lot_of) f cdv A outer s H E) (Wd E) := takes_of rfl rfl rfl rfl
  have po := passes_of (X := BX Y n_lot_of "lot_of" (defScope s_lot_of) f cdv A outer s H E) rfl
  exact ss_one (ss_ret (se_ty bt_tuple (by rfl) T.n_tuple (by decide +kernel) (sa_cons (se_known (sn_lc (by rfl) nd (si_zip (by rfl) T.n_zip (sa_cons (se_fld ["Form"] "questions" (sv 0) T.f_questions (by rfl)) (sa_cons (sv 1) (sa_nil) (by rfl)) (by rfl)) (by rfl) (by rfl)) (blkOk_by (own := [("pair", 2), ("answer", 3)]) (N := n_lot_of) (sc := defScope s_lot_of) (by decide +kernel)) (by decide) (fun _ _ _ _ _ => sgt_tup (by rfl) (sgts_cons (sgt_var (i := 2) nd (by rfl) (by first | exact .inl rfl | exact .inr rfl) (by first | exact .inl rfl | exact .inr rfl)) (sgts_cons (sgt_var (i := 3) nd (by rfl) (by first | exact .inl rfl | exact .inr rfl) (by first | exact .inl rfl | exact .inr rfl)) (sgts_nil) (by rfl)) (by rfl)) (by rfl) (by rfl)) (fun _ _ _ _ _ => sts_one (sb_cmp (op2_eq u64) (sv 3) (se_neg (se_int)) (by rfl))) (fun _ _ _ _ _ => se_ix u16 (sv 2) (se_int) (fun _ _ => rfl)) (fun _ => rfl))) (sa_nil) (by rfl))))
theorem ok_lot_of (T : Txt Y) : FOk Y 1 "lot_of" 2 f_lot_of := by
  obtain ⟨f, fd, hm, F⟩ := T.d_lot_of
  exact FOk.mk false hm F sc_lot_of (F.binds fun _ _ _ _ _ _ us hl => match us, hl with | [_, _], _ => rfl) (b_lot_of T)
/-! ### over -/
theorem b_over (T : Txt Y) {f : Addr} (cdv : Value) (A : Around) (outer : List Env) (s : Shared) (H : Hp) (E : XK) (hr : Room 1 (A.deeper (envOfC "over" (defScope s_over) s.heap.objs.size f cdv))) : SSs (BX Y n_over "over" (defScope s_over) f cdv A outer s H E) (Wd E) (defBody s_over) m_over := by
  have u64 : (A.deeper (envOfC "over" (defScope s_over) s.heap.objs.size f cdv)).units + 64 < cLine := hr.units
  have u66 : (A.deeper (envOfC "over" (defScope s_over) s.heap.objs.size f cdv)).units + 66 < cLine := by have := hr.un; omega
  have u16 : (A.deeper (envOfC "over" (defScope s_over) s.heap.objs.size f cdv)).units + 16 < cLine := by have := hr.un; omega
  have nd : n_over.Nodup := sc_over.nd
  have tk : Takes (BX Y n_over "over" (defScope s_over) f cdv A outer s H E) (Wd E) := takes_of rfl rfl rfl rfl
  have po := passes_of (X := BX Y n_over "over" (defScope s_over) f cdv A outer s H E) rfl
  exact ss_one (ss_ret (se_call (ok_fraction T) (hr.mono (by decide)) tk (by rfl) (sa_cons (se_op op2_mul (se_ix u16 (sv 0) (se_int) (fun _ _ => rfl)) (se_ix u16 (sv 1) (se_int) (fun _ _ => rfl))) (sa_cons (se_op op2_mul (se_ix u16 (sv 0) (se_int) (fun _ _ => rfl)) (se_ix u16 (sv 1) (se_int) (fun _ _ => rfl))) (sa_nil) (by rfl)) (by rfl))))
theorem ok_over (T : Txt Y) : FOk Y 2 "over" 2 f_over := by
  obtain ⟨f, fd, hm, F⟩ := T.d_over
  exact FOk.mk false hm F sc_over (F.binds fun _ _ _ _ _ _ us hl => match us, hl with | [_, _], _ => rfl) (b_over T)
/-! ### whole -/
theorem b_whole (T : Txt Y) {f : Addr} (cdv : Value) (A : Around) (outer : List Env) (s : Shared) (H : Hp) (E : XK) (hr : Room 0 (A.deeper (envOfC "whole" (defScope s_whole) s.heap.objs.size f cdv))) : SSs (BX Y n_whole "whole" (defScope s_whole) f cdv A outer s H E) (Wd E) (defBody s_whole) m_whole := by
  have u64 : (A.deeper (envOfC "whole" (defScope s_whole) s.heap.objs.size f cdv)).units + 64 < cLine := hr.units
  have u66 : (A.deeper (envOfC "whole" (defScope s_whole) s.heap.objs.size f cdv)).units + 66 < cLine := by have := hr.un; omega
  have u16 : (A.deeper (envOfC "whole" (defScope s_whole) s.heap.objs.size f cdv)).units + 16 < cLine := by have := hr.un; omega
  have nd : n_whole.Nodup := sc_whole.nd
  have tk : Takes (BX Y n_whole "whole" (defScope s_whole) f cdv A outer s H E) (Wd E) := takes_of rfl rfl rfl rfl
  have po := passes_of (X := BX Y n_whole "whole" (defScope s_whole) f cdv A outer s H E) rfl
  exact ss_one (ss_ret (se_tup (sa_cons (sv 0) (sa_cons (se_int) (sa_nil) (by rfl)) (by rfl))))
theorem ok_whole (T : Txt Y) : FOk Y 1 "whole" 1 f_whole := by
  obtain ⟨f, fd, hm, F⟩ := T.d_whole
  exact FOk.mk false hm F sc_whole (F.binds fun _ _ _ _ _ _ us hl => match us, hl with | [_], _ => rfl) (b_whole T)
/-! ### times -/
theorem b_times (T : Txt Y) {f : Addr} (cdv : Value) (A : Around) (outer : List Env) (s : Shared) (H : Hp) (E : XK) (hr : Room 1 (A.deeper (envOfC "times" (defScope s_times) s.heap.objs.size f cdv))) : SSs (BX Y n_times "times" (defScope s_times) f cdv A outer s H E) (Wd E) (defBody s_times) m_times := by
  have u64 : (A.deeper (envOfC "times" (defScope s_times) s.heap.objs.size f cdv)).units + 64 < cLine := hr.units
  have u66 : (A.deeper (envOfC "times" (defScope s_times) s.heap.objs.size f cdv)).units + 66 < cLine := by have := hr.un; omega
  have u16 : (A.deeper (envOfC "times" (defScope s_times) s.heap.objs.size f cdv)).units + 16 < cLine := by have := hr.un; omega
  have nd : n_times.Nodup := sc_times.nd
  have tk : Takes (BX Y n_times "times" (defScope s_times) f cdv A outer s H E) (Wd E) := takes_of rfl rfl rfl rfl
  have po := passes_of (X := BX Y n_times "times" (defScope s_times) f cdv A outer s H E) rfl
  exact ss_one (ss_ret (se_call (ok_fraction T) (hr.mono (by decide)) tk (by rfl) (sa_cons (se_op op2_mul (se_ix u16 (sv 0) (se_int) (fun _ _ => rfl)) (se_ix u16 (sv 1) (se_int) (fun _ _ => rfl))) (sa_cons (se_op op2_mul (se_ix u16 (sv 0) (se_int) (fun _ _ => rfl)) (se_ix u16 (sv 1) (se_int) (fun _ _ => rfl))) (sa_nil) (by rfl)) (by rfl))))
theorem ok_times (T : Txt Y) : FOk Y 2 "times" 2 f_times := by
  obtain ⟨f, fd, hm, F⟩ := T.d_times
  exact FOk.mk false hm F sc_times (F.binds fun _ _ _ _ _ _ us hl => match us, hl with | [_, _], _ => rfl) (b_times T)
/-! ### sheet_of -/
theorem b_sheet_of (T : Txt Y) {f : Addr} (cdv : Value) (A : Around) (outer : List Env) (s : Shared) (H : Hp) (E : XK) (hr : Room 0 (A.deeper (envOfC "sheet_of" (defScope s_sheet_of) s.heap.objs.size f cdv))) : SSs (BX Y n_sheet_of "sheet_of" (defScope s_sheet_of) f cdv A outer s H E) (Wd E) (defBody s_sheet_of) m_sheet_of := by
  have u64 : (A.deeper (envOfC "sheet_of" (defScope s_sheet_of) s.heap.objs.size f cdv)).units + 64 < cLine := hr.units
  have u66 : (A.deeper (envOfC "sheet_of" (defScope s_sheet_of) s.heap.objs.size f cdv)).units + 66 < cLine := by have := hr.un; omega
  have u16 : (A.deeper (envOfC "sheet_of" (defScope s_sheet_of) s.heap.objs.size f cdv)).units + 16 < cLine := by have := hr.un; omega
  have nd : n_sheet_of.Nodup := sc_sheet_of.nd
  have tk : Takes (BX Y n_sheet_of "sheet_of" (defScope s_sheet_of) f cdv A outer s H E) (Wd E) := takes_of rfl rfl rfl rfl
  have po := passes_of (X := BX Y n_sheet_of "sheet_of" (defScope s_sheet_of) f cdv A outer s H E) rfl
  exact ss_one (ss_ret (se_ty bt_tuple (by rfl) T.n_tuple (by decide +kernel) (sa_cons (se_known (sn_lc (by rfl) nd (si_zip (by rfl) T.n_zip (sa_cons (se_fld ["Form"] "questions" (sv 0) T.f_questions (by rfl)) (sa_cons (sv 2) (sa_nil) (by rfl)) (by rfl)) (by rfl) (by rfl)) (blkOk_by (own := [("pair", 3), ("answer", 4)]) (N := n_sheet_of) (sc := defScope s_sheet_of) (by decide +kernel)) (by decide) (fun _ _ _ _ _ => sgt_tup (by rfl) (sgts_cons (sgt_var (i := 3) nd (by rfl) (by first | exact .inl rfl | exact .inr rfl) (by first | exact .inl rfl | exact .inr rfl)) (sgts_cons (sgt_var (i := 4) nd (by rfl) (by first | exact .inl rfl | exact .inr rfl) (by first | exact .inl rfl | exact .inr rfl)) (sgts_nil) (by rfl)) (by rfl)) (by rfl) (by rfl)) (fun _ _ _ _ _ => sts_nil) (fun _ _ _ _ _ => se_ite (sb_cmp (op2_inA u66) (se_ix u16 (sv 3) (se_int) (fun _ _ => rfl)) (sv 1) (by rfl)) (se_neg (se_int)) (sv 4)) (fun _ => rfl))) (sa_nil) (by rfl))))
theorem ok_sheet_of (T : Txt Y) : FOk Y 1 "sheet_of" 3 f_sheet_of := by
  obtain ⟨f, fd, hm, F⟩ := T.d_sheet_of
  exact FOk.mk false hm F sc_sheet_of (F.binds fun _ _ _ _ _ _ us hl => match us, hl with | [_, _, _], _ => rfl) (b_sheet_of T)
/-! ### lots_within -/
theorem b_lots_within (T : Txt Y) {f : Addr} (cdv : Value) (A : Around) (outer : List Env) (s : Shared) (H : Hp) (E : XK) (hr : Room 0 (A.deeper (envOfC "lots_within" (defScope s_lots_within) s.heap.objs.size f cdv))) : SSs (BX Y n_lots_within "lots_within" (defScope s_lots_within) f cdv A outer s H E) (Wd E) (defBody s_lots_within) m_lots_within := by
  have u64 : (A.deeper (envOfC "lots_within" (defScope s_lots_within) s.heap.objs.size f cdv)).units + 64 < cLine := hr.units
  have u66 : (A.deeper (envOfC "lots_within" (defScope s_lots_within) s.heap.objs.size f cdv)).units + 66 < cLine := by have := hr.un; omega
  have u16 : (A.deeper (envOfC "lots_within" (defScope s_lots_within) s.heap.objs.size f cdv)).units + 16 < cLine := by have := hr.un; omega
  have nd : n_lots_within.Nodup := sc_lots_within.nd
  have tk : Takes (BX Y n_lots_within "lots_within" (defScope s_lots_within) f cdv A outer s H E) (Wd E) := takes_of rfl rfl rfl rfl
  have po := passes_of (X := BX Y n_lots_within "lots_within" (defScope s_lots_within) f cdv A outer s H E) rfl
  exact ss_cons (ss_set (i := 1) nd (by rfl) (by first | exact .inl rfl | exact .inr rfl) (se_known (sn_lst (sa_cons (se_tup (sa_nil)) (sa_nil) (by rfl)))) (by rfl) (by first | exact .inl rfl | exact .inr rfl)) (ss_cons (ss_for po (by rfl) (si_val (sv 0)) (sg_name (i := 2) nd (by rfl) (by first | exact .inl rfl | exact .inr rfl) (by first | exact .inl rfl | exact .inr rfl)) (ss_one (ss_set (i := 1) nd (by rfl) (by first | exact .inl rfl | exact .inr rfl) (se_op op2_add (sv 1) (se_known (sn_lc (by rfl) nd (si_val (sv 1)) (blkOk_by (own := [("one", 3)]) (N := n_lots_within) (sc := defScope s_lots_within) (by decide +kernel)) (by decide) (fun _ _ _ _ _ => sgt_var (i := 3) nd (by rfl) (by first | exact .inl rfl | exact .inr rfl) (by first | exact .inl rfl | exact .inr rfl)) (fun _ _ _ _ _ => sts_nil) (fun _ _ _ _ _ => se_op op2_add (sv 3) (se_tup (sa_cons (sv 2) (sa_nil) (by rfl)))) (fun _ => rfl)))) (by rfl) (by first | exact .inl rfl | exact .inr rfl))) (fun _ => rfl)) (ss_one (ss_ret (se_ty bt_tuple (by rfl) T.n_tuple (by decide +kernel) (sa_cons (se_known (sn_bt (bn_sortedA (by rfl) u64) (by rfl) T.n_sorted (by decide +kernel) (sa_cons (sv 1) (sa_nil) (by rfl)))) (sa_nil) (by rfl))))))
theorem ok_lots_within (T : Txt Y) : FOk Y 1 "lots_within" 1 f_lots_within := by
  obtain ⟨f, fd, hm, F⟩ := T.d_lots_within
  exact FOk.mk false hm F sc_lots_within (F.binds fun _ _ _ _ _ _ us hl => match us, hl with | [_], _ => rfl) (b_lots_within T)
/-! ### blanked -/
theorem b_blanked (T : Txt Y) {f : Addr} (cdv : Value) (A : Around) (outer : List Env) (s : Shared) (H : Hp) (E : XK) (hr : Room 1 (A.deeper (envOfC "blanked" (defScope s_blanked) s.heap.objs.size f cdv))) : SSs (BX Y n_blanked "blanked" (defScope s_blanked) f cdv A outer s H E) (Wd E) (defBody s_blanked) m_blanked := by
  have u64 : (A.deeper (envOfC "blanked" (defScope s_blanked) s.heap.objs.size f cdv)).units + 64 < cLine := hr.units
  have u66 : (A.deeper (envOfC "blanked" (defScope s_blanked) s.heap.objs.size f cdv)).units + 66 < cLine := by have := hr.un; omega
  have u16 : (A.deeper (envOfC "blanked" (defScope s_blanked) s.heap.objs.size f cdv)).units + 16 < cLine := by have := hr.un; omega
  have nd : n_blanked.Nodup := sc_blanked.nd
  have tk : Takes (BX Y n_blanked "blanked" (defScope s_blanked) f cdv A outer s H E) (Wd E) := takes_of rfl rfl rfl rfl
  have po := passes_of (X := BX Y n_blanked "blanked" (defScope s_blanked) f cdv A outer s H E) rfl
  exact ss_one (ss_ret (se_known (sn_lc (by rfl) nd (si_val (se_call (ok_lots_within T) (hr.mono (by decide)) tk (by rfl) (sa_cons (sv 2) (sa_nil) (by rfl)))) (blkOk_by (own := [("part", 3)]) (N := n_blanked) (sc := defScope s_blanked) (by decide +kernel)) (by decide) (fun _ _ _ _ _ => sgt_var (i := 3) nd (by rfl) (by first | exact .inl rfl | exact .inr rfl) (by first | exact .inl rfl | exact .inr rfl)) (fun _ _ _ _ _ => sts_one (sb_cmp (op2_ne u64) (sv 3) (se_tup (sa_nil)) (by rfl))) (fun _ _ _ _ _ => se_call (ok_sheet_of T) (hr.mono (by decide)) takes0 (by rfl) (sa_cons (sv 0) (sa_cons (sv 3) (sa_cons (sv 1) (sa_nil) (by rfl)) (by rfl)) (by rfl))) (fun _ => rfl))))
theorem ok_blanked (T : Txt Y) : FOk Y 2 "blanked" 3 f_blanked := by
  obtain ⟨f, fd, hm, F⟩ := T.d_blanked
  exact FOk.mk false hm F sc_blanked (F.binds fun _ _ _ _ _ _ us hl => match us, hl with | [_, _, _], _ => rfl) (b_blanked T)
/-! ### product_all -/
theorem b_product_all (T : Txt Y) {f : Addr} (cdv : Value) (A : Around) (outer : List Env) (s : Shared) (H : Hp) (E : XK) (hr : Room 2 (A.deeper (envOfC "product_all" (defScope s_product_all) s.heap.objs.size f cdv))) : SSs (BX Y n_product_all "product_all" (defScope s_product_all) f cdv A outer s H E) (Wd E) (defBody s_product_all) m_product_all := by
  have u64 : (A.deeper (envOfC "product_all" (defScope s_product_all) s.heap.objs.size f cdv)).units + 64 < cLine := hr.units
  have u66 : (A.deeper (envOfC "product_all" (defScope s_product_all) s.heap.objs.size f cdv)).units + 66 < cLine := by have := hr.un; omega
  have u16 : (A.deeper (envOfC "product_all" (defScope s_product_all) s.heap.objs.size f cdv)).units + 16 < cLine := by have := hr.un; omega
  have nd : n_product_all.Nodup := sc_product_all.nd
  have tk : Takes (BX Y n_product_all "product_all" (defScope s_product_all) f cdv A outer s H E) (Wd E) := takes_of rfl rfl rfl rfl
  have po := passes_of (X := BX Y n_product_all "product_all" (defScope s_product_all) f cdv A outer s H E) rfl
  exact ss_cons (ss_set (i := 1) nd (by rfl) (by first | exact .inl rfl | exact .inr rfl) (se_glob T.g_ONE (by rfl)) (by rfl) (by first | exact .inl rfl | exact .inr rfl)) (ss_cons (ss_for po (by rfl) (si_val (sv 0)) (sg_name (i := 2) nd (by rfl) (by first | exact .inl rfl | exact .inr rfl) (by first | exact .inl rfl | exact .inr rfl)) (ss_one (ss_set (i := 1) nd (by rfl) (by first | exact .inl rfl | exact .inr rfl) (se_call (ok_times T) (hr.mono (by decide)) tk (by rfl) (sa_cons (sv 1) (sa_cons (sv 2) (sa_nil) (by rfl)) (by rfl))) (by rfl) (by first | exact .inl rfl | exact .inr rfl))) (fun _ => rfl)) (ss_one (ss_ret (sv 1))))
theorem ok_product_all (T : Txt Y) : FOk Y 3 "product_all" 1 f_product_all := by
  obtain ⟨f, fd, hm, F⟩ := T.d_product_all
  exact FOk.mk false hm F sc_product_all (F.binds fun _ _ _ _ _ _ us hl => match us, hl with | [_], _ => rfl) (b_product_all T)
/-! ### kept_weight -/
theorem b_kept_weight (T : Txt Y) {f : Addr} (cdv : Value) (A : Around) (outer : List Env) (s : Shared) (H : Hp) (E : XK) (hr : Room 3 (A.deeper (envOfC "kept_weight" (defScope s_kept_weight) s.heap.objs.size f cdv))) : SSs (BX Y n_kept_weight "kept_weight" (defScope s_kept_weight) f cdv A outer s H E) (Wd E) (defBody s_kept_weight) m_kept_weight := by
  have u64 : (A.deeper (envOfC "kept_weight" (defScope s_kept_weight) s.heap.objs.size f cdv)).units + 64 < cLine := hr.units
  have u66 : (A.deeper (envOfC "kept_weight" (defScope s_kept_weight) s.heap.objs.size f cdv)).units + 66 < cLine := by have := hr.un; omega
  have u16 : (A.deeper (envOfC "kept_weight" (defScope s_kept_weight) s.heap.objs.size f cdv)).units + 16 < cLine := by have := hr.un; omega
  have nd : n_kept_weight.Nodup := sc_kept_weight.nd
  have tk : Takes (BX Y n_kept_weight "kept_weight" (defScope s_kept_weight) f cdv A outer s H E) (Wd E) := takes_of rfl rfl rfl rfl
  have po := passes_of (X := BX Y n_kept_weight "kept_weight" (defScope s_kept_weight) f cdv A outer s H E) rfl
  exact ss_cons (ss_if (sb_cmp (op2_ninA u66) (sv 3) (sv 1) (by rfl)) (ss_one (ss_ret (se_glob T.g_ZERO (by rfl)))) (ss_nil)) (ss_cons (ss_if (sb_cmp (op2_ninA u66) (se_glob T.g_BLANK (by rfl)) (sv 3) (by rfl)) (ss_one (ss_ret (se_glob T.g_ONE (by rfl)))) (ss_nil)) (ss_cons (ss_par (i := 4) (j := 5) (by rfl) nd (by rfl) (by rfl) (by decide) (by rfl) (by rfl) (sa_cons (se_cell (sn_lst (sa_nil))) (sa_cons (se_call (ok_lot_of T) (hr.mono (by decide)) tk (by rfl) (sa_cons (sv 0) (sa_cons (sv 3) (sa_nil) (by rfl)) (by rfl))) sa_nil (by rfl)) (by rfl)) (by rfl) (by rfl)) (ss_cons (ss_for po (by rfl) (si_val (se_call (ok_truths_behind T) (hr.mono (by decide)) tk (by rfl) (sa_cons (sv 0) (sa_cons (sv 3) (sa_nil) (by rfl)) (by rfl)))) (sg_name (i := 6) nd (by rfl) (by first | exact .inl rfl | exact .inr rfl) (by first | exact .inl rfl | exact .inr rfl)) (ss_one (ss_if (sb_cmp (op2_inA u66) (sv 6) (sv 1) (by rfl)) (ss_cons (ss_setLc (i := 7) (by rfl) nd (by rfl) (by rfl) (sw_true rfl rfl rfl (by decide +kernel)) (si_val (se_call (ok_blanked T) (hr.mono (by decide)) tk (by rfl) (sa_cons (sv 0) (sa_cons (sv 6) (sa_cons (sv 5) (sa_nil) (by rfl)) (by rfl)) (by rfl)))) (blkOk_by (own := [("one", 8)]) (N := n_kept_weight) (sc := defScope s_kept_weight) (by decide +kernel)) (by decide) (fun _ _ _ _ _ => sgt_var (i := 8) nd (by rfl) (by first | exact .inl rfl | exact .inr rfl) (by first | exact .inl rfl | exact .inr rfl)) (fun _ _ _ _ _ => sts_one (sb_cmp (op2_ne u64) (sv 8) (sv 3) (by rfl))) (fun _ _ _ _ _ => se_ix u16 (sv 2) (sv 8) (fun _ _ => rfl)) (fun _ => rfl)) (ss_one (ss_expr (se_append (sv 4) (sa_cons (se_call (ok_times T) (hr.mono (by decide)) tk (by rfl) (sa_cons (se_call (ok_whole T) (hr.mono (by decide)) tk (by rfl) (sa_cons (se_ix u16 (sv 1) (sv 6) (fun _ _ => rfl)) (sa_nil) (by rfl))) (sa_cons (se_call (ok_product_all T) (hr.mono (by decide)) tk (by rfl) (sa_cons (sv 7) (sa_nil) (by rfl))) (sa_nil) (by rfl)) (by rfl))) (sa_nil) (by rfl)) (by rfl) (by rfl) (by rfl) (by rfl) (by rfl)) (by rfl)))) (ss_nil))) (fun _ => rfl)) (ss_cons (ss_set (i := 9) nd (by rfl) (by first | exact .inl rfl | exact .inr rfl) (se_call (ok_total_of T) (hr.mono (by decide)) tk (by rfl) (sa_cons (se_frz (sv 4)) (sa_nil) (by rfl))) (by rfl) (by first | exact .inl rfl | exact .inr rfl)) (ss_one (ss_ret (se_ite (sb_cmp (op2_eq u64) (sv 9) (se_glob T.g_ZERO (by rfl)) (by rfl)) (se_glob T.g_ZERO (by rfl)) (se_call (ok_over T) (hr.mono (by decide)) tk (by rfl) (sa_cons (se_call (ok_whole T) (hr.mono (by decide)) tk (by rfl) (sa_cons (se_ix u16 (sv 1) (sv 3) (fun _ _ => rfl)) (sa_nil) (by rfl))) (sa_cons (sv 9) (sa_nil) (by rfl)) (by rfl))))))))))
theorem ok_kept_weight (T : Txt Y) : FOk Y 4 "kept_weight" 4 f_kept_weight := by
  obtain ⟨f, fd, hm, F⟩ := T.d_kept_weight
  exact FOk.mk false hm F sc_kept_weight (F.binds fun _ _ _ _ _ _ us hl => match us, hl with | [_, _, _, _], _ => rfl) (b_kept_weight T)
/-! ### weights_by -/
theorem b_weights_by (T : Txt Y) {f : Addr} (cdv : Value) (A : Around) (outer : List Env) (s : Shared) (H : Hp) (E : XK) (hr : Room 4 (A.deeper (envOfC "weights_by" (defScope s_weights_by) s.heap.objs.size f cdv))) : SSs (BX Y n_weights_by "weights_by" (defScope s_weights_by) f cdv A outer s H E) (Wd E) (defBody s_weights_by) m_weights_by := by
  have u64 : (A.deeper (envOfC "weights_by" (defScope s_weights_by) s.heap.objs.size f cdv)).units + 64 < cLine := hr.units
  have u66 : (A.deeper (envOfC "weights_by" (defScope s_weights_by) s.heap.objs.size f cdv)).units + 66 < cLine := by have := hr.un; omega
  have u16 : (A.deeper (envOfC "weights_by" (defScope s_weights_by) s.heap.objs.size f cdv)).units + 16 < cLine := by have := hr.un; omega
  have nd : n_weights_by.Nodup := sc_weights_by.nd
  have tk : Takes (BX Y n_weights_by "weights_by" (defScope s_weights_by) f cdv A outer s H E) (Wd E) := takes_of rfl rfl rfl rfl
  have po := passes_of (X := BX Y n_weights_by "weights_by" (defScope s_weights_by) f cdv A outer s H E) rfl
  exact ss_cons (ss_par (i := 2) (j := 3) (by rfl) nd (by rfl) (by rfl) (by decide) (by rfl) (by rfl) (sa_cons (se_known (sn_dc (by rfl) u16 nd (si_val (sv 1)) (blkOk_by (own := [("sheet", 4), ("many", 5)]) (N := n_weights_by) (sc := defScope s_weights_by) (by decide +kernel)) (by decide) (fun _ _ _ _ _ => sgt_tup (by rfl) (sgts_cons (sgt_var (i := 4) nd (by rfl) (by first | exact .inl rfl | exact .inr rfl) (by first | exact .inl rfl | exact .inr rfl)) (sgts_cons (sgt_var (i := 5) nd (by rfl) (by first | exact .inl rfl | exact .inr rfl) (by first | exact .inl rfl | exact .inr rfl)) (sgts_nil) (by rfl)) (by rfl)) (by rfl) (by rfl)) (fun _ _ _ _ _ => sts_nil) (fun _ _ _ _ _ => sv 4) (fun _ _ _ _ _ => sv 5) (fun _ => rfl))) (sa_cons (se_cell (sn_dict0)) sa_nil (by rfl)) (by rfl)) (by rfl) (by rfl)) (ss_cons (ss_for po (by rfl) (si_val (se_call (ok_by_blanks T) (hr.mono (by decide)) tk (by rfl) (sa_cons (se_call (ok_all_sheets T) (hr.mono (by decide)) tk (by rfl) (sa_cons (sv 0) (sa_nil) (by rfl))) (sa_nil) (by rfl)))) (sg_name (i := 4) nd (by rfl) (by first | exact .inl rfl | exact .inr rfl) (by first | exact .inl rfl | exact .inr rfl)) (ss_one (ss_asg (se_call (ok_kept_weight T) (hr.mono (by decide)) tk (by rfl) (sa_cons (sv 0) (sa_cons (sv 2) (sa_cons (sv 3) (sa_cons (sv 4) (sa_nil) (by rfl)) (by rfl)) (by rfl)) (by rfl))) (sg_sub u16 (sv 3) (sv 4) (fun _ => rfl)) (by rfl) (by rfl) (by rfl))) (fun _ => rfl)) (ss_one (ss_ret (se_call (ok_listed T) (hr.mono (by decide)) tk (by rfl) (sa_cons (sv 3) (sa_nil) (by rfl))))))
theorem ok_weights_by (T : Txt Y) : FOk Y 5 "weights_by" 2 f_weights_by := by
  obtain ⟨f, fd, hm, F⟩ := T.d_weights_by
  exact FOk.mk false hm F sc_weights_by (F.binds fun _ _ _ _ _ _ us hl => match us, hl with | [_, _], _ => rfl) (b_weights_by T)
theorem kw1_weights_by (T : Txt Y) : KwF Y 5 "weights_by" 0 ["counts", "form"] [1, 0] 2 f_weights_by := by
  obtain ⟨f, fd, hm, F⟩ := T.d_weights_by
  have D := FnD.mk' (Y := Y) false F sc_weights_by (F.binds fun _ _ _ _ _ _ us hl => match us, hl with | [_, _], _ => rfl) (b_weights_by T)
  obtain ⟨oc, od, kV, doc, pm, an, cdv, ct, osl, rfl, lk, hcd⟩ := F.ex
  exact ⟨f, _, _, hm, D.kp, rfl, fun s us ws _ h1 h2 => .of_eq (match us, ws, h1, h2 with | [], [_, _], _, _ => rfl), D.ok⟩
/-! ### _law_more -/
theorem b__law_more (T : Txt Y) {f : Addr} (cdv : Value) (A : Around) (outer : List Env) (s : Shared) (H : Hp) (E : XK) (hr : Room 0 (A.deeper (envOfC "_law_more" (defScope s__law_more) s.heap.objs.size f cdv))) : SSs (BX Y n__law_more "_law_more" (defScope s__law_more) f cdv A outer s H E) (Wd E) (defBody s__law_more) m__law_more := by
  have u64 : (A.deeper (envOfC "_law_more" (defScope s__law_more) s.heap.objs.size f cdv)).units + 64 < cLine := hr.units
  have u66 : (A.deeper (envOfC "_law_more" (defScope s__law_more) s.heap.objs.size f cdv)).units + 66 < cLine := by have := hr.un; omega
  have u16 : (A.deeper (envOfC "_law_more" (defScope s__law_more) s.heap.objs.size f cdv)).units + 16 < cLine := by have := hr.un; omega
  have nd : n__law_more.Nodup := sc__law_more.nd
  have tk : Takes (BX Y n__law_more "_law_more" (defScope s__law_more) f cdv A outer s H E) (Wd E) := takes_of rfl rfl rfl rfl
  have po := passes_of (X := BX Y n__law_more "_law_more" (defScope s__law_more) f cdv A outer s H E) rfl
  exact ss_cons (ss_set (i := 1) nd (by rfl) (by first | exact .inl rfl | exact .inr rfl) (se_known (sn_lst (sa_cons (se_tup (sa_nil)) (sa_nil) (by rfl)))) (by rfl) (by first | exact .inl rfl | exact .inr rfl)) (ss_cons (ss_for po (by rfl) (si_val (sv 0)) (sg_name (i := 2) nd (by rfl) (by first | exact .inl rfl | exact .inr rfl) (by first | exact .inl rfl | exact .inr rfl)) (ss_cons (ss_set (i := 3) nd (by rfl) (by first | exact .inl rfl | exact .inr rfl) (se_known (sn_lst (sa_nil))) (by rfl) (by first | exact .inl rfl | exact .inr rfl)) (ss_cons (ss_for po (by rfl) (si_val (sv 1)) (sg_name (i := 4) nd (by rfl) (by first | exact .inl rfl | exact .inr rfl) (by first | exact .inl rfl | exact .inr rfl)) (ss_one (ss_set (i := 3) nd (by rfl) (by first | exact .inl rfl | exact .inr rfl) (se_op op2_add (sv 3) (se_known (sn_lc (by rfl) nd (si_val (se_known (sn_sortSet (by rfl) u64 (by rfl) T.n_sorted (by rfl) T.n_set (se_known (sn_lst (sa_cons (se_neg (se_int)) (sa_cons (sv 2) (sa_nil) (by rfl)) (by rfl)))) (by rfl) (by rfl)))) (blkOk_by (own := [("_law_one", 5)]) (N := n__law_more) (sc := defScope s__law_more) (by decide +kernel)) (by decide) (fun _ _ _ _ _ => sgt_var (i := 5) nd (by rfl) (by first | exact .inl rfl | exact .inr rfl) (by first | exact .inl rfl | exact .inr rfl)) (fun _ _ _ _ _ => sts_nil) (fun _ _ _ _ _ => se_op op2_add (sv 4) (se_tup (sa_cons (sv 5) (sa_nil) (by rfl)))) (fun _ => rfl)))) (by rfl) (by first | exact .inl rfl | exact .inr rfl))) (fun _ => rfl)) (ss_one (ss_set (i := 1) nd (by rfl) (by first | exact .inl rfl | exact .inr rfl) (sv 3) (by rfl) (by first | exact .inl rfl | exact .inr rfl))))) (fun _ => rfl)) (ss_one (ss_ret (sv 1))))
theorem ok__law_more (T : Txt Y) : FOk Y 1 "_law_more" 1 f__law_more := by
  obtain ⟨f, fd, hm, F⟩ := T.d__law_more
  exact FOk.mk false hm F sc__law_more (F.binds fun _ _ _ _ _ _ us hl => match us, hl with | [_], _ => rfl) (b__law_more T)
/-! ### law -/
theorem b_law (T : Txt Y) {f : Addr} (cdv : Value) (A : Around) (outer : List Env) (s : Shared) (H : Hp) (E : XK) (hgd : A.guards = some []) (hr : Room 5 (A.deeper (envOfC "law" (defScope s_law) s.heap.objs.size f cdv))) : SSs (BX Y n_law "law" (defScope s_law) f cdv A outer s H E) (Wd E) (defBody s_law) m_law := by
  have u64 : (A.deeper (envOfC "law" (defScope s_law) s.heap.objs.size f cdv)).units + 64 < cLine := hr.units
  have u66 : (A.deeper (envOfC "law" (defScope s_law) s.heap.objs.size f cdv)).units + 66 < cLine := by have := hr.un; omega
  have u16 : (A.deeper (envOfC "law" (defScope s_law) s.heap.objs.size f cdv)).units + 16 < cLine := by have := hr.un; omega
  have nd : n_law.Nodup := sc_law.nd
  have tk : Takes (BX Y n_law "law" (defScope s_law) f cdv A outer s H E) (Wd E) := takes_of rfl rfl rfl rfl
  have po := passes_of (X := BX Y n_law "law" (defScope s_law) f cdv A outer s H E) rfl
  exact ss_cons (ss_set (i := 1) nd (by rfl) (by first | exact .inl rfl | exact .inr rfl) (se_call (ok__law_deal T) (hr.mono (by decide)) tk (by rfl) (sa_cons (sv 0) (sa_cons (se_int) (sa_nil) (by rfl)) (by rfl))) (by rfl) (by first | exact .inl rfl | exact .inr rfl)) (ss_cons (ss_for po (by rfl) (si_range1 (by rfl) T.n_range (sa_cons (se_int) (sa_nil) (by rfl)) (by rfl)) (sg_name (i := 2) nd (by rfl) (by first | exact .inl rfl | exact .inr rfl) (by first | exact .inl rfl | exact .inr rfl)) (ss_cons (ss_set (i := 3) nd (by rfl) (by first | exact .inl rfl | exact .inr rfl) (se_call (ok__law_questions T) (hr.mono (by decide)) tk (by rfl) (sa_cons (sv 1) (sa_cons (se_int) (sa_nil) (by rfl)) (by rfl))) (by rfl) (by first | exact .inl rfl | exact .inr rfl)) (ss_cons (ss_par (i := 5) (j := 6) (by rfl) nd (by rfl) (by rfl) (by decide) (by rfl) (by rfl) (sa_cons (se_make true (mk_Form T) (hr.mono (by decide)) (by rfl) (sa_cons (sv 3) (sa_nil) (by rfl))) (sa_cons (se_call (ok__law_counts T) (hr.mono (by decide)) tk (by rfl) (sa_cons (sv 1) (sa_cons (sv 3) (sa_nil) (by rfl)) (by rfl))) sa_nil (by rfl)) (by rfl)) (by rfl) (by rfl)) (ss_one (ss_for po (by rfl) (si_range1 (by rfl) T.n_range (sa_cons (se_int) (sa_nil) (by rfl)) (by rfl)) (sg_name (i := 4) nd (by rfl) (by first | exact .inl rfl | exact .inr rfl) (by first | exact .inl rfl | exact .inr rfl)) (ss_cons (ss_set (i := 7) nd (by rfl) (by first | exact .inl rfl | exact .inr rfl) (se_call (ok__law_of T) (hr.mono (by decide)) tk (by rfl) (sa_cons (sv 1) (sa_cons (se_call (ok__law_every T) (hr.mono (by decide)) tk (by rfl) (sa_cons (sv 3) (sa_nil) (by rfl))) (sa_nil) (by rfl)) (by rfl))) (by rfl) (by first | exact .inl rfl | exact .inr rfl)) (ss_cons (ss_set (i := 8) nd (by rfl) (by first | exact .inl rfl | exact .inr rfl) (se_callK0 (kw0_more_blanks T) (hr.mono (by decide)) tk (by rfl) (sk_cons (sv 7) (sk_nil))) (by rfl) (by first | exact .inl rfl | exact .inr rfl)) (ss_cons (ss_if (sb_cmp (op2_ne u64) (se_bt (bt_repr u64 hgd) (by rfl) T.n_repr (by decide +kernel) (sa_cons (sv 8) (sa_nil) (by rfl))) (se_bt (bt_repr u64 hgd) (by rfl) T.n_repr (by decide +kernel) (sa_cons (se_ty bt_tuple (by rfl) T.n_tuple (by decide +kernel) (sa_cons (se_call (ok__law_more T) (hr.mono (by decide)) tk (by rfl) (sa_cons (sv 7) (sa_nil) (by rfl))) (sa_nil) (by rfl))) (sa_nil) (by rfl))) (by rfl)) (ss_one (ss_ret (se_bl))) (ss_nil)) (ss_cons (ss_if (sb_cmp (op2_ne u64) (se_bt bt_len (by rfl) T.n_len (by decide +kernel) (sa_cons (sv 8) (sa_nil) (by rfl))) (se_ix u16 (se_known (sn_lst (sa_cons (se_int) (sa_cons (se_int) (sa_cons (se_int) (sa_cons (se_int) (sa_nil) (by rfl)) (by rfl)) (by rfl)) (by rfl)))) (se_bt bt_len (by rfl) T.n_len (by decide +kernel) (sa_cons (se_known (sn_lc (by rfl) nd (si_val (sv 7)) (blkOk_by (own := [("_law_answer", 14)]) (N := n_law) (sc := defScope s_law) (by decide +kernel)) (by decide) (fun _ _ _ _ _ => sgt_var (i := 14) nd (by rfl) (by first | exact .inl rfl | exact .inr rfl) (by first | exact .inl rfl | exact .inr rfl)) (fun _ _ _ _ _ => sts_one (sb_cmp (op2_ne u64) (sv 14) (se_neg (se_int)) (by rfl))) (fun _ _ _ _ _ => sv 14) (fun _ => rfl))) (sa_nil) (by rfl))) (fun _ _ => rfl)) (by rfl)) (ss_one (ss_ret (se_bl))) (ss_nil)) (ss_cons (ss_setLcC (i := 9) (by rfl) nd (by rfl) (by rfl) (sw_true rfl rfl rfl (by decide +kernel)) (si_val (sv 6)) (blkOk_by (own := [("_law_pair", 13)]) (N := n_law) (sc := defScope s_law) (by decide +kernel)) (by decide) (fun _ _ _ _ _ => sgt_var (i := 13) nd (by rfl) (by first | exact .inl rfl | exact .inr rfl) (by first | exact .inl rfl | exact .inr rfl)) (fun _ _ _ _ _ => sts_one (sb_cmp (op2_ne u64) (se_ix u16 (sv 13) (se_int) (fun _ _ => rfl)) (sv 7) (by rfl))) (fun _ _ _ _ _ => sv 13) (fun _ => rfl)) (ss_cons (ss_set (i := 10) nd (by rfl) (by first | exact .inl rfl | exact .inr rfl) (se_call (ok__law_any T) (hr.mono (by decide)) tk (by rfl) (sa_cons (sv 1) (sa_cons (se_int) (sa_nil) (by rfl)) (by rfl))) (by rfl) (by first | exact .inl rfl | exact .inr rfl)) (ss_cons (ss_if (sb_cmp op2_gt (sv 10) (se_int) (by rfl)) (ss_one (ss_expr (se_append (sv 9) (sa_cons (se_tup (sa_cons (sv 7) (sa_cons (sv 10) (sa_nil) (by rfl)) (by rfl))) (sa_nil) (by rfl)) (by rfl) (by rfl) (by rfl) (by rfl) (by rfl)) (by rfl))) (ss_nil)) (ss_cons (ss_par (i := 11) (j := 12) (by rfl) nd (by rfl) (by rfl) (by decide) (by rfl) (by rfl) (sa_cons (se_callK0 (kw1_weights_by T) (hr.mono (by decide)) tk (by rfl) (sk_cons (sv 6) (sk_cons (sv 5) (sk_nil)))) (sa_cons (se_call (ok_weights_by T) (hr.mono (by decide)) tk (by rfl) (sa_cons (sv 5) (sa_cons (se_ty bt_tuple (by rfl) T.n_tuple (by decide +kernel) (sa_cons (se_known (sn_bt (bn_sortedA (by rfl) u64) (by rfl) T.n_sorted (by decide +kernel) (sa_cons (sv 9) (sa_nil) (by rfl)))) (sa_nil) (by rfl))) (sa_nil) (by rfl)) (by rfl))) sa_nil (by rfl)) (by rfl)) (by rfl) (by rfl)) (ss_one (ss_if (sb_cmp (op2_ne u64) (se_known (sn_lc (by rfl) nd (si_val (sv 11)) (blkOk_by (own := [("_law_pair", 13)]) (N := n_law) (sc := defScope s_law) (by decide +kernel)) (by decide) (fun _ _ _ _ _ => sgt_var (i := 13) nd (by rfl) (by first | exact .inl rfl | exact .inr rfl) (by first | exact .inl rfl | exact .inr rfl)) (fun _ _ _ _ _ => sts_one (sb_cmp (op2_ninA u66) (se_ix u16 (sv 13) (se_int) (fun _ _ => rfl)) (sv 8) (by rfl))) (fun _ _ _ _ _ => sv 13) (fun _ => rfl))) (se_known (sn_lc (by rfl) nd (si_val (sv 12)) (blkOk_by (own := [("_law_pair", 13)]) (N := n_law) (sc := defScope s_law) (by decide +kernel)) (by decide) (fun _ _ _ _ _ => sgt_var (i := 13) nd (by rfl) (by first | exact .inl rfl | exact .inr rfl) (by first | exact .inl rfl | exact .inr rfl)) (fun _ _ _ _ _ => sts_one (sb_cmp (op2_ninA u66) (se_ix u16 (sv 13) (se_int) (fun _ _ => rfl)) (sv 8) (by rfl))) (fun _ _ _ _ _ => sv 13) (fun _ => rfl))) (by rfl)) (ss_one (ss_ret (se_bl))) (ss_nil))))))))))) (fun _ => rfl))))) (fun _ => rfl)) (ss_one (ss_ret (se_bl))))
end K82

set_option maxHeartbeats 0
namespace K82
open PySem PySem.Spec PyProof.Rows L2 PL KM
def fn : List He.DefD := [ddG "_law_deal" s__law_deal, ddG "_law_any" s__law_any, ddG "_law_of" s__law_of, ddG "_law_names" s__law_names, ddG "_law_questions" s__law_questions, ddG "_law_rows" s__law_rows, ddG "_law_truths" s__law_truths, ddG "_law_some_truths" s__law_some_truths, ddG "_law_sheet" s__law_sheet, ddG "_law_came" s__law_came, ddG "_law_within" s__law_within, ddG "_law_lots" s__law_lots, ddG "_law_closed" s__law_closed, ddG "_law_every" s__law_every, ddG "_law_counts" s__law_counts, ddG "more_blanks" s_more_blanks, ddG "by_blanks" s_by_blanks, ddG "listed" s_listed, ddG "_rows" s__rows, ddG "all_sheets" s_all_sheets, ddG "truths_behind" s_truths_behind, ddG "fraction" s_fraction, ddG "plus" s_plus, ddG "total_of" s_total_of, ddG "lot_of" s_lot_of, ddG "over" s_over, ddG "whole" s_whole, ddG "times" s_times, ddG "sheet_of" s_sheet_of, ddG "lots_within" s_lots_within, ddG "blanked" s_blanked, ddG "product_all" s_product_all, ddG "kept_weight" s_kept_weight, ddG "weights_by" s_weights_by, ddG "_law_more" s__law_more, ddG "law" s_law, ddM "Form" "__init__" "Form.__init__" s_Form____init__]
def fa : List He.Fa := [.glo "_law_deal", .glo "_law_any", .glo "_law_of", .glo "_law_names", .glo "_law_questions", .glo "_law_rows", .glo "_law_truths", .glo "_law_some_truths", .glo "_law_sheet", .glo "_law_came", .glo "_law_within", .glo "_law_lots", .glo "_law_closed", .glo "_law_every", .glo "_law_counts", .glo "more_blanks", .glo "by_blanks", .glo "listed", .glo "_rows", .glo "all_sheets", .glo "truths_behind", .glo "fraction", .glo "plus", .glo "total_of", .glo "lot_of", .glo "over", .glo "whole", .glo "times", .glo "sheet_of", .glo "lots_within", .glo "blanked", .glo "product_all", .glo "kept_weight", .glo "weights_by", .glo "_law_more", .glo "law", .glo "Form", .cls "Form", .mkr "Form", .noat "Form" "questions", .free "int", .free "abs", .free "len", .free "list", .free "sorted", .free "range", .free "tuple", .free "set", .free "zip", .free "repr"]
def exl : List (PySem.W.Frag → Bool) := [impB "gcd" "math.gcd", glB "BLANK" (.int (-1)), glB "ZERO" (.tup [(.int 0), (.int 1)]), glB "ONE" (.tup [(.int 1), (.int 1)])]
def ex (K : PySem.W.Frag) : Bool := exl.all fun g => g K
def tf : List He.Defn := [(lamD, none)]
def loose0 : List Str := ["gcd", "__name__", "BlankError", "InvalidSize", "Form", "_rows", "all_sheets", "lots_within", "sheet_of", "lot_of", "truths_behind", "ZERO", "ONE", "fraction", "whole", "plus", "times", "over", "total_of", "product_all", "BLANK", "blanked", "by_blanks", "more_blanks", "kept_weight", "listed", "weights_by", "_law_deal", "_law_any", "_law_of"]
def loose1 : List Str := ["_law_names", "_law_questions", "_law_rows", "_law_truths", "_law_within", "_law_lots", "_law_sheet", "_law_every", "_law_closed", "_law_some_truths", "_law_came", "_law_more", "_law_counts"]
def loose : List Str := loose0 ++ loose1
abbrev Rw : PySem.W.OpenRow := PySem.W.OpenLaw.row PySem.Challenge.rw_whyblank_k82_whole_which_weights_a_chang
abbrev hk : PySem.W.Hook := He.hookX 5 fa fn [] tf ex
noncomputable def ob (s : PySem.W.SharedT) : He.AlX := He.obsX 5 fa fn [] tf ex (HandSHeadRun.getT s)
theorem ob_eq (s : PySem.W.SharedT) : ob s = hk.obs s.abs := He.obsX_eq (HandSHeadRun.getT_eq s)
theorem run (w : World) : HandSHeadRun.RunEqI Rw (PySem.W.view Rw.prog [48]) hk ob 4000 loose w := by
  unfold HandSHeadRun.RunEqI
  kernel_rfl
section
variable {w : World} {h : Heap} {K : PySem.W.Frag} {mg : Str → Option Value} {base : Heap}
theorem txt (X : K.In h) (c : He.SaysX fa fn [] tf ex w h K) (G : h.Ns mainGlobals mg) (B : ∀ p ∈ csOf K tf, LamX.TabB base mg p.1 p.2) : Txt ⟨Rw.prog, w, K, mg, base⟩ := by
  let Y : Yd := ⟨Rw.prog, w, K, mg, base⟩
  have ef : ∀ (i : Nat) {f : He.Fa}, fa[i]? = some f → f.ok K = true := fun i f e => c.t.d.fact i e
  have ee : ∀ (i : Nat) {g : PySem.W.Frag → Bool}, exl[i]? = some g → g K = true := fun i g e => List.all_eq_true.mp c.more g (List.mem_of_getElem? e)
  exact ⟨He.free_ok X G (ef 40 (f := .free "int") rfl),
    He.free_ok X G (ef 41 (f := .free "abs") rfl),
    He.free_ok X G (ef 42 (f := .free "len") rfl),
    He.free_ok X G (ef 43 (f := .free "list") rfl),
    He.free_ok X G (ef 44 (f := .free "sorted") rfl),
    He.free_ok X G (ef 45 (f := .free "range") rfl),
    He.free_ok X G (ef 46 (f := .free "tuple") rfl),
    He.free_ok X G (ef 47 (f := .free "set") rfl),
    He.free_ok X G (ef 48 (f := .free "zip") rfl),
    He.free_ok X G (ef 49 (f := .free "repr") rfl),
    impB_ok (Y := Y) X G (ee 0 rfl),
    glB_ok (Y := Y) X G (ee 1 rfl),
    glB_ok (Y := Y) X G (ee 2 rfl),
    glB_ok (Y := Y) X G (ee 3 rfl),
    says_def (Y := Y) c X G 0 0 rfl rfl,
    says_def (Y := Y) c X G 1 1 rfl rfl,
    says_def (Y := Y) c X G 2 2 rfl rfl,
    says_def (Y := Y) c X G 3 3 rfl rfl,
    says_def (Y := Y) c X G 4 4 rfl rfl,
    says_def (Y := Y) c X G 5 5 rfl rfl,
    says_def (Y := Y) c X G 6 6 rfl rfl,
    says_def (Y := Y) c X G 7 7 rfl rfl,
    says_def (Y := Y) c X G 8 8 rfl rfl,
    says_def (Y := Y) c X G 9 9 rfl rfl,
    says_def (Y := Y) c X G 10 10 rfl rfl,
    says_def (Y := Y) c X G 11 11 rfl rfl,
    says_def (Y := Y) c X G 12 12 rfl rfl,
    says_def (Y := Y) c X G 13 13 rfl rfl,
    says_def (Y := Y) c X G 14 14 rfl rfl,
    says_def (Y := Y) c X G 15 15 rfl rfl,
    says_def (Y := Y) c X G 16 16 rfl rfl,
    says_def (Y := Y) c X G 17 17 rfl rfl,
    says_def (Y := Y) c X G 18 18 rfl rfl,
    says_def (Y := Y) c X G 19 19 rfl rfl,
    says_def (Y := Y) c X G 20 20 rfl rfl,
    says_def (Y := Y) c X G 21 21 rfl rfl,
    says_def (Y := Y) c X G 22 22 rfl rfl,
    says_def (Y := Y) c X G 23 23 rfl rfl,
    says_def (Y := Y) c X G 24 24 rfl rfl,
    says_def (Y := Y) c X G 25 25 rfl rfl,
    says_def (Y := Y) c X G 26 26 rfl rfl,
    says_def (Y := Y) c X G 27 27 rfl rfl,
    says_def (Y := Y) c X G 28 28 rfl rfl,
    says_def (Y := Y) c X G 29 29 rfl rfl,
    says_def (Y := Y) c X G 30 30 rfl rfl,
    says_def (Y := Y) c X G 31 31 rfl rfl,
    says_def (Y := Y) c X G 32 32 rfl rfl,
    says_def (Y := Y) c X G 33 33 rfl rfl,
    says_def (Y := Y) c X G 34 34 rfl rfl,
    says_def (Y := Y) c X G 35 35 rfl rfl,
    says_cls (Y := Y) c X G 36 36 38 rfl rfl rfl,
    fun cn hx => (by simp only [List.mem_cons, List.not_mem_nil, or_false] at hx; subst hx; exact says_fld (Y := Y) c X G 36 37 39 rfl rfl rfl),
    says_lam (Y := Y) c X G 16 16 rfl rfl (List.mem_singleton.mpr rfl) B⟩
theorem tabs (X : K.In h) (c : He.SaysX fa fn [] tf ex w h K) (G : h.Ns mainGlobals mg) (B : ∀ p ∈ csOf K tf, LamX.TabB base mg p.1 p.2) : ∀ p, PX.TabAt ⟨w, K, mg, base⟩ p → p ∈ (csOf K tf).map (·.2) := fun p t =>
  says_tab (Y := ⟨Rw.prog, w, K, mg, base⟩) c X G 16 16 rfl rfl (List.mem_singleton.mpr rfl) B t
end
/-- the plain law -/
def Plain : Prop := ∀ ns : List Int, ns.length ≤ 63 → (∀ z ∈ ns, Builtin.Int.intBits z ≤ 1048576) → ∃ st, f_law [.scr ns] [] = some (.ok (.bl true), st)
theorem lawS (pl : Plain) {w : World} {h : Heap} {K : PySem.W.Frag} {mg : Str → Option Value} {f : Addr} (X : K.In h) (c : He.SaysX fa fn [] tf ex w h K) (G : h.Ns mainGlobals mg) (hmg : mg "law" = some (.ref f)) : LawS Rw.prog w K mg f h := by
  obtain ⟨f1, fd, e, F⟩ := says_def (Y := ⟨Rw.prog, w, K, mg, h⟩) c X G 35 35 rfl rfl
  cases e.symm.trans hmg
  refine lawS_of X c (fd := fd) (fun s u => by obtain ⟨_, _, _, _, _, _, _, _, _, rfl, _, _⟩ := F.ex; exact .of_eq rfl) pl fun base Kb Gb B => ⟨?_, tabs X c G B⟩
  exact RunC.of (k := 5) (N := n_law) false ⟨rfl, by decide, by decide⟩ F sc_law fun cdv outer s H E hr => b_law (txt X c G B) cdv callerA outer s H E rfl hr
end K82
open PySem PySem.W PySem.Calls PyProof.Rows
theorem K82.ends (pl : K82.Plain) : PySem.Challenge.rw_whyblank_k82_whole_which_weights_a_chang.Holds := by
  w_on; o_law
  refine HandSHeadRun.head_imp (r := OpenLaw.row PySem.Challenge.rw_whyblank_k82_whole_which_weights_a_chang) (q := view (OpenLaw.row PySem.Challenge.rw_whyblank_k82_whole_which_weights_a_chang).prog [48]) (H := K82.hk) (ob := K82.ob) (M := 4000) (loose := K82.loose) (d := HandSHeadRun.topDef (OpenLaw.row PySem.Challenge.rw_whyblank_k82_whole_which_weights_a_chang).prog 48) (kwd := []) K82.ob_eq
    K82.run (by kernel_rfl) (by kernel_rfl) (by kernel_rfl) (by rfl) (by first | assumption | decide +kernel) (by decide +kernel) ⟨rfl, rfl, rfl, rfl, rfl, by decide +kernel⟩ ?hw ?hc
  case hw => w_witness2
  case hc =>
    refine PL.walkEndX (l := PySem.Challenge.rw_whyblank_k82_whole_which_weights_a_chang) rfl (by kernel_rfl) fun w mg f h K X c G hmg0 => ?_
    have hmg : mg ("law" : PySem.Str) = some (.ref f) := by
      have e : (HandSHeadRun.topDef (OpenLaw.row PySem.Challenge.rw_whyblank_k82_whole_which_weights_a_chang).prog 48).name = ("law" : PySem.Str) := by kernel_rfl
      rw [← e]
      exact hmg0
    exact K82.lawS pl X c G hmg
theorem PySem.Challenge.cw_whyblank_k82_whole_which_weights_a_chang_holds : PySem.Challenge.rw_whyblank_k82_whole_which_weights_a_chang.Holds := by
  exact K82.ends fun ns h _ => K82.plain ns h
