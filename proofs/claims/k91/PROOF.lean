import PyProof.Rows.All
import Wide.All
import OpenK.AllK
import Wide.FinOn
import HandS.ForMost
import HandS.Exc
import HandS.TryOnly
import HandS.ExcOwn
import HandS.WordsExc
import HandS.Style
import HandS.IsInst
import HandS.Wide
import HandS.TupAny
import HandS.ExcInit
import HandS.ExcIs
import HandS.ExcField
import HandS.CallSlots
import HandS.Flow
import HandS.Lambda
import KE.KNestM
import HandS.Conv
import HandS.Ends
import KE.OsRunLaw
import PySem.Challenge.RW_noughtrules_k91_texts_of_no_handful
import KE.GoesMore
import HandS.Defaults
import HandS.TupMul
import HandS.OwnEq
import HandS.Dict
import HandS.RevRange
import HandS.Text
import KE.KCallOwn
import HandS.Deep
import HandS.List
set_option Elab.async false
set_option linter.all false
section
set_option autoImplicit false
set_option maxRecDepth 100000
set_option maxHeartbeats 4000000
/-! Calls whose exceptions know the slots of the caller. -/
namespace DL
open PySem PySem.Spec PyProof.Rows L2
open PySem.W (Frag)
section
variable {X : Cx} {CX : CXT} {k : Nat} {f C : Addr} {fd : FuncData} {ps : List Str} {sp : Sp} {dvs : List V} {ds : List Value} {E : L2.St → XK} {x m : Str} {p pos apos : Pos} {e o : Expr} {es : List Expr} {ta : TE} {t : TA}
/-- N.__init__(self, ..), N an own class that has ValueError's -/
structure NtC (K : Frag) (N : Addr) : Prop where
  sp : PySem.W.specialIn K (.ref N) "__getattribute__" = some (some (.builtin "type.__getattribute__"))
  rd : PySem.W.readsIn K N (.type "type") = true
  fi : PySem.W.findCls K (.ref N) (.type "type") "__init__" = some (.val (.builtin "ValueError.__init__"))
theorem pe_ninit {N : Addr} {p1 p2 : Pos} {pl : Sem Bool} (T : NtC X.K N) (hg : Gl X x) (hm : X.mg x = some (.ref N)) (ha : PA X (e :: es) t) (hdb : (x == ("__debug__" : Str)) = false)
    (hc : eval (.Call (.Attribute (.Name x p1) "__init__" p2) (e :: es) [] pos) X.env = (do
      let ov ← eval (.Name x p1) X.env
      standAt p2.atName
      let (f, first) ← holding [ov] (getMethod ov "__init__" pl)
      callWith pos f first (backTo pos (starEach (e :: es) X.env)) (backToKw pos (keywordEach [] X.env))) := by rfl)
    (he : starEach (e :: es) X.env = (false, eval e X.env) :: starEach es X.env := by rfl) (hpl : (backTo pos (starEach es X.env)).any (·.1) = false := by rfl) :
    PE X (.Call (.Attribute (.Name x p1) "__init__" p2) (e :: es) [] pos) (tVeI X.K t) := by
  refine ⟨fun pins s σ H Q I h => ?_⟩
  refine PySem.W.methodCall_KW (ld_glob I hg hm ?_ hdb) hc
  refine PySem.W.method_cls I.kIn T.sp (PySem.W.cls_value I.kIn T.rd T.fi rfl ?_)
  show wpAny _ _ (callWith pos (Value.builtin "ValueError.__init__") [] (backTo pos (starEach (e :: es) X.env)) []) _ _ _
  refine PyProof.Rows.callWith_method1 (thn (ha.run pos pins _ σ H _ (I.tok _) h) fun us s1 ⟨vs, H1, I1, r1, a, C, ws, ev, hl, T', ea, q⟩ => ?_) he hpl
  subst ev
  cases r1 with
  | @cons _ u0 _ ur ra rw' =>
    obtain rfl : u0 = Value.ref a := ra
    have hlen : ur.length ≤ sizeLine := by
      rw [← Paired.length rw', sizeLine_eq]
      omega
    exact oinit_ok T' I1 ea hlen fun s' J => ⟨.non, H1, J, rfl, q⟩
end
end DL
end

section
set_option autoImplicit false
set_option maxRecDepth 100000
set_option maxHeartbeats 4000000
/-! Data layer: immutable data as trees, mutable cells apart, over the hand layer. -/
namespace DL
open PySem PySem.Spec PyProof.Rows L2
open PySem.W (Frag)

/-- the class that the program binds to this name -/
def CN (K : Frag) (n : Str) (C : Addr) : Prop := PySem.W.nsIn K mainGlobals n = some (some (.ref C))
/-- a datum: what a value is, all the way down -/
inductive D where
  | non | bl (b : Bool) | int (i : Int) | str (x : Str) | ty (n : String) | ref (a : Addr)
  | tup (xs : List D) | lst (xs : List D) | slst (xs : List D)
  | ins (C : Str) (fs : List (Str × D))
  | dct (kvs : List (Key × D))

mutual
def Rep (K : Frag) (B : Hp) : D → V → Prop
  | .non, v => v = .non
  | .bl b, v => v = .bl b
  | .int i, v => v = .int i
  | .str x, v => v = .str x
  | .ty n, v => v = .ty n
  | .ref a, v => v = .ref a
  | .tup ds, v => ∃ a vs, v = .ref a ∧ B a = some (.tup vs) ∧ Reps K B ds vs
  | .lst ds, v => ∃ a vs, v = .ref a ∧ B a = some (.lst vs) ∧ Reps K B ds vs
  | .slst ds, v => ∃ a vs, v = .ref a ∧ SqL K B a vs ∧ Reps K B ds vs
  | .ins n fs, v => ∃ C a dx vs, CN K n C ∧ v = .ref a ∧ B a = some (.ins C dx vs) ∧ RepF K B fs vs
  | .dct kvs, v => ∃ a vs, v = .ref a ∧ B a = some (.dK vs) ∧ RepK K B kvs vs
def Reps (K : Frag) (B : Hp) : List D → List V → Prop
  | [], vs => vs = []
  | d :: ds, vs => ∃ v r, vs = v :: r ∧ Rep K B d v ∧ Reps K B ds r
def RepF (K : Frag) (B : Hp) : List (Str × D) → List (Str × V) → Prop
  | [], vs => vs = []
  | (f, d) :: ds, vs => ∃ v r, vs = (f, v) :: r ∧ Rep K B d v ∧ RepF K B ds r
def RepK (K : Frag) (B : Hp) : List (Key × D) → List (Key × V) → Prop
  | [], vs => vs = []
  | (f, d) :: ds, vs => ∃ v r, vs = (f, v) :: r ∧ Rep K B d v ∧ RepK K B ds r
end

theorem sameT {K : Frag} {B B' : Hp} {a : Addr} {xs : List V} (s : Same B B') (h : B a = some (.tup xs)) : SqT K B' a xs := .of (s _ _ h)
theorem sameS {K : Frag} {B B' : Hp} {a : Addr} {xs : List V} (s : Same B B') (h : SqT K B a xs) : SqT K B' a xs := by
  rcases h with (h | ⟨o, h⟩) | h
  · exact .inl (.inl (s _ _ h))
  · exact .inl (.inr ⟨o, s _ _ h⟩)
  · exact .inr h

section
variable {K : Frag} {B B' : Hp}
mutual
theorem Rep.mono (s : Same B B') : ∀ (d : D) (v : V), Rep K B d v → Rep K B' d v
  | .non, _, h => h
  | .bl _, _, h => h
  | .int _, _, h => h
  | .str _, _, h => h
  | .ty _, _, h => h
  | .ref _, _, h => h
  | .tup ds, v, h => by
    obtain ⟨a, vs, e, q, r⟩ := h
    exact ⟨a, vs, e, s _ _ q, Reps.mono s ds vs r⟩
  | .lst ds, v, h => by
    obtain ⟨a, vs, e, q, r⟩ := h
    exact ⟨a, vs, e, s _ _ q, Reps.mono s ds vs r⟩
  | .slst ds, v, h => by
    obtain ⟨a, vs, e, q, r⟩ := h
    exact ⟨a, vs, e, s.seq q, Reps.mono s ds vs r⟩
  | .ins C fs, v, h => by
    obtain ⟨C, a, dx, vs, cn, e, q, r⟩ := h
    exact ⟨C, a, dx, vs, cn, e, s _ _ q, RepF.mono s fs vs r⟩
  | .dct kvs, v, h => by
    obtain ⟨a, vs, e, q, r⟩ := h
    exact ⟨a, vs, e, s _ _ q, RepK.mono s kvs vs r⟩
theorem Reps.mono (s : Same B B') : ∀ (ds : List D) (vs : List V), Reps K B ds vs → Reps K B' ds vs
  | [], _, h => h
  | d :: ds, vs, h => by
    obtain ⟨v, r, e, h1, h2⟩ := h
    exact ⟨v, r, e, Rep.mono s d v h1, Reps.mono s ds r h2⟩
theorem RepF.mono (s : Same B B') : ∀ (ds : List (Str × D)) (vs : List (Str × V)), RepF K B ds vs → RepF K B' ds vs
  | [], _, h => h
  | (f, d) :: ds, vs, h => by
    obtain ⟨v, r, e, h1, h2⟩ := h
    exact ⟨v, r, e, Rep.mono s d v h1, RepF.mono s ds r h2⟩
theorem RepK.mono (s : Same B B') : ∀ (ds : List (Key × D)) (vs : List (Key × V)), RepK K B ds vs → RepK K B' ds vs
  | [], _, h => h
  | (f, d) :: ds, vs, h => by
    obtain ⟨v, r, e, h1, h2⟩ := h
    exact ⟨v, r, e, Rep.mono s d v h1, RepK.mono s ds r h2⟩
end
end

theorem Reps.length {K : Frag} {B : Hp} : ∀ {ds : List D} {vs : List V}, Reps K B ds vs → vs.length = ds.length
  | [], _, h => by
    cases h
    rfl
  | d :: ds, vs, h => by
    obtain ⟨v, r, e, _, h2⟩ := h
    subst e
    rw [List.length_cons, List.length_cons, Reps.length h2]
theorem Reps.get {K : Frag} {B : Hp} : ∀ {ds : List D} {vs : List V} {i : Nat} {d : D}, Reps K B ds vs → ds[i]? = some d → ∃ v, vs[i]? = some v ∧ Rep K B d v
  | [], _, _, _, _, e => by simp at e
  | d :: ds, vs, 0, d', h, e => by
    obtain ⟨v, r, ev, h1, h2⟩ := h
    subst ev
    have e' : d = d' := by simpa using e
    subst e'
    exact ⟨v, rfl, h1⟩
  | d :: ds, vs, i + 1, d', h, e => by
    obtain ⟨v, r, ev, h1, h2⟩ := h
    subst ev
    obtain ⟨u, h3, h4⟩ := Reps.get (i := i) (d := d') h2 (by simpa using e)
    exact ⟨u, by simpa using h3, h4⟩
theorem Reps.get' {K : Frag} {B : Hp} {ds : List D} {vs : List V} {i : Nat} {v : V} (h : Reps K B ds vs) (e : vs[i]? = some v) : ∃ d, ds[i]? = some d ∧ Rep K B d v := by
  have hl := h.length
  have hi : i < ds.length := by
    have := (List.getElem?_eq_some_iff.mp e).1
    omega
  obtain ⟨u, h1, h2⟩ := h.get (List.getElem?_eq_getElem hi)
  rw [e] at h1
  cases h1
  exact ⟨_, List.getElem?_eq_getElem hi, h2⟩
theorem Reps.append {K : Frag} {B : Hp} : ∀ {ds es : List D} {vs us : List V}, Reps K B ds vs → Reps K B es us → Reps K B (ds ++ es) (vs ++ us)
  | [], _, _, _, h, g => by
    cases h
    exact g
  | d :: ds, es, vs, us, h, g => by
    obtain ⟨v, r, ev, h1, h2⟩ := h
    subst ev
    exact ⟨v, r ++ us, rfl, h1, Reps.append h2 g⟩
theorem Reps.take {K : Frag} {B : Hp} : ∀ {ds : List D} {vs : List V} (n : Nat), Reps K B ds vs → Reps K B (ds.take n) (vs.take n)
  | _, _, 0, _ => rfl
  | [], _, n + 1, h => by
    cases h
    rfl
  | d :: ds, vs, n + 1, h => by
    obtain ⟨v, r, ev, h1, h2⟩ := h
    subst ev
    exact ⟨v, r.take n, rfl, h1, Reps.take n h2⟩
theorem Reps.drop {K : Frag} {B : Hp} : ∀ {ds : List D} {vs : List V} (n : Nat), Reps K B ds vs → Reps K B (ds.drop n) (vs.drop n)
  | _, _, 0, h => h
  | [], _, n + 1, h => by
    cases h
    rfl
  | d :: ds, vs, n + 1, h => by
    obtain ⟨v, r, ev, h1, h2⟩ := h
    subst ev
    exact Reps.drop (ds := ds) (vs := r) n h2
theorem Reps.set {K : Frag} {B : Hp} {d : D} {v : V} (q : Rep K B d v) : ∀ {ds : List D} {vs : List V} (n : Nat), Reps K B ds vs → Reps K B (ds.set n d) (vs.set n v)
  | [], _, n, h => by
    cases h
    rfl
  | e :: ds, vs, 0, h => by
    obtain ⟨u, r, ev, h1, h2⟩ := h
    subst ev
    exact ⟨v, r, rfl, q, h2⟩
  | e :: ds, vs, n + 1, h => by
    obtain ⟨u, r, ev, h1, h2⟩ := h
    subst ev
    exact ⟨u, r.set n v, rfl, h1, Reps.set q n h2⟩
theorem Reps.reverse {K : Frag} {B : Hp} : ∀ {ds : List D} {vs : List V}, Reps K B ds vs → Reps K B ds.reverse vs.reverse
  | [], _, h => by
    cases h
    rfl
  | d :: ds, vs, h => by
    obtain ⟨v, r, ev, h1, h2⟩ := h
    subst ev
    rw [List.reverse_cons, List.reverse_cons]
    exact (Reps.reverse h2).append ⟨v, [], rfl, h1, rfl⟩
theorem Reps.ofInts {K : Frag} {B : Hp} : ∀ (ns : List Int), Reps K B (ns.map D.int) (ns.map V.int)
  | [] => rfl
  | n :: ns => ⟨_, _, rfl, rfl, Reps.ofInts ns⟩
theorem Reps.bls {K : Frag} {B : Hp} : ∀ {ns : List Bool} {vs : List V}, Reps K B (ns.map D.bl) vs → vs = ns.map V.bl
  | [], _, h => h
  | n :: ns, vs, h => by
    obtain ⟨v, r, ev, h1, h2⟩ := h
    subst ev
    cases h1
    rw [Reps.bls h2]
    rfl

/-! ### cells -/
inductive Cel where
  | lst (ds : List D)
  | ins (C : Str) (fs : List (Str × D))
  | dct (kvs : List (Key × D))
  | xd (fs : List (Str × D))
  | dt (kvs : List (List Key × D))
  | tb (q : Str)
/-- the table of code objects of the def that the module binds to q -/
def TN (K : Frag) (q : Str) (P : Addr) : Prop := ∃ (g c : Addr) (oc : Value) (od : Option Addr) (fd : FuncData) (osl : Array (Option Value)), CN K q g ∧ K.lookup g = some ⟨oc, od, .func fd, osl⟩ ∧ fd.code = .ref c ∧ PySem.W.codeHdIn K c P = true
/-- the name of a lambda in the def q -/
def lamQ (q : Str) : Str := q ++ ".<locals>." ++ "<lambda>"
/-- a dict whose keys are tuples -/
abbrev RepT (K : Frag) (B : Hp) : List (List Key × D) → List (List Key × V) → Prop := Paired fun p q => p.1 = q.1 ∧ Rep K B p.2 q.2
def CelOk (K : Frag) (B H : Hp) (a : Addr) : Cel → Prop
  | .lst ds => ∃ vs, H a = some (.lst vs) ∧ Reps K B ds vs
  | .ins n fs => ∃ C dx vs, CN K n C ∧ H a = some (.ins C dx vs) ∧ RepF K B fs vs
  | .dct kvs => ∃ vs, H a = some (.dK vs) ∧ RepK K B kvs vs
  | .xd fs => ∃ vs, H a = some (.xd vs) ∧ RepF K B fs vs
  | .dt kvs => ∃ vs, H a = some (.dT vs) ∧ RepT K B kvs vs
  | .tb q => TN K q a ∧ ∃ ps : Array Value, H a = some (.tbl ps) ∧ TriplesOk ps.toList ∧ ∀ (pos : Pos) (cv : Value), codeAmong pos ps.toList = some cv → ∃ c, cv = .ref c ∧ B c = some (LamX.CodeO c (lamQ q))
abbrev Sto := List (Addr × Cel)
/-- no table of code objects among what is frozen -/
def NoTb (B : Hp) : Prop := ∀ b ps, B b ≠ some (.tbl ps)
theorem NoTb.upd {B : Hp} (n : NoTb B) {p : Addr} {o : HO} (ho : ∀ ps, o ≠ HO.tbl ps) : NoTb (upd B p o) := fun b ps e => by
  by_cases hb : b = p
  · subst hb
    rw [upd_same] at e
    exact ho ps (Option.some.inj e)
  · rw [upd_ne hb] at e
    exact n b ps e
/-- the heap: what is frozen at B, the cells S -/
structure RelH (K : Frag) (B0 B : Hp) (S : Sto) (H : Hp) : Prop where
  lo : Same B0 B
  sub : Same B H
  cel : ∀ p ∈ S, B p.1 = none ∧ CelOk K B H p.1 p.2
  nd : (S.map (·.1)).Nodup ∧ NoTb B
abbrev Loc := List (Option D)
structure Rel (K : Frag) (B0 B : Hp) (G : Loc) (S : Sto) (σ : L2.St) (H : Hp) : Prop extends RelH K B0 B S H where
  len : σ.length = G.length
  loc : ∀ (i : Nat) (d : D), G[i]? = some (some d) → ∃ v, σ[i]? = some (some v) ∧ Rep K B d v

theorem CelOk.mono {K : Frag} {B B' H : Hp} {a : Addr} {c : Cel} (s : Same B B') (h : CelOk K B H a c) : CelOk K B' H a c := by
  cases c with
  | lst ds =>
    obtain ⟨vs, e, r⟩ := h
    exact ⟨vs, e, Reps.mono s _ _ r⟩
  | ins C fs =>
    obtain ⟨C, dx, vs, cn, e, r⟩ := h
    exact ⟨C, dx, vs, cn, e, RepF.mono s _ _ r⟩
  | dct kvs =>
    obtain ⟨vs, e, r⟩ := h
    exact ⟨vs, e, RepK.mono s _ _ r⟩
  | xd fs =>
    obtain ⟨vs, e, r⟩ := h
    exact ⟨vs, e, RepF.mono s _ _ r⟩
  | dt kvs =>
    obtain ⟨vs, e, r⟩ := h
    exact ⟨vs, e, Paired.mapP r fun _ _ z => ⟨z.1, Rep.mono s _ _ z.2⟩⟩
  | tb q =>
    obtain ⟨t, ps, e, o, r⟩ := h
    exact ⟨t, ps, e, o, fun pos cv z => let ⟨c, e1, e2⟩ := r pos cv z; ⟨c, e1, s _ _ e2⟩⟩
theorem CelOk.heap {K : Frag} {B H H' : Hp} {a : Addr} {c : Cel} (e : H' a = H a) (h : CelOk K B H a c) : CelOk K B H' a c := by
  cases c with
  | lst ds =>
    obtain ⟨vs, q, r⟩ := h
    exact ⟨vs, e.trans q, r⟩
  | ins C fs =>
    obtain ⟨C, dx, vs, cn, q, r⟩ := h
    exact ⟨C, dx, vs, cn, e.trans q, r⟩
  | dct kvs =>
    obtain ⟨vs, q, r⟩ := h
    exact ⟨vs, e.trans q, r⟩
  | xd fs =>
    obtain ⟨vs, q, r⟩ := h
    exact ⟨vs, e.trans q, r⟩
  | dt kvs =>
    obtain ⟨vs, q, r⟩ := h
    exact ⟨vs, e.trans q, r⟩
  | tb x =>
    obtain ⟨t, ps, q, r⟩ := h
    exact ⟨t, ps, e.trans q, r⟩
theorem CelOk.there {K : Frag} {B H : Hp} {a : Addr} {c : Cel} (h : CelOk K B H a c) : H a ≠ none := by
  cases c with
  | lst ds =>
    obtain ⟨vs, q, r⟩ := h
    rw [q]
    exact fun z => by cases z
  | ins C fs =>
    obtain ⟨C, dx, vs, cn, q, r⟩ := h
    rw [q]
    exact fun z => by cases z
  | dct kvs =>
    obtain ⟨vs, q, r⟩ := h
    rw [q]
    exact fun z => by cases z
  | xd kvs =>
    obtain ⟨vs, q, r⟩ := h
    rw [q]
    exact fun z => by cases z
  | dt kvs =>
    obtain ⟨vs, q, r⟩ := h
    rw [q]
    exact fun z => by cases z
  | tb x =>
    obtain ⟨t, ps, q, r⟩ := h
    rw [q]
    exact fun z => by cases z

section
variable {K : Frag} {B0 B : Hp} {G : Loc} {S : Sto} {σ : L2.St} {H : Hp}
theorem same_upd {H : Hp} {p : Addr} {o : HO} (h : H p = none) : Same H (upd H p o) := fun b x e => by
  rw [upd_ne (ne_of_none e h)]
  exact e
theorem same_upd2 {B H : Hp} {p : Addr} {o : HO} (s : Same B H) (h : B p = none) : Same (upd B p o) (upd H p o) := fun b x e => by
  by_cases hb : b = p
  · subst hb
    rw [upd_same] at e ⊢
    exact e
  · rw [upd_ne hb] at e ⊢
    exact s b x e
theorem RelH.bnone (R : RelH K B0 B S H) {p : Addr} (h : H p = none) : B p = none := R.sub.free h
theorem RelH.ne (R : RelH K B0 B S H) {p : Addr} (h : H p = none) : ∀ q ∈ S, q.1 ≠ p := fun q hq e => by
  have := (R.cel q hq).2.there
  rw [e] at this
  exact this h
/-- a frozen object is laid -/
theorem RelH.laid (R : RelH K B0 B S H) {p : Addr} {o : HO} (h : H p = none) (ho : ∀ ps, o ≠ HO.tbl ps := by intro ps h; cases h) : RelH K B0 (upd B p o) S (upd H p o) :=
  ⟨R.lo.trans (same_upd (R.bnone h)), same_upd2 R.sub (R.bnone h), fun q hq => by
    have ne := R.ne h q hq
    obtain ⟨h1, h2⟩ := R.cel q hq
    refine ⟨by rw [upd_ne ne]; exact h1, (h2.mono (same_upd (R.bnone h))).heap (by rw [upd_ne ne])⟩, R.nd.1, R.nd.2.upd ho⟩
theorem Rel.laid (R : Rel K B0 B G S σ H) {p : Addr} {o : HO} (h : H p = none) (ho : ∀ ps, o ≠ HO.tbl ps := by intro ps h; cases h) : Rel K B0 (upd B p o) G S σ (upd H p o) :=
  ⟨R.toRelH.laid h ho, R.len, fun i d e => by
    obtain ⟨v, h1, h2⟩ := R.loc i d e
    exact ⟨v, h1, Rep.mono (same_upd (R.bnone h)) d v h2⟩⟩
/-- a new cell -/
theorem RelH.cell (R : RelH K B0 B S H) {p : Addr} {o : HO} {c : Cel} (h : H p = none) (hc : CelOk K B (upd H p o) p c) : RelH K B0 B ((p, c) :: S) (upd H p o) :=
  ⟨R.lo, R.sub.trans (same_upd h), fun q hq => by
    rcases List.mem_cons.mp hq with e | hq
    · subst e
      exact ⟨R.bnone h, hc⟩
    · have ne := R.ne h q hq
      obtain ⟨h1, h2⟩ := R.cel q hq
      exact ⟨h1, h2.heap (by rw [upd_ne ne])⟩, by
    rw [List.map_cons, List.nodup_cons]
    refine ⟨⟨fun hm => ?_, R.nd.1⟩, R.nd.2⟩
    obtain ⟨q, hq, e⟩ := List.mem_map.mp hm
    exact R.ne h q hq e⟩
theorem Rel.cell (R : Rel K B0 B G S σ H) {p : Addr} {o : HO} {c : Cel} (h : H p = none) (hc : CelOk K B (upd H p o) p c) : Rel K B0 B G ((p, c) :: S) σ (upd H p o) :=
  ⟨R.toRelH.cell h hc, R.len, R.loc⟩
/-- the cells but the k-th -/
theorem RelH.others (R : RelH K B0 B S H) {k : Nat} {a : Addr} {c : Cel} (h : S[k]? = some (a, c)) : ∀ (j : Nat) (q : Addr × Cel), S[j]? = some q → j ≠ k → q.1 ≠ a := fun j q hj ne e => by
  have h1 : (S.map (·.1))[k]? = some a := by rw [List.getElem?_map, h]; rfl
  have h2 : (S.map (·.1))[j]? = some a := by rw [List.getElem?_map, hj, ← e]; rfl
  exact ne (nodup_ix' R.nd.1 h2 h1)
where
  nodup_ix' {α : Type} {l : List α} (hN : l.Nodup) {i j : Nat} {x : α} (a : l[i]? = some x) (b : l[j]? = some x) : i = j := by
    obtain ⟨h1, e1⟩ := List.getElem?_eq_some_iff.mp a
    obtain ⟨h2, e2⟩ := List.getElem?_eq_some_iff.mp b
    exact (List.getElem_inj hN).mp (e1.trans e2.symm)
/-- a cell is written -/
theorem RelH.write (R : RelH K B0 B S H) {k : Nat} {a : Addr} {c c' : Cel} {o : HO} (h : S[k]? = some (a, c)) (hc : CelOk K B (upd H a o) a c') : RelH K B0 B (S.set k (a, c')) (upd H a o) := by
  have hk : k < S.length := (List.getElem?_eq_some_iff.mp h).1
  have ha := (R.cel (a, c) (List.mem_of_getElem? h)).1
  refine ⟨R.lo, fun b x e => ?_, fun q hq => ?_, ?_⟩
  · rw [upd_ne (ne_of_none e ha)]
    exact R.sub b x e
  · obtain ⟨j, hj⟩ := List.mem_iff_getElem?.mp hq
    by_cases ej : j = k
    · subst ej
      rw [List.getElem?_set_self hk] at hj
      cases hj
      exact ⟨ha, hc⟩
    · rw [List.getElem?_set_ne (Ne.symm ej)] at hj
      have ne := R.others h j q hj ej
      obtain ⟨h1, h2⟩ := R.cel q (List.mem_of_getElem? hj)
      exact ⟨h1, h2.heap (by rw [upd_ne ne])⟩
  · have e : (S.set k (a, c')).map (·.1) = S.map (·.1) := by
      apply List.ext_getElem?
      intro j
      rw [List.getElem?_map, List.getElem?_map]
      by_cases ej : j = k
      · subst ej
        rw [List.getElem?_set_self hk, h]
        rfl
      · rw [List.getElem?_set_ne (Ne.symm ej)]
    rw [e]
    exact R.nd
theorem Rel.write (R : Rel K B0 B G S σ H) {k : Nat} {a : Addr} {c c' : Cel} {o : HO} (h : S[k]? = some (a, c)) (hc : CelOk K B (upd H a o) a c') : Rel K B0 B G (S.set k (a, c')) σ (upd H a o) :=
  ⟨R.toRelH.write h hc, R.len, R.loc⟩
/-- cells are forgotten -/
theorem RelH.drop (R : RelH K B0 B S H) {S' : Sto} (h : S'.Sublist S) : RelH K B0 B S' H :=
  ⟨R.lo, R.sub, fun q hq => R.cel q (h.subset hq), R.nd.1.sublist (h.map _), R.nd.2⟩
theorem Rel.drop (R : Rel K B0 B G S σ H) {S' : Sto} (h : S'.Sublist S) : Rel K B0 B G S' σ H := ⟨R.toRelH.drop h, R.len, R.loc⟩
/-- a list cell is frozen -/
theorem RelH.freeze (R : RelH K B0 B S H) {k : Nat} {a : Addr} {ds : List D} (h : S[k]? = some (a, .lst ds)) : ∃ B', Same B B' ∧ RelH K B0 B' (S.eraseIdx k) H ∧ Rep K B' (.lst ds) (.ref a) := by
  obtain ⟨ha, vs, hv, hr⟩ := R.cel (a, .lst ds) (List.mem_of_getElem? h)
  have s := same_upd (o := HO.lst vs) ha
  refine ⟨upd B a (.lst vs), s, ⟨R.lo.trans s, fun b x e => ?_, fun q hq => ?_, R.nd.1.sublist ((List.eraseIdx_sublist S k).map _), R.nd.2.upd fun ps h => by cases h⟩, a, vs, rfl, upd_same, Reps.mono s _ _ hr⟩
  · by_cases hb : b = a
    · subst hb
      rw [upd_same] at e
      cases e
      exact hv
    · rw [upd_ne hb] at e
      exact R.sub b x e
  · obtain ⟨j, hj, hne⟩ : ∃ j, S[j]? = some q ∧ j ≠ k := by
      obtain ⟨i, hi⟩ := List.mem_iff_getElem?.mp hq
      rw [List.getElem?_eraseIdx] at hi
      split at hi
      · exact ⟨i, hi, by omega⟩
      · exact ⟨i + 1, hi, by omega⟩
    have ne := R.others h j q hj hne
    obtain ⟨h1, h2⟩ := R.cel q (List.mem_of_getElem? hj)
    exact ⟨by rw [upd_ne ne]; exact h1, h2.mono s⟩
theorem RelH.freezeI (R : RelH K B0 B S H) {k : Nat} {a : Addr} {n : Str} {fs : List (Str × D)} (h : S[k]? = some (a, .ins n fs)) : ∃ B', Same B B' ∧ RelH K B0 B' (S.eraseIdx k) H ∧ Rep K B' (.ins n fs) (.ref a) := by
  obtain ⟨ha, C, dx, vs, cn, hv, hr⟩ := R.cel (a, .ins n fs) (List.mem_of_getElem? h)
  have s := same_upd (o := HO.ins C dx vs) ha
  refine ⟨upd B a (.ins C dx vs), s, ⟨R.lo.trans s, fun b x e => ?_, fun q hq => ?_, R.nd.1.sublist ((List.eraseIdx_sublist S k).map _), R.nd.2.upd fun ps h => by cases h⟩, C, a, dx, vs, cn, rfl, upd_same, RepF.mono s _ _ hr⟩
  · by_cases hb : b = a
    · subst hb
      rw [upd_same] at e
      cases e
      exact hv
    · rw [upd_ne hb] at e
      exact R.sub b x e
  · obtain ⟨j, hj, hne⟩ : ∃ j, S[j]? = some q ∧ j ≠ k := by
      obtain ⟨i, hi⟩ := List.mem_iff_getElem?.mp hq
      rw [List.getElem?_eraseIdx] at hi
      split at hi
      · exact ⟨i, hi, by omega⟩
      · exact ⟨i + 1, hi, by omega⟩
    have ne := R.others h j q hj hne
    obtain ⟨h1, h2⟩ := R.cel q (List.mem_of_getElem? hj)
    exact ⟨by rw [upd_ne ne]; exact h1, h2.mono s⟩
theorem Rel.up (R : Rel K B0 B G S σ H) {B' : Hp} {S' : Sto} {H' : Hp} (s : Same B B') (h : RelH K B0 B' S' H') : Rel K B0 B' G S' σ H' :=
  ⟨h, R.len, fun i d e => by
    obtain ⟨v, h1, h2⟩ := R.loc i d e
    exact ⟨v, h1, Rep.mono s d v h2⟩⟩
theorem Rel.set (R : Rel K B0 B G S σ H) {i : Nat} {d : D} {v : V} (hi : i < G.length) (r : Rep K B d v) : Rel K B0 B (G.set i (some d)) S (σ.set i (some v)) H :=
  ⟨R.toRelH, by rw [List.length_set, List.length_set]; exact R.len, fun j e h => by
    by_cases ej : j = i
    · subst ej
      rw [List.getElem?_set_self hi] at h
      cases h
      exact ⟨v, by rw [List.getElem?_set_self (by rw [R.len]; exact hi)], r⟩
    · rw [List.getElem?_set_ne (Ne.symm ej)] at h
      obtain ⟨u, h1, h2⟩ := R.loc j e h
      exact ⟨u, by rw [List.getElem?_set_ne (Ne.symm ej)]; exact h1, h2⟩⟩
/-- slots are forgotten -/
def Less (G G' : Loc) : Prop := G.length = G'.length ∧ ∀ (i : Nat) (d : D), G'[i]? = some (some d) → G[i]? = some (some d)
theorem Less.refl (G : Loc) : Less G G := ⟨rfl, fun _ _ h => h⟩
theorem Rel.less (R : Rel K B0 B G S σ H) {G' : Loc} (h : Less G G') : Rel K B0 B G' S σ H := ⟨R.toRelH, R.len.trans h.1, fun i d e => R.loc i d (h.2 i d e)⟩
end
end DL
end

section
set_option autoImplicit false
set_option maxRecDepth 100000
set_option maxHeartbeats 4000000
namespace DL
open PySem PySem.Spec PyProof.Rows L2
open PySem.W (Frag)

/-! ### the best readings -/
def tE (X : Cx) (e : Expr) : TE := fun σ H Q => ∀ pins s, Inv X pins σ H s → wpAny (model X.prog X.w) X.A (eval e X.env) (EP X pins σ Q) X.xe s
def tT (X : Cx) (e : Expr) : TT := fun σ H Q => ∀ pins s, Inv X pins σ H s → wpAny (model X.prog X.w) X.A (isTrue e X.env (eval e X.env)) (TP X pins σ Q) X.xe s
def tW (X : Cx) (e : Expr) : TT := fun σ H Q => ∀ whole pins s, Inv X pins σ H s → wpAny (model X.prog X.w) X.A (isTrue e X.env whole) (TP X pins σ Q) X.xe s
def tA (X : Cx) (es : List Expr) : TA := fun σ H Q => ∀ pos pins s, Inv X pins σ H s → wpAny (model X.prog X.w) X.A (spliced (backTo pos (starEach es X.env))) (AP X pins σ Q) X.xe s
def tS (X : Cx) (st : Stmt) : TS := fun D σ H => ∀ pins s, Inv X pins σ H s → wpAny (model X.prog X.w) X.A (exec st X.env) (SP X pins D) X.xe s
def tSs (X : Cx) (st : List Stmt) : TS := fun D σ H => ∀ pins s, Inv X pins σ H s → wpAny (model X.prog X.w) X.A (execs st X.env) (SP X pins D) X.xe s
def tG (X : Cx) (tg : Expr) : TG := fun v σ H Q => ∀ pins s u, Inv X pins σ H s → RelV v u → wpAny (model X.prog X.w) X.A (assign tg X.env u) (fun _ s' => ∃ σ' H', Inv X pins σ' H' s' ∧ Q σ' H') X.xe s
def tGs (X : Cx) (ts : List Expr) : TGs := fun vs σ H Q => ∀ pins s us, Inv X pins σ H s → Vals vs us → wpAny (model X.prog X.w) X.A (assignInOrder ((assignEach ts X.env).map (·.2)) us) (fun _ s' => ∃ σ' H', Inv X pins σ' H' s' ∧ Q σ' H') X.xe s
def tI (X : Cx) (tg iter : Expr) : TI := fun σ H R => ∀ pins s, Inv X pins σ H s → wpAny (model X.prog X.w) X.A (eval iter X.env) (fun v s1 => wpAny (model X.prog X.w) X.A (pyIter v) (PIE X pins σ tg R) X.xe s1) X.xe s
section
variable {X : Cx}
theorem pe_self (e : Expr) : PE X e (tE X e) := ⟨fun pins s σ H Q I h => h pins s I⟩
theorem pt_self (e : Expr) : PT X e (tT X e) := ⟨fun pins s σ H Q I h => h pins s I⟩
theorem pw_self (e : Expr) : PW X e (tW X e) := ⟨fun wh pins s σ H Q I h => h wh pins s I⟩
theorem pa_self (es : List Expr) : PA X es (tA X es) := ⟨fun pos pins s σ H Q I h => h pos pins s I⟩
theorem ps_self (st : Stmt) : PS X st (tS X st) := ⟨fun pins s σ H D I h => h pins s I⟩
theorem pss_self (st : List Stmt) : PSs X st (tSs X st) := ⟨fun pins s σ H D I h => h pins s I⟩
theorem pg_self (tg : Expr) : PG X tg (tG X tg) := ⟨fun pins s σ H v u Q I r h => h pins s u I r⟩
theorem pgs_self (ts : List Expr) : PGs X ts (tGs X ts) := ⟨fun pins s σ H v u Q I r h => h pins s u I r⟩
theorem pi_self (tg iter : Expr) : PI X tg iter (tI X tg iter) := ⟨fun pins s σ H R I h => h pins s I⟩
theorem tE_of {e : Expr} {t : TE} {σ : L2.St} {H : Hp} {Q : VK} (p : PE X e t) (h : t σ H Q) : tE X e σ H Q := fun pins s I => p.run pins s σ H Q I h
theorem tT_of {e : Expr} {t : TT} {σ : L2.St} {H : Hp} {Q : Bool → Hp → Prop} (p : PT X e t) (h : t σ H Q) : tT X e σ H Q := fun pins s I => p.run pins s σ H Q I h
theorem tW_of {e : Expr} {t : TT} {σ : L2.St} {H : Hp} {Q : Bool → Hp → Prop} (p : PW X e t) (h : t σ H Q) : tW X e σ H Q := fun wh pins s I => p.run wh pins s σ H Q I h
theorem tA_of {es : List Expr} {t : TA} {σ : L2.St} {H : Hp} {Q : List V → Hp → Prop} (p : PA X es t) (h : t σ H Q) : tA X es σ H Q := fun pos pins s I => p.run pos pins s σ H Q I h
theorem tS_of {st : Stmt} {t : TS} {σ : L2.St} {H : Hp} {D : Ends} (p : PS X st t) (h : t D σ H) : tS X st D σ H := fun pins s I => p.run pins s σ H D I h
theorem tSs_of {st : List Stmt} {t : TS} {σ : L2.St} {H : Hp} {D : Ends} (p : PSs X st t) (h : t D σ H) : tSs X st D σ H := fun pins s I => p.run pins s σ H D I h
theorem tG_of {tg : Expr} {t : TG} {σ : L2.St} {H : Hp} {v : V} {Q : L2.St → Hp → Prop} (p : PG X tg t) (h : t v σ H Q) : tG X tg v σ H Q := fun pins s u I r => p.run pins s σ H v u Q I r h
theorem tGs_of {ts : List Expr} {t : TGs} {σ : L2.St} {H : Hp} {vs : List V} {Q : L2.St → Hp → Prop} (p : PGs X ts t) (h : t vs σ H Q) : tGs X ts vs σ H Q := fun pins s u I r => p.run pins s σ H vs u Q I r h
theorem tI_of {tg iter : Expr} {t : TI} {σ : L2.St} {H : Hp} {R : It → Hp → Prop} (p : PI X tg iter t) (h : t σ H R) : tI X tg iter σ H R := fun pins s I => p.run pins s σ H R I h
theorem tE_mono {e : Expr} {σ : L2.St} {H : Hp} {Q Q' : VK} (h : tE X e σ H Q) (k : ∀ v H', Q v H' → Q' v H') : tE X e σ H Q' := fun pins s I =>
  thn (h pins s I) fun u s' ⟨v, H', I', r, q⟩ => ⟨v, H', I', r, k v H' q⟩
theorem tT_mono {e : Expr} {σ : L2.St} {H : Hp} {Q Q' : Bool → Hp → Prop} (h : tT X e σ H Q) (k : ∀ b H', Q b H' → Q' b H') : tT X e σ H Q' := fun pins s I =>
  thn (h pins s I) fun u s' ⟨H', I', q⟩ => ⟨H', I', k _ H' q⟩
theorem tW_mono {e : Expr} {σ : L2.St} {H : Hp} {Q Q' : Bool → Hp → Prop} (h : tW X e σ H Q) (k : ∀ b H', Q b H' → Q' b H') : tW X e σ H Q' := fun wh pins s I =>
  thn (h wh pins s I) fun u s' ⟨H', I', q⟩ => ⟨H', I', k _ H' q⟩
theorem tA_mono {es : List Expr} {σ : L2.St} {H : Hp} {Q Q' : List V → Hp → Prop} (h : tA X es σ H Q) (k : ∀ v H', Q v H' → Q' v H') : tA X es σ H Q' := fun pos pins s I =>
  thn (h pos pins s I) fun u s' ⟨v, H', I', r, q⟩ => ⟨v, H', I', r, k v H' q⟩
theorem tG_mono {tg : Expr} {v : V} {σ : L2.St} {H : Hp} {Q Q' : L2.St → Hp → Prop} (h : tG X tg v σ H Q) (k : ∀ σ' H', Q σ' H' → Q' σ' H') : tG X tg v σ H Q' := fun pins s u I r =>
  thn (h pins s u I r) fun _ s' ⟨σ', H', I', q⟩ => ⟨σ', H', I', k _ _ q⟩
theorem tGs_mono {ts : List Expr} {v : List V} {σ : L2.St} {H : Hp} {Q Q' : L2.St → Hp → Prop} (h : tGs X ts v σ H Q) (k : ∀ σ' H', Q σ' H' → Q' σ' H') : tGs X ts v σ H Q' := fun pins s u I r =>
  thn (h pins s u I r) fun _ s' ⟨σ', H', I', q⟩ => ⟨σ', H', I', k _ _ q⟩
theorem tI_mono {tg iter : Expr} {σ : L2.St} {H : Hp} {R R' : It → Hp → Prop} (h : tI X tg iter σ H R) (k : ∀ J H', R J H' → R' J H') : tI X tg iter σ H R' := fun pins s I =>
  thn (h pins s I) fun v s1 h1 => thn h1 fun itv s2 ⟨it, fp, tn, J, H', e, I', T, t0, f, q⟩ => ⟨it, fp, tn, J, H', e, I', T, t0, f, k J H' q⟩
/-- the ends weakened -/
structure EndsLe (D D' : Ends) : Prop where
  nx : ∀ σ H, D.nx σ H → D'.nx σ H
  rt : ∀ v H, D.rt v H → D'.rt v H
  bk : ∀ σ H, D.bk σ H → D'.bk σ H
  ct : ∀ σ H, D.ct σ H → D'.ct σ H
theorem sp_le {pins : List (Addr × Obj)} {D D' : Ends} {f : Flow} {s' : Shared} (h : SP X pins D f s') (k : EndsLe D D') : SP X pins D' f s' := by
  cases f with
  | next => obtain ⟨σ', H', I, q⟩ := h; exact ⟨σ', H', I, k.nx _ _ q⟩
  | brk => obtain ⟨σ', H', I, q⟩ := h; exact ⟨σ', H', I, k.bk _ _ q⟩
  | cont => obtain ⟨σ', H', I, q⟩ := h; exact ⟨σ', H', I, k.ct _ _ q⟩
  | ret u => obtain ⟨v, σ', H', I, r, q⟩ := h; exact ⟨v, σ', H', I, r, k.rt _ _ q⟩
theorem tS_mono {st : Stmt} {σ : L2.St} {H : Hp} {D D' : Ends} (h : tS X st D σ H) (k : EndsLe D D') : tS X st D' σ H := fun pins s I => thn (h pins s I) fun f s' q => sp_le q k
theorem tSs_mono {st : List Stmt} {σ : L2.St} {H : Hp} {D D' : Ends} (h : tSs X st D σ H) (k : EndsLe D D') : tSs X st D' σ H := fun pins s I => thn (h pins s I) fun f s' q => sp_le q k
end

/-! ### the context, the judgements -/
abbrev QD := D → Sto → Prop
/-- the program's refusals -/
inductive XN where
  | NoughtError | NoRow | NoBack | NothingPut | NoMeasure | NoPaper | TooMany | NoNumbers | NoLead | NoFit | NoInverse | NoShort | NoLadder | NoText | NoLine | NoName | Held | NoDrop
def XN.str : XN → Str
  | .NoughtError => "NoughtError" | .NoRow => "NoRow" | .NoBack => "NoBack" | .NothingPut => "NothingPut" | .NoMeasure => "NoMeasure" | .NoPaper => "NoPaper" | .TooMany => "TooMany" | .NoNumbers => "NoNumbers" | .NoLead => "NoLead"
  | .NoFit => "NoFit" | .NoInverse => "NoInverse" | .NoShort => "NoShort" | .NoLadder => "NoLadder" | .NoText => "NoText" | .NoLine => "NoLine" | .NoName => "NoName" | .Held => "Held" | .NoDrop => "NoDrop"
/-- what is wanted of an exception: its class, its fields, the cells -/
abbrev EXT := XN → List (Str × D) → Sto → Prop
def XD (K : Frag) (B0 : Hp) (EX : EXT) (cls : Value) (d : Option Addr) (H : Hp) : Prop := ∃ (n : XN) (C : Addr) (fs : List (Str × D)) (S : Sto) (B : Hp), CN K n.str C ∧ cls = .ref C ∧
  ((d = none ∧ fs = [] ∧ RelH K B0 B S H) ∨ ∃ dd, d = some dd ∧ fs ≠ [] ∧ RelH K B0 B ((dd, .xd fs) :: S) H) ∧ EX n fs S
/-- .. with the locals where it leaves -/
abbrev EXG := Loc → EXT
def XW (K : Frag) (B0 : Hp) (EX : EXG) : WX := fun cls d σ H => ∃ (n : XN) (C : Addr) (fs : List (Str × D)) (S : Sto) (B : Hp) (G : Loc), CN K n.str C ∧ cls = .ref C ∧
  ((d = none ∧ fs = [] ∧ Rel K B0 B G S σ H) ∨ ∃ dd, d = some dd ∧ fs ≠ [] ∧ Rel K B0 B G ((dd, .xd fs) :: S) σ H) ∧ EX G n fs S
/-- room for calls, handler or not -/
structure RoomC (k : Nat) (A : Around) : Prop where
  dp : A.depth + 3 * k + 5 < recursionLimit
  un : A.units + 16 * k + 200 < cLine
theorem RoomC.mono {j k : Nat} {A : Around} (r : RoomC k A) (h : j ≤ k) : RoomC j A := ⟨by have := r.dp; omega, by have := r.un; omega⟩
theorem RoomC.units {k : Nat} {A : Around} (r : RoomC k A) : A.units + 64 < cLine := by have := r.un; omega
/-- what a division by great numbers asks of the context -/
structure SeerX (X : Cx) : Prop where
  ns : X.base.NoSeer
  tree : X.prog.given.tree = none
  top : ∃ env l, X.stack = env :: l ∧ env.scope.isGenerator = false ∧ env.scope.isCoroutine = false ∧ env.builtins = builtinsNs ∧ env.globals = mainGlobals
theorem SeerX.at_ {X : Cx} (S : SeerX X) {pins : List (Addr × Obj)} {σ : L2.St} {H : Hp} {s : Shared} (I : Inv X pins σ H s) : SeerAt (model X.prog X.w) X.A s.heap := by
  obtain ⟨env, l, e, h1, h2, h3, h4⟩ := S.top
  exact SeerAt.of (S.ns.keeps I.bk) S.tree (I.ok.frames.trans (congrArg some e)) h1 h2 h3 h4
theorem op_fdivS {X : Cx} (S : SeerX X) (hd : X.A.depth + 105 < recursionLimit) : OpR X (binaryOp .FloorDiv) (rI (fun _ j => j ≠ 0) fun i j => .int (i.fdiv j)) := by
  intro pins s σ H x y v u Q I rx ry h
  obtain ⟨i, j, rfl, rfl, hc, q⟩ := h
  obtain ⟨t, rfl⟩ := rx
  obtain ⟨t', rfl⟩ := ry
  exact floordiv_int hc ⟨.int (i.fdiv j), H, I.tok _, ⟨_, rfl⟩, q⟩ (.inr (PylongRoom.of I.nolimit (by unfold Builtin.pylongFrames; omega) (S.at_ I)))
structure CD where
  X : Cx
  B0 : Hp
  EX : EXG
  k : Nat
  tk : Takes X (XW X.K B0 EX)
  hr : RoomC k X.A
  nd : X.N.Nodup
  sr : SeerX X
/-- outside every handler -/
class Calm (c : CD) : Prop where
  calm : c.X.calm = true
  hd : c.X.A.handled = none
theorem CD.room {c : CD} [q : Calm c] {k : Nat} (hk : k ≤ c.k) : Room k c.X.A := ⟨q.hd, (c.hr.mono hk).dp, (c.hr.mono hk).un⟩
/-- the relation in a context -/
abbrev CD.R (c : CD) (B : Hp) (G : Loc) (S : Sto) (σ : L2.St) (H : Hp) : Prop := Rel c.X.K c.B0 B G S σ H
def Post (c : CD) (B : Hp) (G : Loc) (σ : L2.St) (Q : QD) : VK := fun v H' => ∃ B' d S', Same B B' ∧ c.R B' G S' σ H' ∧ Rep c.X.K B' d v ∧ Q d S'
def PostB (c : CD) (B : Hp) (G : Loc) (σ : L2.St) (Q : Bool → Sto → Prop) : Bool → Hp → Prop := fun b H' => ∃ B' S', Same B B' ∧ c.R B' G S' σ H' ∧ Q b S'
def PostA (c : CD) (B : Hp) (G : Loc) (σ : L2.St) (Q : List D → Sto → Prop) : List V → Hp → Prop := fun vs H' => ∃ B' ds S', Same B B' ∧ c.R B' G S' σ H' ∧ Reps c.X.K B' ds vs ∧ Q ds S'
def W (c : CD) (e : Expr) (G : Loc) (S : Sto) (Q : QD) : Prop := ∀ B σ H, c.R B G S σ H → tE c.X e σ H (Post c B G σ Q)
def WT (c : CD) (e : Expr) (G : Loc) (S : Sto) (Q : Bool → Sto → Prop) : Prop := ∀ B σ H, c.R B G S σ H → tT c.X e σ H (PostB c B G σ Q)
def WW (c : CD) (e : Expr) (G : Loc) (S : Sto) (Q : Bool → Sto → Prop) : Prop := ∀ B σ H, c.R B G S σ H → tW c.X e σ H (PostB c B G σ Q)
def WA (c : CD) (es : List Expr) (G : Loc) (S : Sto) (Q : List D → Sto → Prop) : Prop := ∀ B σ H, c.R B G S σ H → tA c.X es σ H (PostA c B G σ Q)
/-- the ends of statements -/
structure DE where
  nx : Loc → Sto → Prop
  rt : QD
  bk : Loc → Sto → Prop := fun _ _ => False
  ct : Loc → Sto → Prop := fun _ _ => False
def PostS (c : CD) (B : Hp) (E : Loc → Sto → Prop) : L2.St → Hp → Prop := fun σ' H' => ∃ B' G' S', Same B B' ∧ c.R B' G' S' σ' H' ∧ E G' S'
def endsOf (c : CD) (B : Hp) (E : DE) : Ends where
  nx := PostS c B E.nx
  rt := fun v H' => ∃ B' d S', Same B B' ∧ RelH c.X.K c.B0 B' S' H' ∧ Rep c.X.K B' d v ∧ E.rt d S'
  bk := PostS c B E.bk
  ct := PostS c B E.ct
def WS (c : CD) (st : Stmt) (G : Loc) (S : Sto) (E : DE) : Prop := ∀ B σ H, c.R B G S σ H → tS c.X st (endsOf c B E) σ H
def WSs (c : CD) (st : List Stmt) (G : Loc) (S : Sto) (E : DE) : Prop := ∀ B σ H, c.R B G S σ H → tSs c.X st (endsOf c B E) σ H
def WG (c : CD) (tg : Expr) (d : D) (G : Loc) (S : Sto) (Q : Loc → Sto → Prop) : Prop := ∀ B σ H v, c.R B G S σ H → Rep c.X.K B d v → tG c.X tg v σ H (PostS c B Q)
def WGs (c : CD) (ts : List Expr) (ds : List D) (G : Loc) (S : Sto) (Q : Loc → Sto → Prop) : Prop := ∀ B σ H vs, c.R B G S σ H → Reps c.X.K B ds vs → tGs c.X ts vs σ H (PostS c B Q)
/-- J yields the data ds, one after the other -/
def Yields (c : CD) (B0 : Hp) (J : It) (ds : List D) : Prop := ∀ (K0 B : Hp) (G : Loc) (S : Sto) (σ : L2.St) (H : Hp), Same B0 B → Rel c.X.K K0 B G S σ H → ∀ i,
  (i < ds.length → J.go i H) ∧ (∀ x H', J.yld i H x H' → ∀ d, ds[i]? = some d → ∃ B', Same B B' ∧ Rel c.X.K K0 B' G S σ H' ∧ Rep c.X.K B' d x) ∧ (i = ds.length → J.stop i H)
def WI (c : CD) (tg iter : Expr) (G : Loc) (S : Sto) (Q : List D → Sto → Prop) : Prop := ∀ B σ H, c.R B G S σ H → tI c.X tg iter σ H fun J H1 => ∃ B1 ds S1, Same B B1 ∧ c.R B1 G S1 σ H1 ∧ Yields c B1 J ds ∧ Q ds S1

theorem PostS.le {c : CD} {B B' : Hp} {E E' : Loc → Sto → Prop} (s : Same B B') (k : ∀ G S, E G S → E' G S) {σ : L2.St} {H : Hp} (h : PostS c B' E σ H) : PostS c B E' σ H := by
  obtain ⟨B2, G, S, s2, R, q⟩ := h
  exact ⟨B2, G, S, s.trans s2, R, k G S q⟩
theorem endsLe {c : CD} {B B' : Hp} {E E' : DE} (s : Same B B') (k1 : ∀ G S, E.nx G S → E'.nx G S) (k2 : ∀ d S, E.rt d S → E'.rt d S) (k3 : ∀ G S, E.bk G S → E'.bk G S) (k4 : ∀ G S, E.ct G S → E'.ct G S) : EndsLe (endsOf c B' E) (endsOf c B E') :=
  ⟨fun _ _ h => h.le s k1, fun v H ⟨B2, d, S, s2, R, r, q⟩ => ⟨B2, d, S, s.trans s2, R, r, k2 d S q⟩, fun _ _ h => h.le s k3, fun _ _ h => h.le s k4⟩

/-! ### consequence, forgetting -/
section
variable {c : CD} {G : Loc} {S : Sto} {e a b : Expr} {pos : Pos}
theorem W.mono {Q Q' : QD} (h : W c e G S Q) (k : ∀ d S, Q d S → Q' d S) : W c e G S Q' := fun B σ H R => tE_mono (h B σ H R) fun v H' ⟨B', d, S', s, R', r, q⟩ => ⟨B', d, S', s, R', r, k d S' q⟩
theorem WSs.mono {st : List Stmt} {E E' : DE} (h : WSs c st G S E) (k1 : ∀ G S, E.nx G S → E'.nx G S) (k2 : ∀ d S, E.rt d S → E'.rt d S) (k3 : ∀ G S, E.bk G S → E'.bk G S) (k4 : ∀ G S, E.ct G S → E'.ct G S) : WSs c st G S E' :=
  fun B σ H R => tSs_mono (h B σ H R) (endsLe (Same.refl _) k1 k2 k3 k4)
theorem WSs.less {st : List Stmt} {E : DE} {G' : Loc} {S' : Sto} (h : WSs c st G' S' E) (l : Less G G') (d : S'.Sublist S) : WSs c st G S E := fun B σ H R => h B σ H ((R.less l).drop d)

/-! ### expressions -/
theorem w_var {x : Str} {d : D} {Q : QD} (i : Nat) (hN : c.X.N[i]? = some x) (hv : Vis c.X.env.scope x) (hd : (x == ("__debug__" : Str)) = false) (hcd : (x == ("__classdict__" : Str)) = false) (hG : G[i]? = some (some d)) (q : Q d S) : W c (.Name x pos) G S Q := fun B σ H R => by
  obtain ⟨v, e1, r⟩ := R.loc i d hG
  exact tE_of (pe_var hN hv hd hcd) ⟨v, e1, B, d, S, Same.refl _, R, r, q⟩
theorem w_int {i : Int} {j : Nat} {Q : QD} (q : Q (.int i) S) : W c (.Constant (.int i) j pos) G S Q := fun B σ H R => tE_of pe_int ⟨B, .int i, S, Same.refl _, R, rfl, q⟩
theorem w_bl {i : Bool} {j : Nat} {Q : QD} (q : Q (.bl i) S) : W c (.Constant (.bool i) j pos) G S Q := fun B σ H R => tE_of pe_bl ⟨B, .bl i, S, Same.refl _, R, rfl, q⟩
theorem w_non {j : Nat} {Q : QD} (q : Q .non S) : W c (.Constant .none j pos) G S Q := fun B σ H R => tE_of pe_non ⟨B, .non, S, Same.refl _, R, rfl, q⟩
theorem w_str {i : Str} {j : Nat} {Q : QD} (q : Q (.str i) S) : W c (.Constant (.str i) j pos) G S Q := fun B σ H R => tE_of pe_str ⟨B, .str i, S, Same.refl _, R, rfl, q⟩
/-- a two-place operation: P says by data what is asked -/
theorem w_op {op : Operator} {r : R2} {P : D → D → Sto → QD → Prop} (ho : OpR c.X (binaryOp op) r)
    (hP : ∀ Bl B σ H x y vx vy S Q, Same Bl B → c.R B G S σ H → Rep c.X.K B x vx → Rep c.X.K B y vy → P x y S Q → r vx vy H (Post c Bl G σ Q)) {Q : QD}
    (h : W c a G S fun x S1 => W c b G S1 fun y S2 => P x y S2 Q) : W c (.BinOp a op b pos) G S Q := fun B σ H R => by
  refine tE_of (pe_op ho (pe_self a) (pe_self b)) ?_
  refine tE_mono (h B σ H R) fun vx H1 ⟨B1, x, S1, s1, R1, r1, h1⟩ => ?_
  refine tE_mono (h1 B1 σ H1 R1) fun vy H2 ⟨B2, y, S2, s2, R2, r2, h2⟩ => ?_
  exact hP B B2 σ H2 x y vx vy S2 Q (s1.trans s2) R2 (Rep.mono s2 x vx r1) r2 h2
theorem w_cmp {op : CmpOp} {r : R2} {P : D → D → Sto → QD → Prop} (ho : OpR c.X (compareOp op) r) (hm : behindInMarks op b = false)
    (hP : ∀ Bl B σ H x y vx vy S Q, Same Bl B → c.R B G S σ H → Rep c.X.K B x vx → Rep c.X.K B y vy → P x y S Q → r vx vy H (Post c Bl G σ Q)) {Q : QD}
    (h : W c a G S fun x S1 => W c b G S1 fun y S2 => P x y S2 Q) : W c (.Compare a [op] [b] pos) G S Q := fun B σ H R => by
  refine tE_of (pe_cmpR ho (pe_self a) (pe_self b) hm) ?_
  refine tE_mono (h B σ H R) fun vx H1 ⟨B1, x, S1, s1, R1, r1, h1⟩ => ?_
  refine tE_mono (h1 B1 σ H1 R1) fun vy H2 ⟨B2, y, S2, s2, R2, r2, h2⟩ => ?_
  exact hP B B2 σ H2 x y vx vy S2 Q (s1.trans s2) R2 (Rep.mono s2 x vx r1) r2 h2
theorem wt_cmp {op : CmpOp} {r : R2} {P : D → D → Sto → (Bool → Sto → Prop) → Prop} (ho : OpR c.X (compareOp op) r) (hm : behindInMarks op b = false)
    (hP : ∀ Bl B σ H x y vx vy S Q, Same Bl B → c.R B G S σ H → Rep c.X.K B x vx → Rep c.X.K B y vy → P x y S Q → r vx vy H (fun v H' => ∃ k, v = .bl k ∧ PostB c Bl G σ Q k H')) {Q : Bool → Sto → Prop}
    (h : W c a G S fun x S1 => W c b G S1 fun y S2 => P x y S2 Q) : WT c (.Compare a [op] [b] pos) G S Q := fun B σ H R => by
  refine tT_of (pt_cmpR ho (pe_self a) (pe_self b) hm) ?_
  refine tE_mono (h B σ H R) fun vx H1 ⟨B1, x, S1, s1, R1, r1, h1⟩ => ?_
  refine tE_mono (h1 B1 σ H1 R1) fun vy H2 ⟨B2, y, S2, s2, R2, r2, h2⟩ => ?_
  exact hP B B2 σ H2 x y vx vy S2 Q (s1.trans s2) R2 (Rep.mono s2 x vx r1) r2 h2

/-! ### lists by data -/
/-- a new list: frozen at once, or a cell -/
def mk (ds : List D) (S : Sto) (Q : QD) : Prop := Q (.lst ds) S ∨ ∀ p, Q (.ref p) ((p, .lst ds) :: S)
theorem mk_ok {Bl B H : Hp} {σ : L2.St} {ds : List D} {vs : List V} {S : Sto} {Q : QD} (s : Same Bl B) (R : c.R B G S σ H) (r : Reps c.X.K B ds vs) (h : mk ds S Q) (p : Addr) (hp : H p = none) : Post c Bl G σ Q (.ref p) (upd H p (.lst vs)) := by
  have hb := R.bnone hp
  rcases h with h | h
  · exact ⟨_, .lst ds, S, s.trans (same_upd hb), R.laid hp, ⟨p, vs, rfl, upd_same, Reps.mono (same_upd hb) _ _ r⟩, h⟩
  · exact ⟨B, .ref p, _, s, R.cell hp (c := Cel.lst ds) ⟨vs, upd_same, r⟩, rfl, h p⟩
theorem tup_ok {Bl B H : Hp} {σ : L2.St} {ds : List D} {vs : List V} {S : Sto} {Q : QD} (s : Same Bl B) (R : c.R B G S σ H) (r : Reps c.X.K B ds vs) (h : Q (.tup ds) S) (p : Addr) (hp : H p = none) : Post c Bl G σ Q (.ref p) (upd H p (.tup vs)) := by
  have hb := R.bnone hp
  exact ⟨_, .tup ds, S, s.trans (same_upd hb), R.laid hp, ⟨p, vs, rfl, upd_same, Reps.mono (same_upd hb) _ _ r⟩, h⟩
/-- a list that may be written or is frozen -/
def asL (x : D) (S : Sto) (P : List D → Prop) : Prop := match x with
  | .lst ds => P ds
  | .ref a => ∃ (k : Nat) (ds : List D), S[k]? = some (a, Cel.lst ds) ∧ P ds
  | _ => False
theorem asL_get {B H : Hp} {σ : L2.St} {x : D} {v : V} {P : List D → Prop} (R : c.R B G S σ H) (r : Rep c.X.K B x v) (h : asL x S P) : ∃ a vs ds, v = .ref a ∧ H a = some (.lst vs) ∧ Reps c.X.K B ds vs ∧ P ds := by
  cases x <;> first | exact False.elim h | skip
  case ref a =>
    obtain ⟨k, ds, e, p⟩ := h
    obtain ⟨_, vs, e1, r1⟩ := R.cel (a, .lst ds) (List.mem_of_getElem? e)
    exact ⟨a, vs, ds, r, e1, r1, p⟩
  case lst ds =>
    obtain ⟨a, vs, e, q, r1⟩ := r
    exact ⟨a, vs, ds, e, R.sub _ _ q, r1, h⟩
/-- any list that is read -/
def asQ (x : D) (S : Sto) (P : List D → Prop) : Prop := match x with
  | .lst ds => P ds
  | .slst ds => P ds
  | .ref a => ∃ (k : Nat) (ds : List D), S[k]? = some (a, Cel.lst ds) ∧ P ds
  | _ => False
theorem sqL_sub {K : Frag} {B H : Hp} (s : Same B H) {a : Addr} {vs : List V} (h : SqL K B a vs) : SqL K H a vs := s.seq h
theorem asQ_get {B H : Hp} {σ : L2.St} {x : D} {v : V} {P : List D → Prop} (R : c.R B G S σ H) (r : Rep c.X.K B x v) (h : asQ x S P) : ∃ a vs ds, v = .ref a ∧ SqL c.X.K H a vs ∧ Reps c.X.K B ds vs ∧ P ds := by
  cases x <;> first | exact False.elim h | skip
  case ref a =>
    obtain ⟨k, ds, e, p⟩ := h
    obtain ⟨_, vs, e1, r1⟩ := R.cel (a, .lst ds) (List.mem_of_getElem? e)
    exact ⟨a, vs, ds, r, .of e1, r1, p⟩
  case lst ds =>
    obtain ⟨a, vs, e, q, r1⟩ := r
    exact ⟨a, vs, ds, e, .of (R.sub _ _ q), r1, h⟩
  case slst ds =>
    obtain ⟨a, vs, e, q, r1⟩ := r
    exact ⟨a, vs, ds, e, sqL_sub R.sub q, r1, h⟩

/-! ### + - * // % ** -/
def dAdd (x y : D) (S : Sto) (Q : QD) : Prop := match x, y with
  | .int i, .int j => Q (.int (i + j)) S
  | .int i, .bl k => Q (.int (i + b2i k)) S
  | .str x, .str y => x.length + y.length ≤ sizeLine ∧ Q (.str (x ++ y)) S
  | .tup xs, .tup ys => xs.length + ys.length ≤ sizeLine ∧ Q (.tup (xs ++ ys)) S
  | x, y => asQ x S fun xs => asQ y S fun ys => xs.length + ys.length ≤ sizeLine ∧ mk (xs ++ ys) S Q
/-- list + list, either of any kind -/
def rCatQ (K : Frag) : R2 := fun x y H Q => ∃ l b xs zs, x = .ref l ∧ y = .ref b ∧ SqL K H l xs ∧ SqL K H b zs ∧ xs.length + zs.length ≤ sizeLine ∧ ∀ p, H p = none → Q (.ref p) (upd H p (.lst (xs ++ zs)))
theorem op_catQ {X : Cx} : OpR X (binaryOp .Add) (rCatQ X.K) := by
  intro pins s σ H x y v u Q I rx ry h
  obtain ⟨l, b, xs, zs, rfl, rfl, hH, hB, hz, q⟩ := h
  cases rx
  cases ry
  obtain ⟨its, r, ⟨⟨cls, dd, data, sl⟩, n, ho, hc, _, hd⟩, _⟩ := I.list hH
  obtain ⟨its2, r2, ⟨⟨cls2, dd2, data2, sl2⟩, n2, ho2, hc2, _, hd2⟩, _⟩ := I.list hB
  simp only at hc hd hc2 hd2
  subst hc hd hc2 hd2
  have hl : its.toArray.size + its2.toArray.size ≤ sizeLine := by rw [List.size_toArray, List.size_toArray, ← r.length, ← r2.length]; exact hz
  have ea : its.toArray ++ its2.toArray = (its ++ its2).toArray := by simp
  refine concat_meets ⟨_, ho, rfl⟩ ⟨_, ho2, rfl⟩ noFill_list_add seq_list_add PySem.F.slot_list_add PySem.F.entry_list_add (PySem.F.args_list_add_2 _ _) (list_addW l b its.toArray its2.toArray n n2 dd dd2 sl sl2 hl) ⟨ho, ho2, ?_⟩
  rw [ea]
  exact ⟨.ref _, _, I.lnew (t' := s.toks) (r.append r2) (by rw [List.length_append]; omega), rfl, q _ I.fresh⟩
def rAddR (K : Frag) : R2 := fun x y H Q => (rI0 (fun i j => .int (i + j)) x y H Q ∨ ((∃ i k, x = .int i ∧ y = .bl k ∧ Q (.int (i + b2i k)) H) ∨ ((∃ i j, x = .str i ∧ y = .str j ∧ i.length + j.length ≤ sizeLine ∧ Q (.str (i ++ j)) H) ∨ (rCatA K x y H Q ∨ rCatQ K x y H Q))))
theorem op_addR {X : Cx} : OpR X (binaryOp .Add) (rAddR X.K) := op_add.or (op_add_ib.or (op_add_str.or (op_catA.or op_catQ)))
theorem w_add {Q : QD} (h : W c a G S fun x S1 => W c b G S1 fun y S2 => dAdd x y S2 Q) : W c (.BinOp a .Add b pos) G S Q := by
  refine w_op op_addR (fun Bl B σ H x y vx vy S Q s R rx ry h => ?_) h
  have lists : (asQ x S fun xs => asQ y S fun ys => xs.length + ys.length ≤ sizeLine ∧ mk (xs ++ ys) S Q) → rAddR c.X.K vx vy H (Post c Bl G σ Q) := fun h => by
    obtain ⟨a1, vs1, ds1, e1, h1, r1, h⟩ := asQ_get R rx h
    obtain ⟨a2, vs2, ds2, e2, h2, r2, hz, h⟩ := asQ_get R ry h
    refine .inr (.inr (.inr (.inr ⟨a1, a2, vs1, vs2, e1, e2, h1, h2, by rw [r1.length, r2.length]; exact hz, fun p hp => mk_ok s R (r1.append r2) h p hp⟩)))
  cases x <;> cases y <;> first | exact lists h | skip
  case int.int i j =>
    cases rx
    cases ry
    exact .inl ⟨i, j, rfl, rfl, B, .int (i + j), S, s, R, rfl, h⟩
  case int.bl i j =>
    cases rx
    cases ry
    exact .inr (.inl ⟨i, j, rfl, rfl, B, .int (i + b2i j), S, s, R, rfl, h⟩)
  case str.str i j =>
    cases rx
    cases ry
    exact .inr (.inr (.inl ⟨i, j, rfl, rfl, h.1, B, .str (i ++ j), S, s, R, rfl, h.2⟩))
  case tup.tup i j =>
    obtain ⟨a1, vs1, e1, q1, r1⟩ := rx
    obtain ⟨a2, vs2, e2, q2, r2⟩ := ry
    have hz : vs1.length + vs2.length ≤ sizeLine := by rw [r1.length, r2.length]; exact h.1
    have ha := r1.append r2
    refine .inr (.inr (.inr (.inl ⟨a1, a2, vs1, vs2, e1, e2, sameT R.sub q1, sameT R.sub q2, hz, fun z => ?_, fun _ z => ?_, fun _ _ p hp => tup_ok s R ha h.2 p hp⟩)))
    · have z2 : i = [] := List.length_eq_zero_iff.mp (by rw [← r1.length, z]; rfl)
      have h2 := h.2
      rw [z2, List.nil_append] at h2
      exact ⟨B, .tup j, S, s, R, ⟨a2, vs2, rfl, q2, r2⟩, h2⟩
    · have z2 : j = [] := List.length_eq_zero_iff.mp (by rw [← r2.length, z]; rfl)
      have h2 := h.2
      rw [z2, List.append_nil] at h2
      exact ⟨B, .tup i, S, s, R, ⟨a1, vs1, rfl, q1, r1⟩, h2⟩
def dSub (x y : D) (S : Sto) (Q : QD) : Prop := match x, y with
  | .int i, .int j => Q (.int (i - j)) S
  | _, _ => False
theorem w_sub {Q : QD} (h : W c a G S fun x S1 => W c b G S1 fun y S2 => dSub x y S2 Q) : W c (.BinOp a .Sub b pos) G S Q := by
  refine w_op op_sub (fun Bl B σ H x y vx vy S Q s R rx ry h => ?_) h
  cases x <;> first | exact False.elim h | (cases y <;> first | exact False.elim h | skip)
  case int.int i j =>
    cases rx
    cases ry
    exact ⟨i, j, rfl, rfl, B, .int (i - j), S, s, R, rfl, h⟩
/-- * : factors of together less than 2^27 bits -/
def MulB (i j : Int) : Prop := IntMulOk i j
theorem op_mulI {X : Cx} : OpR X (binaryOp .Mult) (rI MulB fun i j => .int (i * j)) := opI fun _ _ _ _ _ _ _ hc q => mul_int q hc
def dMul (x y : D) (S : Sto) (Q : QD) : Prop := match x, y with
  | .int i, .int j => MulB i j ∧ Q (.int (i * j)) S
  | x, .int k => asL x S fun xs => -(2 ^ 63) ≤ k ∧ k < 2 ^ 63 ∧ xs.length * k.toNat ≤ sizeLine ∧ mk (List.replicate k.toNat xs).flatten S Q
  | _, _ => False
theorem reps_rep {K : Frag} {B : Hp} {ds : List D} {vs : List V} (r : Reps K B ds vs) : ∀ n, Reps K B (List.replicate n ds).flatten (List.replicate n vs).flatten
  | 0 => rfl
  | n + 1 => by
    rw [List.replicate_succ, List.replicate_succ, List.flatten_cons, List.flatten_cons]
    exact r.append (reps_rep r n)
theorem w_mul {Q : QD} (h : W c a G S fun x S1 => W c b G S1 fun y S2 => dMul x y S2 Q) : W c (.BinOp a .Mult b pos) G S Q := by
  refine w_op (op_mulI.or op_rep) (fun Bl B σ H x y vx vy S Q s R rx ry h => ?_) h
  cases y <;> first | (cases x <;> exact False.elim h) | skip
  case int j =>
    cases ry
    have lists : (asL x S fun xs => -(2 ^ 63) ≤ j ∧ j < 2 ^ 63 ∧ xs.length * j.toNat ≤ sizeLine ∧ mk (List.replicate j.toNat xs).flatten S Q) → (rI MulB (fun i j => .int (i * j)) vx (.int j) H (Post c Bl G σ Q) ∨ rRep vx (.int j) H (Post c Bl G σ Q)) := fun h => by
      obtain ⟨a1, vs1, ds1, e1, h1, r1, b1, b2, hz, h⟩ := asL_get R rx h
      exact Or.inr ⟨a1, j, vs1, e1, rfl, h1, b1, b2, by rw [r1.length]; exact hz, fun p hp => mk_ok s R (reps_rep r1 _) h p hp⟩
    cases x <;> first | exact lists h | skip
    case int i =>
      cases rx
      exact .inl ⟨i, j, rfl, rfl, h.1, B, .int (i * j), S, s, R, rfl, h.2⟩
/-- // by a number above 0 -/
def CDv (_ j : Int) : Prop := 0 < j
theorem CD.deep {c : CD} (hk : 35 ≤ c.k) : c.X.A.depth + 105 < recursionLimit := by
  have := c.hr.dp
  omega
def dDiv (x y : D) (S : Sto) (Q : QD) : Prop := match x, y with
  | .int i, .int j => CDv i j ∧ Q (.int (i / j)) S
  | _, _ => False
theorem w_div (hk : 35 ≤ c.k) {Q : QD} (h : W c a G S fun x S1 => W c b G S1 fun y S2 => dDiv x y S2 Q) : W c (.BinOp a .FloorDiv b pos) G S Q := by
  refine w_op (op_fdivS c.sr (CD.deep hk)) (fun Bl B σ H x y vx vy S Q s R rx ry h => ?_) h
  cases x <;> first | exact False.elim h | (cases y <;> first | exact False.elim h | skip)
  case int.int i j =>
    cases rx
    cases ry
    have hj : 0 < j := h.1
    exact ⟨i, j, rfl, rfl, by omega, B, .int (i.fdiv j), S, s, R, rfl, by rw [Int.fdiv_eq_ediv_of_nonneg i (by omega)]; exact h.2⟩
/-- % with a positive or a negative divisor -/
def dMod (x y : D) (S : Sto) (Q : QD) : Prop := match x, y with
  | .int i, .int j => j ≠ 0 ∧ Q (.int (i.fmod j)) S
  | _, _ => False
theorem w_mod {Q : QD} (h : W c a G S fun x S1 => W c b G S1 fun y S2 => dMod x y S2 Q) : W c (.BinOp a .Mod b pos) G S Q := by
  refine w_op op_modN (fun Bl B σ H x y vx vy S Q s R rx ry h => ?_) h
  cases x <;> first | exact False.elim h | (cases y <;> first | exact False.elim h | skip)
  case int.int i j =>
    cases rx
    cases ry
    exact ⟨i, j, rfl, rfl, h.1, B, .int (i.fmod j), S, s, R, rfl, h.2⟩
def dPow (x y : D) (S : Sto) (Q : QD) : Prop := match x, y with
  | .int i, .int j => CPow i j ∧ Q (.int (i ^ j.toNat)) S
  | _, _ => False
theorem w_pow {Q : QD} (h : W c a G S fun x S1 => W c b G S1 fun y S2 => dPow x y S2 Q) : W c (.BinOp a .Pow b pos) G S Q := by
  refine w_op op_pow (fun Bl B σ H x y vx vy S Q s R rx ry h => ?_) h
  cases x <;> first | exact False.elim h | (cases y <;> first | exact False.elim h | skip)
  case int.int i j =>
    cases rx
    cases ry
    exact ⟨i, j, rfl, rfl, h.1, B, .int (i ^ j.toNat), S, s, R, rfl, h.2⟩
def dNeg (x : D) (S : Sto) (Q : QD) : Prop := match x with
  | .int i => Q (.int (-i)) S
  | _ => False
theorem w_neg {Q : QD} (h : W c a G S fun x S1 => dNeg x S1 Q) : W c (.UnaryOp .USub a pos) G S Q := fun B σ H R => by
  refine tE_of (pe_un un_neg (pe_self a)) ?_
  refine tE_mono (h B σ H R) fun vx H1 ⟨B1, x, S1, s1, R1, r1, h1⟩ => ?_
  cases x <;> first | exact False.elim h1 | skip
  case int i =>
    cases r1
    exact ⟨i, rfl, B1, .int (-i), S1, s1, R1, rfl, h1⟩
end
end DL
end

section
set_option autoImplicit false
set_option maxRecDepth 100000
set_option maxHeartbeats 4000000
namespace DL
open PySem PySem.Spec PyProof.Rows L2
open PySem.W (Frag)

/-! ### data compared: none, truths, whole numbers, texts, tuples, lists, at any depth -/
mutual
def pd : D → Option PyData
  | .non => some .none
  | .bl b => some (.bool b)
  | .int i => some (.int i)
  | .str x => some (.str x)
  | .tup ds => (pds ds).map .tuple
  | .lst ds => (pds ds).map .list
  | .slst ds => (pds ds).map .list
  | _ => none
def pds : List D → Option (List PyData)
  | [] => some []
  | d :: ds => match pd d, pds ds with
    | some p, some ps => some (p :: ps)
    | _, _ => none
end
mutual
theorem pd_ok {K : Frag} {B : Hp} : ∀ (d : D) (v : V) (p : PyData), Rep K B d v → pd d = some p → Dp K B v p
  | .non, v, p, r, e => by cases r; cases e; exact .non
  | .bl _, v, p, r, e => by cases r; cases e; exact .bl _
  | .int _, v, p, r, e => by cases r; cases e; exact .int _
  | .str _, v, p, r, e => by cases r; cases e; exact .str _
  | .ty _, _, _, _, e => by cases e
  | .ref _, _, _, _, e => by cases e
  | .ins _ _, _, _, _, e => by cases e
  | .dct _, _, _, _, e => by cases e
  | .tup ds, v, p, r, e => by
    obtain ⟨a, vs, e1, q, r1⟩ := r
    subst e1
    cases h : pds ds with
    | none => simp [pd, h] at e
    | some ps =>
      have e' : p = .tuple ps := by simpa [pd, h] using e.symm
      subst e'
      exact .tup (.of q) (pds_ok ds vs ps r1 h)
  | .lst ds, v, p, r, e => by
    obtain ⟨a, vs, e1, q, r1⟩ := r
    subst e1
    cases h : pds ds with
    | none => simp [pd, h] at e
    | some ps =>
      have e' : p = .list ps := by simpa [pd, h] using e.symm
      subst e'
      exact .lst (.of q) (pds_ok ds vs ps r1 h)
  | .slst ds, v, p, r, e => by
    obtain ⟨a, vs, e1, q, r1⟩ := r
    subst e1
    cases h : pds ds with
    | none => simp [pd, h] at e
    | some ps =>
      have e' : p = .list ps := by simpa [pd, h] using e.symm
      subst e'
      exact .lst q (pds_ok ds vs ps r1 h)
theorem pds_ok {K : Frag} {B : Hp} : ∀ (ds : List D) (vs : List V) (ps : List PyData), Reps K B ds vs → pds ds = some ps → DpAll K B vs ps
  | [], vs, ps, r, e => by cases r; cases e; exact .nil
  | d :: ds, vs, ps, r, e => by
    obtain ⟨v, t, e1, h1, h2⟩ := r
    subst e1
    cases hd : pd d with
    | none => simp [pds, hd] at e
    | some p =>
      cases hs : pds ds with
      | none => simp [pds, hd, hs] at e
      | some qs =>
        have e' : ps = p :: qs := by simpa [pds, hd, hs] using e.symm
        subst e'
        exact .cons (pd_ok d v p h1 hd) (pds_ok ds t qs h2 hs)
end
mutual
theorem Dp.up {K : Frag} {B B' : Hp} (s : Same B B') : ∀ (v : V) (p : PyData), Dp K B v p → Dp K B' v p
  | _, _, .non => .non
  | _, _, .bl b => .bl b
  | _, _, .int i => .int i
  | _, _, .str x => .str x
  | _, _, .lst h a => .lst (s.seq h) (DpAll.up s _ _ a)
  | _, _, .tup h a => .tup (sameS s h) (DpAll.up s _ _ a)
theorem DpAll.up {K : Frag} {B B' : Hp} (s : Same B B') : ∀ (vs : List V) (ps : List PyData), DpAll K B vs ps → DpAll K B' vs ps
  | _, _, .nil => .nil
  | _, _, .cons h t => .cons (Dp.up s _ _ h) (DpAll.up s _ _ t)
end
/-- a datum to be compared: a cell is read -/
def asP (x : D) (S : Sto) (P : PyData → Prop) : Prop := match x with
  | .ref a => ∃ (k : Nat) (ds : List D) (ps : List PyData), S[k]? = some (a, Cel.lst ds) ∧ pds ds = some ps ∧ P (.list ps)
  | x => ∃ p, pd x = some p ∧ P p
section
variable {c : CD} {G : Loc} {S : Sto} {e a b : Expr} {pos : Pos}
theorem asP_get {B H : Hp} {σ : L2.St} {x : D} {v : V} {P : PyData → Prop} (R : c.R B G S σ H) (r : Rep c.X.K B x v) (h : asP x S P) : ∃ p, Dp c.X.K H v p ∧ P p := by
  have gen : (∃ p, pd x = some p ∧ P p) → ∃ p, Dp c.X.K H v p ∧ P p := fun ⟨p, e, q⟩ => ⟨p, Dp.up R.sub _ _ (pd_ok x v p r e), q⟩
  cases x <;> first | exact gen h | skip
  case ref a =>
    obtain ⟨k, ds, ps, e, ep, q⟩ := h
    obtain ⟨_, vs, e1, r1⟩ := R.cel (a, .lst ds) (List.mem_of_getElem? e)
    obtain rfl : v = V.ref a := r
    exact ⟨_, .lst (.of e1) (DpAll.up R.sub _ _ (pds_ok ds vs ps r1 ep)), q⟩
def dEqP (neg : Bool) (x y : D) (S : Sto) (Q : Bool → Sto → Prop) : Prop := asP x S fun p => asP y S fun q => SeqAt.shaped p = true ∧ SeqAt.shaped q = true ∧ Q (if neg then !PyData.eqv p q else PyData.eqv p q) S
/-- == by kinds: whole numbers at once -/
def dEq (neg : Bool) (x y : D) (S : Sto) (Q : Bool → Sto → Prop) : Prop := match x, y with
  | .int i, .int j => Q (if neg then !decide (i = j) else decide (i = j)) S
  | .bl i, .bl j => Q (if neg then !decide (i = j) else decide (i = j)) S
  | .str i, .str j => Q (if neg then !decide (i = j) else decide (i = j)) S
  | x, y => dEqP neg x y S Q
def opEq (neg : Bool) : CmpOp := if neg then .NotEq else .Eq
def rEqs (K : Frag) (neg : Bool) : R2 := fun x y H Q => (scal x y = true ∧ Q (.bl (if neg then !decide (x = y) else decide (x = y))) H) ∨
  ∃ d e, Dp K H x d ∧ Dp K H y e ∧ SeqAt.shaped d = true ∧ SeqAt.shaped e = true ∧ Q (.bl (if neg then !PyData.eqv d e else PyData.eqv d e)) H
theorem op_eqs {X : Cx} (neg : Bool) (hu : X.A.units + 64 < cLine) : OpR X (compareOp (opEq neg)) (rEqs X.K neg) := by
  cases neg with
  | true => exact (op_ne.or (op_neD hu))
  | false => exact (op_eq.or (op_eqD hu))
theorem eq_core {neg : Bool} {B H : Hp} {σ : L2.St} {x y : D} {vx vy : V} {Q : Bool → Sto → Prop} {Q' : VK} (R : c.R B G S σ H) (rx : Rep c.X.K B x vx) (ry : Rep c.X.K B y vy) (h : dEq neg x y S Q)
    (k : ∀ b, Q b S → Q' (.bl b) H) : rEqs c.X.K neg vx vy H Q' := by
  have gen : dEqP neg x y S Q → rEqs c.X.K neg vx vy H Q' := fun h => by
    obtain ⟨p, hp, h⟩ := asP_get R rx h
    obtain ⟨q, hq, s1, s2, h⟩ := asP_get R ry h
    exact .inr ⟨p, q, hp, hq, s1, s2, k _ h⟩
  cases x <;> cases y <;> first | exact gen h | skip
  case int.int i j =>
    cases rx; cases ry
    refine .inl ⟨rfl, k _ ?_⟩
    rw [dec_int, Bool.beq_eq_decide_eq]
    exact h
  case bl.bl i j =>
    cases rx; cases ry
    refine .inl ⟨rfl, k _ ?_⟩
    rw [dec_bl, Bool.beq_eq_decide_eq]
    exact h
  case str.str i j =>
    cases rx; cases ry
    refine .inl ⟨rfl, k _ ?_⟩
    rw [dec_str, Bool.beq_eq_decide_eq]
    exact h
theorem w_eqs {op : CmpOp} (neg : Bool) {Q : QD} (ho : op = opEq neg) (h : W c a G S fun x S1 => W c b G S1 fun y S2 => dEq neg x y S2 fun k S3 => Q (.bl k) S3) : W c (.Compare a [op] [b] pos) G S Q := by
  subst ho
  refine w_cmp (P := fun x y S Q => dEq neg x y S fun k S3 => Q (.bl k) S3) (op_eqs neg c.hr.units) (nomark b (by cases neg <;> decide) (by cases neg <;> decide)) (fun Bl B σ H x y vx vy S Q s R rx ry h => ?_) h
  exact eq_core R rx ry h fun k q => ⟨B, .bl k, S, s, R, rfl, q⟩
theorem wt_eqs {op : CmpOp} (neg : Bool) {Q : Bool → Sto → Prop} (ho : op = opEq neg) (h : W c a G S fun x S1 => W c b G S1 fun y S2 => dEq neg x y S2 Q) : WT c (.Compare a [op] [b] pos) G S Q := by
  subst ho
  refine wt_cmp (op_eqs neg c.hr.units) (nomark b (by cases neg <;> decide) (by cases neg <;> decide)) (fun Bl B σ H x y vx vy S Q s R rx ry h => ?_) h
  exact eq_core R rx ry h fun k q => ⟨k, rfl, B, S, s, R, q⟩

/-! ### < <= > >= of whole numbers -/
def cmpI : CmpOp → Int → Int → Bool
  | .Lt, i, j => decide (i < j)
  | .LtE, i, j => decide (i ≤ j)
  | .Gt, i, j => decide (j < i)
  | .GtE, i, j => decide (j ≤ i)
  | _, _, _ => false
def isOrd : CmpOp → Bool
  | .Lt => true
  | .LtE => true
  | .Gt => true
  | .GtE => true
  | _ => false
def dOrd (op : CmpOp) (x y : D) (S : Sto) (Q : Bool → Sto → Prop) : Prop := match x, y with
  | .int i, .int j => Q (cmpI op i j) S
  | _, _ => False
theorem op_ord {X : Cx} (op : CmpOp) (h : isOrd op = true) : OpR X (compareOp op) (rI0 fun i j => .bl (cmpI op i j)) := by
  cases op <;> first | exact op_lt | exact op_le | exact op_gt | exact op_ge | cases h
theorem ord_core {op : CmpOp} {B H : Hp} {x y : D} {vx vy : V} {Q : Bool → Sto → Prop} {Q' : VK} (rx : Rep c.X.K B x vx) (ry : Rep c.X.K B y vy) (h : dOrd op x y S Q) (k : ∀ b, Q b S → Q' (.bl b) H) : rI0 (fun i j => .bl (cmpI op i j)) vx vy H Q' := by
  cases x <;> first | exact False.elim h | (cases y <;> first | exact False.elim h | skip)
  case int.int i j =>
    cases rx; cases ry
    exact ⟨i, j, rfl, rfl, k _ h⟩
theorem ord_mark {op : CmpOp} (h : isOrd op = true) : behindInMarks op b = false := nomark b (fun z => by subst z; cases h) (fun z => by subst z; cases h)
theorem w_ord {op : CmpOp} {Q : QD} (ho : isOrd op = true) (h : W c a G S fun x S1 => W c b G S1 fun y S2 => dOrd op x y S2 fun k S3 => Q (.bl k) S3) : W c (.Compare a [op] [b] pos) G S Q :=
  w_cmp (P := fun x y S Q => dOrd op x y S fun k S3 => Q (.bl k) S3) (op_ord op ho) (ord_mark ho) (fun Bl B σ H x y vx vy S Q s R rx ry h => ord_core rx ry h fun k q => ⟨B, .bl k, S, s, R, rfl, q⟩) h
theorem wt_ord {op : CmpOp} {Q : Bool → Sto → Prop} (ho : isOrd op = true) (h : W c a G S fun x S1 => W c b G S1 fun y S2 => dOrd op x y S2 Q) : WT c (.Compare a [op] [b] pos) G S Q :=
  wt_cmp (op_ord op ho) (ord_mark ho) (fun Bl B σ H x y vx vy S Q s R rx ry h => ord_core rx ry h fun k q => ⟨k, rfl, B, S, s, R, q⟩) h
/-- a < b < d -/
theorem w_chain {op op' : CmpOp} {d : Expr} {Q : QD} (ho : isOrd op = true) (ho' : isOrd op' = true) (hm : lastMarks [op, op'] [b, d] = false)
    (h : W c a G S fun x S1 => W c b G S1 fun y S2 => dOrd op x y S2 fun k S3 => (k = false → Q (.bl false) S3) ∧ (k = true → W c d G S3 fun z S4 => dOrd op' y z S4 fun k' S5 => Q (.bl k') S5)) : W c (.Compare a [op, op'] [b, d] pos) G S Q := fun B σ H R => by
  refine tE_of (pe_chain (op_ord op ho) (op_ord op' ho') (pe_self a) (pe_self b) (pe_self d) hm) ?_
  refine tE_mono (h B σ H R) fun vx H1 ⟨B1, x, S1, s1, R1, r1, h1⟩ => ?_
  refine tE_mono (h1 B1 σ H1 R1) fun vy H2 ⟨B2, y, S2, s2, R2, r2, h2⟩ => ?_
  refine ord_core (Rep.mono s2 x vx r1) r2 h2 fun k h3 => ⟨k, rfl, ?_⟩
  cases k with
  | false =>
    rw [if_neg Bool.false_ne_true]
    exact ⟨B2, .bl false, S2, s1.trans s2, R2, rfl, h3.1 rfl⟩
  | true =>
    rw [if_pos rfl]
    refine tE_mono (h3.2 rfl B2 σ H2 R2) fun vz H4 ⟨B4, z, S4, s4, R4, r4, h4⟩ => ?_
    exact ord_core (Rep.mono s4 y vy r2) r4 h4 fun k' q => ⟨B4, .bl k', S4, (s1.trans s2).trans s4, R4, rfl, q⟩
theorem wt_chain {op op' : CmpOp} {d : Expr} {Q : Bool → Sto → Prop} (ho : isOrd op = true) (ho' : isOrd op' = true) (hm : lastMarks [op, op'] [b, d] = false)
    (h : W c a G S fun x S1 => W c b G S1 fun y S2 => dOrd op x y S2 fun k S3 => (k = false → Q false S3) ∧ (k = true → W c d G S3 fun z S4 => dOrd op' y z S4 Q)) : WT c (.Compare a [op, op'] [b, d] pos) G S Q := fun B σ H R => by
  refine tT_of (pt_chain (op_ord op ho) (op_ord op' ho') (pe_self a) (pe_self b) (pe_self d) hm) ?_
  refine tE_mono (h B σ H R) fun vx H1 ⟨B1, x, S1, s1, R1, r1, h1⟩ => ?_
  refine tE_mono (h1 B1 σ H1 R1) fun vy H2 ⟨B2, y, S2, s2, R2, r2, h2⟩ => ?_
  refine ord_core (Rep.mono s2 x vx r1) r2 h2 fun k h3 => ⟨k, rfl, ?_⟩
  cases k with
  | false =>
    rw [if_neg Bool.false_ne_true]
    exact ⟨false, rfl, B2, S2, s1.trans s2, R2, h3.1 rfl⟩
  | true =>
    rw [if_pos rfl]
    refine tE_mono (h3.2 rfl B2 σ H2 R2) fun vz H4 ⟨B4, z, S4, s4, R4, r4, h4⟩ => ?_
    exact ord_core (Rep.mono s4 y vy r2) r4 h4 fun k' q => ⟨k', rfl, B4, S4, (s1.trans s2).trans s4, R4, q⟩
/-! ### is None -/
def dNone (neg : Bool) (x : D) (S : Sto) (Q : Bool → Sto → Prop) : Prop := match x with
  | .non => Q (!neg) S
  | _ => Q neg S
def opIs (neg : Bool) : CmpOp := if neg then .IsNot else .Is
theorem rep_non {B : Hp} {x : D} {v : V} (r : Rep c.X.K B x v) : (v = .non) ↔ (x = .non) := by
  cases x <;> first
    | (cases r; simp; done)
    | (obtain ⟨_, _, e, _⟩ := r; subst e; simp; done)
    | (obtain ⟨_, _, _, _, _, e, _⟩ := r; subst e; simp)
theorem none_core {neg : Bool} {B H : Hp} {x : D} {v : V} {Q : Bool → Sto → Prop} {Q' : VK} (r : Rep c.X.K B x v) (h : dNone neg x S Q) (k : ∀ b, Q b S → Q' (.bl b) H) : Q' (.bl (if neg then !decide (v = .non) else decide (v = .non))) H := by
  have e := rep_non (c := c) r
  by_cases hx : x = .non
  · have hv := e.mpr hx
    subst hx; subst hv
    cases neg <;> exact k _ h
  · have hv : ¬ v = .non := fun z => hx (e.mp z)
    rw [decide_eq_false hv]
    cases x <;> first | exact absurd rfl hx | (cases neg <;> exact k _ h)
theorem w_isNone {op : CmpOp} {j : Nat} {p2 : Pos} (neg : Bool) {Q : QD} (ho : op = opIs neg) (h : W c a G S fun x S1 => dNone neg x S1 fun k S2 => Q (.bl k) S2) : W c (.Compare a [op] [.Constant .none j p2] pos) G S Q := fun B σ H R => by
  subst ho
  cases neg with
  | false =>
    show tE c.X (.Compare a [.Is] _ pos) σ H _
    refine tE_of (pe_cmpR op_isN (pe_self a) pe_non (nomark _)) ?_
    refine tE_mono (h B σ H R) fun vx H1 ⟨B1, x, S1, s1, R1, r1, h1⟩ => ?_
    exact ⟨rfl, none_core (neg := false) r1 h1 fun k q => ⟨B1, .bl k, S1, s1, R1, rfl, q⟩⟩
  | true =>
    show tE c.X (.Compare a [.IsNot] _ pos) σ H _
    refine tE_of (pe_cmpR op_notN (pe_self a) pe_non (nomark _)) ?_
    refine tE_mono (h B σ H R) fun vx H1 ⟨B1, x, S1, s1, R1, r1, h1⟩ => ?_
    exact ⟨rfl, none_core (neg := true) r1 h1 fun k q => ⟨B1, .bl k, S1, s1, R1, rfl, q⟩⟩
theorem wt_isNone {op : CmpOp} {j : Nat} {p2 : Pos} (neg : Bool) {Q : Bool → Sto → Prop} (ho : op = opIs neg) (h : W c a G S fun x S1 => dNone neg x S1 Q) : WT c (.Compare a [op] [.Constant .none j p2] pos) G S Q := fun B σ H R => by
  subst ho
  cases neg with
  | false =>
    show tT c.X (.Compare a [.Is] _ pos) σ H _
    refine tT_of (pt_cmpR op_isN (pe_self a) pe_non (nomark _)) ?_
    refine tE_mono (h B σ H R) fun vx H1 ⟨B1, x, S1, s1, R1, r1, h1⟩ => ?_
    exact ⟨rfl, none_core (neg := false) (Q' := fun v H' => ∃ k, v = .bl k ∧ PostB c B G σ Q k H') r1 h1 fun k q => ⟨k, rfl, B1, S1, s1, R1, q⟩⟩
  | true =>
    show tT c.X (.Compare a [.IsNot] _ pos) σ H _
    refine tT_of (pt_cmpR op_notN (pe_self a) pe_non (nomark _)) ?_
    refine tE_mono (h B σ H R) fun vx H1 ⟨B1, x, S1, s1, R1, r1, h1⟩ => ?_
    exact ⟨rfl, none_core (neg := true) (Q' := fun v H' => ∃ k, v = .bl k ∧ PostB c B G σ Q k H') r1 h1 fun k q => ⟨k, rfl, B1, S1, s1, R1, q⟩⟩

/-! ### truth -/
/-- the truth of a datum -/
def dTru (x : D) (S : Sto) (Q : Bool → Sto → Prop) : Prop := match x with
  | .non => Q false S
  | .bl b => Q b S
  | .int i => Q (i != 0) S
  | .tup ds => Q (!ds.isEmpty) S
  | x => asQ x S fun ds => Q (!ds.isEmpty) S
theorem reps_emp {K : Frag} {B : Hp} {ds : List D} {vs : List V} (r : Reps K B ds vs) : vs.isEmpty = ds.isEmpty := by
  cases ds with
  | nil => cases r; rfl
  | cons d t => obtain ⟨_, _, e, _⟩ := r; subst e; rfl
theorem tru_core {B H : Hp} {σ : L2.St} {x : D} {v : V} {Q : Bool → Sto → Prop} (R : c.R B G S σ H) (r : Rep c.X.K B x v) (h : dTru x S Q) : ∃ k, TruV c.X.K v H k ∧ Q k S := by
  have gen : (asQ x S fun ds => Q (!ds.isEmpty) S) → ∃ k, TruV c.X.K v H k ∧ Q k S := fun h => by
    obtain ⟨a, vs, ds, e, h1, r1, q⟩ := asQ_get R r h
    subst e
    exact ⟨!ds.isEmpty, .inl ⟨vs, h1, by rw [reps_emp r1]⟩, q⟩
  cases x <;> first | exact gen h | skip
  case non => cases r; exact ⟨false, rfl, h⟩
  case bl b => cases r; exact ⟨b, rfl, h⟩
  case int i => cases r; exact ⟨_, rfl, h⟩
  case tup ds =>
    obtain ⟨a, vs, e, h1, r1⟩ := r
    subst e
    exact ⟨!ds.isEmpty, .inr (.inl ⟨vs, sameT R.sub h1, by rw [reps_emp r1]⟩), h⟩
theorem wt_val {Q : Bool → Sto → Prop} (he : ∀ whole, isTrue a c.X.env whole = (do let v ← whole; standAt a.pos; holding [v] (truthy v))) (h : W c a G S fun x S1 => dTru x S1 Q) : WT c a G S Q := fun B σ H R => by
  refine tT_of (pt_truth (pe_self a) he) ?_
  refine tE_mono (h B σ H R) fun vx H1 ⟨B1, x, S1, s1, R1, r1, h1⟩ => ?_
  obtain ⟨k, h2, q⟩ := tru_core R1 r1 h1
  exact ⟨k, h2, B1, S1, s1, R1, q⟩
theorem wt_not {Q : Bool → Sto → Prop} (h : WT c a G S fun k S1 => Q (!k) S1) : WT c (.UnaryOp .Not a pos) G S Q := fun B σ H R => tT_of (pt_not (pt_self a)) (h B σ H R)
theorem wt_ofW {Q : Bool → Sto → Prop} (h : WW c a G S Q) : WT c a G S Q := fun B σ H R => tT_of (pw_self a).pt (h B σ H R)
theorem ww_and1 {Q : Bool → Sto → Prop} (h : WT c a G S Q) : WW c (.BoolOp .And [a] pos) G S Q := fun B σ H R => tW_of (pw_and1 (pt_self a)) (h B σ H R)
theorem ww_or1 {Q : Bool → Sto → Prop} (h : WT c a G S Q) : WW c (.BoolOp .Or [a] pos) G S Q := fun B σ H R => tW_of (pw_or1 (pt_self a)) (h B σ H R)
theorem ww_and {rest : List Expr} {Q : Bool → Sto → Prop} (h : WT c a G S fun k S1 => (k = true → WW c (.BoolOp .And (b :: rest) pos) G S1 Q) ∧ (k = false → Q false S1)) : WW c (.BoolOp .And (a :: b :: rest) pos) G S Q := fun B σ H R => by
  refine tW_of (pw_and (pt_self a) (pw_self _)) ?_
  refine tT_mono (h B σ H R) fun k H1 ⟨B1, S1, s1, R1, h1⟩ => ?_
  cases k with
  | true =>
    rw [if_pos rfl]
    exact tW_mono (h1.1 rfl B1 σ H1 R1) fun k H2 ⟨B2, S2, s2, R2, h2⟩ => ⟨B2, S2, s1.trans s2, R2, h2⟩
  | false =>
    rw [if_neg Bool.false_ne_true]
    exact ⟨B1, S1, s1, R1, h1.2 rfl⟩
theorem ww_or {rest : List Expr} {Q : Bool → Sto → Prop} (h : WT c a G S fun k S1 => (k = true → Q true S1) ∧ (k = false → WW c (.BoolOp .Or (b :: rest) pos) G S1 Q)) : WW c (.BoolOp .Or (a :: b :: rest) pos) G S Q := fun B σ H R => by
  refine tW_of (pw_or (pt_self a) (pw_self _)) ?_
  refine tT_mono (h B σ H R) fun k H1 ⟨B1, S1, s1, R1, h1⟩ => ?_
  cases k with
  | true =>
    rw [if_pos rfl]
    exact ⟨B1, S1, s1, R1, h1.1 rfl⟩
  | false =>
    rw [if_neg Bool.false_ne_true]
    exact tW_mono (h1.2 rfl B1 σ H1 R1) fun k H2 ⟨B2, S2, s2, R2, h2⟩ => ⟨B2, S2, s1.trans s2, R2, h2⟩
/-- and, or, not as values of truths -/
def isBl (x : D) (P : Bool → Prop) : Prop := match x with
  | .bl b => P b
  | _ => False
theorem isBl_get {B : Hp} {x : D} {v : V} {P : Bool → Prop} (r : Rep c.X.K B x v) (h : isBl x P) : ∃ k, v = .bl k ∧ x = .bl k ∧ P k := by
  cases x <;> first | exact False.elim h | skip
  case bl b => cases r; exact ⟨b, rfl, rfl, h⟩
theorem w_one {op : BoolOp} {Q : QD} (h : W c a G S Q) : W c (.BoolOp op [a] pos) G S Q := fun B σ H R => tE_of (pe_one (pe_self a)) (h B σ H R)
theorem w_and {rest : List Expr} {Q : QD} (h : W c a G S fun x S1 => isBl x fun k => (k = true → W c (.BoolOp .And (b :: rest) pos) G S1 Q) ∧ (k = false → Q (.bl false) S1)) : W c (.BoolOp .And (a :: b :: rest) pos) G S Q := fun B σ H R => by
  refine tE_of (pe_and (pe_self a) (pe_self _)) ?_
  refine tE_mono (h B σ H R) fun vx H1 ⟨B1, x, S1, s1, R1, r1, h1⟩ => ?_
  obtain ⟨k, e1, e2, h1⟩ := isBl_get r1 h1
  refine ⟨k, e1, ?_⟩
  cases k with
  | true =>
    rw [if_pos rfl]
    exact tE_mono (h1.1 rfl B1 σ H1 R1) fun v H2 ⟨B2, d, S2, s2, R2, r2, h2⟩ => ⟨B2, d, S2, s1.trans s2, R2, r2, h2⟩
  | false =>
    rw [if_neg Bool.false_ne_true]
    exact ⟨B1, .bl false, S1, s1, R1, rfl, h1.2 rfl⟩
theorem w_or {rest : List Expr} {Q : QD} (h : W c a G S fun x S1 => isBl x fun k => (k = true → Q (.bl true) S1) ∧ (k = false → W c (.BoolOp .Or (b :: rest) pos) G S1 Q)) : W c (.BoolOp .Or (a :: b :: rest) pos) G S Q := fun B σ H R => by
  refine tE_of (pe_or (pe_self a) (pe_self _)) ?_
  refine tE_mono (h B σ H R) fun vx H1 ⟨B1, x, S1, s1, R1, r1, h1⟩ => ?_
  obtain ⟨k, e1, e2, h1⟩ := isBl_get r1 h1
  refine ⟨k, e1, ?_⟩
  cases k with
  | true =>
    rw [if_pos rfl]
    exact ⟨B1, .bl true, S1, s1, R1, rfl, h1.1 rfl⟩
  | false =>
    rw [if_neg Bool.false_ne_true]
    exact tE_mono (h1.2 rfl B1 σ H1 R1) fun v H2 ⟨B2, d, S2, s2, R2, r2, h2⟩ => ⟨B2, d, S2, s1.trans s2, R2, r2, h2⟩
theorem w_not {Q : QD} (h : W c a G S fun x S1 => dTru x S1 fun k S2 => Q (.bl (!k)) S2) : W c (.UnaryOp .Not a pos) G S Q := fun B σ H R => by
  refine tE_of (pe_notT (pe_self a)) ?_
  refine tE_mono (h B σ H R) fun vx H1 ⟨B1, x, S1, s1, R1, r1, h1⟩ => ?_
  obtain ⟨k, h2, q⟩ := tru_core R1 r1 h1
  exact ⟨k, h2, B1, .bl (!k), S1, s1, R1, rfl, q⟩
/-! ### displays, arguments -/
theorem wa_nil {Q : List D → Sto → Prop} (q : Q [] S) : WA c [] G S Q := fun B σ H R => tA_of pa_nil ⟨B, [], S, Same.refl _, R, rfl, q⟩
theorem wa_cons {es : List Expr} {Q : List D → Sto → Prop} (hs : starEach (e :: es) c.X.env = (false, eval e c.X.env) :: starEach es c.X.env) (h : W c e G S fun x S1 => WA c es G S1 fun ds S2 => Q (x :: ds) S2) : WA c (e :: es) G S Q := fun B σ H R => by
  refine tA_of (pa_cons (pe_self e) (pa_self es) hs) ?_
  refine tE_mono (h B σ H R) fun vx H1 ⟨B1, x, S1, s1, R1, r1, h1⟩ => ?_
  exact tA_mono (h1 B1 σ H1 R1) fun vs H2 ⟨B2, ds, S2, s2, R2, r2, h2⟩ => ⟨B2, x :: ds, S2, s1.trans s2, R2, ⟨vx, vs, rfl, Rep.mono s2 x vx r1, r2⟩, h2⟩
theorem w_tup {es : List Expr} {j : Nat} {Q : QD} (h : WA c es G S fun ds S1 => ds.length ≤ sizeLine ∧ Q (.tup ds) S1) : W c (.Tuple es j pos) G S Q := fun B σ H R => by
  refine tE_of (pe_tup (pa_self es)) ?_
  refine tA_mono (h B σ H R) fun vs H1 ⟨B1, ds, S1, s1, R1, r1, h1⟩ => ⟨by rw [r1.length]; exact h1.1, fun p hp => tup_ok s1 R1 r1 h1.2 p hp⟩
theorem w_lst {es : List Expr} {Q : QD} (h : WA c es G S fun ds S1 => ds.length ≤ sizeLine ∧ mk ds S1 Q) : W c (.List es pos) G S Q := fun B σ H R => by
  refine tE_of (pe_lst (pa_self es)) ?_
  refine tA_mono (h B σ H R) fun vs H1 ⟨B1, ds, S1, s1, R1, r1, h1⟩ => ⟨by rw [r1.length]; exact h1.1, fun p hp => mk_ok s1 R1 r1 h1.2 p hp⟩

/-! ### x[i] -/
theorem reps_at {K : Frag} {B : Hp} {ds : List D} {vs : List V} {i : Int} {d : D} (r : Reps K B ds vs) (h : atI ds i = some d) : ∃ v, atI vs i = some v ∧ Rep K B d v := by
  unfold atI at h ⊢
  rw [r.length]
  cases e : ixN ds.length i with
  | none =>
    rw [e] at h
    cases h
  | some j =>
    rw [e] at h
    exact r.get h
def dIx (x y : D) (S : Sto) (Q : QD) : Prop := match y with
  | .int i => (match x with
    | .tup ds => ∃ d, atI ds i = some d ∧ Q d S
    | .str z => ∃ k, z.length ≤ sizeLine ∧ atI z.cps.toList i = some k ∧ Q (.str ⟨#[k]⟩) S
    | x => asQ x S fun ds => ∃ d, atI ds i = some d ∧ Q d S)
  | _ => False
theorem w_ix {Q : QD} (hs : PlainIx b) (h : W c a G S fun x S1 => W c b G S1 fun y S2 => dIx x y S2 Q) : W c (.Subscript a b pos) G S Q := fun B σ H R => by
  refine tE_of (pe_ix ix_seq (pe_self a) (pe_self b) hs) ?_
  refine tE_mono (h B σ H R) fun vx H1 ⟨B1, x, S1, s1, R1, r1, h1⟩ => ?_
  refine tE_mono (h1 B1 σ H1 R1) fun vy H2 ⟨B2, y, S2, s2, R2, ry, h2⟩ => ?_
  have rx := Rep.mono s2 x vx r1
  have s := s1.trans s2
  cases y <;> first | exact False.elim h2 | skip
  case int i =>
    cases ry
    have gen : (asQ x S2 fun ds => ∃ d, atI ds i = some d ∧ Q d S2) → rIx c.X.K vx (.int i) H2 (Post c B G σ Q) := fun h => by
      obtain ⟨p, vs, ds, e, hq, r, d, hd, q⟩ := asQ_get R2 rx h
      obtain ⟨v, hv, rv⟩ := reps_at r hd
      -- the item is what stands in the list: frozen data or a cell's
      exact .inl ⟨p, vs, i, v, e, rfl, hq, hv, B2, d, S2, s, R2, rv, q⟩
    cases x <;> first | exact gen h2 | skip
    case tup ds =>
      obtain ⟨p, vs, e, hq, r⟩ := rx
      obtain ⟨d, hd, q⟩ := h2
      obtain ⟨v, hv, rv⟩ := reps_at r hd
      exact .inr (.inl ⟨p, vs, i, v, e, rfl, sameT R2.sub hq, hv, B2, d, S2, s, R2, rv, q⟩)
    case str =>
      obtain ⟨k, hz, hk, q⟩ := h2
      cases rx
      exact .inr (.inr ⟨_, i, k, rfl, rfl, hz, hk, B2, .str ⟨#[k]⟩, S2, s, R2, rfl, q⟩)
/-! ### x[i:j] -/
def WO (c : CD) (o : Option Expr) (G : Loc) (S : Sto) (Q : Option Int → Sto → Prop) : Prop := match o with
  | none => Q none S
  | some e => W c e G S fun x S1 => ∃ i, x = .int i ∧ Q (some i) S1
def cutD (xs : List D) (lo hi : Option Int) : List D := (xs.drop (HT.sIx xs.length 0 lo)).take (HT.sIx xs.length xs.length hi - HT.sIx xs.length 0 lo)
theorem reps_cut {K : Frag} {B : Hp} {ds : List D} {vs : List V} (r : Reps K B ds vs) (lo hi : Option Int) : Reps K B (cutD ds lo hi) (cutV vs lo hi) := by
  unfold cutD cutV
  rw [r.length]
  exact (r.drop _).take _
def dSl (x : D) (lo hi : Option Int) (S : Sto) (Q : QD) : Prop := match x with
  | .tup ds => Q (.tup (cutD ds lo hi)) S
  | x => asQ x S fun ds => mk (cutD ds lo hi) S Q
theorem cut_whole {ds : List D} {lo hi : Option Int} (h : HT.sIx ds.length 0 lo = 0 ∧ HT.sIx ds.length ds.length hi = ds.length) : cutD ds lo hi = ds := by
  unfold cutD
  rw [h.1, h.2, List.drop_zero, Nat.sub_zero, List.take_length]
theorem po_of {X : Cx} (o : Option Expr) : ∃ t : TO, PO X o t ∧ ∀ σ H Q, (match o with | none => Q none H | some e => tE X e σ H fun v H1 => ∃ i, v = .int i ∧ Q (some i) H1) → t σ H Q := by
  cases o with
  | none => exact ⟨_, po_none, fun _ _ _ h => h⟩
  | some e => exact ⟨_, po_some (pe_self e), fun _ _ _ h => h⟩
theorem w_sl {lo hi : Option Expr} {p2 : Pos} {Q : QD} (h : W c a G S fun x S1 => WO c lo G S1 fun l S2 => WO c hi G S2 fun u S3 => dSl x l u S3 Q) : W c (.Subscript a (.Slice lo hi none p2) pos) G S Q := fun B σ H R => by
  obtain ⟨tl, pl, kl⟩ := po_of (X := c.X) lo
  obtain ⟨th, ph, kh⟩ := po_of (X := c.X) hi
  refine tE_of (pe_slice (SlR.or sl_list sl_tupA) (pe_self a) pl ph) ?_
  refine tE_mono (h B σ H R) fun vx H1 ⟨B1, x, S1, s1, R1, r1, h1⟩ => ?_
  have fin : ∀ {l u B3 S3 H3}, Same B1 B3 → c.R B3 G S3 σ H3 → dSl x l u S3 Q → rSlL c.X.K vx l u H3 (Post c B G σ Q) ∨ rSlA c.X.K vx l u H3 (Post c B G σ Q) := fun {l u B3 S3 H3} s3 R3 h3 => by
    have rx := Rep.mono s3 x vx r1
    have s := s1.trans s3
    have gen : (asQ x S3 fun ds => mk (cutD ds l u) S3 Q) → rSlL c.X.K vx l u H3 (Post c B G σ Q) ∨ rSlA c.X.K vx l u H3 (Post c B G σ Q) := fun h => by
      obtain ⟨p, vs, ds, e, hq, r, q⟩ := asQ_get R3 rx h
      exact .inl ⟨p, vs, e, hq, fun p hp => mk_ok s R3 (reps_cut r l u) q p hp⟩
    cases x <;> first | exact gen h3 | skip
    case tup ds =>
      obtain ⟨p, vs, e, hq, r⟩ := rx
      refine .inr ⟨p, vs, e, sameT R3.sub hq, fun hw => ?_, fun _ p hp => tup_ok s R3 (reps_cut r l u) h3 p hp⟩
      rw [r.length] at hw
      have h4 : Q (.tup (cutD ds l u)) S3 := h3
      rw [cut_whole hw] at h4
      exact ⟨B3, .tup ds, S3, s, R3, ⟨p, vs, rfl, hq, r⟩, h4⟩
  refine kl σ H1 _ ?_
  have step2 : ∀ {l B2 S2 H2}, Same B1 B2 → c.R B2 G S2 σ H2 → (WO c hi G S2 fun u S3 => dSl x l u S3 Q) → th σ H2 fun u H3 => rSlL c.X.K vx l u H3 (Post c B G σ Q) ∨ rSlA c.X.K vx l u H3 (Post c B G σ Q) := fun {l B2 S2 H2} s2 R2 h2 => by
    refine kh σ H2 _ ?_
    cases hi with
    | none => exact fin s2 R2 h2
    | some e =>
      refine tE_mono (h2 B2 σ H2 R2) fun v H3 ⟨B3, d, S3, s3, R3, r3, i, ei, h3⟩ => ?_
      subst ei
      cases r3
      exact ⟨i, rfl, fin (s2.trans s3) R3 h3⟩
  cases lo with
  | none => exact step2 (Same.refl _) R1 h1
  | some e =>
    refine tE_mono (h1 B1 σ H1 R1) fun v H2 ⟨B2, d, S2, s2, R2, r2, i, ei, h2⟩ => ?_
    subst ei
    cases r2
    exact ⟨i, rfl, step2 s2 R2 h2⟩
end
end DL
end

section
set_option autoImplicit false
set_option maxRecDepth 100000
set_option maxHeartbeats 4000000
namespace DL
open PySem PySem.Spec PyProof.Rows L2
open PySem.W (Frag)
section
variable {c : CD} {G : Loc} {S : Sto} {e a b : Expr} {es : List Expr} {pos p : Pos} {x : Str}

/-! ### built-in functions -/
/-- a call's data: what is asked of the arguments -/
abbrev DCall := List D → Sto → QD → Prop
def BOk (c : CD) (r : List V → Hp → VK → Prop) (P : DCall) : Prop := ∀ (Bl B : Hp) (G : Loc) (σ : L2.St) (H : Hp) (ds : List D) (vs : List V) (S : Sto) (Q : QD), Same Bl B → c.R B G S σ H → Reps c.X.K B ds vs → P ds S Q → r vs H (Post c Bl G σ Q)
theorem w_bi {id : String} {r : List V → Hp → VK → Prop} {P : DCall} {Q : QD} (hc : CallR c.X (.builtin id) r) (hP : BOk c r P) (hg : Gl c.X x) (hm : c.X.mg x = none) (hv : bootBuiltins x = some (.builtin id)) (hn : x ≠ "__name__") (hdb : (x == ("__debug__" : Str)) = false)
    (he : starEach (e :: es) c.X.env = (false, eval e c.X.env) :: starEach es c.X.env) (hpl : (backTo pos (starEach es c.X.env)).any (·.1) = false) (h : WA c (e :: es) G S fun ds S1 => P ds S1 Q) : W c (.Call (.Name x p) (e :: es) [] pos) G S Q := fun B σ H R => by
  refine tE_of (pe_callB hc hg hm hv (pa_self (e :: es)) hn hdb he hpl) ?_
  exact tA_mono (h B σ H R) fun vs H1 ⟨B1, ds, S1, s1, R1, r1, h1⟩ => hP B B1 G σ H1 ds vs S1 Q s1 R1 r1 h1
theorem w_bt {T : String} {r : List V → Hp → VK → Prop} {P : DCall} {Q : QD} (hc : CallR c.X (.type T) r) (hP : BOk c r P) (hg : Gl c.X x) (hm : c.X.mg x = none) (hv : bootBuiltins x = some (.type T)) (hn : x ≠ "__name__") (hdb : (x == ("__debug__" : Str)) = false)
    (he : starEach (e :: es) c.X.env = (false, eval e c.X.env) :: starEach es c.X.env) (hpl : (backTo pos (starEach es c.X.env)).any (·.1) = false) (h : WA c (e :: es) G S fun ds S1 => P ds S1 Q) : W c (.Call (.Name x p) (e :: es) [] pos) G S Q := fun B σ H R => by
  refine tE_of (pe_callTy hc hg hm hv (pa_self (e :: es)) hn hdb he hpl) ?_
  exact tA_mono (h B σ H R) fun vs H1 ⟨B1, ds, S1, s1, R1, r1, h1⟩ => hP B B1 G σ H1 ds vs S1 Q s1 R1 r1 h1
/-- a built-in's name as a value -/
theorem w_ty {n : String} {Q : QD} (hg : Gl c.X x) (hm : c.X.mg x = none) (hv : bootBuiltins x = some (.type n)) (hn : x ≠ "__name__") (hdb : (x == ("__debug__" : Str)) = false) (q : Q (.ty n) S) : W c (.Name x pos) G S Q := fun B σ H R =>
  tE_of (pe_bltn (v := .ty n) hg hm hv rfl hn hdb) ⟨B, .ty n, S, Same.refl _, R, rfl, q⟩
/-- a global name: a def, a class -/
theorem w_glob {a : Addr} {Q : QD} (hg : Gl c.X x) (hm : c.X.mg x = some (.ref a)) (hdb : (x == ("__debug__" : Str)) = false) (q : Q (.ref a) S) : W c (.Name x pos) G S Q := fun B σ H R =>
  tE_of (pe_glob (v := .ref a) hg hm rfl hdb) ⟨B, .ref a, S, Same.refl _, R, rfl, q⟩

def one (ds : List D) (P : D → Prop) : Prop := match ds with
  | [d] => P d
  | _ => False
def two (ds : List D) (P : D → D → Prop) : Prop := match ds with
  | [d, e] => P d e
  | _ => False
theorem one_get {K : Frag} {B : Hp} {ds : List D} {vs : List V} {P : D → Prop} (r : Reps K B ds vs) (h : one ds P) : ∃ v d, vs = [v] ∧ Rep K B d v ∧ P d := by
  cases ds with
  | nil => exact False.elim h
  | cons d t =>
    cases t with
    | nil =>
      obtain ⟨v, r2, e, h1, h2⟩ := r
      cases h2
      exact ⟨v, d, e, h1, h⟩
    | cons _ _ => exact False.elim h
theorem two_get {K : Frag} {B : Hp} {ds : List D} {vs : List V} {P : D → D → Prop} (r : Reps K B ds vs) (h : two ds P) : ∃ v d u e, vs = [v, u] ∧ Rep K B d v ∧ Rep K B e u ∧ P d e := by
  cases ds with
  | nil => exact False.elim h
  | cons d t =>
    cases t with
    | nil => exact False.elim h
    | cons e t =>
      cases t with
      | nil =>
        obtain ⟨v, r2, e1, h1, u, r3, e2, h2, h3⟩ := r
        cases h3
        subst e2
        exact ⟨v, d, u, e, e1, h1, h2, h⟩
      | cons _ _ => exact False.elim h
/-- len -/
def dLen : DCall := fun ds S Q => one ds fun x => match x with
  | .tup ds => Q (.int ds.length) S
  | .str z => z.length ≤ sizeLine ∧ Q (.int z.length) S
  | x => asQ x S fun ds => Q (.int ds.length) S
theorem b_len : BOk c (fun xs H Q => ∃ x n, xs = [x] ∧ LenV c.X.K x H n ∧ Q (.int n) H) dLen := fun Bl B G σ H ds vs S Q s R r h => by
  obtain ⟨v, d, e, r1, h⟩ := one_get r h
  subst e
  have gen : (asQ d S fun ds => Q (.int ds.length) S) → ∃ x n, [v] = [x] ∧ LenV c.X.K x H n ∧ Post c Bl G σ Q (.int n) H := fun h => by
    obtain ⟨a, vs, ds, e, h1, r2, q⟩ := asQ_get R r1 h
    subst e
    exact ⟨_, _, rfl, .inl ⟨vs, h1, rfl⟩, B, .int vs.length, S, s, R, rfl, by rw [r2.length]; exact q⟩
  cases d <;> first | exact gen h | skip
  case tup ds =>
    obtain ⟨a, vs, e, h1, r2⟩ := r1
    subst e
    exact ⟨_, _, rfl, .inr ⟨vs, sameT R.sub h1, rfl⟩, B, .int vs.length, S, s, R, rfl, by rw [r2.length]; exact h⟩
  case str z =>
    cases r1
    exact ⟨_, _, rfl, ⟨h.1, rfl⟩, B, .int z.length, S, s, R, rfl, h.2⟩
/-- int of a whole number, of a truth -/
def dInt : DCall := fun ds S Q => one ds fun x => match x with
  | .int i => Q (.int i) S
  | .bl k => Q (.int (if k then 1 else 0)) S
  | _ => False
theorem b_int : BOk c (fun xs H Q => (∃ i, xs = [.int i] ∧ Q (.int i) H) ∨ ∃ k, xs = [.bl k] ∧ Q (.int (if k then 1 else 0)) H) dInt := fun Bl B G σ H ds vs S Q s R r h => by
  obtain ⟨v, d, e, r1, h⟩ := one_get r h
  cases d <;> first | exact False.elim h | skip
  case int i =>
    cases r1
    exact .inl ⟨i, e, B, .int _, S, s, R, rfl, h⟩
  case bl i =>
    cases r1
    exact .inr ⟨i, e, B, .int _, S, s, R, rfl, h⟩
/-- tuple(x), list(x) -/
def dTuple : DCall := fun ds S Q => one ds fun x => match x with
  | .tup ds => Q (.tup ds) S
  | x => asQ x S fun ds => Q (.tup ds) S
theorem b_tuple : BOk c (fun xs H Q => ∃ p ys, xs = [.ref p] ∧ ((SqL c.X.K H p ys ∧ ∀ l, H l = none → Q (.ref l) (upd H l (.tup ys))) ∨ (SqT c.X.K H p ys ∧ Q (.ref p) H))) dTuple := fun Bl B G σ H ds vs S Q s R r h => by
  obtain ⟨v, d, e, r1, h⟩ := one_get r h
  subst e
  have gen : (asQ d S fun ds => Q (.tup ds) S) → ∃ p ys, [v] = [.ref p] ∧ ((SqL c.X.K H p ys ∧ ∀ l, H l = none → Post c Bl G σ Q (.ref l) (upd H l (.tup ys))) ∨ (SqT c.X.K H p ys ∧ Post c Bl G σ Q (.ref p) H)) := fun h => by
    obtain ⟨a, vs, ds, e, h1, r2, q⟩ := asQ_get R r1 h
    subst e
    exact ⟨a, vs, rfl, .inl ⟨h1, fun p hp => tup_ok s R r2 q p hp⟩⟩
  cases d <;> first | exact gen h | skip
  case tup ds =>
    obtain ⟨a, vs, e, h1, r2⟩ := r1
    subst e
    exact ⟨a, vs, rfl, .inr ⟨sameT R.sub h1, B, .tup ds, S, s, R, ⟨a, vs, rfl, h1, r2⟩, h⟩⟩
def dList : DCall := fun ds S Q => one ds fun x => match x with
  | .tup ds => mk ds S Q
  | x => asQ x S fun ds => mk ds S Q
theorem b_list : BOk c (fun xs H Q => ∃ p ys, xs = [.ref p] ∧ (SqL c.X.K H p ys ∨ SqT c.X.K H p ys) ∧ ∀ l, H l = none → Q (.ref l) (upd H l (.lst ys))) dList := fun Bl B G σ H ds vs S Q s R r h => by
  obtain ⟨v, d, e, r1, h⟩ := one_get r h
  subst e
  have gen : (asQ d S fun ds => mk ds S Q) → ∃ p ys, [v] = [.ref p] ∧ (SqL c.X.K H p ys ∨ SqT c.X.K H p ys) ∧ ∀ l, H l = none → Post c Bl G σ Q (.ref l) (upd H l (.lst ys)) := fun h => by
    obtain ⟨a, vs, ds, e, h1, r2, q⟩ := asQ_get R r1 h
    subst e
    exact ⟨a, vs, rfl, .inl h1, fun p hp => mk_ok s R r2 q p hp⟩
  cases d <;> first | exact gen h | skip
  case tup ds =>
    obtain ⟨a, vs, e, h1, r2⟩ := r1
    subst e
    exact ⟨a, vs, rfl, .inr (sameT R.sub h1), fun p hp => mk_ok s R r2 h p hp⟩
def dAll : DCall := fun ds S Q => one ds fun x => asQ x S fun ds => ∃ ns : List Bool, ds = ns.map D.bl ∧ Q (.bl (ns.all id)) S
theorem b_all : BOk c (rAll c.X.K) dAll := fun Bl B G σ H ds vs S Q s R r h => by
  obtain ⟨v, d, e, r1, h⟩ := one_get r h
  subst e
  obtain ⟨a, vs, ds, e, h1, r2, ns, e2, q⟩ := asQ_get R r1 h
  subst e; subst e2
  rw [Reps.bls r2] at h1
  exact ⟨a, ns, rfl, h1, B, .bl _, S, s, R, rfl, q⟩
/-- isinstance of plain data against a built-in class -/
def tyN : D → Option String
  | .non => some "NoneType"
  | .bl _ => some "bool"
  | .int _ => some "int"
  | .str _ => some "str"
  | .tup _ => some "tuple"
  | .lst _ => some "list"
  | .slst _ => some "list"
  | .dct _ => some "dict"
  | _ => none
theorem tyN_ok {B H : Hp} (s : Same B H) {d : D} {v : V} {n : String} (r : Rep c.X.K B d v) (h : tyN d = some n) : TyX c.X.K H v (.type n) := by
  cases d <;> first | (cases h; done) | skip
  case non => cases h; cases r; exact .base .non
  case bl => cases h; cases r; exact .base (.bl _)
  case int => cases h; cases r; exact .base (.int _)
  case str => cases h; cases r; exact .base (.str _)
  case tup ds =>
    cases h
    obtain ⟨a, vs, e, h1, _⟩ := r
    subst e
    exact .base (.tup (s _ _ h1))
  case lst ds =>
    cases h
    obtain ⟨a, vs, e, h1, _⟩ := r
    subst e
    exact .base (.lst (s _ _ h1))
  case slst ds =>
    cases h
    obtain ⟨a, vs, e, h1, _⟩ := r
    subst e
    rcases h1 with (h1 | ⟨o, h1⟩) | ⟨o, _, _, h1, h2, _⟩
    · exact .base (.lst (s _ _ h1))
    · exact .base (.frz (s _ _ h1))
    · exact .kList h1 h2
  case dct =>
    cases h
    obtain ⟨a, vs, e, h1, _⟩ := r
    subst e
    exact .base (.dK (s _ _ h1))
def dIsi : DCall := fun ds S Q => two ds fun x t => match t with
  | .ty n => (match x with
    | .ref a => ∃ (k : Nat) (ds : List D) (r : Bool), S[k]? = some (a, Cel.lst ds) ∧ kitB "list" n = some r ∧ Q (.bl r) S
    | x => ∃ m r, tyN x = some m ∧ kitB m n = some r ∧ Q (.bl r) S)
  | _ => False
theorem b_isi : BOk c (rIsi c.X.K) dIsi := fun Bl B G σ H ds vs S Q s R r h => by
  obtain ⟨v, d, u, t, e, r1, r2, h⟩ := two_get r h
  subst e
  cases t <;> first | exact False.elim h | skip
  case ty n =>
    cases r2
    have gen : (∃ m r, tyN d = some m ∧ kitB m n = some r ∧ Q (.bl r) S) → rIsi c.X.K [v, .ty n] H (Post c Bl G σ Q) := fun ⟨m, r, h1, h2, q⟩ =>
      ⟨v, .ty n, .type m, .type n, r, rfl, .ty n, tyN_ok R.sub r1 h1, kit_ty h2, B, .bl r, S, s, R, rfl, q⟩
    cases d <;> first | exact gen h | skip
    case ref a =>
      obtain ⟨k, ds, kr, e, h2, q⟩ := h
      obtain ⟨_, vs, e1, _⟩ := R.cel (a, .lst ds) (List.mem_of_getElem? e)
      cases r1
      exact ⟨_, .ty n, .type "list", .type n, kr, rfl, .ty n, .base (.lst e1), kit_ty h2, B, .bl kr, S, s, R, rfl, q⟩

/-! ### defs -/
/-- a def's promise by data: arguments, cells, what is wanted back, what is wanted of a refusal -/
abbrev FSp := List D → Sto → QD → EXT → Prop
def lift (K : Frag) (fs : FSp) : Sp := fun vs H Q E => ∃ (B : Hp) (ds : List D) (S : Sto) (Q' : QD) (EX : EXT), RelH K B B S H ∧ Reps K B ds vs ∧ fs ds S Q' EX ∧
  (∀ (v : V) (H' B' : Hp) (d : D) (S' : Sto), RelH K B B' S' H' → Rep K B' d v → Q' d S' → Q v H') ∧ ∀ cls d H', XD K B EX cls d H' → E cls d H'
/-- the module as it stands -/
structure Mo where
  P : Program
  w : World
  K : Frag
  mg : Str → Option Value
  base : Heap
abbrev _root_.L2.Cx.mo (X : Cx) : Mo := ⟨X.prog, X.w, X.K, X.mg, X.base⟩
/-- a def that stands by a name, its promise, with room to call it -/
def FnD (m : Mo) (x : Str) (k : Nat) (dvs : List D) (fs : FSp) : Prop := ∃ (f : Addr) (fd : FuncData) (ps : List Str) (ds : List Value) (vs : List V), FnOk m.P m.w m.K m.mg m.base (L2.CX m.P m.w) k f fd ps (lift m.K fs) ∧ m.mg x = some (.ref f) ∧ PySem.W.keepIn m.K (.ref f) = true ∧ Binds m.K fd ps ds ∧ Vals vs ds ∧ ∀ B, Reps m.K B dvs vs
theorem xw_up {c : CD} {B H H' : Hp} {G : Loc} {S : Sto} {σ : L2.St} {EX : EXT} {cls : Value} {d : Option Addr} (R : c.R B G S σ H) (k : ∀ n fs S', EX n fs S' → c.EX G n fs S') (h : XD c.X.K B EX cls d H') : XW c.X.K c.B0 c.EX cls d σ H' := by
  obtain ⟨n, C, fs, S', B', cn, e, h1, q⟩ := h
  refine ⟨n, C, fs, S', B', G, cn, e, ?_, k _ _ _ q⟩
  rcases h1 with ⟨e1, e2, R'⟩ | ⟨dd, e1, ne, R'⟩
  · exact .inl ⟨e1, e2, R.up R'.lo ⟨R.lo.trans R'.lo, R'.sub, R'.cel, R'.nd⟩⟩
  · exact .inr ⟨dd, e1, ne, R.up R'.lo ⟨R.lo.trans R'.lo, R'.sub, R'.cel, R'.nd⟩⟩
/-- f(e, ..) -/
theorem w_call [Calm c] {k : Nat} {dvs : List D} {fs : FSp} {Q : QD} (F : FnD c.X.mo x k dvs fs) (hk : k ≤ c.k) (hg : Gl c.X x) (hdb : (x == ("__debug__" : Str)) = false) (he : starEach (e :: es) c.X.env = (false, eval e c.X.env) :: starEach es c.X.env) (hpl : (backTo pos (starEach es c.X.env)).any (·.1) = false)
    (h : WA c (e :: es) G S fun ds S1 => fs (ds ++ dvs) S1 Q (c.EX G)) : W c (.Call (.Name x p) (e :: es) [] pos) G S Q := fun B σ H R => by
  obtain ⟨f, fd, ps, dd, vs0, hf, hm, hkp, hb, hd, hr⟩ := F
  refine tE_of (pe_callSD hf (CD.room hk) hg hm hkp hb hd (passAt c.tk) (pa_self (e :: es)) hdb he hpl) ?_
  refine tA_mono (h B σ H R) fun vs H1 ⟨B1, ds, S1, s1, R1, r1, h1⟩ => ?_
  exact ⟨B1, ds ++ dvs, S1, Q, c.EX G, ⟨Same.refl _, R1.sub, R1.cel, R1.nd⟩, r1.append (hr B1), h1, fun v H' B' d S' R' r' q => ⟨B', d, S', s1.trans R'.lo, R1.up R'.lo ⟨R1.lo.trans R'.lo, R'.sub, R'.cel, R'.nd⟩, r', q⟩, fun cls d H' q => xw_up R1 (fun _ _ _ z => z) q⟩
/-! ### statements -/
variable {st : Stmt} {rest : List Stmt} {E : DE}
theorem ws_nil (h : E.nx G S) : WSs c [] G S E := fun B σ H R => tSs_of pss_nil ⟨B, G, S, Same.refl _, R, h⟩
theorem ws_cons (h : WS c st G S { E with nx := fun G' S' => WSs c rest G' S' E }) : WSs c (st :: rest) G S E := fun B σ H R => by
  refine tSs_of (pss_cons (ps_self st) (pss_self rest)) ?_
  refine tS_mono (h B σ H R) ⟨fun σ' H' ⟨B1, G1, S1, s1, R1, h1⟩ => ?_, fun _ _ q => q, fun _ _ q => q, fun _ _ q => q⟩
  exact tSs_mono (h1 B1 σ' H' R1) (endsLe s1 (fun _ _ q => q) (fun _ _ q => q) (fun _ _ q => q) fun _ _ q => q)
theorem ws_expr (hs : swapsWith e none pos.line c.X.env = pure false) (h : W c e G S fun _ S1 => E.nx G S1) : WS c (.Expr e pos) G S E := fun B σ H R => by
  refine tS_of (ps_expr (pe_self e) hs) ?_
  exact tE_mono (h B σ H R) fun v H1 ⟨B1, d, S1, s1, R1, _, q⟩ => ⟨B1, G, S1, s1, R1, q⟩
theorem ws_ret (h : W c e G S E.rt) : WS c (.Return (some e) pos) G S E := fun B σ H R => by
  refine tS_of (ps_ret (pe_self e)) ?_
  exact tE_mono (h B σ H R) fun v H1 ⟨B1, d, S1, s1, R1, r1, q⟩ => ⟨B1, d, S1, s1, R1.toRelH, r1, q⟩
theorem ws_if {t : Expr} {as bs : List Stmt} (h : WT c t G S fun k S1 => (k = true → WSs c as G S1 E) ∧ (k = false → WSs c bs G S1 E)) : WS c (.If t as bs pos) G S E := fun B σ H R => by
  refine tS_of (ps_if (pt_self t) (pss_self as) (pss_self bs)) ?_
  refine tT_mono (h B σ H R) fun k H1 ⟨B1, S1, s1, R1, h1⟩ => ?_
  cases k with
  | true =>
    rw [if_pos rfl]
    exact tSs_mono (h1.1 rfl B1 σ H1 R1) (endsLe s1 (fun _ _ q => q) (fun _ _ q => q) (fun _ _ q => q) fun _ _ q => q)
  | false =>
    rw [if_neg Bool.false_ne_true]
    exact tSs_mono (h1.2 rfl B1 σ H1 R1) (endsLe s1 (fun _ _ q => q) (fun _ _ q => q) (fun _ _ q => q) fun _ _ q => q)
/-! ### targets -/
theorem wg_name {d : D} {Q : Loc → Sto → Prop} (i : Nat) (hi : c.X.N[i]? = some x) (hx : L2.Loc c.X.env.scope x) (hf : c.X.fn x = true ∨ c.X.env.scope.names.lookup x = some .local) (hG : i < G.length) (q : Q (G.set i (some d)) S) : WG c (.Name x pos) d G S Q := fun B σ H v R r =>
  tG_of (pg_name c.nd hi hx hf) ⟨B, _, S, Same.refl _, R.set hG r, q⟩
theorem wgs_nil {Q : Loc → Sto → Prop} (q : Q G S) : WGs c [] [] G S Q := fun B σ H vs R r => by
  cases r
  exact tGs_of pgs_nil ⟨rfl, B, G, S, Same.refl _, R, q⟩
theorem wgs_cons {t : Expr} {ts : List Expr} {d : D} {ds : List D} {Q : Loc → Sto → Prop} (hs : (assignEach (t :: ts) c.X.env).map (·.2) = assign t c.X.env :: (assignEach ts c.X.env).map (·.2)) (h : WG c t d G S fun G1 S1 => WGs c ts ds G1 S1 Q) : WGs c (t :: ts) (d :: ds) G S Q := fun B σ H vs R r => by
  obtain ⟨v, r2, e, h1, h2⟩ := r
  subst e
  refine tGs_of (pgs_cons (pg_self t) (pgs_self ts) hs) ?_
  refine ⟨v, r2, rfl, tG_mono (h B σ H v R h1) fun σ' H' ⟨B1, G1, S1, s1, R1, h3⟩ => ?_⟩
  exact tGs_mono (h3 B1 σ' H' r2 R1 (Reps.mono s1 _ _ h2)) fun _ _ q => q.le s1 fun _ _ q => q
theorem wg_tup [Calm c] {ts : List Expr} {j : Nat} {ds : List D} {Q : Loc → Sto → Prop} (hn : (assignEach ts c.X.env).length = ds.length) (hst : (assignEach ts c.X.env).findIdx? (·.1) = none) (h : WGs c ts ds G S Q) : WG c (.Tuple ts j pos) (.tup ds) G S Q := fun B σ H v R r => by
  obtain ⟨a, vs, e, h1, r1⟩ := r
  subst e
  refine tG_of (pg_tup (Calm.calm (c := c)) (pgs_self ts) hn hst) ⟨a, vs, rfl, sameT R.sub h1, r1.length, ?_⟩
  exact h B σ H vs R r1
/-- name = e -/
theorem ws_set {p2 : Pos} (i : Nat) (hi : c.X.N[i]? = some x) (hx : L2.Loc c.X.env.scope x) (hf : c.X.fn x = true ∨ c.X.env.scope.names.lookup x = some .local) (hG : i < G.length) (hs : swapsWith e (some (.Name x p2)) pos.line c.X.env = pure false)
    (h : W c e G S fun d S1 => E.nx (G.set i (some d)) S1) : WS c (.Assign [.Name x p2] e pos) G S E := fun B σ H R => by
  refine tS_of (ps_set c.nd hi hx (pe_self e) hs hf) ?_
  exact tE_mono (h B σ H R) fun v H1 ⟨B1, d, S1, s1, R1, r1, q⟩ => ⟨B1, _, S1, s1, R1.set hG r1, q⟩
/-- target = e -/
theorem ws_asg {tg : Expr} (hs : swapsWithSole [tg] e pos.line c.X.env = pure false) (hw : swappedStores [tg] e c.X.env = pure none) (h1 : (assignEach [tg] c.X.env).map (·.2) = [assign tg c.X.env])
    (h : W c e G S fun d S1 => WG c tg d G S1 E.nx) : WS c (.Assign [tg] e pos) G S E := fun B σ H R => by
  refine tS_of (ps_asg (pe_self e) (pg_self tg) hs hw h1) ?_
  refine tE_mono (h B σ H R) fun v H1 ⟨B1, d, S1, s1, R1, r1, h2⟩ => ?_
  exact tG_mono (h2 B1 σ H1 v R1 r1) fun _ _ q => q.le s1 fun _ _ q => q
def three (ds : List D) (P : D → D → D → Prop) : Prop := match ds with
  | [d, e, f] => P d e f
  | _ => False
/-- xs[i] = e, xs a list that is written -/
theorem wg_sub {o i : Expr} {d : D} {Q : Loc → Sto → Prop} (ha : ∀ v, assign (.Subscript o i pos) c.X.env v = (do
      let ov ← holding [v] (eval o c.X.env)
      let iv ← holding [v, ov] (eval i c.X.env)
      standAt pos
      holding [v, ov, iv] (setItem ov iv v)
      release [v, ov, iv] []))
    (h : W c o G S fun x S1 => W c i G S1 fun y S2 => ∃ (a : Addr) (k : Nat) (ds : List D) (z : Int) (j : Nat), x = .ref a ∧ y = .int z ∧ S2[k]? = some (a, Cel.lst ds) ∧ ixN ds.length z = some j ∧ Q G (S2.set k (a, Cel.lst (ds.set j d)))) : WG c (.Subscript o i pos) d G S Q := fun B σ H v R r => by
  refine tG_of (pg_sub (pe_self o) (pe_self i) set_list ha) ?_
  refine tE_mono (h B σ H R) fun vx H1 ⟨B1, x, S1, s1, R1, r1, h1⟩ => ?_
  refine tE_mono (h1 B1 σ H1 R1) fun vy H2 ⟨B2, y, S2, s2, R2, r2, a, k, ds, z, j, e1, e2, hk, hj, q⟩ => ?_
  subst e1; subst e2
  cases r1; cases r2
  obtain ⟨_, vs, hv, rv⟩ := R2.cel (a, .lst ds) (List.mem_of_getElem? hk)
  refine ⟨a, vs, z, j, rfl, rfl, hv, by rw [rv.length]; exact hj, B2, G, _, s1.trans s2, R2.write (c' := Cel.lst (ds.set j d)) hk ⟨_, upd_same, ?_⟩, q⟩
  exact Reps.set (Rep.mono (s1.trans s2) d v r) j rv
/-! ### while -/
theorem ws_while {t : Expr} {body : List Stmt} (hp : PassesOwn (model c.X.prog c.X.w) c.X.A c.X.env c.X.xe) (Iv : Nat → Loc → Sto → Prop) (m0 : Nat) (h0 : Iv m0 G S)
    (h : ∀ m G S, Iv m G S → WT c t G S fun k S1 => (k = true → WSs c body G S1 { E with nx := fun G' S' => ∃ m', m' < m ∧ Iv m' G' S', ct := fun G' S' => ∃ m', m' < m ∧ Iv m' G' S', bk := E.nx }) ∧ (k = false → E.nx G S1)) : WS c (.While t body [] pos) G S E := fun B σ H R => by
  refine tS_of (ps_while hp (pt_self t) (pss_self body)) ?_
  refine ⟨fun m σ H => ∃ B' G S, Same B B' ∧ c.R B' G S σ H ∧ Iv m G S, ⟨m0, B, G, S, Same.refl _, R, h0⟩, fun m σ H ⟨B', G, S, s, R, hi⟩ => ?_⟩
  refine tT_mono (h m G S hi B' σ H R) fun k H1 ⟨B1, S1, s1, R1, h1⟩ => ?_
  cases k with
  | true =>
    rw [if_pos rfl]
    refine ⟨PostS c B fun G' S' => ∃ m', m' < m ∧ Iv m' G' S', fun σ' H' ⟨B2, G2, S2, s2, R2, m', hm, hi2⟩ => ⟨m', hm, B2, G2, S2, s2, R2, hi2⟩, ?_⟩
    exact tSs_mono (h1.1 rfl B1 σ H1 R1) (endsLe (s.trans s1) (fun _ _ q => q) (fun _ _ q => q) (fun _ _ q => q) fun _ _ q => q)
  | false =>
    rw [if_neg Bool.false_ne_true]
    exact ⟨B1, G, S1, s.trans s1, R1, h1.2 rfl⟩
/-! ### for -/
theorem ws_for [Calm c] {tg iter : Expr} {body : List Stmt} (hp : PassesOwn (model c.X.prog c.X.w) c.X.A c.X.env c.X.xe) (hs : ∀ x, foldedSetIterable iter c.X.env x = pure x)
    (h : WI c tg iter G S fun ds S1 => ∃ Iv : Nat → Loc → Sto → Prop, Iv 0 G S1 ∧ (∀ i d G S, ds[i]? = some d → Iv i G S → WG c tg d G S fun G2 S2 => WSs c body G2 S2 { E with nx := Iv (i + 1), ct := Iv (i + 1), bk := E.nx }) ∧ ∀ G S, Iv ds.length G S → E.nx G S) : WS c (.For tg iter body [] pos) G S E := fun B σ H R => by
  refine tS_of (ps_for hp (Calm.calm (c := c)) (pi_self tg iter) (pg_self tg) (pss_self body) hs) ?_
  refine tI_mono (h B σ H R) fun J H1 ⟨B1, ds, S1, s1, R1, y, Iv, h0, hb, he⟩ => ?_
  refine ⟨fun i m σ H => m = ds.length - i ∧ i ≤ ds.length ∧ ∃ B' G S, Same B1 B' ∧ c.R B' G S σ H ∧ Iv i G S, ⟨ds.length, by simp, Nat.zero_le _, B1, G, S1, Same.refl _, R1, h0⟩, ?_⟩
  rintro i m σ H ⟨rfl, hi, B', G', S', s', R', hI⟩
  obtain ⟨y1, y2, y3⟩ := y c.B0 B' G' S' σ H s' R' i
  by_cases hlt : i < ds.length
  · refine .inr ⟨y1 hlt, PostS c B1 (Iv (i + 1)), fun σ2 H2 ⟨B2, G2, S2, s2, R2, h2⟩ => ⟨ds.length - (i + 1), by omega, rfl, hlt, B2, G2, S2, s2, R2, h2⟩, fun x H2 hx => ?_⟩
    obtain ⟨B2, s2, R2, r2⟩ := y2 x H2 hx _ (List.getElem?_eq_getElem hlt)
    refine tG_mono (hb i _ G' S' (List.getElem?_eq_getElem hlt) hI B2 σ H2 x R2 r2) fun σ3 H3 ⟨B3, G3, S3, s3, R3, h3⟩ => ?_
    have sB : Same B1 B3 := (s'.trans s2).trans s3
    refine tSs_mono (h3 B3 σ3 H3 R3) ⟨fun _ _ q => q.le sB fun _ _ q => q, fun v H ⟨B4, d, S, s4, R4, r4, q⟩ => ⟨B4, d, S, (s1.trans sB).trans s4, R4, r4, q⟩, fun _ _ q => q.le (s1.trans sB) fun _ _ q => q, fun _ _ q => q.le sB fun _ _ q => q⟩
  · have e : i = ds.length := by omega
    subst e
    exact .inl ⟨y3 rfl, B', G', S', s1.trans s', R', he G' S' hI⟩
end
end DL
end

section
set_option autoImplicit false
set_option maxRecDepth 100000
set_option maxHeartbeats 4000000
namespace DL
open PySem PySem.Spec PyProof.Rows L2
open PySem.W (Frag)
/-! ### what is walked -/
/-- a list, a tuple, a text: by its value -/
def iSeq (K : Frag) (tl : TE) : TI := fun σ H R => tl σ H fun x H1 => (∃ a, x = .ref a ∧ (∃ xs, SqL K H1 a xs) ∧ R (Itl K a) H1) ∨ (∃ a, x = .ref a ∧ (∃ xs, SqT K H1 a xs) ∧ R (Itt K a) H1) ∨ ∃ z, x = .str z ∧ R (Its z) H1
theorem pi_seq {X : Cx} {tg l : Expr} {tl : TE} (hl : PE X l tl) : PI X tg l (iSeq X.K tl) := by
  refine ⟨fun pins s σ H R I h => ?_⟩
  refine thn (hl.run pins s σ H _ I h) fun v s1 ⟨x, H1, I1, r1, q1⟩ => ?_
  rcases q1 with ⟨a, e, hq, q⟩ | ⟨a, e, hq, q⟩ | ⟨z, e, q⟩
  · exact seq_list I1 r1 e hq q
  · exact seq_tup I1 r1 e hq q
  · exact seq_str I1 r1 e q
where
  seq_list {X : Cx} {tg : Expr} {pins : List (Addr × Obj)} {σ : L2.St} {H : Hp} {s : Shared} {R : It → Hp → Prop} {x : V} {v : Value} {a : Addr} (I : L2.Inv X pins σ H s) (r : RelV x v) (e : x = .ref a) (hq : ∃ xs, SqL X.K H a xs) (q : R (Itl X.K a) H) :
      wpAny (model X.prog X.w) X.A (pyIter v) (PIE X pins σ tg R) X.xe s := by
    subst e
    cases r
    obtain ⟨xs, hq⟩ := hq
    obtain ⟨its, rv, p, hz⟩ := I.list hq
    have hN := Nat.le_refl s.heap.objs.size
    refine wpAny_pyIter_list p.isList ⟨_, [s.heap.objs.size], _, _, H, rfl, I.kept (t' := s.toks) (fun b o e => Heap.get?_push_of_some _ e), turn_list a _, ⟨_, Heap.get?_push_size _ rfl, rfl, rfl⟩, fun b hb => ?_, q⟩
    rw [List.mem_singleton] at hb
    subst hb
    exact I.fpOk hN (I.hok.fresh hN)
  seq_tup {X : Cx} {tg : Expr} {pins : List (Addr × Obj)} {σ : L2.St} {H : Hp} {s : Shared} {R : It → Hp → Prop} {x : V} {v : Value} {a : Addr} (I : L2.Inv X pins σ H s) (r : RelV x v) (e : x = .ref a) (hq : ∃ xs, SqT X.K H a xs) (q : R (Itt X.K a) H) :
      wpAny (model X.prog X.w) X.A (pyIter v) (PIE X pins σ tg R) X.xe s := by
    subst e
    cases r
    obtain ⟨xs, hq⟩ := hq
    obtain ⟨its, rv, p, hz⟩ := I.tuple hq
    have hN := Nat.le_refl s.heap.objs.size
    refine wpAny_pyIter_tuple (show s.heap.IsTuple a its.toArray from p) ⟨_, [s.heap.objs.size], _, _, H, rfl, I.kept (t' := s.toks) (fun b o e => Heap.get?_push_of_some _ e), turn_tuple a _, ⟨_, Heap.get?_push_size _ rfl, rfl, rfl⟩, fun b hb => ?_, q⟩
    rw [List.mem_singleton] at hb
    subst hb
    exact I.fpOk hN (I.hok.fresh hN)
  seq_str {X : Cx} {tg : Expr} {pins : List (Addr × Obj)} {σ : L2.St} {H : Hp} {s : Shared} {R : It → Hp → Prop} {x : V} {v : Value} {z : Str} (I : L2.Inv X pins σ H s) (r : RelV x v) (e : x = .str z) (q : R (Its z) H) :
      wpAny (model X.prog X.w) X.A (pyIter v) (PIE X pins σ tg R) X.xe s := by
    subst e
    obtain ⟨t, rfl⟩ := r
    cases ha : z.cps.all (· < 128) with
    | false => exact wpAny_pyIter_wide ha (pi_one (tk := s.toks) I _ (turn_str _ z t "str_iterator" (.inr rfl)) ⟨_, Heap.get?_push_size _ rfl, rfl, rfl⟩ q)
    | true => exact wpAny_pyIter_ascii ha (pi_one (tk := s.toks) I _ (turn_str _ z t "str_ascii_iterator" (.inl rfl)) ⟨_, Heap.get?_push_size _ rfl, rfl, rfl⟩ q)
section
variable {c : CD} {G : Loc} {S : Sto} {e a b : Expr} {es : List Expr} {pos p : Pos} {x : Str} {tg : Expr}
/-- the signs of a text, each a text -/
def signs (z : Str) : List D := z.cps.toList.map fun k => D.str ⟨#[k]⟩
/-- what a datum gives when it is walked: it must not be written meanwhile -/
def dIter (x : D) (P : List D → Prop) : Prop := match x with
  | .lst ds => P ds
  | .slst ds => P ds
  | .tup ds => P ds
  | .str z => P (signs z)
  | _ => False
theorem yields_list {B0 : Hp} {a : Addr} {ds : List D} {vs : List V} (h : SqL c.X.K B0 a vs) (r : Reps c.X.K B0 ds vs) : Yields c B0 (Itl c.X.K a) ds := fun K0 B G S σ H s R i => by
  have hH : SqL c.X.K H a vs := R.sub.seq (s.seq h)
  refine ⟨fun hi => ?_, fun x H' y d hd => ?_, fun hi => ⟨vs, hH, by rw [r.length]; exact Nat.le_of_eq hi.symm⟩⟩
  · obtain ⟨v, hv, _⟩ := r.get (List.getElem?_eq_getElem hi)
    exact ⟨vs, v, hH, hv⟩
  · obtain ⟨e1, hy⟩ := y
    subst e1
    obtain ⟨v, hv, rv⟩ := r.get hd
    have hx := hy vs hH
    rw [hv] at hx
    cases hx
    exact ⟨B, Same.refl _, R, Rep.mono s _ _ rv⟩
theorem yields_tup {B0 : Hp} {a : Addr} {ds : List D} {vs : List V} (h : SqT c.X.K B0 a vs) (r : Reps c.X.K B0 ds vs) : Yields c B0 (Itt c.X.K a) ds := fun K0 B G S σ H s R i => by
  have hH : SqT c.X.K H a vs := sameS R.sub (sameS s h)
  refine ⟨fun hi => ?_, fun x H' y d hd => ?_, fun hi => ⟨vs, hH, by rw [r.length]; exact Nat.le_of_eq hi.symm⟩⟩
  · obtain ⟨v, hv, _⟩ := r.get (List.getElem?_eq_getElem hi)
    exact ⟨vs, v, hH, hv⟩
  · obtain ⟨e1, hy⟩ := y
    subst e1
    obtain ⟨v, hv, rv⟩ := r.get hd
    have hx := hy vs hH
    rw [hv] at hx
    cases hx
    exact ⟨B, Same.refl _, R, Rep.mono s _ _ rv⟩
theorem yields_str {B0 : Hp} {z : Str} : Yields c B0 (Its z) (signs z) := fun K0 B G S σ H s R i => by
  have hl : (signs z).length = z.cps.size := by unfold signs; rw [List.length_map, Array.length_toList]
  refine ⟨fun hi => by rw [hl] at hi; exact hi, fun x H' y d hd => ?_, fun hi => by rw [hl] at hi; exact Nat.le_of_eq hi.symm⟩
  obtain ⟨e1, k, hk, e2⟩ := y
  subst e1; subst e2
  have hd' : (signs z)[i]? = some (D.str ⟨#[k]⟩) := by
    unfold signs
    rw [List.getElem?_map, Array.getElem?_toList, hk]
    rfl
  rw [hd] at hd'
  cases hd'
  exact ⟨B, Same.refl _, R, rfl⟩
theorem wi_seq {Q : List D → Sto → Prop} (h : W c e G S fun x S1 => dIter x fun ds => Q ds S1) : WI c tg e G S Q := fun B σ H R => by
  refine tI_of (pi_seq (pe_self e)) ?_
  refine tE_mono (h B σ H R) fun v H1 ⟨B1, x, S1, s1, R1, r1, h1⟩ => ?_
  cases x <;> first | exact False.elim h1 | skip
  case lst ds =>
    obtain ⟨a, vs, e1, h2, r2⟩ := r1
    exact .inl ⟨a, e1, ⟨vs, .of (R1.sub _ _ h2)⟩, B1, ds, S1, s1, R1, yields_list (.of h2) r2, h1⟩
  case slst ds =>
    obtain ⟨a, vs, e1, h2, r2⟩ := r1
    exact .inl ⟨a, e1, ⟨vs, R1.sub.seq h2⟩, B1, ds, S1, s1, R1, yields_list h2 r2, h1⟩
  case tup ds =>
    obtain ⟨a, vs, e1, h2, r2⟩ := r1
    exact .inr (.inl ⟨a, e1, ⟨vs, sameT R1.sub h2⟩, B1, ds, S1, s1, R1, yields_tup (.of h2) r2, h1⟩)
  case str z =>
    cases r1
    exact .inr (.inr ⟨z, rfl, B1, signs z, S1, s1, R1, yields_str, h1⟩)
/-- lo, lo + 1, .. -/
def span (lo : Int) (n : Nat) : List D := (List.range n).map fun (k : Nat) => D.int (lo + (k : Int))
theorem span_len (lo : Int) (n : Nat) : (span lo n).length = n := by unfold span; rw [List.length_map, List.length_range]
theorem span_get {lo : Int} {n i : Nat} (h : i < n) : (span lo n)[i]? = some (D.int (lo + (i : Int))) := by
  unfold span
  rw [List.getElem?_map, List.getElem?_range h]
  rfl
theorem yields_range {B0 : Hp} {lo : Int} {n : Nat} : Yields c B0 (Itr lo n) (span lo n) := fun K0 B G S σ H s R i => by
  refine ⟨fun hi => by rw [span_len] at hi; exact hi, fun x H' y d hd => ?_, fun hi => by rw [span_len] at hi; exact Nat.le_of_eq hi.symm⟩
  obtain ⟨e1, e2⟩ := y
  subst e1; subst e2
  have hi : i < n := by
    have := (List.getElem?_eq_some_iff.mp hd).1
    rw [span_len] at this
    exact this
  rw [span_get hi] at hd
  cases hd
  exact ⟨B, Same.refl _, R, rfl⟩
def smallI (i : Int) : Prop := -(2 ^ 62) ≤ i ∧ i < 2 ^ 62
theorem wi_range1 {Q : List D → Sto → Prop} (hg : Gl c.X "range") (hm : c.X.mg "range" = none) (hs : starEach [a] c.X.env = [(false, eval a c.X.env)]) (h : WA c [a] G S fun ds S1 => one ds fun x => ∃ j, x = .int j ∧ smallI j ∧ Q (span 0 j.toNat) S1) : WI c tg (.Call (.Name "range" p) [a] [] pos) G S Q := fun B σ H R => by
  refine tI_of (pi_range1 hg hm (pa_self _) hs) ?_
  refine tA_mono (h B σ H R) fun vs H1 ⟨B1, ds, S1, s1, R1, r1, h1⟩ => ?_
  obtain ⟨v, d, e1, r2, j, e2, hj, q⟩ := one_get r1 h1
  subst e2
  cases r2
  exact ⟨j, e1, hj.1, hj.2, B1, _, S1, s1, R1, yields_range, q⟩
/-- pairs of a place and what stands there -/
def enumD (ds : List D) : List D := (List.range ds.length).map fun (k : Nat) => D.tup [.int (k : Int), ds.getD k .non]
theorem enum_len (ds : List D) : (enumD ds).length = ds.length := by unfold enumD; rw [List.length_map, List.length_range]
theorem enum_get {ds : List D} {i : Nat} {d : D} (h : ds[i]? = some d) : (enumD ds)[i]? = some (D.tup [.int (i : Int), d]) := by
  have hi : i < ds.length := (List.getElem?_eq_some_iff.mp h).1
  unfold enumD
  rw [List.getElem?_map, List.getElem?_range hi]
  show some (D.tup [.int (i : Int), ds.getD i .non]) = _
  rw [List.getD_eq_getElem?_getD, h]
  rfl
/-- a new pair at T -/
theorem pair_ok {K0 B : Hp} {G : Loc} {S : Sto} {σ : L2.St} {H : Hp} {T : Addr} {u w : V} {d e : D} (R : Rel c.X.K K0 B G S σ H) (hT : H T = none) (ru : Rep c.X.K B d u) (rw' : Rep c.X.K B e w) :
    ∃ B', Same B B' ∧ Rel c.X.K K0 B' G S σ (upd H T (.tup [u, w])) ∧ Rep c.X.K B' (.tup [d, e]) (.ref T) := by
  have hb := R.bnone hT
  have s := same_upd (o := HO.tup [u, w]) hb
  exact ⟨_, s, R.laid hT, T, [u, w], rfl, upd_same, u, [w], rfl, Rep.mono s _ _ ru, w, [], rfl, Rep.mono s _ _ rw', rfl⟩
/-! ### comprehensions -/
/-- the block of a comprehension as a context -/
def blkC (c : CD) (scope : Scope) (s : Shared) (H : Hp) (C : Addr) (cl : List (Str × Addr)) (fp : List Addr) : CD where
  X := c.X.blk s H scope (compEnvC scope cl C c.X.env) fp
  B0 := c.B0
  EX := fun _ _ _ _ => False
  k := c.k
  tk := fun u s' x => by
    obtain ⟨_, _, _, _, _, _, _, _, _, _, _, _, _, _, _, _, z⟩ := x
    obtain ⟨_, _, _, _, _, _, _, _, _, z⟩ := z
    exact z
  hr := c.hr
  nd := c.nd
  sr := ⟨c.sr.ns, c.sr.tree, c.sr.top⟩
instance calm_blk {c : CD} [q : Calm c] {scope : Scope} {s : Shared} {H : Hp} {C : Addr} {cl : List (Str × Addr)} {fp : List Addr} : Calm (blkC c scope s H C cl fp) := ⟨q.calm, q.hd⟩
def wipeG (G : Loc) : List Nat → Loc
  | [] => G
  | v :: vs => (wipeG G vs).set v none
theorem wipeG_len (G : Loc) : ∀ vs, (wipeG G vs).length = G.length
  | [] => rfl
  | v :: vs => by unfold wipeG; rw [List.length_set, wipeG_len G vs]
theorem wipeG_some {G : Loc} {i : Nat} {d : D} : ∀ {vs : List Nat}, (wipeG G vs)[i]? = some (some d) → G[i]? = some (some d) ∧ i ∉ vs
  | [], h => ⟨h, by simp⟩
  | v :: vs, h => by
    unfold wipeG at h
    by_cases hi : v = i
    · subst hi
      by_cases hv : v < (wipeG G vs).length
      · rw [List.getElem?_set_self hv] at h; cases h
      · rw [List.getElem?_eq_none (by simpa using hv)] at h; cases h
    · rw [List.getElem?_set_ne hi] at h
      obtain ⟨h1, h2⟩ := wipeG_some h
      exact ⟨h1, by simp only [List.mem_cons, not_or]; exact ⟨fun e => hi e.symm, h2⟩⟩
theorem wipe_keep {σ : L2.St} {i : Nat} : ∀ {vs : List Nat}, i ∉ vs → (wipe σ vs)[i]? = σ[i]?
  | [], _ => rfl
  | v :: vs, h => by
    unfold wipe
    have h1 : v ≠ i := fun e => h (by rw [e]; exact List.mem_cons_self)
    rw [List.getElem?_set_ne h1]
    exact wipe_keep fun z => h (List.mem_cons_of_mem _ z)
theorem Rel.wiped {K : Frag} {B0 B : Hp} {G : Loc} {S : Sto} {σ : L2.St} {H : Hp} (R : Rel K B0 B G S σ H) (vs : List Nat) : Rel K B0 B (wipeG G vs) S (wipe σ vs) H :=
  ⟨R.toRelH, by rw [wipe_length, wipeG_len]; exact R.len, fun i d h => by
    obtain ⟨h1, h2⟩ := wipeG_some h
    rw [wipe_keep h2]
    exact R.loc i d h1⟩
theorem wipe_set {σ : L2.St} {i : Nat} {x : Option V} : ∀ {vs : List Nat}, i ∈ vs → wipe (σ.set i x) vs = wipe σ vs
  | [], h => by simp at h
  | v :: vs, h => by
    unfold wipe
    by_cases hm : i ∈ vs
    · rw [wipe_set hm]
    · have e : i = v := by
        rcases List.mem_cons.mp h with e | e
        · exact e
        · exact absurd e hm
      subst e
      apply List.ext_getElem?
      intro j
      by_cases hj : i = j
      · subst hj
        by_cases hl : i < σ.length
        · rw [List.getElem?_set_self (by rw [wipe_length, List.length_set]; exact hl), List.getElem?_set_self (by rw [wipe_length]; exact hl)]
        · rw [List.getElem?_eq_none (by rw [List.length_set, wipe_length, List.length_set]; omega), List.getElem?_eq_none (by rw [List.length_set, wipe_length]; omega)]
      · rw [List.getElem?_set_ne hj, List.getElem?_set_ne hj]
        exact wipe_other hj hm
where
  wipe_other {σ : L2.St} {i j : Nat} {x : Option V} (hj : i ≠ j) : ∀ {vs : List Nat}, i ∉ vs → (wipe (σ.set i x) vs)[j]? = (wipe σ vs)[j]?
    | [], _ => by
      unfold wipe
      rw [List.getElem?_set_ne hj]
    | v :: vs, h => by
      unfold wipe
      by_cases hv : v = j
      · subst hv
        by_cases hl : v < σ.length
        · rw [List.getElem?_set_self (by rw [wipe_length, List.length_set]; exact hl), List.getElem?_set_self (by rw [wipe_length]; exact hl)]
        · rw [List.getElem?_eq_none (by rw [List.length_set, wipe_length, List.length_set]; omega), List.getElem?_eq_none (by rw [List.length_set, wipe_length]; omega)]
      · rw [List.getElem?_set_ne hv, List.getElem?_set_ne hv]
        exact wipe_other hj fun z => h (List.mem_cons_of_mem _ z)
/-- the block's tests, elements: whatever block it is -/
def tEB (c : CD) (scope : Scope) (e : Expr) : TE := fun σ H Q => ∀ s H0 C cl fp, tE (blkC c scope s H0 C cl fp).X e σ H Q
def tTB (c : CD) (scope : Scope) (e : Expr) : TT := fun σ H Q => ∀ s H0 C cl fp, tT (blkC c scope s H0 C cl fp).X e σ H Q
def tTsB (c : CD) (scope : Scope) (ifs : List Expr) : TT := match ifs with
  | [] => tYes
  | [t] => tTB c scope t
  | _ => fun _ _ _ => False
theorem pts_all {scope : Scope} {s : Shared} {H0 : Hp} {C : Addr} {cl : List (Str × Addr)} {fp : List Addr} : ∀ ifs, PTs (blkC c scope s H0 C cl fp).X ifs (tTsB c scope ifs)
  | [] => pts_nil
  | [t] => pts_one ⟨fun pins s' σ H Q I h => h s H0 C cl fp pins s' I⟩
  | _ :: _ :: _ => ⟨fun _ _ _ _ _ _ h => False.elim h⟩
def WTsB (c : CD) (scope : Scope) (ifs : List Expr) (G : Loc) (S : Sto) (Q : Bool → Sto → Prop) : Prop := match ifs with
  | [] => Q true S
  | [t] => ∀ s H0 C cl fp, WT (blkC c scope s H0 C cl fp) t G S Q
  | _ => False
/-- a target of a comprehension: how it stores -/
def BindOk (c : CD) (scope : Scope) (tg : Expr) (own : List (Str × Nat)) (bind : D → Loc → (Loc → Prop) → Prop) : Prop := (∀ d G P P', bind d G P → (∀ G2, P G2 → P' G2) → bind d G P') ∧ ∃ g : TG, (∀ s H0 C cl fp, PG (blkC c scope s H0 C cl fp).X tg g) ∧
  ∀ (B : Hp) (d : D) (v : V) (G : Loc) (S : Sto) (σ : L2.St) (H : Hp) (Q : L2.St → Hp → Prop) (P : Loc → Prop), Rel c.X.K c.B0 B G S σ H → Rep c.X.K B d v → bind d G P → (∀ G2 σ2, Rel c.X.K c.B0 B G2 S σ2 H → wipe σ2 (own.map (·.2)) = wipe σ (own.map (·.2)) → P G2 → Q σ2 H) → g v σ H Q
/-- a slot that is there -/
def inG (G : Loc) (i : Nat) (P : Prop) : Prop := match G[i]? with
  | some _ => P
  | none => False
theorem inG_get {G : Loc} {i : Nat} {P : Prop} (h : inG G i P) : i < G.length ∧ P := by
  unfold inG at h
  split at h
  · rename_i e
    exact ⟨(List.getElem?_eq_some_iff.mp e).1, h⟩
  · exact False.elim h
theorem inG_of {G : Loc} {i : Nat} {P : Prop} (hi : i < G.length) (h : P) : inG G i P := by
  unfold inG
  rw [List.getElem?_eq_getElem hi]
  exact h
theorem inG_mono {G : Loc} {i : Nat} {P P' : Prop} (h : inG G i P) (k : P → P') : inG G i P' := by
  obtain ⟨h1, h2⟩ := inG_get h
  exact inG_of h1 (k h2)
@[reducible] def bind1 (i : Nat) (d : D) (G : Loc) (P : Loc → Prop) : Prop := inG G i (P (G.set i (some d)))
@[reducible] def bind2 (i j : Nat) (d : D) (G : Loc) (P : Loc → Prop) : Prop := match d with
  | .tup [x, y] => inG G i (inG G j (P ((G.set i (some x)).set j (some y))))
  | _ => False
theorem bind_name' {scope : Scope} {own : List (Str × Nat)} (i : Nat) (hi : c.X.N[i]? = some x) (hx : L2.Loc (relS scope c.X.env.scope) x) (hf : (scope.names.lookup x == some .cell) = true ∨ (relS scope c.X.env.scope).names.lookup x = some .local) (ho : i ∈ own.map (·.2)) : BindOk c scope (.Name x pos) own (bind1 i) := by
  refine ⟨fun d G P P' h k => inG_mono h (k _), gName i, fun s H0 C cl fp => pg_name c.nd hi hx hf, fun B d v G S σ H Q P R r h k => ?_⟩
  obtain ⟨h1, h2⟩ := inG_get h
  exact k _ _ (R.set h1 r) (wipe_set ho) h2
/-- the reading of a comprehension -/
theorem lc_read {elt iter : Expr} {ifs : List Expr} {scope : Scope} {own : List (Str × Nat)} {bind : D → Loc → (Loc → Prop) → Prop} {g : TG} {Q : QD} {B : Hp} {σ : L2.St} {H : Hp} (R : c.R B G S σ H)
    (hg : ∀ (B : Hp) (d : D) (v : V) (G : Loc) (S : Sto) (σ : L2.St) (H : Hp) (Q : L2.St → Hp → Prop) (P : Loc → Prop), Rel c.X.K c.B0 B G S σ H → Rep c.X.K B d v → bind d G P → (∀ G2 σ2, Rel c.X.K c.B0 B G2 S σ2 H → wipe σ2 (own.map (·.2)) = wipe σ (own.map (·.2)) → P G2 → Q σ2 H) → g v σ H Q)
    (h : WI c tg iter G S fun ds S1 => ∃ Iv : Nat → List D → Sto → Prop, Iv 0 [] S1 ∧
      (∀ i d acc S p, ds[i]? = some d → Iv i acc S → bind d (wipeG G (own.map (·.2))) fun G2 => WTsB c scope ifs G2 ((p, .lst acc) :: S) fun k S2 => ∃ S3, S2 = (p, .lst acc) :: S3 ∧ (k = true → ∀ s H0 C cl fp, W (blkC c scope s H0 C cl fp) elt G2 S2 fun y S4 => ∃ S5, S4 = (p, .lst acc) :: S5 ∧ acc.length < sizeLine ∧ Iv (i + 1) (acc ++ [y]) S5) ∧ (k = false → Iv (i + 1) acc S3)) ∧
      ∀ acc S, Iv ds.length acc S → mk acc S Q) :
    tLc (tI c.X tg iter) g (tTsB c scope ifs) (tEB c scope elt) (own.map (·.2)) σ H (Post c B G σ Q) := by
  refine tI_mono (h B σ H R) fun J H1 ⟨B1, ds, S1, s1, R1, y, Iv, h0, hb, he⟩ => ?_
  intro Dd hD
  -- the state between turns
  let Wd : Nat → Hp → Prop := fun i H => ∃ B' acc S, Same B1 B' ∧ c.R B' G ((Dd, .lst acc) :: S) σ H ∧ Iv i acc S
  have w0 : Wd 0 (upd H1 Dd (.lst [])) := ⟨B1, [], S1, Same.refl _, R1.cell (c := Cel.lst []) hD ⟨[], upd_same, rfl⟩, h0⟩
  refine ⟨fun i m H => m = ds.length - i ∧ i ≤ ds.length ∧ Wd i H, ⟨ds.length, by simp, Nat.zero_le _, w0⟩, ?_⟩
  rintro i m H ⟨rfl, hi, B', acc, S', s', R', hI⟩
  obtain ⟨y1, y2, y3⟩ := y c.B0 B' G ((Dd, .lst acc) :: S') σ H s' R' i
  by_cases hlt : i < ds.length
  · refine .inr ⟨y1 hlt, Wd (i + 1), fun H2 h2 => ⟨ds.length - (i + 1), by omega, rfl, hlt, h2⟩, fun x H2 hx => ?_⟩
    obtain ⟨B2, s2, R2, r2⟩ := y2 x H2 hx _ (List.getElem?_eq_getElem hlt)
    refine hg B2 _ x (wipeG G (own.map (·.2))) _ (wipe σ (own.map (·.2))) H2 _ _ (R2.wiped _) r2 (hb i _ acc S' Dd (List.getElem?_eq_getElem hlt) hI) fun G2 σ2 R3 hw h3 => ?_
    have hww : wipe (wipe σ (own.map (·.2))) (own.map (·.2)) = wipe σ (own.map (·.2)) := wipe_wipe _ _
    refine ⟨hw.trans hww, ?_⟩
    -- back to the frame as it is
    have back : ∀ {B4 : Hp} {S4 : Sto} {H4 : Hp}, Same B2 B4 → RelH c.X.K c.B0 B4 S4 H4 → c.R B4 G S4 σ H4 := fun {B4 S4 H4} s4 R4 => R2.up s4 R4
    have fin : ∀ {B4 : Hp} {H4 : Hp} {acc' : List D} {S5 : Sto}, Same B2 B4 → RelH c.X.K c.B0 B4 ((Dd, .lst acc') :: S5) H4 → Iv (i + 1) acc' S5 → Wd (i + 1) H4 := fun {B4 H4 acc' S5} s4 R4 hI => ⟨B4, acc', S5, (s'.trans s2).trans s4, back s4 R4, hI⟩
    have elem : ∀ {B4 : Hp} {S4 : Sto} {H4 : Hp}, Same B2 B4 → Rel c.X.K c.B0 B4 G2 S4 σ2 H4 → (∀ s H0 C cl fp, W (blkC c scope s H0 C cl fp) elt G2 S4 fun y S4 => ∃ S5, S4 = (Dd, .lst acc) :: S5 ∧ acc.length < sizeLine ∧ Iv (i + 1) (acc ++ [y]) S5) →
        tEB c scope elt σ2 H4 fun y H5 => ∃ acc, H5 Dd = some (.lst acc) ∧ acc.length < sizeLine ∧ Wd (i + 1) (upd H5 Dd (.lst (acc ++ [y]))) := fun {B4 S4 H4} s4 R4 hW s H0 C cl fp => by
      refine tE_mono (hW s H0 C cl fp B4 σ2 H4 R4) fun v H5 ⟨B5, d5, S5, s5, R5, r5, S6, e6, hz, hI5⟩ => ?_
      subst e6
      obtain ⟨_, vs, hv, rv⟩ := R5.cel (Dd, .lst acc) List.mem_cons_self
      have R6 : RelH c.X.K c.B0 B5 ((Dd, .lst acc) :: S6) H5 := R5.toRelH
      refine ⟨vs, hv, by rw [Reps.length rv]; exact hz, fin (s4.trans s5) (R6.write (k := 0) (c' := Cel.lst (acc ++ [d5])) rfl ⟨_, upd_same, Reps.append rv ⟨v, [], rfl, r5, rfl⟩⟩) hI5⟩
    have go : ∀ {B4 : Hp} {S4 : Sto} {H4 : Hp} (k : Bool), Same B2 B4 → Rel c.X.K c.B0 B4 G2 S4 σ2 H4 → (∃ S3, S4 = (Dd, .lst acc) :: S3 ∧ (k = true → ∀ s H0 C cl fp, W (blkC c scope s H0 C cl fp) elt G2 S4 fun y S4 => ∃ S5, S4 = (Dd, .lst acc) :: S5 ∧ acc.length < sizeLine ∧ Iv (i + 1) (acc ++ [y]) S5) ∧ (k = false → Iv (i + 1) acc S3)) →
        if k = true then tEB c scope elt σ2 H4 (fun y H5 => ∃ acc, H5 Dd = some (.lst acc) ∧ acc.length < sizeLine ∧ Wd (i + 1) (upd H5 Dd (.lst (acc ++ [y])))) else Wd (i + 1) H4 := fun {B4 S4 H4} k s4 R4 ⟨S3, e3, h1, h2⟩ => by
      cases k with
      | true =>
        rw [if_pos rfl]
        exact elem s4 R4 (h1 rfl)
      | false =>
        rw [if_neg Bool.false_ne_true]
        subst e3
        exact fin s4 R4.toRelH (h2 rfl)
    match ifs, h3 with
    | [], h3 => exact go true (Same.refl _) R3 h3
    | [t], h3 =>
      intro s H0 C cl fp
      refine tT_mono (h3 s H0 C cl fp B2 σ2 H2 R3) fun k H4 ⟨B4, S4, s4, R4, h4⟩ => go k s4 R4 h4
  · have e : i = ds.length := by omega
    subst e
    refine .inl ⟨y3 rfl, ?_⟩
    have hmk := he acc S' hI
    rcases hmk with hq | hq
    · obtain ⟨B6, s6, R6, r6⟩ := R'.toRelH.freeze (k := 0) (a := Dd) (ds := acc) rfl
      exact ⟨B6, .lst acc, S', (s1.trans s').trans s6, R'.up s6 R6, r6, hq⟩
    · exact ⟨B', .ref Dd, _, s1.trans s', R', rfl, hq Dd⟩
where
  wipe_wipe (σ : L2.St) : ∀ vs : List Nat, wipe (wipe σ vs) vs = wipe σ vs := fun vs => by
    apply List.ext_getElem?
    intro j
    by_cases hj : j ∈ vs
    · exact none_both σ hj
    · rw [wipe_keep hj]
  none_both (σ : L2.St) {j : Nat} : ∀ {vs : List Nat}, j ∈ vs → (wipe (wipe σ vs) vs)[j]? = (wipe σ vs)[j]? := fun {vs} hj => by
    rw [wiped_at (wipe σ vs) hj, wiped_at σ hj, wipe_length]
  wiped_at (σ : L2.St) {j : Nat} : ∀ {vs : List Nat}, j ∈ vs → (wipe σ vs)[j]? = if j < σ.length then some none else none
    | [], h => by simp at h
    | v :: vs, h => by
      unfold wipe
      by_cases hv : v = j
      · subst hv
        by_cases hl : v < σ.length
        · rw [List.getElem?_set_self (by rw [wipe_length]; exact hl), if_pos hl]
        · rw [List.getElem?_eq_none (by rw [List.length_set, wipe_length]; omega), if_neg hl]
      · rw [List.getElem?_set_ne hv]
        rcases List.mem_cons.mp h with e | e
        · exact absurd e.symm hv
        · exact wiped_at σ e
/-- what a comprehension asks -/
def LcAsk (c : CD) (G : Loc) (scope : Scope) (own : List (Str × Nat)) (ifs : List Expr) (elt : Expr) (bind : D → Loc → (Loc → Prop) → Prop) (Q : QD) (ds : List D) (S1 : Sto) : Prop := ∃ Iv : Nat → List D → Sto → Prop, Iv 0 [] S1 ∧
      (∀ i d acc S p, ds[i]? = some d → Iv i acc S → bind d (wipeG G (own.map (·.2))) fun G2 => WTsB c scope ifs G2 ((p, .lst acc) :: S) fun k S2 => ∃ S3, S2 = (p, .lst acc) :: S3 ∧ (k = true → ∀ s H0 C cl fp, W (blkC c scope s H0 C cl fp) elt G2 S2 fun y S4 => ∃ S5, S4 = (p, .lst acc) :: S5 ∧ acc.length < sizeLine ∧ Iv (i + 1) (acc ++ [y]) S5) ∧ (k = false → Iv (i + 1) acc S3)) ∧
      ∀ acc S, Iv ds.length acc S → mk acc S Q
theorem w_lc [Calm c] {elt iter : Expr} {ifs : List Expr} {scope : Scope} {bind : D → Loc → (Loc → Prop) → Prop} {Q : QD} (own : List (Str × Nat)) (ok : BlkOk c.X.N c.X.env.scope scope own) (hb : BindOk c scope tg own bind) (hs : ∀ x, foldedSetIterable iter c.X.env x = pure x)
    (h : WI c tg iter G S fun ds S1 => LcAsk c G scope own ifs elt bind Q ds S1) : W c (.ListComp elt [⟨tg, iter, ifs, 0⟩] scope pos) G S Q := fun B σ H R => by
  obtain ⟨_, g, pg, hg⟩ := hb
  exact tE_of (pe_lc (Calm.calm (c := c)) c.nd (pi_self tg iter) ok pg (fun s H0 C cl fp => pts_all (c := c) (s := s) (H0 := H0) (C := C) (cl := cl) (fp := fp) ifs) (fun s H0 C cl fp => (⟨fun pins s' σ H Q I h => h s H0 C cl fp pins s' I⟩ : PE _ elt (tEB c scope elt))) hs) (lc_read R hg h)
end
end DL
end

section
set_option autoImplicit false
set_option maxRecDepth 100000
set_option maxHeartbeats 4000000
namespace DL
open PySem PySem.Spec PyProof.Rows L2
open PySem.W (Frag)
/-- what is known of the module's state from the start -/
structure SeerM (m : Mo) : Prop where
  ns : m.base.NoSeer
  tree : m.P.given.tree = none
structure NdS (m : Mo) (N : List Str) (sc : Scope) : Prop where
  nd : N.Nodup
  sr : SeerM m
  gen : sc.isGenerator = false
  co : sc.isCoroutine = false
theorem nds_of {m : Mo} {N ps : List Str} {sc : Scope} (Sc : FnScope N ps sc) (sr : SeerM m) : NdS m N sc := ⟨Sc.nd, sr, Sc.gen, Sc.co⟩
/-- a def's body as a context -/
def bodyC (m : Mo) (N : List Str) (qual : Str) (scope : Scope) (f : Addr) (cdv : Value) (A : Around) (outer : List Env) (s : Shared) (H B : Hp) (E : XK) (EX : EXT) (k : Nat) (hE : ∀ cls d H', XD m.K B EX cls d H' → E cls d H')
    (hr : Room k (A.deeper (envOfC qual scope s.heap.objs.size f cdv))) (nd : NdS m N scope) : CD where
  X := cxOf (L2.CX m.P m.w) m.P m.w m.K m.mg m.base N qual scope f cdv A outer s H E
  B0 := B
  EX := fun _ => EX
  k := k
  tk := (takes_of (X := cxOf (L2.CX m.P m.w) m.P m.w m.K m.mg m.base N qual scope f cdv A outer s H E) rfl rfl rfl rfl).imp fun cls d σ H' h => hE cls d H' (by
    obtain ⟨n, C, fs, S, B', G, cn, e, h1, q⟩ := h
    refine ⟨n, C, fs, S, B', cn, e, ?_, q⟩
    rcases h1 with ⟨e1, e2, R⟩ | ⟨dd, e1, ne, R⟩
    · exact .inl ⟨e1, e2, R.toRelH⟩
    · exact .inr ⟨dd, e1, ne, R.toRelH⟩)
  hr := ⟨hr.dp, hr.un⟩
  nd := nd.nd
  sr := ⟨nd.sr.ns, nd.sr.tree, _, _, rfl, nd.gen, nd.co, rfl, rfl⟩
instance calm_body {m : Mo} {N : List Str} {qual : Str} {scope : Scope} {f : Addr} {cdv : Value} {A : Around} {outer : List Env} {s : Shared} {H B : Hp} {E : XK} {EX : EXT} {k : Nat} {hE} {hr} {nd} : Calm (bodyC m N qual scope f cdv A outer s H B E EX k hE hr nd) := ⟨rfl, hr.hd⟩
def startG (N : List Str) (ds : List D) : Loc := ds.map some ++ List.replicate (N.length - ds.length) none
theorem start_rel {K : Frag} {B H : Hp} {S : Sto} {N : List Str} {ds : List D} {vs : List V} (R : RelH K B B S H) (r : Reps K B ds vs) : Rel K B B (startG N ds) S (L2.start N vs) H := by
  have hl := r.length
  refine ⟨R, ?_, fun i d h => ?_⟩
  · unfold L2.start startG
    rw [List.length_append, List.length_append, List.length_map, List.length_map, List.length_replicate, List.length_replicate, hl]
  · unfold startG at h
    by_cases hi : i < ds.length
    · rw [List.getElem?_append_left (by rw [List.length_map]; exact hi), List.getElem?_map] at h
      cases e : ds[i]? with
      | none => rw [e] at h; cases h
      | some d' =>
        rw [e] at h
        have e' : d' = d := Option.some.inj (Option.some.inj h)
        subst e'
        obtain ⟨v, hv, rv⟩ := r.get e
        refine ⟨v, ?_, rv⟩
        unfold L2.start
        rw [List.getElem?_append_left (by rw [List.length_map, hl]; exact hi), List.getElem?_map, hv]
        rfl
    · rw [List.getElem?_append_right (by rw [List.length_map]; omega), List.getElem?_replicate] at h
      split at h <;> cases h
/-- THE RULE for a def: its promise by data, shown of its body -/
theorem fn_ok {m : Mo} {x qual : Str} {st : Stmt} {f : Addr} {fd : FuncData} {N ps : List Str} {k : Nat} {fs : FSp} (sr : SeerM m) (F : Fun m.K x qual st f fd) (Sc : FnScope N ps (defScope st)) (len : ∀ ds S Q EX, fs ds S Q EX → ds.length = ps.length)
    (body : ∀ (cdv : Value) (A : Around) (outer : List Env) (s : Shared) (H B : Hp) (E : XK) (EX : EXT) (hE) (hr) (ds : List D) (S : Sto) (Q : QD), fs ds S Q EX →
      WSs (bodyC m N qual (defScope st) f cdv A outer s H B E EX k hE hr (nds_of Sc sr)) (defBody st) (startG N ds) S { nx := fun _ S' => Q .non S', rt := Q }) : FnOk m.P m.w m.K m.mg m.base (L2.CX m.P m.w) (k + 1) f fd ps (lift m.K fs) := by
  refine F.okX Sc (fun vs H Q E h => ?_) (fun cdv A outer s H vs Q E hr h => ?_)
  · obtain ⟨B, ds, S, Q', EX, R, r, h, _⟩ := h
    rw [r.length]
    exact len _ _ _ _ h
  · obtain ⟨B, ds, S, Q', EX, R, r, h, hQ, hE⟩ := h
    refine ⟨_, pss_self _, ?_⟩
    have hb := body cdv A outer s H B E EX hE hr ds S Q' h B (L2.start N vs) H (start_rel R r)
    refine tSs_mono hb ⟨fun σ' H' ⟨B', G', S', s', R', q⟩ => ?_, fun v H' ⟨B', d, S', s', R', r', q⟩ => hQ v H' B' d S' R' r' q, fun σ' H' ⟨_, _, _, _, _, q⟩ => q, fun σ' H' ⟨_, _, _, _, _, q⟩ => q⟩
    exact hQ .non H' B' .non S' R'.toRelH rfl q
theorem fnD_of {m : Mo} {x : Str} {f : Addr} {fd : FuncData} {ps : List Str} {k : Nat} {fs : FSp} (F : FnOk m.P m.w m.K m.mg m.base (L2.CX m.P m.w) k f fd ps (lift m.K fs)) (hm : m.mg x = some (.ref f)) (hk : PySem.W.keepIn m.K (.ref f) = true) (hb : Binds m.K fd ps []) : FnD m x k [] fs :=
  ⟨f, fd, ps, [], [], F, hm, hk, hb, .nil, fun _ => rfl⟩
/-- loops: what leaves a def's body passes -/
theorem body_passes {m : Mo} {N : List Str} {qual : Str} {scope : Scope} {f : Addr} {cdv : Value} {A : Around} {outer : List Env} {s : Shared} {H B : Hp} {E : XK} {EX : EXT} {k : Nat} {hE} {hr} {nd : NdS m N scope} :
    PassesOwn (model (bodyC m N qual scope f cdv A outer s H B E EX k hE hr nd).X.prog (bodyC m N qual scope f cdv A outer s H B E EX k hE hr nd).X.w) (bodyC m N qual scope f cdv A outer s H B E EX k hE hr nd).X.A (bodyC m N qual scope f cdv A outer s H B E EX k hE hr nd).X.env (bodyC m N qual scope f cdv A outer s H B E EX k hE hr nd).X.xe :=
  passes_of (X := (bodyC m N qual scope f cdv A outer s H B E EX k hE hr nd).X) rfl
/-- the law's promise -/
def spLaw : FSp := fun ds S Q _ => ∃ ns : List Int, ds = [.slst (ns.map D.int)] ∧ ns.length ≤ 63 ∧ S = [] ∧ ∀ S', Q (.bl true) S'
/-- the tables left out -/
def noTb (H : Hp) : Hp := fun b => match H b with
  | some (.tbl _) => none
  | o => o
theorem noTb_some {H : Hp} {b : Addr} {o : HO} (h : H b = some o) (ho : ∀ ps, o ≠ HO.tbl ps) : noTb H b = some o := by
  unfold noTb
  rw [h]
  cases o <;> first | rfl | exact absurd rfl (ho _)
theorem noTb_of {H : Hp} {b : Addr} {o : HO} (h : noTb H b = some o) : H b = some o ∧ ∀ ps, o ≠ HO.tbl ps := by
  unfold noTb at h
  cases e : H b with
  | none => rw [e] at h; cases h
  | some x =>
    rw [e] at h
    cases x <;> first | (cases h; done) | (cases h; exact ⟨rfl, fun ps z => by cases z⟩)
theorem noTb_no (H : Hp) : NoTb (noTb H) := fun b ps e => (noTb_of e).2 ps rfl
theorem noTb_same (H : Hp) : Same (noTb H) H := fun b o e => (noTb_of e).1
theorem noTb_sq {K : Frag} {H : Hp} {a : Addr} {xs : List V} (h : SqL K H a xs) : SqL K (noTb H) a xs := by
  rcases h with (h | ⟨o, h⟩) | h
  · exact .inl (.inl (noTb_some h fun ps z => by cases z))
  · exact .inl (.inr ⟨o, noTb_some h fun ps z => by cases z⟩)
  · exact .inr h
theorem law_sp (K : Frag) (H : Hp) (a : Addr) (ns : List Int) (hl : ns.length ≤ 63) (hS : SqL K H a (ns.map V.int)) : lift K spLaw [.ref a] H (fun v _ => v = .bl true) fun _ _ _ => False :=
  ⟨noTb H, [.slst (ns.map D.int)], [], fun d _ => d = .bl true, fun _ _ _ => False, ⟨Same.refl _, noTb_same H, fun _ h => by simp at h, List.nodup_nil, noTb_no H⟩, ⟨.ref a, [], rfl, ⟨a, _, rfl, noTb_sq hS, Reps.ofInts ns⟩, rfl⟩, ⟨ns, rfl, hl, rfl, fun _ => rfl⟩,
    fun v H' B' d S' R r q => by subst q; exact r, fun cls d H' ⟨_, _, _, _, _, _, _, _, z⟩ => z⟩
theorem law_cx {P : Program} {w : World} (H : Hp) (s : Shared) (e : Value) (s' : Shared) (h : L2.CX P w [] H s (fun _ _ _ => False) e s') : False := by
  obtain ⟨_, _, _, _, _, _, _, _, _, _, _, _, z⟩ := h
  exact z
end DL
end

section
set_option autoImplicit false
set_option maxRecDepth 100000
set_option maxHeartbeats 4000000
/-! The head of a row, its base with what a division by great numbers asks. -/
namespace DL
open PySem PySem.Spec PyProof.Rows L2
open PySem.W (Frag)
/-- what of a heap is kept where H says nothing -/
structure Hid (h : Heap) (H : Hp) : Prop where
  dic : ∀ {b : Addr} {o : Obj} {es : Array DictEntry} {ep : Nat}, h.get? b = some o → o.data = .dict es ep → H b = none
  cls : ∀ {b : Addr} {o : Obj}, h.get? b = some o → o.cls = .type "module" → H b = none
theorem Hid.ns {h : Heap} {H : Hp} (X : Hid h H) {b : Addr} {m : Str → Option Value} (n : h.Ns b m) : (hidT h H).Ns b m := by
  obtain ⟨o, es, ep, e, d, r⟩ := n
  exact ⟨o, es, ep, hidT_get e (X.dic e d), d, r⟩
theorem Hid.seer {h : Heap} {H : Hp} (X : Hid h H) (S : h.NoSeer) : (hidT h H).NoSeer := by
  obtain ⟨⟨m1, a1, b1⟩, ⟨m2, a2, b2⟩, ⟨m3, a3, b3⟩, ⟨m4, q1, q2, a4, b4, c4, d4, e4⟩⟩ := S
  exact ⟨⟨m1, X.ns a1, b1⟩, ⟨m2, X.ns a2, b2⟩, ⟨m3, X.ns a3, b3⟩, ⟨m4, q1, q2, X.ns a4, b4, hidT_get c4 (X.cls c4 d4), d4, e4⟩⟩
section
variable {P : Program} {w : World} {K : Frag} {mg mb : Str → Option Value} {k : Nat} {fa a : Addr} {fd : FuncData} {x : Str} {sp : Sp} {s1 : Shared} {vs : List Value} {ns : List Int}
/-- a law's def called from a heap of which H tells nothing but the script -/
theorem head_at (KX : K.In s1.heap) (g1 : s1.heap.Ns mainGlobals mg) (g2 : s1.heap.Ns builtinsNs mb) (g3 : ∀ y : Str, y ≠ "__name__" → mb y = bootBuiltins y) (g4 : s1.heap.NoLimit) (g5 : s1.heap.NoSeer) (g6 : s1.gens = #[]) (hr : Room k callerA)
    (F : ∀ base : Heap, base.NoSeer → K.In base → base.Ns mainGlobals mg → FnOk P w K mg base (L2.CX P w) k fa fd [x] sp) (hb : ∀ (s : Shared) (u : Value), BindsTo s fd ⟨[u], []⟩ [(x, u)])
    {H : Hp} (hO : Only H) (hok : HOk P w H s1.heap) (hi : Hid s1.heap H) (hK : ∀ (b : Addr) (o : Obj), K.lookup b = some o → H b = none) (q : sp [.ref a] H (fun v _ => v = .bl true) fun _ _ _ => False) :
    codeAny (model P w) callerA (.call (.ref fa) ⟨[.ref a], []⟩) (fun r t => r = .ok (.ret (.bool true)) ∧ OldK s1.heap t.heap ∧ t.os = s1.os ∧ AllBare t.gens) s1 := by
  have kin : K.In (hidT s1.heap H) := fun b o e => hidT_get (KX b o e) (hK b o e)
  have lim : (hidT s1.heap H).NoLimit := by
    obtain ⟨mc, n1, n2⟩ := g4
    exact ⟨mc, hi.ns n1, n2⟩
  have env : Env0 P w K mg (hidT s1.heap H) callerA [] s1 H :=
    { frames := rfl, mod := ⟨kin, hi.ns g1, ⟨mb, hi.ns g2, g3⟩, lim⟩, bs := fun b o e => of_hidT e, bsz := Nat.le_of_eq (hidT_size _ _), funs := trivial, frf := fun b z => (by cases z), hok := hok, bare := .of_eq g6 }
  have run := (F _ (hi.seer g5) kin (hi.ns g1)).run callerA [] s1 H ⟨[.ref a], []⟩ [.ref a] [.ref a] _ _ hr env (hb s1 (.ref a)) (.cons rfl .nil) q
  refine codeAny_mono run fun r t z => ?_
  match r, z with
  | .error e, z => exact (law_cx H s1 e t z).elim
  | .ok .next, z => exact z.elim
  | .ok .brk, z => exact z.elim
  | .ok .cont, z => exact z.elim
  | .ok (.ret u), z =>
    obtain ⟨v, H2, e1, e2, un, ok2, rv, ev⟩ := z
    have ev : v = .bl true := ev
    subst ev
    obtain rfl : u = Value.bool true := rv
    refine ⟨rfl, OldK.of_keep fun b o e => ?_, e1, e2⟩
    rcases hO b with n | ⟨ob, xs, n⟩
    · exact un.keep b o e n (fun z => (by cases z)) (fun z => (by cases z))
    · have f1 := (hok b _ n).1
      have f2 := (ok2 b _ (un.frzs b ob _ n)).1
      rw [f1] at e
      cases e
      exact f2
/-- the script at a is known, or stands among the module's objects -/
theorem head_call (KX : K.In s1.heap) (g1 : s1.heap.Ns mainGlobals mg) (g2 : s1.heap.Ns builtinsNs mb) (g3 : ∀ y : Str, y ≠ "__name__" → mb y = bootBuiltins y) (g4 : s1.heap.NoLimit) (g5 : s1.heap.NoSeer) (g6 : s1.gens = #[])
    (ea : s1.heap.get? a = some { cls := .type "list", data := .seq vs.toArray }) (ei : IntsAre vs ns) (el : ns.length ≤ sizeLine) (hr : Room k callerA)
    (F : ∀ base : Heap, base.NoSeer → K.In base → base.Ns mainGlobals mg → FnOk P w K mg base (L2.CX P w) k fa fd [x] sp) (hb : ∀ (s : Shared) (u : Value), BindsTo s fd ⟨[u], []⟩ [(x, u)])
    (hq : ∀ H : Hp, Only H → SqL K H a (ns.map V.int) → sp [.ref a] H (fun v _ => v = .bl true) fun _ _ _ => False) :
    codeAny (model P w) callerA (.call (.ref fa) ⟨[.ref a], []⟩) (fun r t => r = .ok (.ret (.bool true)) ∧ OldK s1.heap t.heap ∧ t.os = s1.os ∧ AllBare t.gens) s1 := by
  have rv := vals_ints ei
  by_cases hk : ∃ o, K.lookup a = some o
  · obtain ⟨o, hk⟩ := hk
    have e := KX a o hk
    rw [ea] at e
    cases e
    have o1 : Only fun _ => none := fun _ => .inl rfl
    have o2 : SqL K (fun _ => none) a (ns.map V.int) := .inr ⟨_, vs.toArray, _, hk, rfl, rfl, rfl, by rw [List.size_toArray, ei.length]; exact el, by simpa using rv⟩
    exact head_at KX g1 g2 g3 g4 g5 g6 hr F hb o1 (fun b u z => (by cases z)) ⟨fun _ _ => rfl, fun _ _ => rfl⟩ (fun _ _ _ => rfl) (hq _ o1 o2)
  · have hn : ∀ o, K.lookup a ≠ some o := fun o e => hk ⟨o, e⟩
    let T : HO := .frz { cls := .type "list", data := .seq vs.toArray } (.lst (ns.map V.int))
    let H : Hp := fun b => if b = a then some T else none
    have at_ : H a = some T := if_pos rfl
    have off : ∀ {b : Addr}, b ≠ a → H b = none := fun h => if_neg h
    have o1 : Only H := fun b => by
      by_cases e : b = a
      · exact .inr ⟨_, _, by rw [e]; exact at_⟩
      · exact .inl (off e)
    have o2 : SqL K H a (ns.map V.int) := .inl (.inr ⟨_, at_⟩)
    have ne : ∀ {b : Addr} {o : Obj}, s1.heap.get? b = some o → (o ≠ { cls := .type "list", data := .seq vs.toArray }) → H b = none := fun {b o} e n => off fun z => by
      rw [z, ea] at e
      exact n (Option.some.inj e).symm
    refine head_at KX g1 g2 g3 g4 g5 g6 hr F hb o1 (fun b u z => ?_) ⟨fun e d => ne e fun z => (by rw [z] at d; cases d), fun e c => ne e fun z => (by rw [z] at c; simp at c)⟩ (fun b o e => off fun z => (by rw [z] at e; exact hn o e)) (hq H o1 o2)
    by_cases e : b = a
    · rw [e] at z ⊢
      rw [at_] at z
      cases z
      exact ⟨ea, by rw [List.length_map]; exact el, vs, _, rv, ea⟩
    · rw [off e] at z
      cases z
end
/-- the goal that the row's head leaves, of the law's promise -/
theorem head_of_law {l : PySem.W.OpenLaw} {n k : Nat} {q : Program} {loose : List Str} {XP : (Str → Option Value) → Heap → Prop} {YP : World → Heap → Prop} {d : DefRec} {K : Params → Frag} {sp : World → Sp} {x : Str}
    (h1 : l.most = some n) (h2 : n ≤ sizeLine) (h3 : d.params.defaults = []) (h4 : importsNone q = true) (hr : Room k callerA) (hY : ∀ (w : World) (h : Heap), YP w h → (K w.params).In h)
    (F : ∀ (w : World) (mg : Str → Option Value) (fa : Addr) (h : Heap), (K w.params).In h → h.Ns mainGlobals mg → mg d.name = some (.ref fa) →
      ∃ fd : FuncData, (∀ (s : Shared) (u : Value), BindsTo s fd ⟨[u], []⟩ [(x, u)]) ∧ ∀ base : Heap, base.NoSeer → (K w.params).In base → base.Ns mainGlobals mg → FnOk l.prog w (K w.params) mg base (L2.CX l.prog w) k fa fd [x] (sp w))
    (hq : ∀ (w : World) (H : Hp) (a : Addr) (ns : List Int), ns.length ≤ n → Only H → SqL (K w.params) H a (ns.map V.int) → sp w [.ref a] H (fun v _ => v = .bl true) fun _ _ _ => False) :
    PySem.W.WalkO q loose XP YP l.row.toRowW d [] (fun f vs => PySem.call f vs) := by
  refine Att.attach_call h1 h3 fun w t0 t1 mg mb fa o pm cd doc a vs ns G Y e1 e2 e3 e4 e5 e6 e7 e8 => ?_
  have KX := hY w _ Y
  obtain ⟨fd, hb, hF⟩ := F w mg fa _ KX G.T.g e4
  exact head_call KX G.T.g G.T.b G.T.builtins G.T.nolimit (G.T.seer h4) e8 e5 e6 (Nat.le_trans e7 h2) hr hF hb fun H o1 o2 => hq w H a ns e7 o1 o2
end DL
end

section
set_option maxRecDepth 100000
set_option maxHeartbeats 4000000
theorem LK.map2 {α β γ : Type} {o : Option α} {F : α → β × γ} {a : β} {b : γ} (h1 : o.map (fun s => (F s).1) = some a) (h2 : o.map (fun s => (F s).2) = some b) : o.map F = some (a, b) := by
  cases o with
  | none => cases h1
  | some s =>
    have e1 : (F s).1 = a := Option.some.inj h1
    have e2 : (F s).2 = b := Option.some.inj h2
    show some (F s) = some (a, b)
    rw [← e1, ← e2]
theorem LK.map3 {α β γ δ : Type} {o : Option α} {f : α → β} {g : α → γ} {h : α → δ} {a : β} {b : γ} {c : δ} (h1 : o.map f = some a) (h2 : o.map g = some b) (h3 : o.map h = some c) : o.map (fun s => (f s, g s, h s)) = some (a, b, c) := by
  cases o with
  | none => cases h1
  | some s =>
    have e1 : f s = a := Option.some.inj h1
    have e2 : g s = b := Option.some.inj h2
    have e3 : h s = c := Option.some.inj h3
    subst e1 e2 e3
    rfl
/-- the first few of a list, the rest of it; told twice, so that the kernel compares what they make and not what they are of -/
def LK.takeA {α : Type} : Nat → List α → List α
  | 0, _ => []
  | _ + 1, [] => []
  | n + 1, a :: l => a :: LK.takeA n l
def LK.takeB {α : Type} : Nat → List α → List α
  | 0, _ => []
  | _ + 1, [] => []
  | n + 1, a :: l => a :: LK.takeB n l
def LK.dropA {α : Type} : Nat → List α → List α
  | 0, l => l
  | _ + 1, [] => []
  | n + 1, _ :: l => LK.dropA n l
def LK.dropB {α : Type} : Nat → List α → List α
  | 0, l => l
  | _ + 1, [] => []
  | n + 1, _ :: l => LK.dropB n l
theorem LK.cutA {α : Type} : ∀ (n : Nat) (l m : List α), LK.takeA n l = LK.takeB n m → LK.dropA n l = LK.dropB n m → l = m
  | 0, _, _, _, h => h
  | _ + 1, [], [], _, _ => rfl
  | _ + 1, [], _ :: _, h, _ => by cases h
  | _ + 1, _ :: _, [], h, _ => by cases h
  | n + 1, a :: l, b :: m, h, k => by
    have h' : a :: LK.takeA n l = b :: LK.takeB n m := h
    injection h' with e1 e2
    rw [e1, LK.cutA n l m e2 k]
theorem LK.halves {α β : Type} {o : Option α} {F : α → List β} {l : List β} (k : Nat) (h1 : o.map (fun s => LK.takeA k (F s)) = some (LK.takeB k l)) (h2 : o.map (fun s => LK.dropA k (F s)) = some (LK.dropB k l)) : o.map F = some l := by
  cases o with
  | none => cases h1
  | some s => exact congrArg some (LK.cutA k _ _ (Option.some.inj h1) (Option.some.inj h2))
def LK.cod1 {A R : Prop} (_ : A → R) : Prop := R
theorem LK.grp1 {W O : Type} {A : W → O → Prop} {R : Prop} (f : (∀ w o, A w o) → R) (h : ∀ w o, A w o ∧ True) : R := f fun w o => (h w o).1
def LK.cod2 {A B R : Prop} (_ : A → B → R) : Prop := R
theorem LK.grp2 {W O : Type} {A B : W → O → Prop} {R : Prop} (f : (∀ w o, A w o) → (∀ w o, B w o) → R) (h : ∀ w o, A w o ∧ B w o) : R := f (fun w o => (h w o).1) fun w o => (h w o).2
theorem LK.grp3 {W O : Type} {A B C : W → O → Prop} {R : Prop} (f : (∀ w o, A w o) → (∀ w o, B w o) → (∀ w o, C w o) → R) (h : ∀ w o, A w o ∧ B w o ∧ C w o) : R := f (fun w o => (h w o).1) (fun w o => (h w o).2.1) fun w o => (h w o).2.2
namespace LK
open PySem PySem.Spec PyProof.Rows L2 DL
open PySem.W (Frag)
def topS (i : Nat) : Stmt := PySem.Challenge.pw_noughtrules_k91_texts_of_no_handful.main.body.getD i (.Pass ⟨0, 0, 0, 0⟩)
def clsS (st : Stmt) (j : Nat) : Stmt := match st with
  | .ClassDef _ _ _ body .. => body.getD j (.Pass ⟨0, 0, 0, 0⟩)
  | _ => .Pass ⟨0, 0, 0, 0⟩
abbrev s_is_name : Stmt := topS 10
abbrev s_number_in : Stmt := topS 11
abbrev s_is_kind : Stmt := topS 12
abbrev s_terms_in : Stmt := topS 13
abbrev s_sum_of_terms : Stmt := topS 14
abbrev s_read_handful : Stmt := topS 15
abbrev s__law_draw : Stmt := topS 17
abbrev s__law_names : Stmt := topS 18
abbrev s__law_terms : Stmt := topS 19
abbrev s__law_odd : Stmt := topS 20
abbrev s__law_spoilt : Stmt := topS 21
abbrev s__law_figures : Stmt := topS 22
abbrev s__law_walk : Stmt := topS 23
abbrev s__law_said : Stmt := topS 24
abbrev s__law_right : Stmt := topS 25
abbrev s_law : Stmt := topS 26
abbrev s_NoText___init__ : Stmt := clsS (topS 3) 0
def AllMk : Prop := ∀ {l : PySem.W.OpenLaw} {w : World} {K : PySem.W.Frag} {h : Heap} {mg : Str → Option Value} {fa f1 f2 f3 f4 f5 f6 f7 f8 f9 f10 f11 f12 f13 f14 f15 f16 : Addr} (hTree : l.prog.given.tree = none) (X : K.In h) (G : h.Ns mainGlobals mg) (hfa : mg "law" = some (.ref fa))
    {od1 od2 od3 od4 od5 od6 od7 od8 od9 od10 od11 od12 od13 od14 od15 od16 an1 an2 an3 an4 an5 an6 an7 an8 an9 an10 an11 an12 an13 an14 an15 an16 : Option Addr} {sl1 sl2 sl3 sl4 sl5 sl6 sl7 sl8 sl9 sl10 sl11 sl12 sl13 sl14 sl15 sl16 : Array (Option Value)} {oc1 oc2 oc3 oc4 oc5 oc6 oc7 oc8 oc9 oc10 oc11 oc12 oc13 oc14 oc15 oc16 kV1 kV2 kV3 kV4 kV5 kV6 kV7 kV8 kV9 kV10 kV11 kV12 kV13 kV14 kV15 kV16 dc1 dc2 dc3 dc4 dc5 dc6 dc7 dc8 dc9 dc10 dc11 dc12 dc13 dc14 dc15 dc16 pm1 pm2 pm3 pm4 pm5 pm6 pm7 pm8 pm9 pm10 pm11 pm12 pm13 pm14 pm15 pm16 cd1 cd2 cd3 cd4 cd5 cd6 cd7 cd8 cd9 cd10 cd11 cd12 cd13 cd14 cd15 cd16 ct1 ct2 ct3 ct4 ct5 ct6 ct7 ct8 ct9 ct10 ct11 ct12 ct13 ct14 ct15 ct16 : Value} {xC1 : Addr} {xC2 : Addr} {xC3 : Addr} {xC4 : Addr} {xC5 : Addr} {xI3 xN3 : Addr} {xnm3 xq3 : PySem.Str} {xbs3 xsub3 : List Value} {xsn3 : List PySem.Str} {xab3 : Bool} {xcol3 : Option Bool} {xdd3 : Option Addr} {xma3 xmb3 xmc3 xmd3 xmf3 : Option Value} {xod3 xan3 : Option Addr} {xsl3 : Array (Option Value)} {xoc3 xkV3 xdc3 xpm3 xcd3 xct3 : Value} {dT4 : Addr} {to4 : Value} {td4 : Option Addr} {tn4 : Nat} {tl4 : Array (Option Value)} {gt_FIGURES : Nat} {gt_LETTERS : Nat} {gt_MOST_FIGURES : Nat}
    (xa1 : PySem.W.nsIn K mainGlobals "NoughtError" = some (some (.ref xC1)))
    (xe1 : PySem.W.subIn K (.ref xC1) (.type "BaseException") = some true)
    (xt1 : PySem.W.typeIn K (.ref xC1) = some (.type "type"))
    (xo1 : PySem.W.isClsIn K xC1 = true)
    (xz1 : PySem.W.subIn K (.ref xC1) (.ref xC1) = some true)
    (xn1 : PySem.W.specialIn K (.ref xC1) "__getattribute__" = some (some (.builtin "type.__getattribute__")))
    (xn2 : PySem.W.readsIn K xC1 (.type "type") = true)
    (xn3 : PySem.W.findCls K (.ref xC1) (.type "type") "__init__" = some (.val (.builtin "ValueError.__init__")))
    (xa2 : PySem.W.nsIn K mainGlobals "NoRow" = some (some (.ref xC2)))
    (xe2 : PySem.W.subIn K (.ref xC2) (.type "BaseException") = some true)
    (xt2 : PySem.W.typeIn K (.ref xC2) = some (.type "type"))
    (xo2 : PySem.W.isClsIn K xC2 = true)
    (xz2 : PySem.W.subIn K (.ref xC2) (.ref xC2) = some true)
    (xa3 : PySem.W.nsIn K mainGlobals "NoText" = some (some (.ref xC3)))
    (xe3 : PySem.W.subIn K (.ref xC3) (.type "BaseException") = some true)
    (xt3 : PySem.W.typeIn K (.ref xC3) = some (.type "type"))
    (xo3 : PySem.W.isClsIn K xC3 = true)
    (xz3 : PySem.W.subIn K (.ref xC3) (.ref xC3) = some true)
    (xa4 : PySem.W.nsIn K mainGlobals "NoLine" = some (some (.ref xC4)))
    (xe4 : PySem.W.subIn K (.ref xC4) (.type "BaseException") = some true)
    (xt4 : PySem.W.typeIn K (.ref xC4) = some (.type "type"))
    (xo4 : PySem.W.isClsIn K xC4 = true)
    (xz4 : PySem.W.subIn K (.ref xC4) (.ref xC4) = some true)
    (xa5 : PySem.W.nsIn K mainGlobals "NoName" = some (some (.ref xC5)))
    (xe5 : PySem.W.subIn K (.ref xC5) (.type "BaseException") = some true)
    (xt5 : PySem.W.typeIn K (.ref xC5) = some (.type "type"))
    (xo5 : PySem.W.isClsIn K xC5 = true)
    (xz5 : PySem.W.subIn K (.ref xC5) (.ref xC5) = some true)
    (xk3 : PySem.W.keepIn K (.ref xC3) = true)
    (xl3 : K.lookup xC3 = some (excClassObj xnm3 xq3 xC3 xN3 xbs3 [.ref xC1, .type "ValueError", .type "Exception", .type "BaseException", .type "object"] true xsn3 xsub3 xab3 xcol3 xdd3 xma3 xmb3 xmc3 xmd3 xmf3 "ValueError.__new__"))
    (xs3 : PySem.W.findIn K (.ref xC3) "__setattr__" = some (some (.builtin "object.__setattr__")))
    (xi3 : PySem.W.findIn K (.ref xC3) "__init__" = some (some (.ref xI3)))
    (xg3 : PySem.W.typeIn K (.ref xI3) = some (.type "function"))
    (xf3_at : PySem.W.findIn K (.ref xC3) "at" = some none)
    (yl3 : K.lookup xI3 = some ⟨xoc3, xod3, .func (PySem.W.fnOf "__init__" "NoText.__init__" (defArgs s_NoText___init__) (defBody s_NoText___init__) (defScope s_NoText___init__) .none xkV3 xdc3 xpm3 xan3 xcd3 xct3), xsl3⟩)
    (yc3 : PySem.W.codeIn K xcd3 "NoText.__init__" = true)
    (yk3 : PySem.W.keepIn K (.ref xI3) = true)
    (va3 : PySem.W.findIn K (.ref xC3) "__getattribute__" = some (some (.builtin "BaseException.__getattribute__")))
    (vb3 : PySem.W.findIn K (.ref xC3) "__getattr__" = some none)
    (vc3 : PySem.W.hasDictIn K xC3 = true)
    (vd3 : PySem.W.findIn K (.ref xC3) "__class__" = some (some (.builtin "object.__class__")))
    (ve3 : PySem.W.mroIn K xC3 (.type "object") = some true)
    (vp3_4 : PySem.W.subIn K (.ref xC3) (.ref xC4) = some false)
    (vp3_5 : PySem.W.subIn K (.ref xC3) (.ref xC5) = some false)
    (vp3_2 : PySem.W.subIn K (.ref xC3) (.ref xC2) = some false)
    (vp3_1 : PySem.W.subIn K (.ref xC3) (.ref xC1) = some true)
    (vv3 : PySem.W.subIn K (.ref xC3) (.type "ValueError") = some true)
    (ih : PySem.W.specialIn K (.builtin "object.__class__") "__get__" = some (some (.builtin "getset_descriptor.__get__")))
    (ik : PySem.W.takesIn K (.builtin "object.__class__") = some true)
    (a1 : PySem.W.nsIn K mainGlobals "is_name" = some (some (.ref f1)))
    (l1 : K.lookup f1 = some ⟨oc1, od1, .func (PySem.W.fnOf "is_name" "is_name" (defArgs s_is_name) (defBody s_is_name) (defScope s_is_name) .none kV1 dc1 pm1 an1 cd1 ct1), sl1⟩)
    (c1 : PySem.W.codeIn K cd1 "is_name" = true)
    (k1 : PySem.W.keepIn K (.ref f1) = true)
    (a2 : PySem.W.nsIn K mainGlobals "number_in" = some (some (.ref f2)))
    (l2 : K.lookup f2 = some ⟨oc2, od2, .func (PySem.W.fnOf "number_in" "number_in" (defArgs s_number_in) (defBody s_number_in) (defScope s_number_in) .none kV2 dc2 pm2 an2 cd2 ct2), sl2⟩)
    (c2 : PySem.W.codeIn K cd2 "number_in" = true)
    (k2 : PySem.W.keepIn K (.ref f2) = true)
    (a3 : PySem.W.nsIn K mainGlobals "is_kind" = some (some (.ref f3)))
    (l3 : K.lookup f3 = some ⟨oc3, od3, .func (PySem.W.fnOf "is_kind" "is_kind" (defArgs s_is_kind) (defBody s_is_kind) (defScope s_is_kind) .none kV3 dc3 pm3 an3 cd3 ct3), sl3⟩)
    (c3 : PySem.W.codeIn K cd3 "is_kind" = true)
    (k3 : PySem.W.keepIn K (.ref f3) = true)
    (a4 : PySem.W.nsIn K mainGlobals "terms_in" = some (some (.ref f4)))
    (l4 : K.lookup f4 = some ⟨oc4, od4, .func (PySem.W.fnOf "terms_in" "terms_in" (defArgs s_terms_in) (defBody s_terms_in) (defScope s_terms_in) (.ref dT4) kV4 dc4 pm4 an4 cd4 ct4), sl4⟩)
    (t4 : K.lookup dT4 = some ⟨to4, td4, .seq #[.none] tn4, tl4⟩)
    (c4 : PySem.W.codeIn K cd4 "terms_in" = true)
    (k4 : PySem.W.keepIn K (.ref f4) = true)
    (a5 : PySem.W.nsIn K mainGlobals "sum_of_terms" = some (some (.ref f5)))
    (l5 : K.lookup f5 = some ⟨oc5, od5, .func (PySem.W.fnOf "sum_of_terms" "sum_of_terms" (defArgs s_sum_of_terms) (defBody s_sum_of_terms) (defScope s_sum_of_terms) .none kV5 dc5 pm5 an5 cd5 ct5), sl5⟩)
    (c5 : PySem.W.codeIn K cd5 "sum_of_terms" = true)
    (k5 : PySem.W.keepIn K (.ref f5) = true)
    (a6 : PySem.W.nsIn K mainGlobals "read_handful" = some (some (.ref f6)))
    (l6 : K.lookup f6 = some ⟨oc6, od6, .func (PySem.W.fnOf "read_handful" "read_handful" (defArgs s_read_handful) (defBody s_read_handful) (defScope s_read_handful) .none kV6 dc6 pm6 an6 cd6 ct6), sl6⟩)
    (c6 : PySem.W.codeIn K cd6 "read_handful" = true)
    (k6 : PySem.W.keepIn K (.ref f6) = true)
    (a7 : PySem.W.nsIn K mainGlobals "_law_draw" = some (some (.ref f7)))
    (l7 : K.lookup f7 = some ⟨oc7, od7, .func (PySem.W.fnOf "_law_draw" "_law_draw" (defArgs s__law_draw) (defBody s__law_draw) (defScope s__law_draw) .none kV7 dc7 pm7 an7 cd7 ct7), sl7⟩)
    (c7 : PySem.W.codeIn K cd7 "_law_draw" = true)
    (k7 : PySem.W.keepIn K (.ref f7) = true)
    (a8 : PySem.W.nsIn K mainGlobals "_law_names" = some (some (.ref f8)))
    (l8 : K.lookup f8 = some ⟨oc8, od8, .func (PySem.W.fnOf "_law_names" "_law_names" (defArgs s__law_names) (defBody s__law_names) (defScope s__law_names) .none kV8 dc8 pm8 an8 cd8 ct8), sl8⟩)
    (c8 : PySem.W.codeIn K cd8 "_law_names" = true)
    (k8 : PySem.W.keepIn K (.ref f8) = true)
    (a9 : PySem.W.nsIn K mainGlobals "_law_terms" = some (some (.ref f9)))
    (l9 : K.lookup f9 = some ⟨oc9, od9, .func (PySem.W.fnOf "_law_terms" "_law_terms" (defArgs s__law_terms) (defBody s__law_terms) (defScope s__law_terms) .none kV9 dc9 pm9 an9 cd9 ct9), sl9⟩)
    (c9 : PySem.W.codeIn K cd9 "_law_terms" = true)
    (k9 : PySem.W.keepIn K (.ref f9) = true)
    (a10 : PySem.W.nsIn K mainGlobals "_law_odd" = some (some (.ref f10)))
    (l10 : K.lookup f10 = some ⟨oc10, od10, .func (PySem.W.fnOf "_law_odd" "_law_odd" (defArgs s__law_odd) (defBody s__law_odd) (defScope s__law_odd) .none kV10 dc10 pm10 an10 cd10 ct10), sl10⟩)
    (c10 : PySem.W.codeIn K cd10 "_law_odd" = true)
    (k10 : PySem.W.keepIn K (.ref f10) = true)
    (a11 : PySem.W.nsIn K mainGlobals "_law_spoilt" = some (some (.ref f11)))
    (l11 : K.lookup f11 = some ⟨oc11, od11, .func (PySem.W.fnOf "_law_spoilt" "_law_spoilt" (defArgs s__law_spoilt) (defBody s__law_spoilt) (defScope s__law_spoilt) .none kV11 dc11 pm11 an11 cd11 ct11), sl11⟩)
    (c11 : PySem.W.codeIn K cd11 "_law_spoilt" = true)
    (k11 : PySem.W.keepIn K (.ref f11) = true)
    (a12 : PySem.W.nsIn K mainGlobals "_law_figures" = some (some (.ref f12)))
    (l12 : K.lookup f12 = some ⟨oc12, od12, .func (PySem.W.fnOf "_law_figures" "_law_figures" (defArgs s__law_figures) (defBody s__law_figures) (defScope s__law_figures) .none kV12 dc12 pm12 an12 cd12 ct12), sl12⟩)
    (c12 : PySem.W.codeIn K cd12 "_law_figures" = true)
    (k12 : PySem.W.keepIn K (.ref f12) = true)
    (a13 : PySem.W.nsIn K mainGlobals "_law_walk" = some (some (.ref f13)))
    (l13 : K.lookup f13 = some ⟨oc13, od13, .func (PySem.W.fnOf "_law_walk" "_law_walk" (defArgs s__law_walk) (defBody s__law_walk) (defScope s__law_walk) .none kV13 dc13 pm13 an13 cd13 ct13), sl13⟩)
    (c13 : PySem.W.codeIn K cd13 "_law_walk" = true)
    (k13 : PySem.W.keepIn K (.ref f13) = true)
    (a14 : PySem.W.nsIn K mainGlobals "_law_said" = some (some (.ref f14)))
    (l14 : K.lookup f14 = some ⟨oc14, od14, .func (PySem.W.fnOf "_law_said" "_law_said" (defArgs s__law_said) (defBody s__law_said) (defScope s__law_said) .none kV14 dc14 pm14 an14 cd14 ct14), sl14⟩)
    (c14 : PySem.W.codeIn K cd14 "_law_said" = true)
    (k14 : PySem.W.keepIn K (.ref f14) = true)
    (a15 : PySem.W.nsIn K mainGlobals "_law_right" = some (some (.ref f15)))
    (l15 : K.lookup f15 = some ⟨oc15, od15, .func (PySem.W.fnOf "_law_right" "_law_right" (defArgs s__law_right) (defBody s__law_right) (defScope s__law_right) .none kV15 dc15 pm15 an15 cd15 ct15), sl15⟩)
    (c15 : PySem.W.codeIn K cd15 "_law_right" = true)
    (k15 : PySem.W.keepIn K (.ref f15) = true)
    (a16 : PySem.W.nsIn K mainGlobals "law" = some (some (.ref f16)))
    (l16 : K.lookup f16 = some ⟨oc16, od16, .func (PySem.W.fnOf "law" "law" (defArgs s_law) (defBody s_law) (defScope s_law) .none kV16 dc16 pm16 an16 cd16 ct16), sl16⟩)
    (c16 : PySem.W.codeIn K cd16 "law" = true)
    (k16 : PySem.W.keepIn K (.ref f16) = true)
    (gc_FIGURES : PySem.W.nsIn K mainGlobals "FIGURES" = some (some (.str ("0123456789" : PySem.Str) gt_FIGURES)))
    (gc_LETTERS : PySem.W.nsIn K mainGlobals "LETTERS" = some (some (.str ("abcdefghijklmnopqrstuvwxyz" : PySem.Str) gt_LETTERS)))
    (gc_MOST_FIGURES : PySem.W.nsIn K mainGlobals "MOST_FIGURES" = some (some (.int 40 gt_MOST_FIGURES)))
    (z1 : PySem.W.nsIn K mainGlobals "ValueError" = some none)
    (z2 : PySem.W.nsIn K mainGlobals "all" = some none)
    (z3 : PySem.W.nsIn K mainGlobals "bool" = some none)
    (z4 : PySem.W.nsIn K mainGlobals "enumerate" = some none)
    (z5 : PySem.W.nsIn K mainGlobals "int" = some none)
    (z6 : PySem.W.nsIn K mainGlobals "isinstance" = some none)
    (z7 : PySem.W.nsIn K mainGlobals "len" = some none)
    (z8 : PySem.W.nsIn K mainGlobals "list" = some none)
    (z9 : PySem.W.nsIn K mainGlobals "range" = some none)
    (z10 : PySem.W.nsIn K mainGlobals "str" = some none)
    (z11 : PySem.W.nsIn K mainGlobals "tuple" = some none),
    ∃ fd : FuncData, (∀ (s : Shared) (v : Value), BindsTo s fd ⟨[v], []⟩ [("_law_script", v)]) ∧ ∀ base : Heap, base.NoSeer → K.In base → base.Ns mainGlobals mg → FnOk l.prog w K mg base (L2.CX l.prog w) 42 fa fd ["_law_script"] (lift K spLaw)
end LK
open PySem PySem.W PyProof.Rows
/-- the tool that lays the head drops what the goal does not name: so the goal names it -/
abbrev LK.hookPick (_ : LK.AllMk) (H : PySem.W.Hook) : PySem.W.Hook := H
local macro_rules | `(tactic| o_headL ($f:ident $k $a $e)) => `(tactic| o_headL (LK.hookPick (by assumption) ($f $k $a $e)))
section LKsplit
/-- the run of the text's top is taken from hypotheses (a marked one is the tool's own) -/
local macro_rules
  | `(tactic| kernel_rfl%$tk) => do
    if tk.getPos? == some ⟨777⟩ then Lean.Macro.throwUnsupported
    let t : Lean.TSyntax `tactic := ⟨Lean.Syntax.node .none `tacticKernel_rfl #[Lean.Syntax.atom (.synthetic ⟨777⟩ ⟨777⟩ true) "kernel_rfl"]⟩
    let r1 := Lean.mkIdent `LKr1
    let r2 := Lean.mkIdent `LKr2
    let r3 := Lean.mkIdent `LKr3
    let r4 := Lean.mkIdent `LKr4
    let r5 := Lean.mkIdent `LKr5
    let r6 := Lean.mkIdent `LKr6
    let r7 := Lean.mkIdent `LKr7
    let r8 := Lean.mkIdent `LKr8
    let r9 := Lean.mkIdent `LKr9
    let r10 := Lean.mkIdent `LKr10
    let r11 := Lean.mkIdent `LKr11
    `(tactic| first
      | (rename_i w os; exact LK.map3 ($r1 w os) (LK.map2 ($r2 w os) (LK.map2 ($r3 w os) (LK.map2 ($r4 w os) (LK.map2 ($r5 w os) (LK.map2 ($r6 w os) (LK.map2 ($r7 w os) (LK.map2 ($r8 w os) (LK.map2 ($r9 w os) ($r10 w os))))))))) ($r11 w os))
      | ($t:tactic))
set_option maxRecDepth 100000 in
set_option maxHeartbeats 0 in
theorem LK.head_split (HM : LK.AllMk) : True := (let rec pre : _ := fun (LKr1 LKr2 LKr3 LKr4 LKr5 LKr6 LKr7 LKr8 LKr9 LKr10 LKr11 : ∀ (w : PySem.World) (os : PySem.OsState), _) => (by
    w_on; o_law; k_headL; (case hw => as_aux_lemma => w_witness2)
    k_fill
    refine DL.head_of_law (l := PySem.Challenge.rw_noughtrules_k91_texts_of_no_handful) (n := 63) (k := 42) (x := "_law_script") (sp := fun w => DL.lift _ DL.spLaw) rfl (by decide) rfl (by decide +kernel) ⟨rfl, by decide, by decide⟩ (fun w h Y => PySem.W.kIn_of Y) ?F (fun w H a ns hl _ hS => DL.law_sp _ H a ns hl hS)
    case F =>
      intro w mg fa h KX G hmg
      refine' HM rfl KX G hmg ?xa1 ?xe1 ?xt1 ?xo1 ?xz1 ?xn1 ?xn2 ?xn3 ?xa2 ?xe2 ?xt2 ?xo2 ?xz2 ?xa3 ?xe3 ?xt3 ?xo3 ?xz3 ?xa4 ?xe4 ?xt4 ?xo4 ?xz4 ?xa5 ?xe5 ?xt5 ?xo5 ?xz5 ?xk3 ?xl3 ?xs3 ?xi3 ?xg3 ?xf3_at ?yl3 ?yc3 ?yk3 ?va3 ?vb3 ?vc3 ?vd3 ?ve3 ?vp3_4 ?vp3_5 ?vp3_2 ?vp3_1 ?vv3 ?ih ?ik ?a1 ?l1 ?c1 ?k1 ?a2 ?l2 ?c2 ?k2 ?a3 ?l3 ?c3 ?k3 ?a4 ?l4 ?t4 ?c4 ?k4 ?a5 ?l5 ?c5 ?k5 ?a6 ?l6 ?c6 ?k6 ?a7 ?l7 ?c7 ?k7 ?a8 ?l8 ?c8 ?k8 ?a9 ?l9 ?c9 ?k9 ?a10 ?l10 ?c10 ?k10 ?a11 ?l11 ?c11 ?k11 ?a12 ?l12 ?c12 ?k12 ?a13 ?l13 ?c13 ?k13 ?a14 ?l14 ?c14 ?k14 ?a15 ?l15 ?c15 ?k15 ?a16 ?l16 ?c16 ?k16 ?gc_FIGURES ?gc_LETTERS ?gc_MOST_FIGURES ?z1 ?z2 ?z3 ?z4 ?z5 ?z6 ?z7 ?z8 ?z9 ?z10 ?z11
      (case xa1 => as_aux_lemma => k_is); (case xe1 => as_aux_lemma => k_is); (case xt1 => as_aux_lemma => k_is); (case xo1 => as_aux_lemma => k_is); (case xz1 => as_aux_lemma => k_is); (case xn1 => as_aux_lemma => k_is); (case xn2 => as_aux_lemma => k_is); (case xn3 => as_aux_lemma => k_is); (case xa2 => as_aux_lemma => k_is); (case xe2 => as_aux_lemma => k_is); (case xt2 => as_aux_lemma => k_is); (case xo2 => as_aux_lemma => k_is); (case xz2 => as_aux_lemma => k_is); (case xa3 => as_aux_lemma => k_is); (case xe3 => as_aux_lemma => k_is); (case xt3 => as_aux_lemma => k_is); (case xo3 => as_aux_lemma => k_is); (case xz3 => as_aux_lemma => k_is); (case xa4 => as_aux_lemma => k_is); (case xe4 => as_aux_lemma => k_is); (case xt4 => as_aux_lemma => k_is); (case xo4 => as_aux_lemma => k_is); (case xz4 => as_aux_lemma => k_is); (case xa5 => as_aux_lemma => k_is); (case xe5 => as_aux_lemma => k_is); (case xt5 => as_aux_lemma => k_is); (case xo5 => as_aux_lemma => k_is); (case xz5 => as_aux_lemma => k_is); (case xk3 => as_aux_lemma => k_is); (case xl3 => as_aux_lemma => k_is); (case xs3 => as_aux_lemma => k_is); (case xi3 => as_aux_lemma => k_is); (case xg3 => as_aux_lemma => k_is); (case xf3_at => as_aux_lemma => k_is); (case yl3 => as_aux_lemma => k_is); (case yc3 => as_aux_lemma => k_is); (case yk3 => as_aux_lemma => k_is); (case va3 => as_aux_lemma => k_is); (case vb3 => as_aux_lemma => k_is); (case vc3 => as_aux_lemma => k_is); (case vd3 => as_aux_lemma => k_is); (case ve3 => as_aux_lemma => k_is); (case vp3_4 => as_aux_lemma => k_is); (case vp3_5 => as_aux_lemma => k_is); (case vp3_2 => as_aux_lemma => k_is); (case vp3_1 => as_aux_lemma => k_is); (case vv3 => as_aux_lemma => k_is); (case ih => as_aux_lemma => k_is); (case ik => as_aux_lemma => k_is); (case a1 => as_aux_lemma => k_is); (case l1 => as_aux_lemma => k_is); (case c1 => as_aux_lemma => k_is); (case k1 => as_aux_lemma => k_is); (case a2 => as_aux_lemma => k_is); (case l2 => as_aux_lemma => k_is); (case c2 => as_aux_lemma => k_is); (case k2 => as_aux_lemma => k_is); (case a3 => as_aux_lemma => k_is); (case l3 => as_aux_lemma => k_is); (case c3 => as_aux_lemma => k_is); (case k3 => as_aux_lemma => k_is); (case a4 => as_aux_lemma => k_is); (case l4 => as_aux_lemma => k_is); (case t4 => as_aux_lemma => k_is); (case c4 => as_aux_lemma => k_is); (case k4 => as_aux_lemma => k_is); (case a5 => as_aux_lemma => k_is); (case l5 => as_aux_lemma => k_is); (case c5 => as_aux_lemma => k_is); (case k5 => as_aux_lemma => k_is); (case a6 => as_aux_lemma => k_is); (case l6 => as_aux_lemma => k_is); (case c6 => as_aux_lemma => k_is); (case k6 => as_aux_lemma => k_is); (case a7 => as_aux_lemma => k_is); (case l7 => as_aux_lemma => k_is); (case c7 => as_aux_lemma => k_is); (case k7 => as_aux_lemma => k_is); (case a8 => as_aux_lemma => k_is); (case l8 => as_aux_lemma => k_is); (case c8 => as_aux_lemma => k_is); (case k8 => as_aux_lemma => k_is); (case a9 => as_aux_lemma => k_is); (case l9 => as_aux_lemma => k_is); (case c9 => as_aux_lemma => k_is); (case k9 => as_aux_lemma => k_is); (case a10 => as_aux_lemma => k_is); (case l10 => as_aux_lemma => k_is); (case c10 => as_aux_lemma => k_is); (case k10 => as_aux_lemma => k_is); (case a11 => as_aux_lemma => k_is); (case l11 => as_aux_lemma => k_is); (case c11 => as_aux_lemma => k_is); (case k11 => as_aux_lemma => k_is); (case a12 => as_aux_lemma => k_is); (case l12 => as_aux_lemma => k_is); (case c12 => as_aux_lemma => k_is); (case k12 => as_aux_lemma => k_is); (case a13 => as_aux_lemma => k_is); (case l13 => as_aux_lemma => k_is); (case c13 => as_aux_lemma => k_is); (case k13 => as_aux_lemma => k_is); (case a14 => as_aux_lemma => k_is); (case l14 => as_aux_lemma => k_is); (case c14 => as_aux_lemma => k_is); (case k14 => as_aux_lemma => k_is); (case a15 => as_aux_lemma => k_is); (case l15 => as_aux_lemma => k_is); (case c15 => as_aux_lemma => k_is); (case k15 => as_aux_lemma => k_is); (case a16 => as_aux_lemma => k_is); (case l16 => as_aux_lemma => k_is); (case c16 => as_aux_lemma => k_is); (case k16 => as_aux_lemma => k_is); (case gc_FIGURES => as_aux_lemma => k_is); (case gc_LETTERS => as_aux_lemma => k_is); (case gc_MOST_FIGURES => as_aux_lemma => k_is); (case z1 => as_aux_lemma => k_is); (case z2 => as_aux_lemma => k_is); (case z3 => as_aux_lemma => k_is); (case z4 => as_aux_lemma => k_is); (case z5 => as_aux_lemma => k_is); (case z6 => as_aux_lemma => k_is); (case z7 => as_aux_lemma => k_is); (case z8 => as_aux_lemma => k_is); (case z9 => as_aux_lemma => k_is); (case z10 => as_aux_lemma => k_is); (case z11 => as_aux_lemma => k_is)
    : PySem.Challenge.rw_noughtrules_k91_texts_of_no_handful.Holds)
  trivial)
end LKsplit
set_option maxRecDepth 100000 in
set_option maxHeartbeats 0 in
theorem LK.run_a (HM : LK.AllMk) : LK.cod2 (LK.head_split.pre HM) := LK.grp2 (LK.head_split.pre HM) fun w os => ⟨by kernel_rfl, by kernel_rfl⟩
set_option maxRecDepth 100000 in
set_option maxHeartbeats 0 in
theorem LK.run_b (HM : LK.AllMk) : LK.cod2 (LK.run_a HM) := LK.grp2 (LK.run_a HM) fun w os => ⟨by kernel_rfl, by kernel_rfl⟩
set_option maxRecDepth 100000 in
set_option maxHeartbeats 0 in
theorem LK.run_c (HM : LK.AllMk) : LK.cod2 (LK.run_b HM) := LK.grp2 (LK.run_b HM) fun w os => ⟨by kernel_rfl, by kernel_rfl⟩
set_option maxRecDepth 100000 in
set_option maxHeartbeats 0 in
theorem LK.run_d0 (HM : LK.AllMk) : True := (let rec pre : _ := fun (h1 h2 : ∀ (w : PySem.World) (os : PySem.OsState), _) => LK.grp1 (LK.run_c HM) (fun w os => ⟨LK.halves 3 (h1 w os) (h2 w os), trivial⟩)
  trivial)
set_option maxRecDepth 100000 in
set_option maxHeartbeats 0 in
theorem LK.run_d1 (HM : LK.AllMk) : LK.cod1 (LK.run_d0.pre HM) := LK.grp1 (LK.run_d0.pre HM) fun w os => ⟨by kernel_rfl, trivial⟩
set_option maxRecDepth 100000 in
set_option maxHeartbeats 0 in
theorem LK.run_d (HM : LK.AllMk) : LK.cod1 (LK.run_d1 HM) := LK.grp1 (LK.run_d1 HM) fun w os => ⟨by kernel_rfl, trivial⟩
set_option maxRecDepth 100000 in
set_option maxHeartbeats 0 in
theorem LK.run_e (HM : LK.AllMk) : LK.cod1 (LK.run_d HM) := LK.grp1 (LK.run_d HM) fun w os => ⟨by kernel_rfl, trivial⟩
set_option maxRecDepth 100000 in
set_option maxHeartbeats 0 in
theorem LK.head_done (HM : LK.AllMk) : PySem.Challenge.rw_noughtrules_k91_texts_of_no_handful.Holds := LK.grp3 (LK.run_e HM) fun w os => ⟨by kernel_rfl, by kernel_rfl, by kernel_rfl⟩
end

section
set_option autoImplicit false
set_option maxRecDepth 100000
set_option maxHeartbeats 4000000
namespace DL
open PySem PySem.Spec PyProof.Rows L2
open PySem.W (Frag)
/-! ### readings by data -/
abbrev TEd := Loc → Sto → QD → Prop
abbrev TTd := Loc → Sto → (Bool → Sto → Prop) → Prop
abbrev TAd := Loc → Sto → (List D → Sto → Prop) → Prop
abbrev TSd := DE → Loc → Sto → Prop
abbrev TGd := D → Loc → Sto → (Loc → Sto → Prop) → Prop
abbrev TGsd := List D → Loc → Sto → (Loc → Sto → Prop) → Prop
def PEd (c : CD) (e : Expr) (t : TEd) : Prop := ∀ G S Q, t G S Q → W c e G S Q
def PTd (c : CD) (e : Expr) (t : TTd) : Prop := ∀ G S Q, t G S Q → WT c e G S Q
def PWd (c : CD) (e : Expr) (t : TTd) : Prop := ∀ G S Q, t G S Q → WW c e G S Q
def PAd (c : CD) (es : List Expr) (t : TAd) : Prop := ∀ G S Q, t G S Q → WA c es G S Q
def PSd (c : CD) (st : Stmt) (t : TSd) : Prop := ∀ E G S, t E G S → WS c st G S E
def PSsd (c : CD) (st : List Stmt) (t : TSd) : Prop := ∀ E G S, t E G S → WSs c st G S E
def PGd (c : CD) (tg : Expr) (t : TGd) : Prop := ∀ d G S Q, t d G S Q → WG c tg d G S Q
def PGsd (c : CD) (ts : List Expr) (t : TGsd) : Prop := ∀ ds G S Q, t ds G S Q → WGs c ts ds G S Q
def PId (c : CD) (tg iter : Expr) (t : TAd) : Prop := ∀ G S Q, t G S Q → WI c tg iter G S Q
theorem WT.mono {c : CD} {G : Loc} {S : Sto} {e : Expr} {Q Q' : Bool → Sto → Prop} (h : WT c e G S Q) (k : ∀ b S, Q b S → Q' b S) : WT c e G S Q' := fun B σ H R => tT_mono (h B σ H R) fun b H' ⟨B', S', s, R', q⟩ => ⟨B', S', s, R', k b S' q⟩
theorem WA.mono {c : CD} {G : Loc} {S : Sto} {es : List Expr} {Q Q' : List D → Sto → Prop} (h : WA c es G S Q) (k : ∀ b S, Q b S → Q' b S) : WA c es G S Q' := fun B σ H R => tA_mono (h B σ H R) fun vs H' ⟨B', ds, S', s, R', r, q⟩ => ⟨B', ds, S', s, R', r, k ds S' q⟩
theorem WI.mono {c : CD} {G : Loc} {S : Sto} {tg iter : Expr} {Q Q' : List D → Sto → Prop} (h : WI c tg iter G S Q) (k : ∀ b S, Q b S → Q' b S) : WI c tg iter G S Q' := fun B σ H R => tI_mono (h B σ H R) fun J H' ⟨B', ds, S', s, R', y, q⟩ => ⟨B', ds, S', s, R', y, k ds S' q⟩
theorem WG.mono {c : CD} {G : Loc} {S : Sto} {tg : Expr} {d : D} {Q Q' : Loc → Sto → Prop} (h : WG c tg d G S Q) (k : ∀ G S, Q G S → Q' G S) : WG c tg d G S Q' := fun B σ H v R r => tG_mono (h B σ H v R r) fun _ _ q => q.le (Same.refl _) k
theorem WS.mono {c : CD} {G : Loc} {S : Sto} {st : Stmt} {E E' : DE} (h : WS c st G S E) (k1 : ∀ G S, E.nx G S → E'.nx G S) (k2 : ∀ d S, E.rt d S → E'.rt d S) (k3 : ∀ G S, E.bk G S → E'.bk G S) (k4 : ∀ G S, E.ct G S → E'.ct G S) : WS c st G S E' :=
  fun B σ H R => tS_mono (h B σ H R) (endsLe (Same.refl _) k1 k2 k3 k4)

/-! ### facts of names, once for a context -/
structure Fx (X : Cx) (ls : List (Option NameKind)) (gs : List Str) : Prop where
  dbg : ∀ (i : Nat) (x : Str), X.N[i]? = some x → (x == ("__debug__" : Str)) = false ∧ (x == ("__classdict__" : Str)) = false
  kd : ∀ (i : Nat) (x : Str), X.N[i]? = some x → X.env.scope.names.lookup x = ls.getD i none
  gl : ∀ (j : Nat) (x : Str), gs[j]? = some x → X.env.kindOf x = some .globalImplicit ∧ (x == ("__debug__" : Str)) = false ∧ x ≠ ("__name__" : Str)
  fk : X.env.scope.kind = .function
def visK : Option NameKind → Bool
  | some .local => true
  | some .cell => true
  | some .free => true
  | _ => false
def locK : Option NameKind → Bool
  | some .local => true
  | some .cell => true
  | _ => false
def isLocK : Option NameKind → Bool
  | some .local => true
  | _ => false
theorem vis_of {sc : Scope} {x : Str} {k : Option NameKind} (h : sc.names.lookup x = k) (v : visK k = true) : Vis sc x := by
  subst h
  unfold Vis
  generalize sc.names.lookup x = k at v
  match k, v with
  | some .local, _ => exact .inl rfl
  | some .cell, _ => exact .inr (.inl rfl)
  | some .free, _ => exact .inr (.inr rfl)
theorem loc_of {sc : Scope} {x : Str} {k : Option NameKind} (h : sc.names.lookup x = k) (v : locK k = true) : L2.Loc sc x := by
  subst h
  unfold L2.Loc
  generalize sc.names.lookup x = k at v
  match k, v with
  | some .local, _ => exact .inl rfl
  | some .cell, _ => exact .inr rfl
theorem isLoc_of {sc : Scope} {x : Str} {k : Option NameKind} (h : sc.names.lookup x = k) (v : isLocK k = true) : sc.names.lookup x = some .local := by
  rw [h]
  match k, v with
  | some .local, _ => rfl
def fxC (N : List Str) (sc : Scope) (ls : List (Option NameKind)) (gs : List Str) : Bool :=
  (match sc.kind with | .function => true | _ => false) && decide (N.map (fun x => sc.names.lookup x) = ls) && (N.all fun x => !(x == ("__debug__" : Str)) && !(x == ("__classdict__" : Str))) &&
    (gs.all fun x => decide (sc.names.lookup x = some .globalImplicit) && !(x == ("__debug__" : Str)) && decide (x ≠ ("__name__" : Str)))
theorem fxC_get {N : List Str} {sc : Scope} {ls : List (Option NameKind)} {gs : List Str} (h : fxC N sc ls gs = true) : sc.kind = .function ∧ (∀ (i : Nat) (x : Str), N[i]? = some x → (x == ("__debug__" : Str)) = false ∧ (x == ("__classdict__" : Str)) = false) ∧
    (∀ (i : Nat) (x : Str), N[i]? = some x → sc.names.lookup x = ls.getD i none) ∧ ∀ (j : Nat) (x : Str), gs[j]? = some x → sc.names.lookup x = some .globalImplicit ∧ (x == ("__debug__" : Str)) = false ∧ x ≠ ("__name__" : Str) := by
  unfold fxC at h
  simp only [Bool.and_eq_true, List.all_eq_true, decide_eq_true_eq, Bool.not_eq_true'] at h
  obtain ⟨⟨⟨h1, h2⟩, h3⟩, h4⟩ := h
  refine ⟨?_, fun i x e => h3 x (List.mem_of_getElem? e), fun i x e => ?_, fun j x e => ?_⟩
  · split at h1
    · assumption
    · cases h1
  · subst h2
    rw [List.getD_eq_getElem?_getD, List.getElem?_map, e]
    rfl
  · have q := h4 x (List.mem_of_getElem? e)
    exact ⟨q.1.1, q.1.2, q.2⟩
theorem fx_body {m : Mo} {N : List Str} {qual : Str} {sc : Scope} {f : Addr} {cdv : Value} {A : Around} {outer : List Env} {s : Shared} {H B : Hp} {E : XK} {EX : EXT} {k : Nat} {hE} {hr} {nd : NdS m N sc} {ls : List (Option NameKind)} {gs : List Str} (h : fxC N sc ls gs = true) :
    Fx (bodyC m N qual sc f cdv A outer s H B E EX k hE hr nd).X ls gs := by
  obtain ⟨h1, h2, h3, h4⟩ := fxC_get h
  exact ⟨h2, h3, h4, h1⟩
theorem fx_blk {m : Mo} {N : List Str} {qual : Str} {sc scope : Scope} {f : Addr} {cdv : Value} {A : Around} {outer : List Env} {s s1 : Shared} {H B H1 : Hp} {E : XK} {EX : EXT} {k : Nat} {hE} {hr} {nd : NdS m N sc} {C : Addr} {cl : List (Str × Addr)} {fp : List Addr} {ls : List (Option NameKind)} {gs : List Str} (h : fxC N (relS scope sc) ls gs = true) :
    Fx (blkC (bodyC m N qual sc f cdv A outer s H B E EX k hE hr nd) scope s1 H1 C cl fp).X ls gs := by
  obtain ⟨h1, h2, h3, h4⟩ := fxC_get h
  exact ⟨h2, h3, h4, h1⟩
/-- a name is read -/
def rd (G : Loc) (i : Nat) (P : D → Prop) : Prop := match G[i]? with
  | some (some d) => P d
  | _ => False
theorem rd_get {G : Loc} {i : Nat} {P : D → Prop} (h : rd G i P) : ∃ d, G[i]? = some (some d) ∧ P d := by
  unfold rd at h
  split at h
  · exact ⟨_, by assumption, h⟩
  · exact False.elim h
def eVar (i : Nat) : TEd := fun G S Q => rd G i fun d => Q d S
def eC (d : D) : TEd := fun _ S Q => Q d S
def eOp (f : D → D → Sto → QD → Prop) (ta tb : TEd) : TEd := fun G S Q => ta G S fun x S1 => tb G S1 fun y S2 => f x y S2 Q
def eUn (f : D → Sto → QD → Prop) (ta : TEd) : TEd := fun G S Q => ta G S fun x S1 => f x S1 Q
def eEq (neg : Bool) (ta tb : TEd) : TEd := fun G S Q => ta G S fun x S1 => tb G S1 fun y S2 => dEq neg x y S2 fun k S3 => Q (.bl k) S3
def eOrd (op : CmpOp) (ta tb : TEd) : TEd := fun G S Q => ta G S fun x S1 => tb G S1 fun y S2 => dOrd op x y S2 fun k S3 => Q (.bl k) S3
def tEq (neg : Bool) (ta tb : TEd) : TTd := fun G S Q => ta G S fun x S1 => tb G S1 fun y S2 => dEq neg x y S2 Q
def tOrd (op : CmpOp) (ta tb : TEd) : TTd := fun G S Q => ta G S fun x S1 => tb G S1 fun y S2 => dOrd op x y S2 Q
def eChn (op op' : CmpOp) (ta tb td : TEd) : TEd := fun G S Q => ta G S fun x S1 => tb G S1 fun y S2 => dOrd op x y S2 fun k S3 => (k = false → Q (.bl false) S3) ∧ (k = true → td G S3 fun z S4 => dOrd op' y z S4 fun k' S5 => Q (.bl k') S5)
def tChn (op op' : CmpOp) (ta tb td : TEd) : TTd := fun G S Q => ta G S fun x S1 => tb G S1 fun y S2 => dOrd op x y S2 fun k S3 => (k = false → Q false S3) ∧ (k = true → td G S3 fun z S4 => dOrd op' y z S4 Q)
def eNone (neg : Bool) (ta : TEd) : TEd := fun G S Q => ta G S fun x S1 => dNone neg x S1 fun k S2 => Q (.bl k) S2
def tNone (neg : Bool) (ta : TEd) : TTd := fun G S Q => ta G S fun x S1 => dNone neg x S1 Q
def tVal (ta : TEd) : TTd := fun G S Q => ta G S fun x S1 => dTru x S1 Q
def tNo (t : TTd) : TTd := fun G S Q => t G S fun k S1 => Q (!k) S1
def tAn (t u : TTd) : TTd := fun G S Q => t G S fun k S1 => (k = true → u G S1 Q) ∧ (k = false → Q false S1)
def tOo (t u : TTd) : TTd := fun G S Q => t G S fun k S1 => (k = true → Q true S1) ∧ (k = false → u G S1 Q)
def eAn (ta tb : TEd) : TEd := fun G S Q => ta G S fun x S1 => isBl x fun k => (k = true → tb G S1 Q) ∧ (k = false → Q (.bl false) S1)
def eOo (ta tb : TEd) : TEd := fun G S Q => ta G S fun x S1 => isBl x fun k => (k = true → Q (.bl true) S1) ∧ (k = false → tb G S1 Q)
def eNo (ta : TEd) : TEd := fun G S Q => ta G S fun x S1 => dTru x S1 fun k S2 => Q (.bl (!k)) S2
def aNil : TAd := fun _ S Q => Q [] S
def aCons (t : TEd) (u : TAd) : TAd := fun G S Q => t G S fun x S1 => u G S1 fun ds S2 => Q (x :: ds) S2
/-- a display that is not too long -/
def fit (ds : List D) (P : Prop) : Prop := match ds.length.ble 1000000 with
  | true => P
  | false => False
theorem fit_get {ds : List D} {P : Prop} (h : fit ds P) : ds.length ≤ sizeLine ∧ P := by
  unfold fit at h
  split at h
  · rename_i e
    have := Nat.le_of_ble_eq_true e
    exact ⟨Nat.le_trans this (by decide), h⟩
  · exact False.elim h
theorem fit_of {ds : List D} {P : Prop} (hz : ds.length ≤ 1000000) (h : P) : fit ds P := by
  unfold fit
  rw [Nat.ble_eq_true_of_le hz]
  exact h
def eTup (t : TAd) : TEd := fun G S Q => t G S fun ds S1 => fit ds (Q (.tup ds) S1)
def eLst (t : TAd) : TEd := fun G S Q => t G S fun ds S1 => fit ds (mk ds S1 Q)
def oNo : Loc → Sto → (Option Int → Sto → Prop) → Prop := fun _ S Q => Q none S
def isI (x : D) (P : Int → Prop) : Prop := match x with
  | .int i => P i
  | _ => False
theorem isI_get {x : D} {P : Int → Prop} (h : isI x P) : ∃ i, x = .int i ∧ P i := by
  cases x <;> first | exact False.elim h | exact ⟨_, rfl, h⟩
def oSome (t : TEd) : Loc → Sto → (Option Int → Sto → Prop) → Prop := fun G S Q => t G S fun x S1 => isI x fun i => Q (some i) S1
def eSl (t : TEd) (l u : Loc → Sto → (Option Int → Sto → Prop) → Prop) : TEd := fun G S Q => t G S fun x S1 => l G S1 fun l S2 => u G S2 fun u S3 => dSl x l u S3 Q
def eCall (P : DCall) (t : TAd) : TEd := fun G S Q => t G S fun ds S1 => P ds S1 Q
/-- the same wish wherever it leaves -/
@[reducible] def kX (EX : EXT) : EXG := fun _ => EX
def eFn (fs : FSp) (EX : EXG) (dvs : List D) (t : TAd) : TEd := fun G S Q => t G S fun ds S1 => fs (ds ++ dvs) S1 Q (EX G)
def E0X : EXG := fun _ _ _ _ => False
def iSq (t : TEd) : TAd := fun G S Q => t G S fun x S1 => dIter x fun ds => Q ds S1
def iR1 (t : TAd) : TAd := fun G S Q => t G S fun ds S1 => one ds fun x => isI x fun j => smallI j ∧ Q (span 0 j.toNat) S1
def iR2 (t : TAd) : TAd := fun G S Q => t G S fun ds S1 => two ds fun x y => isI x fun i => isI y fun j => smallI i ∧ smallI j ∧ Q (span i (j - i).toNat) S1
/-- a comprehension: the turns by an invariant over what is made -/
def eLc (ti : TAd) (own : List Nat) (bind : D → Loc → (Loc → Prop) → Prop) (tt : TTd) (te : TEd) : TEd := fun G S Q => ti G S fun ds S1 => ∃ Iv : Nat → List D → Sto → Prop, Iv 0 [] S1 ∧
  (∀ i d acc S p, ds[i]? = some d → Iv i acc S → bind d (wipeG G own) fun G2 => tt G2 ((p, .lst acc) :: S) fun k S2 => ∃ S3, S2 = (p, .lst acc) :: S3 ∧ (k = true → te G2 S2 fun y S4 => ∃ S5, S4 = (p, .lst acc) :: S5 ∧ acc.length < sizeLine ∧ Iv (i + 1) (acc ++ [y]) S5) ∧ (k = false → Iv (i + 1) acc S3)) ∧
  ∀ acc S, Iv ds.length acc S → mk acc S Q
def tYs : TTd := fun _ S Q => Q true S
def sNext : TSd := fun E G S => E.nx G S
def sSeq (t u : TSd) : TSd := fun E G S => t { E with nx := fun G' S' => u E G' S' } G S
def sEx (t : TEd) : TSd := fun E G S => t G S fun _ S1 => E.nx G S1
def sRet (t : TEd) : TSd := fun E G S => t G S E.rt
def sIf (t : TTd) (a b : TSd) : TSd := fun E G S => t G S fun k S1 => (k = true → a E G S1) ∧ (k = false → b E G S1)
def sSet (i : Nat) (t : TEd) : TSd := fun E G S => t G S fun d S1 => inG G i (E.nx (G.set i (some d)) S1)
def sAsg (t : TEd) (g : TGd) : TSd := fun E G S => t G S fun d S1 => g d G S1 E.nx
def sPar (i j : Nat) (t : TAd) : TSd := fun E G S => t G S fun ds S1 => inG G i (inG G j (two ds fun d e => E.nx ((G.set i (some d)).set j (some e)) S1))
def gNm (i : Nat) : TGd := fun d G S Q => inG G i (Q (G.set i (some d)) S)
def gsNil : TGsd := fun ds G S Q => match ds with
  | [] => Q G S
  | _ => False
def gsCons (t : TGd) (u : TGsd) : TGsd := fun ds G S Q => match ds with
  | d :: r => t d G S fun G1 S1 => u r G1 S1 Q
  | [] => False
def lenIs (ds : List D) (n : Nat) (P : Prop) : Prop := match ds.length.beq n with
  | true => P
  | false => False
theorem lenIs_get {ds : List D} {n : Nat} {P : Prop} (h : lenIs ds n P) : ds.length = n ∧ P := by
  unfold lenIs at h
  split at h
  · rename_i e
    exact ⟨Nat.eq_of_beq_eq_true e, h⟩
  · exact False.elim h
def gTp (n : Nat) (t : TGsd) : TGd := fun d G S Q => match d with
  | .tup ds => lenIs ds n (t ds G S Q)
  | _ => False
def gIx (to ti : TEd) : TGd := fun d G S Q => to G S fun x S1 => ti G S1 fun y S2 => ∃ (a : Addr) (k : Nat) (ds : List D) (z : Int) (j : Nat), x = .ref a ∧ y = .int z ∧ S2[k]? = some (a, Cel.lst ds) ∧ ixN ds.length z = some j ∧ Q G (S2.set k (a, Cel.lst (ds.set j d)))
def sWhile (t : TTd) (b : TSd) : TSd := fun E G S => ∃ (Iv : Nat → Loc → Sto → Prop) (m0 : Nat), Iv m0 G S ∧
  ∀ m G S, Iv m G S → t G S fun k S1 => (k = true → b { E with nx := fun G' S' => ∃ m', m' < m ∧ Iv m' G' S', ct := fun G' S' => ∃ m', m' < m ∧ Iv m' G' S', bk := E.nx } G S1) ∧ (k = false → E.nx G S1)
def sFor (ti : TAd) (g : TGd) (b : TSd) : TSd := fun E G S => ti G S fun ds S1 => ∃ Iv : Nat → Loc → Sto → Prop, Iv 0 G S1 ∧
  (∀ i d G S, ds[i]? = some d → Iv i G S → g d G S fun G2 S2 => b { E with nx := Iv (i + 1), ct := Iv (i + 1), bk := E.nx } G2 S2) ∧ ∀ G S, Iv ds.length G S → E.nx G S
section
variable {c : CD} {e a b d : Expr} {es : List Expr} {pos p : Pos} {x : Str} {tg : Expr} {ta tb td : TEd} {tt tu : TTd} {tas : TAd} {t u : TSd} {ls : List (Option NameKind)} {gs : List Str}
theorem d_var (φ : Fx c.X ls gs) (i : Nat) (hN : c.X.N[i]? = some x := by rfl) (hv : visK (ls.getD i none) = true := by rfl) : PEd c (.Name x pos) (eVar i) := fun G S Q h => by
  obtain ⟨d, e, q⟩ := rd_get h
  exact w_var i hN (vis_of (φ.kd i x hN) hv) (φ.dbg i x hN).1 (φ.dbg i x hN).2 e q
theorem d_int {i : Int} {j : Nat} : PEd c (.Constant (.int i) j pos) (eC (.int i)) := fun G S Q h => w_int h
theorem d_bl {i : Bool} {j : Nat} : PEd c (.Constant (.bool i) j pos) (eC (.bl i)) := fun G S Q h => w_bl h
theorem d_non {j : Nat} : PEd c (.Constant .none j pos) (eC .non) := fun G S Q h => w_non h
theorem d_str {i : Str} {j : Nat} : PEd c (.Constant (.str i) j pos) (eC (.str i)) := fun G S Q h => w_str h
theorem d_add (ha : PEd c a ta) (hb : PEd c b tb) : PEd c (.BinOp a .Add b pos) (eOp dAdd ta tb) := fun G S Q h => w_add ((ha G S _ h).mono fun x S1 h1 => hb G S1 _ h1)
theorem d_sub (ha : PEd c a ta) (hb : PEd c b tb) : PEd c (.BinOp a .Sub b pos) (eOp dSub ta tb) := fun G S Q h => w_sub ((ha G S _ h).mono fun x S1 h1 => hb G S1 _ h1)
theorem d_mul (ha : PEd c a ta) (hb : PEd c b tb) : PEd c (.BinOp a .Mult b pos) (eOp dMul ta tb) := fun G S Q h => w_mul ((ha G S _ h).mono fun x S1 h1 => hb G S1 _ h1)
theorem d_div (ha : PEd c a ta) (hb : PEd c b tb) (hk : 35 ≤ c.k := by exact Nat.le_of_ble_eq_true rfl) : PEd c (.BinOp a .FloorDiv b pos) (eOp dDiv ta tb) := fun G S Q h => w_div hk ((ha G S _ h).mono fun x S1 h1 => hb G S1 _ h1)
theorem d_mod (ha : PEd c a ta) (hb : PEd c b tb) : PEd c (.BinOp a .Mod b pos) (eOp dMod ta tb) := fun G S Q h => w_mod ((ha G S _ h).mono fun x S1 h1 => hb G S1 _ h1)
theorem d_pow (ha : PEd c a ta) (hb : PEd c b tb) : PEd c (.BinOp a .Pow b pos) (eOp dPow ta tb) := fun G S Q h => w_pow ((ha G S _ h).mono fun x S1 h1 => hb G S1 _ h1)
theorem d_neg (ha : PEd c a ta) : PEd c (.UnaryOp .USub a pos) (eUn dNeg ta) := fun G S Q h => w_neg (ha G S _ h)
theorem d_eq (ha : PEd c a ta) (hb : PEd c b tb) : PEd c (.Compare a [.Eq] [b] pos) (eEq false ta tb) := fun G S Q h => w_eqs false rfl ((ha G S _ h).mono fun x S1 h1 => hb G S1 _ h1)
theorem d_ord {op : CmpOp} (ha : PEd c a ta) (hb : PEd c b tb) (ho : isOrd op = true := by rfl) : PEd c (.Compare a [op] [b] pos) (eOrd op ta tb) := fun G S Q h => w_ord ho ((ha G S _ h).mono fun x S1 h1 => hb G S1 _ h1)
theorem d_isN (ha : PEd c a ta) {j : Nat} {p2 : Pos} : PEd c (.Compare a [.Is] [.Constant .none j p2] pos) (eNone false ta) := fun G S Q h => w_isNone false rfl (ha G S _ h)
theorem d_chn {op op' : CmpOp} (ha : PEd c a ta) (hb : PEd c b tb) (hd : PEd c d td) (ho : isOrd op = true := by rfl) (ho' : isOrd op' = true := by rfl) (hm : lastMarks [op, op'] [b, d] = false := by with_unfolding_all rfl) : PEd c (.Compare a [op, op'] [b, d] pos) (eChn op op' ta tb td) := fun G S Q h =>
  w_chain ho ho' hm ((ha G S _ h).mono fun x S1 h1 => (hb G S1 _ h1).mono fun y S2 h2 => ord_mono h2 fun k S3 h3 => ⟨h3.1, fun z => hd G S3 _ (h3.2 z)⟩)
where
  ord_mono {op : CmpOp} {x y : D} {S : Sto} {Q Q' : Bool → Sto → Prop} (h : dOrd op x y S Q) (k : ∀ b S, Q b S → Q' b S) : dOrd op x y S Q' := by
    cases x <;> first | exact False.elim h | (cases y <;> first | exact False.elim h | exact k _ _ h)
theorem dt_chn {op op' : CmpOp} (ha : PEd c a ta) (hb : PEd c b tb) (hd : PEd c d td) (ho : isOrd op = true := by rfl) (ho' : isOrd op' = true := by rfl) (hm : lastMarks [op, op'] [b, d] = false := by with_unfolding_all rfl) : PTd c (.Compare a [op, op'] [b, d] pos) (tChn op op' ta tb td) := fun G S Q h =>
  wt_chain ho ho' hm ((ha G S _ h).mono fun x S1 h1 => (hb G S1 _ h1).mono fun y S2 h2 => d_chn.ord_mono h2 fun k S3 h3 => ⟨h3.1, fun z => hd G S3 _ (h3.2 z)⟩)
theorem dt_eq (ha : PEd c a ta) (hb : PEd c b tb) : PTd c (.Compare a [.Eq] [b] pos) (tEq false ta tb) := fun G S Q h => wt_eqs false rfl ((ha G S _ h).mono fun x S1 h1 => hb G S1 _ h1)
theorem dt_ne (ha : PEd c a ta) (hb : PEd c b tb) : PTd c (.Compare a [.NotEq] [b] pos) (tEq true ta tb) := fun G S Q h => wt_eqs true rfl ((ha G S _ h).mono fun x S1 h1 => hb G S1 _ h1)
theorem dt_ord {op : CmpOp} (ha : PEd c a ta) (hb : PEd c b tb) (ho : isOrd op = true := by rfl) : PTd c (.Compare a [op] [b] pos) (tOrd op ta tb) := fun G S Q h => wt_ord ho ((ha G S _ h).mono fun x S1 h1 => hb G S1 _ h1)
theorem dt_notN (ha : PEd c a ta) {j : Nat} {p2 : Pos} : PTd c (.Compare a [.IsNot] [.Constant .none j p2] pos) (tNone true ta) := fun G S Q h => wt_isNone true rfl (ha G S _ h)
theorem dt_val (ha : PEd c a ta) (he : ∀ whole, isTrue a c.X.env whole = (do let v ← whole; standAt a.pos; holding [v] (truthy v)) := by intro _; rfl) : PTd c a (tVal ta) := fun G S Q h => wt_val he (ha G S _ h)
theorem dt_not (ha : PTd c a tt) : PTd c (.UnaryOp .Not a pos) (tNo tt) := fun G S Q h => wt_not (ha G S _ h)
theorem dt_of (h : PWd c a tt) : PTd c a tt := fun G S Q q => wt_ofW (h G S Q q)
theorem dw_and1 (ha : PTd c a tt) : PWd c (.BoolOp .And [a] pos) tt := fun G S Q h => ww_and1 (ha G S Q h)
theorem dw_or1 (ha : PTd c a tt) : PWd c (.BoolOp .Or [a] pos) tt := fun G S Q h => ww_or1 (ha G S Q h)
theorem dw_and {rest : List Expr} (ha : PTd c a tt) (hb : PWd c (.BoolOp .And (b :: rest) pos) tu) : PWd c (.BoolOp .And (a :: b :: rest) pos) (tAn tt tu) := fun G S Q h => ww_and ((ha G S _ h).mono fun k S1 h1 => ⟨fun z => hb G S1 _ (h1.1 z), h1.2⟩)
theorem dw_or {rest : List Expr} (ha : PTd c a tt) (hb : PWd c (.BoolOp .Or (b :: rest) pos) tu) : PWd c (.BoolOp .Or (a :: b :: rest) pos) (tOo tt tu) := fun G S Q h => ww_or ((ha G S _ h).mono fun k S1 h1 => ⟨h1.1, fun z => hb G S1 _ (h1.2 z)⟩)
theorem d_one {op : BoolOp} (ha : PEd c a ta) : PEd c (.BoolOp op [a] pos) ta := fun G S Q h => w_one (ha G S Q h)
theorem isBl_mono {x : D} {P P' : Bool → Prop} (h : isBl x P) (k : ∀ b, P b → P' b) : isBl x P' := by
  cases x <;> first | exact False.elim h | exact k _ h
theorem d_and {rest : List Expr} (ha : PEd c a ta) (hb : PEd c (.BoolOp .And (b :: rest) pos) tb) : PEd c (.BoolOp .And (a :: b :: rest) pos) (eAn ta tb) := fun G S Q h => w_and ((ha G S _ h).mono fun x S1 h1 => isBl_mono h1 fun k h2 => ⟨fun z => hb G S1 _ (h2.1 z), h2.2⟩)
theorem d_or {rest : List Expr} (ha : PEd c a ta) (hb : PEd c (.BoolOp .Or (b :: rest) pos) tb) : PEd c (.BoolOp .Or (a :: b :: rest) pos) (eOo ta tb) := fun G S Q h => w_or ((ha G S _ h).mono fun x S1 h1 => isBl_mono h1 fun k h2 => ⟨h2.1, fun z => hb G S1 _ (h2.2 z)⟩)
theorem d_not (ha : PEd c a ta) : PEd c (.UnaryOp .Not a pos) (eNo ta) := fun G S Q h => w_not (ha G S _ h)
theorem da_nil : PAd c [] aNil := fun G S Q h => wa_nil h
theorem da_cons (ha : PEd c e ta) (hr : PAd c es tas) (hs : starEach (e :: es) c.X.env = (false, eval e c.X.env) :: starEach es c.X.env := by rfl) : PAd c (e :: es) (aCons ta tas) := fun G S Q h => wa_cons hs ((ha G S _ h).mono fun x S1 h1 => hr G S1 _ h1)
theorem d_tup (h : PAd c es tas) {j : Nat} : PEd c (.Tuple es j pos) (eTup tas) := fun G S Q q => w_tup ((h G S _ q).mono fun ds S1 q => fit_get q)
theorem d_lst (h : PAd c es tas) : PEd c (.List es pos) (eLst tas) := fun G S Q q => w_lst ((h G S _ q).mono fun ds S1 q => fit_get q)
theorem d_ix (ha : PEd c a ta) (hb : PEd c b tb) (hs : PlainIx b := by exact fun _ _ => rfl) : PEd c (.Subscript a b pos) (eOp dIx ta tb) := fun G S Q h => w_ix hs ((ha G S _ h).mono fun x S1 h1 => hb G S1 _ h1)
def POd (c : CD) (o : Option Expr) (t : Loc → Sto → (Option Int → Sto → Prop) → Prop) : Prop := ∀ G S Q, t G S Q → WO c o G S Q
theorem WO.mono {o : Option Expr} {G : Loc} {S : Sto} {Q Q' : Option Int → Sto → Prop} (h : WO c o G S Q) (k : ∀ i S, Q i S → Q' i S) : WO c o G S Q' := by
  cases o with
  | none => exact k _ _ h
  | some e => exact W.mono h fun d S ⟨i, e, q⟩ => ⟨i, e, k _ _ q⟩
theorem do_no : POd c none oNo := fun G S Q h => h
theorem do_some (h : PEd c e ta) : POd c (some e) (oSome ta) := fun G S Q q => (h G S _ q).mono fun d S h => isI_get h
theorem d_sl {lo hi : Option Expr} {p2 : Pos} {tl th : Loc → Sto → (Option Int → Sto → Prop) → Prop} (ha : PEd c a ta) (hl : POd c lo tl) (hh : POd c hi th) : PEd c (.Subscript a (.Slice lo hi none p2) pos) (eSl ta tl th) := fun G S Q h =>
  w_sl ((ha G S _ h).mono fun x S1 h1 => (hl G S1 _ h1).mono fun l S2 h2 => hh G S2 _ h2)
theorem d_bi (φ : Fx c.X ls gs) (j : Nat) {id : String} {r : List V → Hp → VK → Prop} {P : DCall} (hc : CallR c.X (.builtin id) r) (hP : BOk c r P) (hm : c.X.mg x = none) (hv : bootBuiltins x = some (.builtin id)) (ha : PAd c (e :: es) tas) (hj : gs[j]? = some x := by rfl)
    (he : starEach (e :: es) c.X.env = (false, eval e c.X.env) :: starEach es c.X.env := by rfl) (hpl : (backTo pos (starEach es c.X.env)).any (·.1) = false := by rfl) : PEd c (.Call (.Name x p) (e :: es) [] pos) (eCall P tas) := fun G S Q h => w_bi hc hP (φ.gl j x hj).1 hm hv (φ.gl j x hj).2.2 (φ.gl j x hj).2.1 he hpl (ha G S _ h)
theorem d_bt (φ : Fx c.X ls gs) (j : Nat) {T : String} {r : List V → Hp → VK → Prop} {P : DCall} (hc : CallR c.X (.type T) r) (hP : BOk c r P) (hm : c.X.mg x = none) (hv : bootBuiltins x = some (.type T)) (ha : PAd c (e :: es) tas) (hj : gs[j]? = some x := by rfl)
    (he : starEach (e :: es) c.X.env = (false, eval e c.X.env) :: starEach es c.X.env := by rfl) (hpl : (backTo pos (starEach es c.X.env)).any (·.1) = false := by rfl) : PEd c (.Call (.Name x p) (e :: es) [] pos) (eCall P tas) := fun G S Q h => w_bt hc hP (φ.gl j x hj).1 hm hv (φ.gl j x hj).2.2 (φ.gl j x hj).2.1 he hpl (ha G S _ h)
theorem d_ty (φ : Fx c.X ls gs) (j : Nat) {n : String} (hm : c.X.mg x = none) (hv : bootBuiltins x = some (.type n)) (hj : gs[j]? = some x := by rfl) : PEd c (.Name x pos) (eC (.ty n)) := fun G S Q h => w_ty (φ.gl j x hj).1 hm hv (φ.gl j x hj).2.2 (φ.gl j x hj).2.1 h
theorem d_fn [Calm c] (φ : Fx c.X ls gs) (j : Nat) {k : Nat} {dvs : List D} {fs : FSp} (F : FnD c.X.mo x k dvs fs) (hk : k ≤ c.k) (ha : PAd c (e :: es) tas) (hj : gs[j]? = some x := by rfl) (he : starEach (e :: es) c.X.env = (false, eval e c.X.env) :: starEach es c.X.env := by rfl) (hpl : (backTo pos (starEach es c.X.env)).any (·.1) = false := by rfl) :
    PEd c (.Call (.Name x p) (e :: es) [] pos) (eFn fs c.EX dvs tas) := fun G S Q h => w_call F hk (φ.gl j x hj).1 (φ.gl j x hj).2.1 he hpl (ha G S _ h)
/-! ### what is walked, comprehensions -/
theorem one_mono {ds : List D} {P P' : D → Prop} (h : one ds P) (k : ∀ x, P x → P' x) : one ds P' := by
  match ds, h with
  | [d], h => exact k _ h
theorem di_seq (h : PEd c e ta) : PId c tg e (iSq ta) := fun G S Q q => wi_seq (h G S _ q)
theorem di_r1 (φ : Fx c.X ls gs) (j : Nat) (hm : c.X.mg "range" = none) (h : PAd c [a] tas) (hj : gs[j]? = some "range" := by rfl) (hs : starEach [a] c.X.env = [(false, eval a c.X.env)] := by rfl) : PId c tg (.Call (.Name "range" p) [a] [] pos) (iR1 tas) := fun G S Q q => wi_range1 (φ.gl j _ hj).1 hm hs ((h G S _ q).mono fun ds S1 h => one_mono h fun x h => isI_get h)
/-- a clause's tests -/
def PTsB (c : CD) (scope : Scope) (ifs : List Expr) (t : TTd) : Prop := ∀ G S Q, t G S Q → WTsB c scope ifs G S Q
theorem dts_nil {scope : Scope} : PTsB c scope [] tYs := fun G S Q h => h
theorem WTsB.mono {scope : Scope} {ifs : List Expr} {G : Loc} {S : Sto} {Q Q' : Bool → Sto → Prop} (h : WTsB c scope ifs G S Q) (k : ∀ b S, Q b S → Q' b S) : WTsB c scope ifs G S Q' := by
  match ifs, h with
  | [], h => exact k _ _ h
  | [t], h => exact fun s H0 C cl fp => (h s H0 C cl fp).mono k
theorem lc_ask {elt : Expr} {ifs : List Expr} {scope : Scope} {own : List (Str × Nat)} {bind : D → Loc → (Loc → Prop) → Prop} {G : Loc} {Q : QD} {ds : List D} {S1 : Sto} (hb : BindOk c scope tg own bind) (ht : PTsB c scope ifs tt) (he : ∀ s H0 C cl fp, PEd (blkC c scope s H0 C cl fp) elt ta)
    (h : ∃ Iv : Nat → List D → Sto → Prop, Iv 0 [] S1 ∧
      (∀ i d acc S p, ds[i]? = some d → Iv i acc S → bind d (wipeG G (own.map (·.2))) fun G2 => tt G2 ((p, .lst acc) :: S) fun k S2 => ∃ S3, S2 = (p, .lst acc) :: S3 ∧ (k = true → ta G2 S2 fun y S4 => ∃ S5, S4 = (p, .lst acc) :: S5 ∧ acc.length < sizeLine ∧ Iv (i + 1) (acc ++ [y]) S5) ∧ (k = false → Iv (i + 1) acc S3)) ∧
      ∀ acc S, Iv ds.length acc S → mk acc S Q) : LcAsk c G scope own ifs elt bind Q ds S1 := by
  obtain ⟨Iv, h0, h1, h2⟩ := h
  refine ⟨Iv, h0, fun i d acc S p e q => ?_, h2⟩
  refine hb.1 _ _ _ _ (h1 i d acc S p e q) fun G2 h3 => ?_
  exact (ht _ _ _ h3).mono fun k S2 ⟨S3, e3, h4, h5⟩ => ⟨S3, e3, fun z s H0 C cl fp => he s H0 C cl fp _ _ _ (h4 z), h5⟩
theorem d_lc [Calm c] {elt iter : Expr} {ifs : List Expr} {scope : Scope} {bind : D → Loc → (Loc → Prop) → Prop} {ti : TAd} (own : List (Str × Nat)) (ok : L2.blkC c.X.N c.X.env.scope scope own = true) (hb : BindOk c scope tg own bind) (hi : PId c tg iter ti) (ht : PTsB c scope ifs tt) (he : ∀ s H0 C cl fp, PEd (blkC c scope s H0 C cl fp) elt ta)
    (hs : ∀ x, foldedSetIterable iter c.X.env x = pure x := by intro _; rfl) : PEd c (.ListComp elt [⟨tg, iter, ifs, 0⟩] scope pos) (eLc ti (own.map (·.2)) bind tt ta) := fun G S Q h =>
  w_lc own (blkOk_by ok) hb hs ((hi G S _ h).mono fun ds S1 h1 => lc_ask hb ht he h1)

/-! ### statements -/
variable {st : Stmt} {rest : List Stmt}
theorem ds_nil : PSsd c [] sNext := fun E G S h => ws_nil h
theorem ds_cons (h1 : PSd c st t) (h2 : PSsd c rest u) : PSsd c (st :: rest) (sSeq t u) := fun E G S h => ws_cons ((h1 _ G S h).mono (fun G' S' q => h2 E G' S' q) (fun _ _ q => q) (fun _ _ q => q) fun _ _ q => q)
theorem ds_ex (he : PEd c e ta) (hs : swapsWith e none pos.line c.X.env = pure false := by rfl) : PSd c (.Expr e pos) (sEx ta) := fun E G S h => ws_expr hs (he G S _ h)
theorem ds_ret (he : PEd c e ta) : PSd c (.Return (some e) pos) (sRet ta) := fun E G S h => ws_ret (he G S _ h)
theorem ds_if {as bs : List Stmt} (hd : PTd c d tt) (ha : PSsd c as t) (hb : PSsd c bs u) : PSd c (.If d as bs pos) (sIf tt t u) := fun E G S h => ws_if ((hd G S _ h).mono fun k S1 h1 => ⟨fun z => ha E G S1 (h1.1 z), fun z => hb E G S1 (h1.2 z)⟩)
theorem ds_set (φ : Fx c.X ls gs) {p2 : Pos} (i : Nat) (he : PEd c e ta) (hi : c.X.N[i]? = some x := by rfl) (hk : locK (ls.getD i none) = true := by rfl) (hf : ∀ x, c.X.fn x = true := by exact fun _ => rfl) (hs : swapsWith e (some (.Name x p2)) pos.line c.X.env = pure false := by rfl) :
    PSd c (.Assign [.Name x p2] e pos) (sSet i ta) := fun E G S h => by
  have hx := loc_of (φ.kd i x hi) hk
  by_cases hG : i < G.length
  · exact ws_set i hi hx (.inl (hf x)) hG hs ((he G S _ h).mono fun d S1 h1 => (inG_get h1).2)
  · refine fun B σ H R => tS_of (ps_set c.nd hi hx (pe_self e) hs (.inl (hf x))) ?_
    exact tE_mono (he G S _ h B σ H R) fun v H1 ⟨B1, d, S1, s1, R1, r1, q⟩ => absurd (inG_get q).1 hG
theorem ds_asg (he : PEd c e ta) {g : TGd} (hg : PGd c tg g) (hs : swapsWithSole [tg] e pos.line c.X.env = pure false := by rfl) (hw : swappedStores [tg] e c.X.env = pure none := by rfl) (h1 : (assignEach [tg] c.X.env).map (·.2) = [assign tg c.X.env] := by rfl) : PSd c (.Assign [tg] e pos) (sAsg ta g) := fun E G S h =>
  ws_asg hs hw h1 ((he G S _ h).mono fun d S1 q => hg d G S1 _ q)
theorem dg_nm (φ : Fx c.X ls gs) (i : Nat) (hi : c.X.N[i]? = some x := by rfl) (hk : locK (ls.getD i none) = true := by rfl) (hf : ∀ x, c.X.fn x = true := by exact fun _ => rfl) : PGd c (.Name x pos) (gNm i) := fun d G S Q h => wg_name i hi (loc_of (φ.kd i x hi) hk) (.inl (hf x)) (inG_get h).1 (inG_get h).2
theorem dgs_nil : PGsd c [] gsNil := fun ds G S Q h => by
  cases ds with
  | nil => exact wgs_nil h
  | cons _ _ => exact False.elim h
theorem dgs_cons {g : TGd} {gs : TGsd} (h1 : PGd c e g) (h2 : PGsd c es gs) (hs : (assignEach (e :: es) c.X.env).map (·.2) = assign e c.X.env :: (assignEach es c.X.env).map (·.2) := by rfl) : PGsd c (e :: es) (gsCons g gs) := fun ds G S Q h => by
  cases ds with
  | nil => exact False.elim h
  | cons d r => exact wgs_cons hs ((h1 d G S _ h).mono fun G1 S1 q => h2 r G1 S1 Q q)
theorem dg_tp [Calm c] {gs : TGsd} (n : Nat) (h : PGsd c es gs) {j : Nat} (hn : (assignEach es c.X.env).length = n := by rfl) (hst : (assignEach es c.X.env).findIdx? (·.1) = none := by rfl) : PGd c (.Tuple es j pos) (gTp n gs) := fun d G S Q q => by
  cases d <;> first | exact False.elim q | skip
  case tup ds => exact wg_tup (hn.trans (lenIs_get q).1.symm) hst (h ds G S Q (lenIs_get q).2)
theorem dg_ix (ha : PEd c a ta) (hb : PEd c b tb) (hs : ∀ v, assign (.Subscript a b pos) c.X.env v = (do
      let ov ← holding [v] (eval a c.X.env)
      let iv ← holding [v, ov] (eval b c.X.env)
      standAt pos
      holding [v, ov, iv] (setItem ov iv v)
      release [v, ov, iv] []) := by intro _; rfl) : PGd c (.Subscript a b pos) (gIx ta tb) := fun d G S Q h => wg_sub hs ((ha G S _ h).mono fun x S1 h1 => hb G S1 _ h1)
theorem ds_while {body : List Stmt} (hp : PassesOwn (model c.X.prog c.X.w) c.X.A c.X.env c.X.xe) (hd : PTd c d tt) (hb : PSsd c body t) : PSd c (.While d body [] pos) (sWhile tt t) := fun E G S ⟨Iv, m0, h0, h⟩ =>
  ws_while hp Iv m0 h0 fun m G S hi => (hd G S _ (h m G S hi)).mono fun k S1 h1 => ⟨fun z => hb _ G S1 (h1.1 z), h1.2⟩
theorem ds_for [Calm c] {iter : Expr} {body : List Stmt} {ti : TAd} {g : TGd} (hp : PassesOwn (model c.X.prog c.X.w) c.X.A c.X.env c.X.xe) (hi : PId c tg iter ti) (hg : PGd c tg g) (hb : PSsd c body t) (hs : ∀ x, foldedSetIterable iter c.X.env x = pure x := by intro _; rfl) : PSd c (.For tg iter body [] pos) (sFor ti g t) := fun E G S h =>
  ws_for hp hs ((hi G S _ h).mono fun ds S1 ⟨Iv, h0, h1, h2⟩ => ⟨Iv, h0, fun i d G S e q => (hg d G S _ (h1 i d G S e q)).mono fun G2 S2 q2 => hb _ G2 S2 q2, h2⟩)
end
section
variable {m : Mo} {N : List Str} {qual : Str} {sc scope : Scope} {f : Addr} {cdv : Value} {A : Around} {outer : List Env} {s : Shared} {H B : Hp} {E : XK} {EX : EXT} {k : Nat} {hE : ∀ cls d H', XD m.K B EX cls d H' → E cls d H'}
  {hr : Room k (A.deeper (envOfC qual sc s.heap.objs.size f cdv))} {nd : NdS m N sc} {e a b d : Expr} {pos p : Pos} {x y : Str} {tg elt iter : Expr} {ifs : List Expr} {ta : TEd} {tt : TTd} {ti : TAd} {bind : D → Loc → (Loc → Prop) → Prop} {ls ls2 : List (Option NameKind)} {gs gs2 : List Str} {own : List (Str × Nat)}
theorem fn_or {sc scope : Scope} {x : Str} {k : Option NameKind} (h : (relS scope sc).names.lookup x = k) (v : (isLocK k || (scope.names.lookup x == some .cell)) = true) : (scope.names.lookup x == some .cell) = true ∨ (relS scope sc).names.lookup x = some .local := by
  rcases Bool.or_eq_true _ _ ▸ v with q | q
  · exact .inr (isLoc_of h q)
  · exact .inl q
theorem bind_name (h : fxC N (relS scope sc) ls gs = true) (i : Nat) (hi : N[i]? = some x := by rfl) (hk : locK (ls.getD i none) = true := by rfl) (hf : (isLocK (ls.getD i none) || (scope.names.lookup x == some .cell)) = true := by first | rfl | decide +kernel) (ho : (own.map (·.2)).elem i = true := by rfl) :
    BindOk (bodyC m N qual sc f cdv A outer s H B E EX k hE hr nd) scope (.Name x pos) own (bind1 i) :=
  bind_name' i hi (loc_of ((fxC_get h).2.2.1 i x hi) hk) (fn_or ((fxC_get h).2.2.1 i x hi) hf) (List.mem_of_elem_eq_true ho)
theorem d_lcF (ls : List (Option NameKind)) (gs : List Str) (own : List (Str × Nat)) (h : fxC N (relS scope sc) ls gs = true) (ok : L2.blkC N sc scope own = true) (hb : fxC N (relS scope sc) ls gs = true → BindOk (bodyC m N qual sc f cdv A outer s H B E EX k hE hr nd) scope tg own bind) (hi : PId (bodyC m N qual sc f cdv A outer s H B E EX k hE hr nd) tg iter ti)
    (ht : (∀ s1 H1 C cl fp, Fx (blkC (bodyC m N qual sc f cdv A outer s H B E EX k hE hr nd) scope s1 H1 C cl fp).X ls gs) → PTsB (bodyC m N qual sc f cdv A outer s H B E EX k hE hr nd) scope ifs tt)
    (he : ∀ s1 H1 C cl fp, Fx (blkC (bodyC m N qual sc f cdv A outer s H B E EX k hE hr nd) scope s1 H1 C cl fp).X ls gs → PEd (blkC (bodyC m N qual sc f cdv A outer s H B E EX k hE hr nd) scope s1 H1 C cl fp) elt ta) (hs : ∀ z, foldedSetIterable iter (bodyC m N qual sc f cdv A outer s H B E EX k hE hr nd).X.env z = pure z := by intro _; rfl) :
    PEd (bodyC m N qual sc f cdv A outer s H B E EX k hE hr nd) (.ListComp elt [⟨tg, iter, ifs, 0⟩] scope pos) (eLc ti (own.map (·.2)) bind tt ta) :=
  d_lc own ok (hb h) hi (ht fun _ _ _ _ _ => fx_blk h) (fun _ _ _ _ _ => he _ _ _ _ _ (fx_blk h)) hs
end
end DL
end

section
set_option autoImplicit false
set_option maxRecDepth 100000
set_option maxHeartbeats 4000000
namespace DL
open PySem PySem.Spec PyProof.Rows L2
open PySem.W (Frag)
/-! ### the built-ins' names -/
theorem bb_len : bootBuiltins "len" = some (.builtin "len") := by decide +kernel
theorem bb_all : bootBuiltins "all" = some (.builtin "all") := by decide +kernel
theorem bb_isinstance : bootBuiltins "isinstance" = some (.builtin "isinstance") := by decide +kernel
theorem bb_int : bootBuiltins "int" = some (.type "int") := by decide +kernel
theorem bb_bool : bootBuiltins "bool" = some (.type "bool") := by decide +kernel
theorem bb_str : bootBuiltins "str" = some (.type "str") := by decide +kernel
theorem bb_tuple : bootBuiltins "tuple" = some (.type "tuple") := by decide +kernel
theorem bb_list : bootBuiltins "list" = some (.type "list") := by decide +kernel
theorem bb_ValueError : bootBuiltins "ValueError" = some (.type "ValueError") := by decide +kernel

/-! ### isinstance of data -/
def isIntD : D → Bool
  | .int _ => true
  | _ => false
def isBlD : D → Bool
  | .bl _ => true
  | _ => false
def isLstD : D → Bool
  | .lst _ => true
  | .slst _ => true
  | _ => false
def isStrD : D → Bool
  | .str _ => true
  | _ => false
theorem kb2 : kitB "NoneType" "bool" = some false ∧ kitB "bool" "bool" = some true ∧ kitB "int" "bool" = some false ∧ kitB "str" "bool" = some false ∧ kitB "tuple" "bool" = some false ∧ kitB "list" "bool" = some false ∧ kitB "dict" "bool" = some false := by decide +kernel
theorem kb5 : kitB "NoneType" "str" = some false ∧ kitB "bool" "str" = some false ∧ kitB "int" "str" = some false ∧ kitB "str" "str" = some true ∧ kitB "tuple" "str" = some false ∧ kitB "list" "str" = some false ∧ kitB "dict" "str" = some false := by decide +kernel
/-- plain data: none, truths, numbers, texts, tuples, lists, dicts -/
def Pln (x : D) : Prop := ∃ n, tyN x = some n
theorem isi_bool {x : D} {S : Sto} {Q : QD} (h : Pln x) (q : Q (.bl (isBlD x)) S) : dIsi [x, .ty "bool"] S Q := by
  obtain ⟨n, h⟩ := h
  obtain ⟨k1, k2, k3, k4, k5, k6, k7⟩ := kb2
  cases x <;> first | (cases h; done) | exact ⟨_, _, rfl, by assumption, q⟩
theorem isi_str {x : D} {S : Sto} {Q : QD} (h : Pln x) (q : Q (.bl (isStrD x)) S) : dIsi [x, .ty "str"] S Q := by
  obtain ⟨n, h⟩ := h
  obtain ⟨k1, k2, k3, k4, k5, k6, k7⟩ := kb5
  cases x <;> first | (cases h; done) | exact ⟨_, _, rfl, by assumption, q⟩

/-! ### products of numbers below a bound -/
theorem mul_ok_l {i j : Int} (h : i.natAbs < 2 ^ 64) : MulB i j := .of_left (intBits_le_64 (by omega) (by omega))
theorem mul_ok_r {i j : Int} (h : j.natAbs < 2 ^ 64) : MulB i j := .of_right (intBits_le_64 (by omega) (by omega))
theorem bits_mul {i j : Int} {a b : Nat} (ha : i.natAbs < 2 ^ a) (hb : j.natAbs < 2 ^ b) : (i * j).natAbs < 2 ^ (a + b) := wide_lt ha hb

/-! ### a law's well: three numbers in a list that is written -/
def Wl (S : Sto) (k : Nat) (w : Addr) : Prop := ∃ a b c : Int, S[k]? = some (w, Cel.lst [.int a, .int b, .int c])
def Wst (S S' : Sto) (k : Nat) (w : Addr) : Prop := ∃ a b c : Int, S' = S.set k (w, Cel.lst [.int a, .int b, .int c])
theorem Wl.to {S S' : Sto} {k : Nat} {w : Addr} (h : Wl S k w) (t : Wst S S' k w) : Wl S' k w := by
  obtain ⟨_, _, _, h⟩ := h
  obtain ⟨a, b, c, e⟩ := t
  have hk : k < S.length := (List.getElem?_eq_some_iff.mp h).1
  exact ⟨a, b, c, by rw [e, List.getElem?_set_self hk]⟩
theorem Wst.trans {S S1 S2 : Sto} {k : Nat} {w : Addr} (h : Wst S S1 k w) (t : Wst S1 S2 k w) : Wst S S2 k w := by
  obtain ⟨_, _, _, e⟩ := h
  obtain ⟨a, b, c, e2⟩ := t
  exact ⟨a, b, c, by rw [e2, e, List.set_set]⟩
/-- a law's draw: some number below many -/
def spDraw : FSp := fun ds S Q _ => ∃ (w : Addr) (k : Nat) (many : Int), ds = [.ref w, .int many] ∧ Wl S k w ∧ 0 < many ∧ many < 2 ^ 64 ∧ ∀ (v : Int) (S' : Sto), 0 ≤ v → v < many → Wst S S' k w → Q (.int v) S'
theorem ln_draw : ∀ ds S Q EX, spDraw ds S Q EX → ds.length = 2 := fun ds S Q EX ⟨w, k, many, e, _⟩ => by rw [e]; rfl
theorem fmod_pos {a b : Int} (h : 0 < b) : 0 ≤ a.fmod b ∧ a.fmod b < b := by
  rw [Int.fmod_eq_emod_of_nonneg a (by omega)]
  exact ⟨Int.emod_nonneg _ (by omega), Int.emod_lt_of_pos _ h⟩
theorem div_ok {i j : Int} (h : 0 < j) (hb : j < 2 ^ 64) : CDv i j := h
end DL
end

section
set_option autoImplicit false
set_option maxRecDepth 100000
set_option maxHeartbeats 4000000
namespace DL
open PySem PySem.Spec PyProof.Rows L2
open PySem.W (Frag)
/-! ### zip of any two of lists and tuples -/
inductive Src where
  | lst (a : Addr)
  | tup (a : Addr)
def Src.ad : Src → Addr
  | .lst a => a
  | .tup a => a
def Src.has (K : Frag) (H : Hp) : Src → List V → Prop
  | .lst a, xs => SqL K H a xs
  | .tup a, xs => SqT K H a xs
def Src.its (h : Heap) (us : Array Value) : Src → Prop
  | .lst a => h.IsList a us
  | .tup a => h.IsTuple a us
def Src.ob : Src → Obj
  | .lst a => { cls := .type "list_iterator", data := .fields #[.ref a, .int 0 0] }
  | .tup a => { cls := .type "tuple_iterator", data := .fields #[.ref a, .int 0 0] }
theorem Src.inj {X : Cx} {pins : List (Addr × Obj)} {σ : L2.St} {H : Hp} {s : Shared} {xs ys : List V} (I : Inv X pins σ H s) : ∀ {a : Src}, a.has X.K H xs → a.has X.K H ys → xs = ys
  | .lst a, h, h' => I.list_inj h h'
  | .tup a, h, h' => I.tuple_inj h h'
/-- what can be walked: a list that stands, a tuple -/
def itD (x : D) (P : List D → Prop) : Prop := match x with
  | .lst ds => P ds
  | .slst ds => P ds
  | .tup ds => P ds
  | _ => False
/-- zip(a, b) -/
def zipD (ds es : List D) : List D := List.zipWith (fun d e => D.tup [d, e]) ds es
def iZp (t : TAd) : TAd := fun G S Q => t G S fun ds S1 => match ds with
  | [x, y] => itD x fun ds => itD y fun es => Q (zipD ds es) S1
  | _ => False
section
variable {c : CD} {e a b d : Expr} {es : List Expr} {pos p : Pos} {x : Str} {tg : Expr} {ta tb td : TEd} {tt tu : TTd} {tas : TAd} {t u : TSd} {ls : List (Option NameKind)} {gs : List Str} {G : Loc} {S : Sto}
/-! ### methods of built-in values -/
abbrev MCall := D → List D → Sto → QD → Prop
inductive MT where
  | list
  | str
def tyOk (T : MT) (x : D) (S : Sto) : Prop := match T with
  | .list => asQ x S fun _ => True
  | .str => match x with
    | .str _ => True
    | _ => False
def MT.name : MT → String
  | .list => "list"
  | .str => "str"
theorem ty_ok {T : MT} {x : D} {v : V} {B H : Hp} {σ : L2.St} (R : c.R B G S σ H) (r : Rep c.X.K B x v) (h : tyOk T x S) : tyV c.X.K T.name v H := by
  cases T with
  | list =>
    obtain ⟨a, vs, ds, e, h1, _, _⟩ := asQ_get R r h
    subst e
    exact .inl ⟨rfl, vs, h1⟩
  | str =>
    cases x <;> first | exact False.elim h | skip
    case str z =>
      cases r
      rfl
def MOk (c : CD) (r : V → List V → Hp → VK → Prop) (P : MCall) : Prop := ∀ (Bl B : Hp) (G : Loc) (σ : L2.St) (H : Hp) (x : D) (v : V) (ds : List D) (vs : List V) (S : Sto) (Q : QD), Same Bl B → c.R B G S σ H → Rep c.X.K B x v → Reps c.X.K B ds vs → P x ds S Q → r v vs H (Post c Bl G σ Q)
def eMc (T : MT) (P : MCall) (to : TEd) (ta : TAd) : TEd := fun G S Q => to G S fun x S1 => tyOk T x S1 ∧ ta G S1 fun ds S2 => P x ds S2 Q
theorem d_mc {T : MT} {id : String} {name : Str} {apos cpos : Pos} {r : V → List V → Hp → VK → Prop} {P : MCall} {o : Expr} {to : TEd} (pa : PlainAttrs T.name) (slot : Slot T.name name id) (hty : typeOf (.builtin id) = pure (.type "method_descriptor")) (hm : MtR c.X id r) (hP : MOk c r P) (ho : PEd c o to) (ha : PAd c (e :: es) tas)
    (hbase : attributeBase o name c.X.env (eval o c.X.env) = eval o c.X.env := by rfl)
    (hfew : ((backTo cpos (starEach (e :: es) c.X.env)).all (fun x => !x.1) && (backToKw cpos (keywordEach [] c.X.env)).all (fun x => x.1.isSome)
      && decide ((e :: es).length + ([] : List Keyword).length + (if ([] : List Keyword).isEmpty then 0 else 1) < 30)) = true := by rfl)
    (hline : (apos.endLine == cpos.line) = true := by rfl) (hs : starEach (e :: es) c.X.env = (false, eval e c.X.env) :: starEach es c.X.env := by rfl) (hplain : (backTo cpos (starEach es c.X.env)).any (·.1) = false := by rfl) :
    PEd c (.Call (.Attribute o name apos) (e :: es) [] cpos) (eMc T P to tas) := fun G S Q h B σ H R => by
  refine tE_of (pe_bm pa slot hty hm (pe_self o) (pa_self _) hbase hfew hline hs hplain) ?_
  refine tE_mono (ho G S _ h B σ H R) fun v H1 ⟨B1, d, S1, s1, R1, r1, ty, h1⟩ => ⟨ty_ok R1 r1 ty, ?_⟩
  exact tA_mono (ha G S1 _ h1 B1 σ H1 R1) fun vs H2 ⟨B2, ds, S2, s2, R2, r2, h2⟩ => hP B B2 G σ H2 d v ds vs S2 Q (s1.trans s2) R2 (Rep.mono s2 _ _ r1) r2 h2
/-- xs.append(y) -/
def mApp : MCall := fun x ds S Q => one ds fun y => match x with
  | .ref a => ∃ k xs, S[k]? = some (a, Cel.lst xs) ∧ xs.length < sizeLine ∧ Q .non (S.set k (a, Cel.lst (xs ++ [y])))
  | _ => False
theorem m_app : MOk c rAppend mApp := fun Bl B G σ H x v ds vs S Q s R r rs h => by
  obtain ⟨u, y, e, r1, h2⟩ := one_get rs h
  clear h
  have h := h2
  clear h2
  subst e
  cases x <;> first | exact False.elim h | skip
  case ref a =>
    obtain ⟨k, xs, e, hz, q⟩ := h
    cases r
    obtain ⟨_, us, e1, r2⟩ := R.cel (a, .lst xs) (List.mem_of_getElem? e)
    refine ⟨a, us, u, rfl, rfl, e1, by rw [r2.length]; exact hz, B, .non, _, s, R.write (c' := .lst (xs ++ [y])) e ⟨us ++ [u], upd_same, r2.append ⟨u, [], rfl, r1, rfl⟩⟩, rfl, q⟩
theorem d_append {apos cpos : Pos} {o : Expr} {to : TEd} (ho : PEd c o to) (ha : PAd c [e] tas) (hbase : attributeBase o "append" c.X.env (eval o c.X.env) = eval o c.X.env := by rfl)
    (hfew : ((backTo cpos (starEach [e] c.X.env)).all (fun x => !x.1) && (backToKw cpos (keywordEach [] c.X.env)).all (fun x => x.1.isSome)
      && decide ([e].length + ([] : List Keyword).length + (if ([] : List Keyword).isEmpty then 0 else 1) < 30)) = true := by rfl)
    (hline : (apos.endLine == cpos.line) = true := by rfl) (hs : starEach [e] c.X.env = (false, eval e c.X.env) :: starEach [] c.X.env := by rfl) :
    PEd c (.Call (.Attribute o "append" apos) [e] [] cpos) (eMc .list mApp to tas) := d_mc (T := .list) PySem.F.plainAttrs_list PySem.F.slot_list_append PySem.F.type_list_append mt_append m_app ho ha hbase hfew hline hs rfl
/-! ### a statement that is never reached; a list of the frame's own that no more changes -/
/-- the list or object of local i is from here on one that stands -/
def fzI (i : Nat) (G : Loc) (S : Sto) (P : Loc → Sto → Prop) : Prop := match G[i]? with
  | some (some (.ref a)) => ∃ k : Nat, match (S[k]? : Option (Addr × Cel)) with
    | some (b, .lst ds) => b = a ∧ P (G.set i (some (.lst ds))) (S.eraseIdx k)
    | some (b, .ins C fs) => b = a ∧ P (G.set i (some (.ins C fs))) (S.eraseIdx k)
    | _ => False
  | _ => P G S
theorem fzI_get {i : Nat} {P : Loc → Sto → Prop} {B H : Hp} {σ : L2.St} (R : c.R B G S σ H) (h : fzI i G S P) : ∃ B' G' S', Same B B' ∧ c.R B' G' S' σ H ∧ P G' S' := by
  unfold fzI at h
  split at h
  · rename_i a hG
    obtain ⟨k, h⟩ := h
    obtain ⟨v, hv, rv⟩ := R.loc i _ hG
    have hi : i < G.length := (List.getElem?_eq_some_iff.mp hG).1
    have back : ∀ {B' : Hp} {d : D} {S' : Sto}, Same B B' → RelH c.X.K c.B0 B' S' H → Rep c.X.K B' d v → c.R B' (G.set i (some d)) S' σ H := fun {B' d S'} s R' r' => by
      have R2 := (R.up s R').set hi r'
      have e : σ.set i (some v) = σ := by
        refine List.ext_getElem? fun j => ?_
        rw [List.getElem?_set]
        split
        · rename_i e
          subst e
          split
          · exact hv.symm
          · rename_i hn
            rw [List.getElem?_eq_none (by omega)]
        · rfl
      rw [e] at R2
      exact R2
    split at h
    · rename_i b ds e
      obtain ⟨e1, q⟩ := h
      subst e1
      obtain ⟨B', s, R', r'⟩ := R.toRelH.freeze e
      cases rv
      exact ⟨B', _, _, s, back s R' r', q⟩
    · rename_i b C fs e
      obtain ⟨e1, q⟩ := h
      subst e1
      obtain ⟨B', s, R', r'⟩ := R.toRelH.freezeI e
      cases rv
      exact ⟨B', _, _, s, back s R' r', q⟩
    · exact False.elim h
  · exact ⟨B, G, S, Same.refl _, R, h⟩
def sFz (i : Nat) (t : TSd) : TSd := fun E G S => fzI i G S (t E)
theorem ds_fz {st : List Stmt} (i : Nat) (h : PSsd c st t) : PSsd c st (sFz i t) := fun E G S q B σ H R => by
  obtain ⟨B', G', S', s, R', q⟩ := fzI_get R q
  exact tSs_mono (h E G' S' q B' σ H R') (endsLe s (fun _ _ q => q) (fun _ _ q => q) (fun _ _ q => q) fun _ _ q => q)
end
/-! ### a comprehension in a comprehension -/
section
variable {m : Mo} {N : List Str} {qual : Str} {sc scope scp2 : Scope} {f : Addr} {cdv : Value} {A : Around} {outer : List Env} {s : Shared} {H B : Hp} {E : XK} {EX : EXT} {k : Nat} {hE : ∀ cls d H', XD m.K B EX cls d H' → E cls d H'}
  {hr : Room k (A.deeper (envOfC qual sc s.heap.objs.size f cdv))} {nd : NdS m N sc} {e a b d : Expr} {pos p : Pos} {x y : Str} {tg elt iter : Expr} {ifs : List Expr} {ta : TEd} {tt : TTd} {ti : TAd} {bind : D → Loc → (Loc → Prop) → Prop} {ls ls2 : List (Option NameKind)} {gs gs2 : List Str} {own : List (Str × Nat)}
  {s1 : Shared} {H1 : Hp} {C1 : Addr} {cl1 : List (Str × Addr)} {fp1 : List Addr}
end
end DL
end

section
set_option autoImplicit false
set_option maxRecDepth 100000
set_option maxHeartbeats 4000000
namespace DL
open PySem PySem.Spec PyProof.Rows L2
open PySem.W (Frag)
/-! ### == over plain data without truth values is sameness -/
def okD : Nat → D → Bool
  | _, .non => true
  | _, .int _ => true
  | _, .str x => PyData.strOk x
  | n + 1, .tup ds => ds.all (okD n)
  | n + 1, .lst ds => ds.all (okD n)
  | _, _ => false
theorem pd_of : ∀ (n : Nat) (x : D), okD n x = true → ∃ p, pd x = some p ∧ PyData.canLay0 p = true ∧ PyData.depth p ≤ n
  | n, .non, _ => ⟨.none, by simp [pd], by simp [PyData.canLay0], by simp [PyData.depth]⟩
  | n, .int i, _ => ⟨.int i, by simp [pd], by simp [PyData.canLay0], by simp [PyData.depth]⟩
  | n, .str x, h => ⟨.str x, by simp [pd], by simpa [PyData.canLay0, okD] using h, by simp [PyData.depth]⟩
  | 0, .tup ds, h => by simp [okD] at h
  | 0, .lst ds, h => by simp [okD] at h
  | n, .bl _, h => by cases n <;> simp [okD] at h
  | n, .ty _, h => by cases n <;> simp [okD] at h
  | n, .ref _, h => by cases n <;> simp [okD] at h
  | n, .slst _, h => by cases n <;> simp [okD] at h
  | n, .ins _ _, h => by cases n <;> simp [okD] at h
  | n, .dct _, h => by cases n <;> simp [okD] at h
  | n + 1, .tup ds, h => by
    have h' : ds.all (okD n) = true := h
    obtain ⟨ps, e, c, d⟩ := all n (pd_of n) ds h'
    exact ⟨.tuple ps, by simp [pd, e], by simpa [PyData.canLay0] using c, by simp only [PyData.depth]; omega⟩
  | n + 1, .lst ds, h => by
    have h' : ds.all (okD n) = true := h
    obtain ⟨ps, e, c, d⟩ := all n (pd_of n) ds h'
    exact ⟨.list ps, by simp [pd, e], by simpa [PyData.canLay0] using c, by simp only [PyData.depth]; omega⟩
where
  all (n : Nat) (ih : ∀ x, okD n x = true → ∃ p, pd x = some p ∧ PyData.canLay0 p = true ∧ PyData.depth p ≤ n) : ∀ ds : List D, ds.all (okD n) = true → ∃ ps, pds ds = some ps ∧ PyData.canLayAll0 ps = true ∧ PyData.depthAll ps ≤ n
    | [], _ => ⟨[], by simp [pds], by simp [PyData.canLayAll0], by simp [PyData.depthAll]⟩
    | d :: ds, h => by
      rw [List.all_cons, Bool.and_eq_true] at h
      obtain ⟨p, e1, c1, d1⟩ := ih d h.1
      obtain ⟨ps, e2, c2, d2⟩ := all n ih ds h.2
      exact ⟨p :: ps, by simp [pds, e1, e2], by simp [PyData.canLayAll0, c1, c2], by simp only [PyData.depthAll]; omega⟩
theorem eqv_of : ∀ (n m : Nat) (x y : D) (p q : PyData), okD n x = true → okD m y = true → pd x = some p → pd y = some q → (PyData.eqv p q = true ↔ x = y) := by
  intro n
  induction n with
  | zero =>
    intro m x y p q hx hy ex ey
    cases x <;> (first | (simp [okD] at hx; done) | skip) <;> cases y <;> (first | (cases m <;> simp [okD] at hy; done) | skip) <;> simp only [pd, Option.some.injEq, Option.map_eq_some_iff] at ex ey <;> (first | subst ex | skip) <;> (first | subst ey | (obtain ⟨_, _, rfl⟩ := ey)) <;> simp [PyData.eqv]
  | succ n ih =>
    intro m x y p q hx hy ex ey
    have lists : ∀ (ds es : List D) (ps qs : List PyData) (m : Nat), ds.all (okD n) = true → es.all (okD m) = true → pds ds = some ps → pds es = some qs → (PyData.eqvAll ps qs = true ↔ ds = es) := by
      intro ds
      induction ds with
      | nil =>
        intro es ps qs m h1 h2 e1 e2
        simp only [pds, Option.some.injEq] at e1
        subst e1
        cases es with
        | nil => simp only [pds, Option.some.injEq] at e2; subst e2; simp [PyData.eqvAll]
        | cons e es =>
          unfold pds at e2
          split at e2
          · cases e2; simp [PyData.eqvAll]
          · cases e2
      | cons d ds ihl =>
        intro es ps qs m h1 h2 e1 e2
        rw [List.all_cons, Bool.and_eq_true] at h1
        unfold pds at e1
        split at e1
        · rename_i p ps' h3 h4
          cases e1
          cases es with
          | nil => simp only [pds, Option.some.injEq] at e2; subst e2; simp [PyData.eqvAll]
          | cons e es =>
            rw [List.all_cons, Bool.and_eq_true] at h2
            unfold pds at e2
            split at e2
            · rename_i q qs' h5 h6
              cases e2
              rw [PyData.eqvAll, Bool.and_eq_true, ih m d e p q h1.1 h2.1 h3 h5, ihl es ps' qs' m h1.2 h2.2 h4 h6, List.cons.injEq]
            · cases e2
        · cases e1
    cases x <;> (first | (simp [okD] at hx; done) | skip) <;> cases y <;> (first | (cases m <;> simp [okD] at hy; done) | skip) <;> simp only [pd, Option.some.injEq, Option.map_eq_some_iff] at ex ey
    case tup.tup ds es =>
      obtain ⟨ps, e1, rfl⟩ := ex
      obtain ⟨qs, e2, rfl⟩ := ey
      cases m with
      | zero => simp [okD] at hy
      | succ m =>
        rw [PyData.eqv, lists ds es ps qs m hx hy e1 e2]
        simp
    case lst.lst ds es =>
      obtain ⟨ps, e1, rfl⟩ := ex
      obtain ⟨qs, e2, rfl⟩ := ey
      cases m with
      | zero => simp [okD] at hy
      | succ m =>
        rw [PyData.eqv, lists ds es ps qs m hx hy e1 e2]
        simp
    all_goals (first | subst ex | (obtain ⟨_, _, rfl⟩ := ex)) <;> (first | subst ey | (obtain ⟨_, _, rfl⟩ := ey)) <;> simp [PyData.eqv]
/-- == of plain data -/
theorem eq_ok {neg : Bool} {x y : D} {S : Sto} {Q : Bool → Sto → Prop} (n : Nat) (hx : okD n x = true) (hy : okD n y = true) (hn : n ≤ 60) (q1 : x = y → Q (!neg) S) (q2 : x ≠ y → Q neg S) : dEq neg x y S Q := by
  have gen : dEqP neg x y S Q := by
    obtain ⟨p, e1, c1, d1⟩ := pd_of n x hx
    obtain ⟨q, e2, c2, d2⟩ := pd_of n y hy
    have asp : ∀ {x : D} {p : PyData} {P : PyData → Prop}, okD n x = true → pd x = some p → P p → asP x S P := fun {x p P} h e q => by
      cases x <;> first | exact ⟨p, e, q⟩ | (cases n <;> simp [okD] at h)
    refine asp hx e1 (asp hy e2 ⟨?_, ?_, ?_⟩)
    · simp only [SeqAt.shaped, Bool.and_eq_true, decide_eq_true_eq]; exact ⟨c1, by omega⟩
    · simp only [SeqAt.shaped, Bool.and_eq_true, decide_eq_true_eq]; exact ⟨c2, by omega⟩
    · have h := eqv_of n n x y p q hx hy e1 e2
      by_cases e : x = y
      · rw [h.mpr e]
        have := q1 e
        cases neg <;> exact this
      · have : PyData.eqv p q = false := by
          cases hv : PyData.eqv p q with
          | false => rfl
          | true => exact absurd (h.mp hv) e
        rw [this]
        have := q2 e
        cases neg <;> exact this
  cases x <;> cases y <;> first | exact gen | skip
  case int.int i j =>
    show Q (if neg then !decide (i = j) else decide (i = j)) S
    by_cases e : i = j
    · have := q1 (by rw [e]); cases neg <;> simpa [e] using this
    · have := q2 (fun z => e (by cases z; rfl)); cases neg <;> simpa [e] using this
  case str.str i j =>
    show Q (if neg then !decide (i = j) else decide (i = j)) S
    by_cases e : i = j
    · have := q1 (by rw [e]); cases neg <;> simpa [e] using this
    · have := q2 (fun z => e (by cases z; rfl)); cases neg <;> simpa [e] using this
  case bl.bl i j => cases n <;> simp [okD] at hx
theorem eq_same {x y : D} {S : Sto} {Q : Bool → Sto → Prop} {neg : Bool} (n : Nat) (hx : okD n x = true) (hn : n ≤ 60) (e : x = y) (q : Q (!neg) S) : dEq neg x y S Q := by
  subst e
  exact eq_ok n hx hx hn (fun _ => q) fun h => absurd rfl h

/-! ### comprehensions that change nothing, or only draw -/
/-- what a comprehension asks once its items are there -/
def LcIn (G : Loc) (own : List Nat) (bind : D → Loc → (Loc → Prop) → Prop) (tt : TTd) (te : TEd) (ds : List D) (S : Sto) (Q : QD) : Prop := ∃ Iv : Nat → List D → Sto → Prop, Iv 0 [] S ∧
  (∀ i d acc S p, ds[i]? = some d → Iv i acc S → bind d (wipeG G own) fun G2 => tt G2 ((p, .lst acc) :: S) fun k S2 => ∃ S3, S2 = (p, .lst acc) :: S3 ∧ (k = true → te G2 S2 fun y S4 => ∃ S5, S4 = (p, .lst acc) :: S5 ∧ acc.length < sizeLine ∧ Iv (i + 1) (acc ++ [y]) S5) ∧ (k = false → Iv (i + 1) acc S3)) ∧
  ∀ acc S, Iv ds.length acc S → mk acc S Q
theorem wst_self {S : Sto} {k : Nat} {w : Addr} (h : Wl S k w) : Wst S S k w := by
  obtain ⟨a, b, c, e⟩ := h
  refine ⟨a, b, c, List.ext_getElem? fun j => ?_⟩
  rw [List.getElem?_set]
  split
  · rename_i h
    subst h
    rw [e, if_pos (List.getElem?_eq_some_iff.mp e).1]
  · rfl
theorem wl_cons {S : Sto} {k : Nat} {w : Addr} (x : Addr × Cel) (h : Wl S k w) : Wl (x :: S) (k + 1) w := h
theorem wst_cons {S S' : Sto} {k : Nat} {w : Addr} {x : Addr × Cel} (h : Wst (x :: S) S' (k + 1) w) : ∃ S2, S' = x :: S2 ∧ Wst S S2 k w := by
  obtain ⟨a, b, c, e⟩ := h
  exact ⟨_, e, a, b, c, rfl⟩
end DL
namespace LK
theorem range_at {α : Type} (f : Nat → α) {n i : Nat} (h : i < n) : ((List.range n).map f)[i]? = some (f i) := by
  rw [List.getElem?_map, List.getElem?_range h]
  rfl
theorem rng_len {α : Type} (f : Nat → α) (n : Nat) : ((List.range n).map f).length = n := by rw [List.length_map, List.length_range]
end LK
end

section
set_option autoImplicit false
set_option maxRecDepth 100000
set_option maxHeartbeats 4000000
namespace DL
open PySem PySem.Spec PyProof.Rows L2
open PySem.W (Frag)
/-! ### objects of the program's own classes -/
theorem CN.inj {K : Frag} {n : Str} {C C' : Addr} (h : CN K n C) (h' : CN K n C') : C = C' := by
  have e : some (some (Value.ref C)) = some (some (Value.ref C')) := h.symm.trans h'
  cases e
  rfl
def putD (f : Str) (d : D) : List (Str × D) → List (Str × D)
  | [] => [(f, d)]
  | (g, x) :: r => if g = f then (g, d) :: r else (g, x) :: putD f d r
theorem RepF.put {K : Frag} {B : Hp} {f : Str} {d : D} {v : V} (q : Rep K B d v) : ∀ {fs : List (Str × D)} {vs : List (Str × V)}, RepF K B fs vs → RepF K B (putD f d fs) (putF f v vs)
  | [], vs, h => by
    have h' : vs = [] := h
    subst h'
    exact ⟨v, [], rfl, q, rfl⟩
  | (g, x) :: r, vs, h => by
    obtain ⟨u, t, e, h1, h2⟩ := h
    subst e
    unfold putD putF
    by_cases e : g = f
    · rw [if_pos e, if_pos e]
      exact ⟨v, t, rfl, q, h2⟩
    · rw [if_neg e, if_neg e]
      exact ⟨u, _, rfl, h1, RepF.put q h2⟩
theorem RepF.get {K : Frag} {B : Hp} {f : Str} {d : D} : ∀ {fs : List (Str × D)} {vs : List (Str × V)}, RepF K B fs vs → fs.lookup f = some d → ∃ v, vs.lookup f = some v ∧ Rep K B d v
  | [], vs, _, e => by cases e
  | (g, x) :: r, vs, h, e => by
    obtain ⟨u, t, e1, h1, h2⟩ := h
    subst e1
    rw [List.lookup_cons] at e ⊢
    split at e
    · cases e
      exact ⟨u, rfl, h1⟩
    · exact RepF.get h2 e
theorem RepF.none {K : Frag} {B : Hp} {f : Str} : ∀ {fs : List (Str × D)} {vs : List (Str × V)}, RepF K B fs vs → fs.lookup f = none → vs.lookup f = none
  | [], vs, h, _ => by
    have h' : vs = [] := h
    subst h'
    rfl
  | (g, x) :: r, vs, h, e => by
    obtain ⟨u, t, e1, h1, h2⟩ := h
    subst e1
    rw [List.lookup_cons] at e ⊢
    split at e
    · cases e
    · exact RepF.none h2 e
theorem RepF.len {K : Frag} {B : Hp} : ∀ {fs : List (Str × D)} {vs : List (Str × V)}, RepF K B fs vs → vs.length = fs.length
  | [], vs, h => by
    have h' : vs = [] := h
    subst h'
    rfl
  | (g, x) :: r, vs, h => by
    obtain ⟨u, t, e1, h1, h2⟩ := h
    subst e1
    rw [List.length_cons, List.length_cons, RepF.len h2]
/-- of an object of the class n: its fields -/
def asI (n : Str) (x : D) (S : Sto) (P : List (Str × D) → Prop) : Prop := match x with
  | .ins m fs => m = n ∧ P fs
  | .ref a => ∃ (k : Nat) (fs : List (Str × D)), S[k]? = some (a, Cel.ins n fs) ∧ P fs
  | _ => False
section
variable {c : CD} {e a b d : Expr} {es : List Expr} {pos p : Pos} {x : Str} {ta tb : TEd} {tas : TAd} {ls : List (Option NameKind)} {gs : List Str} {G : Loc} {S : Sto}
/-- e.f -/
def eFld (n f : Str) (ta : TEd) : TEd := fun G S Q => ta G S fun x S1 => asI n x S1 fun fs => ∃ d, fs.lookup f = some d ∧ Q d S1
/-- o.f = e -/
def sFld (n f : Str) (to te : TEd) : TSd := fun E G S => te G S fun d S1 => to G S1 fun x S2 => match x with
  | .ref a => ∃ (k : Nat) (fs : List (Str × D)), S2[k]? = some (a, Cel.ins n fs) ∧ fs.length < 1000 ∧ E.nx G (S2.set k (a, Cel.ins n (putD f d fs)))
  | _ => False
def eMeth (n name : Str) (fs : FSp) (EX : EXG) (dvs : List D) (to : TEd) (ta : TAd) : TEd := fun G S Q => to G S fun x S1 => asI n x S1 fun flds => flds.lookup name = none ∧ ta G S1 fun ds S2 => fs (x :: (ds ++ dvs)) S2 Q (EX G)
def mkF (n : Str) (fs : List (Str × D)) (S : Sto) (Q : QD) : Prop := Q (.ins n fs) S ∨ ∃ (f : Str) (g : Addr) (k : Nat) (ds : List D), fs.lookup f = some (.ref g) ∧ S[k]? = some (g, Cel.lst ds) ∧ Q (.ins n (putD f (.lst ds) fs)) (S.eraseIdx k)
/-- a new object: a cell, or no longer written, a list in a field of it neither -/
def mkI (n : Str) (x : Addr) (S : Sto) (Q : QD) : Prop := Q (.ref x) S ∨ ∃ (k : Nat) (fs : List (Str × D)), S[k]? = some (x, Cel.ins n fs) ∧ mkF n fs (S.eraseIdx k) Q
theorem RepF.up {K : Frag} {B : Hp} {f : Str} {g : Addr} {d : D} (q : Rep K B d (.ref g)) : ∀ {fs : List (Str × D)} {vs : List (Str × V)}, RepF K B fs vs → fs.lookup f = some (.ref g) → RepF K B (putD f d fs) vs
  | [], vs, _, e => by cases e
  | (h, x) :: r, vs, hr, e => by
    obtain ⟨u, t, e1, h1, h2⟩ := hr
    subst e1
    rw [List.lookup_cons] at e
    unfold putD
    by_cases eh : h = f
    · subst eh
      rw [beq_self_eq_true] at e
      cases e
      rw [if_pos rfl]
      cases h1
      exact ⟨_, t, rfl, q, h2⟩
    · rw [if_neg eh]
      have : (f == h) = false := by simpa using fun z => eh z.symm
      rw [this] at e
      exact ⟨u, t, rfl, h1, RepF.up q h2 e⟩
def eNew (n : Str) (fs : FSp) (EX : EXG) (dvs : List D) (ta : TAd) : TEd := fun G S Q => ta G S fun ds S1 => ∀ x, fs (.ref x :: (ds ++ dvs)) ((x, Cel.ins n []) :: S1) (fun d S2 => d = .non ∧ mkI n x S2 Q) (EX G)
end
end DL
end

section
set_option autoImplicit false
set_option maxRecDepth 100000
set_option maxHeartbeats 4000000
namespace DL
open PySem PySem.Spec PyProof.Rows L2
open PySem.W (Frag)
/-! ### defs with defaults, methods, constructors -/
theorem fn_okD {m : Mo} {x qual : Str} {st : Stmt} {f : Addr} {fd : FuncData} {N ps : List Str} {k : Nat} {fs : FSp} {dv : List V} {kws : List (Str × V)} (sr : SeerM m) (F : FunD m.K x qual (defArgs st) (defBody st) (defScope st) dv kws f fd) (Sc : FnScope N ps (defScope st)) (len : ∀ ds S Q EX, fs ds S Q EX → ds.length = ps.length)
    (body : ∀ (cdv : Value) (A : Around) (outer : List Env) (s : Shared) (H B : Hp) (E : XK) (EX : EXT) (hE) (hr) (ds : List D) (S : Sto) (Q : QD), fs ds S Q EX →
      WSs (bodyC m N qual (defScope st) f cdv A outer s H B E EX k hE hr (nds_of Sc sr)) (defBody st) (startG N ds) S { nx := fun _ S' => Q .non S', rt := Q }) : FnOk m.P m.w m.K m.mg m.base (L2.CX m.P m.w) (k + 1) f fd ps (lift m.K fs) := by
  refine F.ok Sc (fun vs H Q E h => ?_) (fun cdv A outer s H vs Q E hr h => ?_)
  · obtain ⟨B, ds, S, Q', EX, R, r, h, _⟩ := h
    rw [r.length]
    exact len _ _ _ _ h
  · obtain ⟨B, ds, S, Q', EX, R, r, h, hQ, hE⟩ := h
    refine ⟨_, pss_self _, ?_⟩
    have hb := body cdv A outer s H B E EX hE hr ds S Q' h B (L2.start N vs) H (start_rel R r)
    refine tSs_mono hb ⟨fun σ' H' ⟨B', G', S', s', R', q⟩ => ?_, fun v H' ⟨B', d, S', s', R', r', q⟩ => hQ v H' B' d S' R' r' q, fun σ' H' ⟨_, _, _, _, _, q⟩ => q, fun σ' H' ⟨_, _, _, _, _, q⟩ => q⟩
    exact hQ .non H' B' .non S' R'.toRelH rfl q
theorem fnD_ofD {m : Mo} {x : Str} {f : Addr} {fd : FuncData} {ps : List Str} {k : Nat} {fs : FSp} {ds : List Value} {vs : List V} {dvs : List D} (F : FnOk m.P m.w m.K m.mg m.base (L2.CX m.P m.w) k f fd ps (lift m.K fs)) (hm : m.mg x = some (.ref f)) (hk : PySem.W.keepIn m.K (.ref f) = true) (hb : Binds m.K fd ps ds) (hv : Vals vs ds) (hd : ∀ B, Reps m.K B dvs vs) : FnD m x k dvs fs :=
  ⟨f, fd, ps, ds, vs, F, hm, hk, hb, hv, hd⟩
end DL
end

section
set_option autoImplicit false
set_option maxRecDepth 100000
set_option maxHeartbeats 4000000
namespace DL
open PySem PySem.Spec PyProof.Rows L2
open PySem.W (Frag)
/-! ### tuple * n, n below two -/
theorem tuple_mul1 (l : Addr) (items : Array Value) (n : Nat) (dd : Option Addr) (sl : Array (Option Value)) (x : Int) (u : Tok) (c0 : (decide (x < -(2 ^ 63)) || decide (x ≥ 2 ^ 63)) = false) (c1 : (items.isEmpty || x == 1) = true) :
    Meets (Builtin.«tuple.__mul__» ⟨[.ref l, .int x u], []⟩) (fun _ R s => s.heap.get? l = some { cls := .type "tuple", dict := dd, data := .seq items n, slots := sl } ∧ R (.ok (.ret (Value.ref l))) s) :=
  .of_wp fun prog w A R s h => by
    obtain ⟨hp, g, d, tk, os⟩ := s
    obtain ⟨hl, h⟩ := h
    have f1 := AutoSeq1.idx_int
    wp_walk using wpAny_loadPart' hl
    repeat (first
      | (refine wpAny_ite_false (decide_eq_false (by rw [c0]; exact Bool.false_ne_true)) ?_; wp_walk using wpAny_loadPart' hl)
      | (refine wpAny_ite_true (decide_eq_true (by rw [c1])) ?_; wp_walk using wpAny_loadPart' hl))
    exact ⟨_, rfl, h⟩
theorem tuple_mul0 (l : Addr) (items : Array Value) (n : Nat) (dd : Option Addr) (sl : Array (Option Value)) (x : Int) (u : Tok) (c0 : (decide (x < -(2 ^ 63)) || decide (x ≥ 2 ^ 63)) = false) (c1 : (items.isEmpty || x == 1) = false) (c2 : (decide (x ≤ 0) || items.isEmpty) = true) :
    Meets (Builtin.«tuple.__mul__» ⟨[.ref l, .int x u], []⟩) (fun _ R s => s.heap.get? l = some { cls := .type "tuple", dict := dd, data := .seq items n, slots := sl } ∧
      R (.ok (.ret (Value.ref s.heap.objs.size))) { s with heap := s.heap.push { cls := Value.type "tuple", data := Data.seq #[] }, toks := s.toks }) :=
  .of_wp fun prog w A R s h => by
    obtain ⟨hp, g, d, tk, os⟩ := s
    obtain ⟨hl, h⟩ := h
    have f1 := AutoSeq1.idx_int
    wp_walk using wpAny_loadPart' hl
    repeat (first
      | (refine wpAny_ite_false (decide_eq_false (by rw [c0]; exact Bool.false_ne_true)) ?_; wp_walk using wpAny_loadPart' hl)
      | (refine wpAny_ite_false (decide_eq_false (by rw [c1]; exact Bool.false_ne_true)) ?_; wp_walk using wpAny_loadPart' hl)
      | (refine wpAny_ite_true (decide_eq_true (by rw [c2])) ?_; wp_walk using wpAny_loadPart' hl))
    exact ⟨_, rfl, h⟩
def rRepA (K : Frag) : R2 := fun x y H Q => ∃ (l : Addr) (k : Int) (xs : List V), x = .ref l ∧ y = .int k ∧ SqT K H l xs ∧ -1000 ≤ k ∧ k ≤ 1000 ∧ xs.length ≤ 1000 ∧ (xs = [] ∨ k = 1 → Q (.ref l) H) ∧ (xs ≠ [] → k ≤ 0 → ∀ p, H p = none → Q (.ref p) (upd H p (.tup []))) ∧
  (xs ≠ [] → 2 ≤ k → ∀ p, H p = none → Q (.ref p) (upd H p (.tup (List.replicate k.toNat xs).flatten)))
theorem op_repA {X : Cx} : OpR X (binaryOp .Mult) (rRepA X.K) := by
  intro pins s σ H x y v u Q I rx ry h
  obtain ⟨l, k, xs, rfl, rfl, hT, hlo, hhi, hz, q1, q2, q3⟩ := h
  by_cases hbig : xs ≠ [] ∧ 2 ≤ k
  · exact op_repT pins s σ H _ _ _ _ Q I rx ry ⟨l, k, xs, rfl, rfl, hT, hbig.1, hbig.2, hhi, hz, q3 hbig.1 hbig.2⟩
  cases rx
  obtain ⟨t, rfl⟩ := ry
  obtain ⟨its, r, ⟨⟨cls, dd, data, sl⟩, ho, hc, n, hd⟩, hs⟩ := I.tuple hT
  simp only at hc hd
  subst hc hd
  have hle : its.length = xs.length := r.length.symm
  have c0 : (decide (k < -(2 ^ 63)) || decide (k ≥ 2 ^ 63)) = false := by
    rw [decide_eq_false (by omega), decide_eq_false (by omega)] <;> rfl
  by_cases h1 : xs = [] ∨ k = 1
  · have c1 : (its.toArray.isEmpty || k == 1) = true := by
      rcases h1 with e | e
      · subst e
        cases its with
        | nil => rfl
        | cons a b => cases hle
      · subst e
        rw [Bool.or_eq_true]
        exact .inr rfl
    refine wpAny_binaryOp_repeat_ref (T := "tuple") (U := "int") (by decide) ⟨_, ho, rfl⟩ (fun s' => typeIs_int s' k t) noFill_tuple_mul PySem.F.fills_int_mul PySem.F.slot_int_rmul repeat_tuple PySem.F.slot_int_index.lookup
      (call_meets PySem.F.slot_int_rmul (typeIs_int s k t) PySem.F.entry_int_rmul (PySem.F.args_int_rmul_2 _ _) (int_rmul_tuple k t l its.toArray n dd sl)
        ⟨ho, rfl, ⟨_, ho, rfl⟩, call_meets PySem.F.slot_tuple_mul ⟨_, ho, rfl⟩ PySem.F.entry_tuple_mul (PySem.F.args_tuple_mul_2 _ _) (tuple_mul1 l its.toArray n dd sl k t c0 c1) ⟨ho, ?_⟩⟩)
    exact ⟨.ref l, H, I, rfl, q1 h1⟩
  · have hne : xs ≠ [] := fun e => h1 (.inl e)
    have hk : k ≤ 0 := by
      have : ¬ k = 1 := fun e => h1 (.inr e)
      have : ¬ 2 ≤ k := fun e => hbig ⟨hne, e⟩
      omega
    have hi : its.toArray.isEmpty = false := by
      cases its with
      | nil => exact absurd (List.eq_nil_of_length_eq_zero hle.symm) hne
      | cons a b => rfl
    have c1 : (its.toArray.isEmpty || k == 1) = false := by
      rw [hi, Bool.false_or]
      exact beq_eq_false_iff_ne.mpr (by omega)
    have c2 : (decide (k ≤ 0) || its.toArray.isEmpty) = true := by
      rw [hi, Bool.or_false]
      exact decide_eq_true hk
    refine wpAny_binaryOp_repeat_ref (T := "tuple") (U := "int") (by decide) ⟨_, ho, rfl⟩ (fun s' => typeIs_int s' k t) noFill_tuple_mul PySem.F.fills_int_mul PySem.F.slot_int_rmul repeat_tuple PySem.F.slot_int_index.lookup
      (call_meets PySem.F.slot_int_rmul (typeIs_int s k t) PySem.F.entry_int_rmul (PySem.F.args_int_rmul_2 _ _) (int_rmul_tuple k t l its.toArray n dd sl)
        ⟨ho, rfl, ⟨_, ho, rfl⟩, call_meets PySem.F.slot_tuple_mul ⟨_, ho, rfl⟩ PySem.F.entry_tuple_mul (PySem.F.args_tuple_mul_2 _ _) (tuple_mul0 l its.toArray n dd sl k t c0 c1 c2) ⟨ho, ?_⟩⟩)
    refine ⟨.ref s.heap.objs.size, _, I.laid (t' := s.toks) (o := .tup []) (fun b ob q => Heap.get?_push_of_some _ q) (Nat.le_refl _) ?_, rfl, q2 hne hk _ (I.hok.fresh (Nat.le_refl _))⟩
    exact ⟨by show 0 ≤ _; omega, [], .nil, IsTup.new _ _⟩
def dTmulA (x y : D) (S : Sto) (Q : QD) : Prop := match x, y with
  | .tup xs, .int k => -1000 ≤ k ∧ k ≤ 1000 ∧ xs.length ≤ 1000 ∧ Q (.tup (List.replicate k.toNat xs).flatten) S
  | _, _ => False
section
variable {c : CD} {e a b d : Expr} {pos p : Pos} {ta tb : TEd} {G : Loc} {S : Sto}
theorem d_tmulA (ha : PEd c a ta) (hb : PEd c b tb) : PEd c (.BinOp a .Mult b pos) (eOp dTmulA ta tb) := fun G S Q h => by
  refine w_op op_repA (fun Bl B σ H x y vx vy S Q s R rx ry h => ?_) (P := dTmulA) ((ha G S _ h).mono fun x S1 h1 => hb G S1 _ h1)
  cases x <;> first | exact False.elim h | (cases y <;> first | exact False.elim h | skip)
  case tup.int xs k =>
    obtain ⟨a, vs, e, hq, r⟩ := rx
    cases ry
    obtain ⟨h1, h2, h3, q⟩ := h
    have l := r.length
    refine ⟨a, k, vs, e, rfl, sameT R.sub hq, h1, h2, by omega, fun z => ?_, fun hne hk p hp => ?_, fun _ _ p hp => tup_ok s R (reps_rep r _) q p hp⟩
    · have e2 : (List.replicate k.toNat xs).flatten = xs := by
        rcases z with z | z
        · subst z
          have : xs = [] := List.eq_nil_of_length_eq_zero l.symm
          subst this
          simp
        · subst z
          show (List.replicate 1 xs).flatten = xs
          simp
      rw [e2] at q
      exact ⟨B, .tup xs, S, s, R, ⟨a, vs, rfl, hq, r⟩, q⟩
    · have e2 : (List.replicate k.toNat xs).flatten = [] := by
        have : k.toNat = 0 := by omega
        rw [this]
        rfl
      rw [e2] at q
      exact tup_ok (ds := []) (vs := []) s R rfl q p hp
end
/-! ### xs[::-1], xs.clear() -/
section
variable {c : CD} {e a b d : Expr} {pos p : Pos} {ta tb : TEd} {G : Loc} {S : Sto}
def eRev (ta : TEd) : TEd := fun G S Q => ta G S fun x S1 => asQ x S1 fun ds => mk ds.reverse S1 Q
def mClr : D → Sto → QD → Prop := fun x S Q => match x with
  | .ref a => ∃ k xs, S[k]? = some (a, Cel.lst xs) ∧ Q .non (S.set k (a, Cel.lst []))
  | _ => False
def eClr (to : TEd) : TEd := fun G S Q => to G S fun x S1 => mClr x S1 Q
end
end DL
end

section
set_option autoImplicit false
set_option maxRecDepth 100000
set_option maxHeartbeats 4000000
namespace DL
open PySem PySem.Spec PyProof.Rows L2
open PySem.W (Frag)
/-! ### // by any divisor that is not great -/
section
variable {c : CD} {e a b d : Expr} {pos p : Pos} {ta tb : TEd} {G : Loc} {S : Sto}
end
section
variable {c : CD} {e a b d : Expr} {pos p : Pos} {ta tb : TEd} {G : Loc} {S : Sto}
end
/-! ### a comprehension with a test, that changes nothing -/
/-! ### cuts of lists told by a function -/
/-! ### a def that calls itself: levels -/
end DL
end

section
set_option autoImplicit false
set_option maxRecDepth 100000
set_option maxHeartbeats 4000000
namespace DL
open PySem PySem.Spec PyProof.Rows L2
open PySem.W (Frag)
/-! ### lists of anything compared by their lengths -/
/-- x == y, both lists, unlike long or both empty -/
def dEqL (neg : Bool) (x y : D) (S : Sto) (Q : Bool → Sto → Prop) : Prop := asQ x S fun xs => asQ y S fun ys => (xs.length ≠ ys.length ∧ Q neg S) ∨ (xs = [] ∧ ys = [] ∧ Q (!neg) S)
def eEqL (neg : Bool) (ta tb : TEd) : TEd := fun G S Q => ta G S fun x S1 => tb G S1 fun y S2 => dEqL neg x y S2 fun k S3 => Q (.bl k) S3
def tEqL (neg : Bool) (ta tb : TEd) : TTd := fun G S Q => ta G S fun x S1 => tb G S1 fun y S2 => dEqL neg x y S2 Q
section
variable {c : CD} {G : Loc} {S : Sto} {e a b : Expr} {pos : Pos} {ta tb : TEd}
end
/-! ### cells are forgotten -/
def sDr (t : TSd) : TSd := fun E G S => ∃ S', S'.Sublist S ∧ t E G S'
theorem ds_dr {c : CD} {st : List Stmt} {t : TSd} (h : PSsd c st t) : PSsd c st (sDr t) := fun E G S ⟨S', hs, q⟩ => (h E G S' q).less (Less.refl G) hs
/-! ### comprehensions over lists that are known -/
theorem eLc_eq (ti : TAd) (own : List Nat) (bind : D → Loc → (Loc → Prop) → Prop) (tt : TTd) (te : TEd) : eLc ti own bind tt te = fun G S Q => ti G S fun ds S1 => LcIn G own bind tt te ds S1 Q := rfl
section
variable {S : Sto} {G : Loc} {own : List Nat} {bind : D → Loc → (Loc → Prop) → Prop} {tt : TTd} {te : TEd} {Q : QD}
theorem lc_M {α : Type} {src : α → D} {xs : List α} (out : α → D) (hz : xs.length ≤ 1000000)
    (h : ∀ x ∈ xs, ∀ (p : Addr) (acc : List D) (K : QD), K (out x) ((p, Cel.lst acc) :: S) → bind (src x) (wipeG G own) fun G2 => te G2 ((p, Cel.lst acc) :: S) K)
    (hm : ∀ d G P P', bind d G P → (∀ G2, P G2 → P' G2) → bind d G P')
    (q : mk (xs.map out) S Q) : LcIn G own bind tYs te (xs.map src) S Q := by
  refine ⟨fun i acc S' => S' = S ∧ acc = (xs.take i).map out, ⟨rfl, rfl⟩, ?_, ?_⟩
  · rintro i d acc S' p e ⟨rfl, rfl⟩
    rw [List.getElem?_map] at e
    obtain ⟨x, hx, rfl⟩ := Option.map_eq_some_iff.mp e
    have hi : i < xs.length := (List.getElem?_eq_some_iff.mp hx).1
    refine hm _ _ _ _ (h x (List.mem_of_getElem? hx) p ((xs.take i).map out) (fun y S4 => ∃ S5, S4 = (p, .lst ((xs.take i).map out)) :: S5 ∧ ((xs.take i).map out).length < sizeLine ∧ S5 = S' ∧ (xs.take i).map out ++ [y] = (xs.take (i + 1)).map out) ⟨S', rfl, ?_, rfl, ?_⟩) fun G2 q2 => ⟨S', rfl, fun _ => q2, fun z => by cases z⟩
    · rw [List.length_map, List.length_take]
      exact Nat.lt_of_le_of_lt (Nat.min_le_left _ _) (Nat.lt_of_lt_of_le hi (Nat.le_trans hz (by decide)))
    · rw [List.take_add_one, hx, List.map_append]
      rfl
  · rintro acc S' ⟨rfl, rfl⟩
    rw [List.length_map, List.take_length]
    exact q
theorem bind1_mono {i : Nat} : ∀ (d : D) (G : Loc) (P P' : Loc → Prop), bind1 i d G P → (∀ G2, P G2 → P' G2) → bind1 i d G P' := fun d G P P' h k => inG_mono h (k _)
end
end DL
end

section
set_option autoImplicit false
set_option maxRecDepth 100000
set_option maxHeartbeats 4000000
namespace DL
open PySem PySem.Spec PyProof.Rows L2
open PySem.W (Frag)
/-! ### == and len by a class's own methods -/
def dEqO (n : Str) (fs : FSp) (EX : EXT) (ok : D → Sto → Prop) (x y : D) (S : Sto) (Q : QD) : Prop := asI n x S fun _ => ok y S ∧ fs [x, y] S (fun d S' => ∃ k, d = .bl k ∧ Q d S') EX
def eEqO (n : Str) (fs : FSp) (EX : EXT) (ok : D → Sto → Prop) (ta tb : TEd) : TEd := fun G S Q => ta G S fun x S1 => tb G S1 fun y S2 => dEqO n fs EX ok x y S2 Q
def tEqO (n : Str) (fs : FSp) (EX : EXT) (ok : D → Sto → Prop) (ta tb : TEd) : TTd := fun G S Q => ta G S fun x S1 => tb G S1 fun y S2 => dEqO n fs EX ok x y S2 fun d S' => ∃ k, d = .bl k ∧ Q k S'
section
variable {c : CD} {e a b d : Expr} {es : List Expr} {pos p : Pos} {x : Str} {ta tb : TEd} {ls : List (Option NameKind)} {gs : List Str} {G : Loc} {S : Sto}
end
/-! ### len by a class's own method -/
section
variable {c : CD} {e : Expr} {pos p : Pos} {tas : TAd} {ls : List (Option NameKind)} {gs : List Str} {G : Loc} {S : Sto}
end
/-! ### is True, is False -/
def dIsB (neg : Bool) (x y : D) (S : Sto) (Q : Bool → Sto → Prop) : Prop := match x, y with
  | .bl i, .bl j => Q (if neg then !decide (i = j) else decide (i = j)) S
  | _, _ => False
def eIsB (neg : Bool) (ta tb : TEd) : TEd := fun G S Q => ta G S fun x S1 => tb G S1 fun y S2 => dIsB neg x y S2 fun k S3 => Q (.bl k) S3
def tIsB (neg : Bool) (ta tb : TEd) : TTd := fun G S Q => ta G S fun x S1 => tb G S1 fun y S2 => dIsB neg x y S2 Q
section
variable {c : CD} {a b : Expr} {pos p : Pos} {ta tb : TEd}
end
end DL
end

section
set_option autoImplicit false
set_option maxRecDepth 100000
set_option maxHeartbeats 4000000
namespace DL
open PySem PySem.Spec PyProof.Rows L2
open PySem.W (Frag)
/-! ### isinstance against a class of the text -/
def dIsC (n : Str) (x : D) (S : Sto) (Q : QD) : Prop := match x with
  | .ins m _ => m = n ∧ Q (.bl true) S
  | .ref a => (∃ (k : Nat) (fs : List (Str × D)), S[k]? = some (a, Cel.ins n fs) ∧ Q (.bl true) S) ∨ ∃ (k : Nat) (ds : List D), S[k]? = some (a, Cel.lst ds) ∧ Q (.bl false) S
  | .ty _ => False
  | _ => Q (.bl false) S
def eIsC (n : Str) (ta : TEd) : TEd := fun G S Q => ta G S fun x S1 => dIsC n x S1 Q
section
variable {c : CD} {e : Expr} {pos p p2 : Pos} {ta : TEd} {ls : List (Option NameKind)} {gs : List Str} {G : Loc} {S : Sto}
end
/-! ### ends that forget cells -/
/-- the ends of a body that may forget cells it made -/
abbrev endX (Q : QD) : DE := { nx := fun _ S' => ∃ S0, S0.Sublist S' ∧ Q .non S0, rt := fun d S' => ∃ S0, S0.Sublist S' ∧ Q d S0 }
theorem fn_okX {m : Mo} {x qual : Str} {st : Stmt} {f : Addr} {fd : FuncData} {N ps : List Str} {k : Nat} {fs : FSp} (sr : SeerM m) (F : Fun m.K x qual st f fd) (Sc : FnScope N ps (defScope st)) (len : ∀ ds S Q EX, fs ds S Q EX → ds.length = ps.length)
    (body : ∀ (cdv : Value) (A : Around) (outer : List Env) (s : Shared) (H B : Hp) (E : XK) (EX : EXT) (hE) (hr) (ds : List D) (S : Sto) (Q : QD), fs ds S Q EX →
      WSs (bodyC m N qual (defScope st) f cdv A outer s H B E EX k hE hr (nds_of Sc sr)) (defBody st) (startG N ds) S (endX Q)) : FnOk m.P m.w m.K m.mg m.base (L2.CX m.P m.w) (k + 1) f fd ps (lift m.K fs) := by
  refine F.okX Sc (fun vs H Q E h => ?_) (fun cdv A outer s H vs Q E hr h => ?_)
  · obtain ⟨B, ds, S, Q', EX, R, r, h, _⟩ := h
    rw [r.length]
    exact len _ _ _ _ h
  · obtain ⟨B, ds, S, Q', EX, R, r, h, hQ, hE⟩ := h
    refine ⟨_, pss_self _, ?_⟩
    have hb := body cdv A outer s H B E EX hE hr ds S Q' h B (L2.start N vs) H (start_rel R r)
    refine tSs_mono hb ⟨fun σ' H' ⟨B', G', S', s', R', S0, h0, q⟩ => ?_, fun v H' ⟨B', d, S', s', R', r', S0, h0, q⟩ => hQ v H' B' d S0 (R'.drop h0) r' q, fun σ' H' ⟨_, _, _, _, _, q⟩ => q, fun σ' H' ⟨_, _, _, _, _, q⟩ => q⟩
    exact hQ .non H' B' .non S0 (R'.toRelH.drop h0) rfl q
end DL
end

section
set_option autoImplicit false
set_option maxRecDepth 100000
set_option maxHeartbeats 4000000
namespace DL
open PySem PySem.Spec PyProof.Rows L2
open PySem.W (Frag)
/-! ### walking a list that may be a cell: it must not be written meanwhile -/
abbrev Pin := List (Addr × List D)
def Has (P : Pin) (S : Sto) : Prop := ∀ q ∈ P, (q.1, Cel.lst q.2) ∈ S
theorem Has.nil {S : Sto} : Has [] S := fun q h => by simp at h
theorem Has.cons {P : Pin} {S : Sto} (h : Has P S) (p : Addr × Cel) : Has P (p :: S) := fun q hq => List.mem_cons_of_mem _ (h q hq)
theorem Has.one {a : Addr} {ds : List D} {S : Sto} (h : (a, Cel.lst ds) ∈ S) : Has [(a, ds)] S := fun q hq => by
  rw [List.mem_singleton] at hq
  subst hq
  exact h
theorem Has.app {P P' : Pin} {S : Sto} (h : Has P S) (h' : Has P' S) : Has (P ++ P') S := fun q hq => (List.mem_append.mp hq).elim (h q) (h' q)
theorem Has.left {P P' : Pin} {S : Sto} (h : Has (P ++ P') S) : Has P S := fun q hq => h q (List.mem_append_left _ hq)
theorem Has.right {P P' : Pin} {S : Sto} (h : Has (P ++ P') S) : Has P' S := fun q hq => h q (List.mem_append_right _ hq)
def YieldsX (c : CD) (B0 : Hp) (J : It) (ds : List D) (P : Pin) : Prop := ∀ (K0 B : Hp) (G : Loc) (S : Sto) (σ : L2.St) (H : Hp), Same B0 B → Rel c.X.K K0 B G S σ H → Has P S → ∀ i,
  (i < ds.length → J.go i H) ∧ (∀ x H', J.yld i H x H' → ∀ d, ds[i]? = some d → ∃ B', Same B B' ∧ Rel c.X.K K0 B' G S σ H' ∧ Rep c.X.K B' d x) ∧ (i = ds.length → J.stop i H)
theorem YieldsX.of {c : CD} {B0 : Hp} {J : It} {ds : List D} (h : Yields c B0 J ds) : YieldsX c B0 J ds [] := fun K0 B G S σ H s R _ => h K0 B G S σ H s R
def WIX (c : CD) (tg iter : Expr) (G : Loc) (S : Sto) (Q : List D → Pin → Sto → Prop) : Prop := ∀ B σ H, c.R B G S σ H → tI c.X tg iter σ H fun J H1 => ∃ B1 ds P S1, Same B B1 ∧ c.R B1 G S1 σ H1 ∧ YieldsX c B1 J ds P ∧ Q ds P S1
theorem WIX.mono {c : CD} {G : Loc} {S : Sto} {tg iter : Expr} {Q Q' : List D → Pin → Sto → Prop} (h : WIX c tg iter G S Q) (k : ∀ b P S, Q b P S → Q' b P S) : WIX c tg iter G S Q' := fun B σ H R => tI_mono (h B σ H R) fun J H' ⟨B', ds, P, S', s, R', y, q⟩ => ⟨B', ds, P, S', s, R', y, k ds P S' q⟩
abbrev TXd := Loc → Sto → (List D → Pin → Sto → Prop) → Prop
def PXd (c : CD) (tg iter : Expr) (t : TXd) : Prop := ∀ G S Q, t G S Q → WIX c tg iter G S Q
/-- a source in the heap -/
def SrcOk (c : CD) (B0 : Hp) (s : Src) (ds : List D) (P : Pin) : Prop := ∀ (K0 B : Hp) (G : Loc) (S : Sto) (σ : L2.St) (H : Hp), Same B0 B → Rel c.X.K K0 B G S σ H → Has P S → ∃ vs, s.has c.X.K H vs ∧ Reps c.X.K B ds vs
/-- what can be walked -/
def itX (x : D) (S : Sto) (P : List D → Pin → Prop) : Prop := match x with
  | .lst ds => P ds []
  | .slst ds => P ds []
  | .tup ds => P ds []
  | .ref a => ∃ ds, (a, Cel.lst ds) ∈ S ∧ P ds [(a, ds)]
  | _ => False
/-- what can be walked of lists alone -/
def itL (x : D) (S : Sto) (P : List D → Pin → Prop) : Prop := match x with
  | .lst ds => P ds []
  | .slst ds => P ds []
  | .ref a => ∃ ds, (a, Cel.lst ds) ∈ S ∧ P ds [(a, ds)]
  | _ => False
/-- .. or of a text's signs -/
def seqX (x : D) (S : Sto) (Q : List D → Pin → Prop) : Prop := match x with
  | .str z => Q (signs z) []
  | x => itX x S Q
def iSqX (t : TEd) : TXd := fun G S Q => t G S fun x S1 => seqX x S1 fun ds P => Q ds P S1
def iEnX (t : TAd) : TXd := fun G S Q => t G S fun ds S1 => one ds fun x => itL x S1 fun ds P => Q (enumD ds) P S1
def iZpX (t : TAd) : TXd := fun G S Q => t G S fun ds S1 => match ds with
  | [x, y] => itX x S1 fun ds P => itX y S1 fun es P' => Q (zipD ds es) (P ++ P') S1
  | _ => False
section
variable {c : CD} {e a b d : Expr} {es : List Expr} {pos p : Pos} {x : Str} {tg : Expr} {ta tb td : TEd} {tt tu : TTd} {tas : TAd} {t u : TSd} {ls : List (Option NameKind)} {gs : List Str} {G : Loc} {S : Sto}
theorem srcOk_lst {B0 : Hp} {a : Addr} {ds : List D} {vs : List V} (h : SqL c.X.K B0 a vs) (r : Reps c.X.K B0 ds vs) : SrcOk c B0 (.lst a) ds [] := fun K0 B G S σ H s R _ => ⟨vs, R.sub.seq (s.seq h), Reps.mono s _ _ r⟩
theorem srcOk_tup {B0 : Hp} {a : Addr} {ds : List D} {vs : List V} (h : SqT c.X.K B0 a vs) (r : Reps c.X.K B0 ds vs) : SrcOk c B0 (.tup a) ds [] := fun K0 B G S σ H s R _ => ⟨vs, sameS R.sub (sameS s h), Reps.mono s _ _ r⟩
theorem srcOk_cell {B0 : Hp} {a : Addr} {ds : List D} : SrcOk c B0 (.lst a) ds [(a, ds)] := fun K0 B G S σ H s R hp => by
  obtain ⟨_, vs, hv, r⟩ := R.cel (a, .lst ds) (hp (a, ds) List.mem_cons_self)
  exact ⟨vs, .of hv, r⟩
theorem itX_get {B H : Hp} {σ : L2.St} {x : D} {v : V} {P : List D → Pin → Prop} (R : c.R B G S σ H) (r : Rep c.X.K B x v) (h : itX x S P) : ∃ (s : Src) (ds : List D) (Pn : Pin), v = .ref s.ad ∧ (∃ vs, s.has c.X.K H vs) ∧ SrcOk c B s ds Pn ∧ P ds Pn := by
  cases x <;> first | exact False.elim h | skip
  case lst ds =>
    obtain ⟨a, vs, e, q, r1⟩ := r
    exact ⟨.lst a, ds, [], e, ⟨vs, .of (R.sub _ _ q)⟩, srcOk_lst (.of q) r1, h⟩
  case slst ds =>
    obtain ⟨a, vs, e, q, r1⟩ := r
    exact ⟨.lst a, ds, [], e, ⟨vs, R.sub.seq q⟩, srcOk_lst q r1, h⟩
  case tup ds =>
    obtain ⟨a, vs, e, q, r1⟩ := r
    exact ⟨.tup a, ds, [], e, ⟨vs, sameT R.sub q⟩, srcOk_tup (.of q) r1, h⟩
  case ref a =>
    obtain ⟨ds, hm, h⟩ := h
    cases r
    obtain ⟨_, vs, hv, r1⟩ := R.cel (a, .lst ds) hm
    exact ⟨.lst a, ds, _, rfl, ⟨vs, .of hv⟩, srcOk_cell, h⟩
theorem itL_get {B H : Hp} {σ : L2.St} {x : D} {v : V} {P : List D → Pin → Prop} (R : c.R B G S σ H) (r : Rep c.X.K B x v) (h : itL x S P) : ∃ (a : Addr) (ds : List D) (Pn : Pin), v = .ref a ∧ (∃ vs, SqL c.X.K H a vs) ∧ SrcOk c B (.lst a) ds Pn ∧ P ds Pn := by
  cases x <;> first | exact False.elim h | skip
  case lst ds =>
    obtain ⟨a, vs, e, q, r1⟩ := r
    exact ⟨a, ds, [], e, ⟨vs, .of (R.sub _ _ q)⟩, srcOk_lst (.of q) r1, h⟩
  case slst ds =>
    obtain ⟨a, vs, e, q, r1⟩ := r
    exact ⟨a, ds, [], e, ⟨vs, R.sub.seq q⟩, srcOk_lst q r1, h⟩
  case ref a =>
    obtain ⟨ds, hm, h⟩ := h
    cases r
    obtain ⟨_, vs, hv, r1⟩ := R.cel (a, .lst ds) hm
    exact ⟨a, ds, _, rfl, ⟨vs, .of hv⟩, srcOk_cell, h⟩
theorem yieldsX_lst {B0 : Hp} {a : Addr} {ds : List D} {P : Pin} (ok : SrcOk c B0 (.lst a) ds P) : YieldsX c B0 (Itl c.X.K a) ds P := fun K0 B G S σ H s R hp i => by
  obtain ⟨vs, hH, r⟩ := ok K0 B G S σ H s R hp
  have hH : SqL c.X.K H a vs := hH
  refine ⟨fun hi => ?_, fun x H' y d hd => ?_, fun hi => ⟨vs, hH, by rw [r.length]; exact Nat.le_of_eq hi.symm⟩⟩
  · obtain ⟨v, hv, _⟩ := r.get (List.getElem?_eq_getElem hi)
    exact ⟨vs, v, hH, hv⟩
  · obtain ⟨e1, hy⟩ := y
    subst e1
    obtain ⟨v, hv, rv⟩ := r.get hd
    have hx := hy vs hH
    rw [hv] at hx
    cases hx
    exact ⟨B, Same.refl _, R, rv⟩
theorem yieldsX_tup {B0 : Hp} {a : Addr} {ds : List D} {P : Pin} (ok : SrcOk c B0 (.tup a) ds P) : YieldsX c B0 (Itt c.X.K a) ds P := fun K0 B G S σ H s R hp i => by
  obtain ⟨vs, hH, r⟩ := ok K0 B G S σ H s R hp
  have hH : SqT c.X.K H a vs := hH
  refine ⟨fun hi => ?_, fun x H' y d hd => ?_, fun hi => ⟨vs, hH, by rw [r.length]; exact Nat.le_of_eq hi.symm⟩⟩
  · obtain ⟨v, hv, _⟩ := r.get (List.getElem?_eq_getElem hi)
    exact ⟨vs, v, hH, hv⟩
  · obtain ⟨e1, hy⟩ := y
    subst e1
    obtain ⟨v, hv, rv⟩ := r.get hd
    have hx := hy vs hH
    rw [hv] at hx
    cases hx
    exact ⟨B, Same.refl _, R, rv⟩
theorem yieldsX_enum {B0 : Hp} {a : Addr} {ds : List D} {P : Pin} (ok : SrcOk c B0 (.lst a) ds P) : YieldsX c B0 (Ite c.X.K a) (enumD ds) P := fun K0 B G S σ H s R hp i => by
  obtain ⟨vs, hH, r⟩ := ok K0 B G S σ H s R hp
  have hH : SqL c.X.K H a vs := hH
  refine ⟨fun hi => ?_, fun x H' y d hd => ?_, fun hi => ⟨vs, hH, by rw [r.length]; rw [enum_len] at hi; exact Nat.le_of_eq hi.symm⟩⟩
  · rw [enum_len] at hi
    obtain ⟨v, hv, _⟩ := r.get (List.getElem?_eq_getElem hi)
    exact ⟨vs, v, hH, hv⟩
  · obtain ⟨T, z, e1, hT, e2, hy⟩ := y
    subst e1; subst e2
    have hz := hy vs hH
    obtain ⟨d0, hd0, rz⟩ := r.get' hz
    rw [enum_get hd0] at hd
    cases hd
    exact pair_ok R hT rfl rz
theorem dx_seq (h : PEd c e ta) : PXd c tg e (iSqX ta) := fun G S Q q B σ H R => by
  refine tI_of (pi_seq (pe_self e)) ?_
  refine tE_mono (h G S _ q B σ H R) fun v H1 ⟨B1, x, S1, s1, R1, r1, h1⟩ => ?_
  have gen : itX x S1 (fun ds P => Q ds P S1) → (∃ a, v = .ref a ∧ (∃ xs, SqL c.X.K H1 a xs) ∧ ∃ B2 ds P S2, Same B B2 ∧ c.R B2 G S2 σ H1 ∧ YieldsX c B2 (Itl c.X.K a) ds P ∧ Q ds P S2) ∨ (∃ a, v = .ref a ∧ (∃ xs, SqT c.X.K H1 a xs) ∧ ∃ B2 ds P S2, Same B B2 ∧ c.R B2 G S2 σ H1 ∧ YieldsX c B2 (Itt c.X.K a) ds P ∧ Q ds P S2) := fun h1 => by
    obtain ⟨s, ds, P, e1, hs, ok, q⟩ := itX_get R1 r1 h1
    cases s with
    | lst a => exact .inl ⟨a, e1, hs, B1, ds, P, S1, s1, R1, yieldsX_lst ok, q⟩
    | tup a => exact .inr ⟨a, e1, hs, B1, ds, P, S1, s1, R1, yieldsX_tup ok, q⟩
  cases x <;> first | exact (gen h1).elim .inl fun z => .inr (.inl z) | skip
  case str z =>
    cases r1
    exact .inr (.inr ⟨z, rfl, B1, signs z, [], S1, s1, R1, .of yields_str, h1⟩)
theorem dx_en (φ : Fx c.X ls gs) (j : Nat) {ts : List Expr} {jj : Nat} {p2 : Pos} (hm : c.X.mg "enumerate" = none) (h : PAd c [a] tas) (hj : gs[j]? = some "enumerate" := by rfl) (hs : starEach [a] c.X.env = [(false, eval a c.X.env)] := by rfl) : PXd c (.Tuple ts jj p2) (.Call (.Name "enumerate" p) [a] [] pos) (iEnX tas) := fun G S Q q B σ H R => by
  refine tI_of (pi_enum (φ.gl j _ hj).1 hm (pa_self _) hs) ?_
  refine tA_mono (h G S _ q B σ H R) fun vs H1 ⟨B1, ds, S1, s1, R1, r1, h1⟩ => ?_
  obtain ⟨v, x, e1, r2, h1⟩ := one_get r1 h1
  subst e1
  obtain ⟨a, ds, P, e1, ⟨vs, hs⟩, ok, q⟩ := itL_get R1 r2 h1
  subst e1
  exact ⟨a, vs, rfl, hs, B1, _, P, S1, s1, R1, yieldsX_enum ok, q⟩
/-! ### for -/
def sForX (ti : TXd) (g : TGd) (b : TSd) : TSd := fun E G S => ti G S fun ds P S1 => ∃ Iv : Nat → Loc → Sto → Prop, Iv 0 G S1 ∧ (∀ i G S, Iv i G S → Has P S) ∧
  (∀ i d G S, ds[i]? = some d → Iv i G S → g d G S fun G2 S2 => b { E with nx := Iv (i + 1), ct := Iv (i + 1), bk := E.nx } G2 S2) ∧ ∀ G S, Iv ds.length G S → E.nx G S
theorem ws_forX [Calm c] {E : DE} {tg iter : Expr} {body : List Stmt} (hp : PassesOwn (model c.X.prog c.X.w) c.X.A c.X.env c.X.xe) (hs : ∀ x, foldedSetIterable iter c.X.env x = pure x)
    (h : WIX c tg iter G S fun ds P S1 => ∃ Iv : Nat → Loc → Sto → Prop, Iv 0 G S1 ∧ (∀ i G S, Iv i G S → Has P S) ∧ (∀ i d G S, ds[i]? = some d → Iv i G S → WG c tg d G S fun G2 S2 => WSs c body G2 S2 { E with nx := Iv (i + 1), ct := Iv (i + 1), bk := E.nx }) ∧ ∀ G S, Iv ds.length G S → E.nx G S) : WS c (.For tg iter body [] pos) G S E := fun B σ H R => by
  refine tS_of (ps_for hp (Calm.calm (c := c)) (pi_self tg iter) (pg_self tg) (pss_self body) hs) ?_
  refine tI_mono (h B σ H R) fun J H1 ⟨B1, ds, P, S1, s1, R1, y, Iv, h0, hP, hb, he⟩ => ?_
  refine ⟨fun i m σ H => m = ds.length - i ∧ i ≤ ds.length ∧ ∃ B' G S, Same B1 B' ∧ c.R B' G S σ H ∧ Iv i G S, ⟨ds.length, by simp, Nat.zero_le _, B1, G, S1, Same.refl _, R1, h0⟩, ?_⟩
  rintro i m σ H ⟨rfl, hi, B', G', S', s', R', hI⟩
  obtain ⟨y1, y2, y3⟩ := y c.B0 B' G' S' σ H s' R' (hP _ _ _ hI) i
  by_cases hlt : i < ds.length
  · refine .inr ⟨y1 hlt, PostS c B1 (Iv (i + 1)), fun σ2 H2 ⟨B2, G2, S2, s2, R2, h2⟩ => ⟨ds.length - (i + 1), by omega, rfl, hlt, B2, G2, S2, s2, R2, h2⟩, fun x H2 hx => ?_⟩
    obtain ⟨B2, s2, R2, r2⟩ := y2 x H2 hx _ (List.getElem?_eq_getElem hlt)
    refine tG_mono (hb i _ G' S' (List.getElem?_eq_getElem hlt) hI B2 σ H2 x R2 r2) fun σ3 H3 ⟨B3, G3, S3, s3, R3, h3⟩ => ?_
    have sB : Same B1 B3 := (s'.trans s2).trans s3
    refine tSs_mono (h3 B3 σ3 H3 R3) ⟨fun _ _ q => q.le sB fun _ _ q => q, fun v H ⟨B4, d, S, s4, R4, r4, q⟩ => ⟨B4, d, S, (s1.trans sB).trans s4, R4, r4, q⟩, fun _ _ q => q.le (s1.trans sB) fun _ _ q => q, fun _ _ q => q.le sB fun _ _ q => q⟩
  · have e : i = ds.length := by omega
    subst e
    exact .inl ⟨y3 rfl, B', G', S', s1.trans s', R', he G' S' hI⟩
theorem ds_forX [Calm c] {iter : Expr} {body : List Stmt} {ti : TXd} {g : TGd} (hp : PassesOwn (model c.X.prog c.X.w) c.X.A c.X.env c.X.xe) (hi : PXd c tg iter ti) (hg : PGd c tg g) (hb : PSsd c body t) (hs : ∀ x, foldedSetIterable iter c.X.env x = pure x := by intro _; rfl) : PSd c (.For tg iter body [] pos) (sForX ti g t) := fun E G S h =>
  ws_forX hp hs ((hi G S _ h).mono fun ds P S1 ⟨Iv, h0, hP, h1, h2⟩ => ⟨Iv, h0, hP, fun i d G S e q => (hg d G S _ (h1 i d G S e q)).mono fun G2 S2 q2 => hb _ G2 S2 q2, h2⟩)
/-! ### comprehensions -/
def eLcX (ti : TXd) (own : List Nat) (bind : D → Loc → (Loc → Prop) → Prop) (tt : TTd) (te : TEd) : TEd := fun G S Q => ti G S fun ds P S1 => ∃ Iv : Nat → List D → Sto → Prop, Iv 0 [] S1 ∧ (∀ i acc S, Iv i acc S → Has P S) ∧
  (∀ i d acc S p, ds[i]? = some d → Iv i acc S → bind d (wipeG G own) fun G2 => tt G2 ((p, .lst acc) :: S) fun k S2 => ∃ S3, S2 = (p, .lst acc) :: S3 ∧ (k = true → te G2 S2 fun y S4 => ∃ S5, S4 = (p, .lst acc) :: S5 ∧ acc.length < sizeLine ∧ Iv (i + 1) (acc ++ [y]) S5) ∧ (k = false → Iv (i + 1) acc S3)) ∧
  ∀ acc S, Iv ds.length acc S → mk acc S Q
def LcAskX (c : CD) (G : Loc) (scope : Scope) (own : List (Str × Nat)) (ifs : List Expr) (elt : Expr) (bind : D → Loc → (Loc → Prop) → Prop) (Q : QD) (ds : List D) (P : Pin) (S1 : Sto) : Prop := ∃ Iv : Nat → List D → Sto → Prop, Iv 0 [] S1 ∧ (∀ i acc S, Iv i acc S → Has P S) ∧
      (∀ i d acc S p, ds[i]? = some d → Iv i acc S → bind d (wipeG G (own.map (·.2))) fun G2 => WTsB c scope ifs G2 ((p, .lst acc) :: S) fun k S2 => ∃ S3, S2 = (p, .lst acc) :: S3 ∧ (k = true → ∀ s H0 C cl fp, W (blkC c scope s H0 C cl fp) elt G2 S2 fun y S4 => ∃ S5, S4 = (p, .lst acc) :: S5 ∧ acc.length < sizeLine ∧ Iv (i + 1) (acc ++ [y]) S5) ∧ (k = false → Iv (i + 1) acc S3)) ∧
      ∀ acc S, Iv ds.length acc S → mk acc S Q
theorem lc_readX {elt iter : Expr} {ifs : List Expr} {scope : Scope} {own : List (Str × Nat)} {bind : D → Loc → (Loc → Prop) → Prop} {g : TG} {Q : QD} {B : Hp} {σ : L2.St} {H : Hp} (R : c.R B G S σ H)
    (hg : ∀ (B : Hp) (d : D) (v : V) (G : Loc) (S : Sto) (σ : L2.St) (H : Hp) (Q : L2.St → Hp → Prop) (P : Loc → Prop), Rel c.X.K c.B0 B G S σ H → Rep c.X.K B d v → bind d G P → (∀ G2 σ2, Rel c.X.K c.B0 B G2 S σ2 H → wipe σ2 (own.map (·.2)) = wipe σ (own.map (·.2)) → P G2 → Q σ2 H) → g v σ H Q)
    (h : WIX c tg iter G S fun ds P S1 => LcAskX c G scope own ifs elt bind Q ds P S1) :
    tLc (tI c.X tg iter) g (tTsB c scope ifs) (tEB c scope elt) (own.map (·.2)) σ H (Post c B G σ Q) := by
  refine tI_mono (h B σ H R) fun J H1 ⟨B1, ds, P, S1, s1, R1, y, Iv, h0, hP, hb, he⟩ => ?_
  intro Dd hD
  let Wd : Nat → Hp → Prop := fun i H => ∃ B' acc S, Same B1 B' ∧ c.R B' G ((Dd, .lst acc) :: S) σ H ∧ Iv i acc S
  have w0 : Wd 0 (upd H1 Dd (.lst [])) := ⟨B1, [], S1, Same.refl _, R1.cell (c := Cel.lst []) hD ⟨[], upd_same, rfl⟩, h0⟩
  refine ⟨fun i m H => m = ds.length - i ∧ i ≤ ds.length ∧ Wd i H, ⟨ds.length, by simp, Nat.zero_le _, w0⟩, ?_⟩
  rintro i m H ⟨rfl, hi, B', acc, S', s', R', hI⟩
  obtain ⟨y1, y2, y3⟩ := y c.B0 B' G ((Dd, .lst acc) :: S') σ H s' R' ((hP _ _ _ hI).cons _) i
  by_cases hlt : i < ds.length
  · refine .inr ⟨y1 hlt, Wd (i + 1), fun H2 h2 => ⟨ds.length - (i + 1), by omega, rfl, hlt, h2⟩, fun x H2 hx => ?_⟩
    obtain ⟨B2, s2, R2, r2⟩ := y2 x H2 hx _ (List.getElem?_eq_getElem hlt)
    refine hg B2 _ x (wipeG G (own.map (·.2))) _ (wipe σ (own.map (·.2))) H2 _ _ (R2.wiped _) r2 (hb i _ acc S' Dd (List.getElem?_eq_getElem hlt) hI) fun G2 σ2 R3 hw h3 => ?_
    have hww : wipe (wipe σ (own.map (·.2))) (own.map (·.2)) = wipe σ (own.map (·.2)) := lc_read.wipe_wipe _ _
    refine ⟨hw.trans hww, ?_⟩
    have back : ∀ {B4 : Hp} {S4 : Sto} {H4 : Hp}, Same B2 B4 → RelH c.X.K c.B0 B4 S4 H4 → c.R B4 G S4 σ H4 := fun {B4 S4 H4} s4 R4 => R2.up s4 R4
    have fin : ∀ {B4 : Hp} {H4 : Hp} {acc' : List D} {S5 : Sto}, Same B2 B4 → RelH c.X.K c.B0 B4 ((Dd, .lst acc') :: S5) H4 → Iv (i + 1) acc' S5 → Wd (i + 1) H4 := fun {B4 H4 acc' S5} s4 R4 hI => ⟨B4, acc', S5, (s'.trans s2).trans s4, back s4 R4, hI⟩
    have elem : ∀ {B4 : Hp} {S4 : Sto} {H4 : Hp}, Same B2 B4 → Rel c.X.K c.B0 B4 G2 S4 σ2 H4 → (∀ s H0 C cl fp, W (blkC c scope s H0 C cl fp) elt G2 S4 fun y S4 => ∃ S5, S4 = (Dd, .lst acc) :: S5 ∧ acc.length < sizeLine ∧ Iv (i + 1) (acc ++ [y]) S5) →
        tEB c scope elt σ2 H4 fun y H5 => ∃ acc, H5 Dd = some (.lst acc) ∧ acc.length < sizeLine ∧ Wd (i + 1) (upd H5 Dd (.lst (acc ++ [y]))) := fun {B4 S4 H4} s4 R4 hW s H0 C cl fp => by
      refine tE_mono (hW s H0 C cl fp B4 σ2 H4 R4) fun v H5 ⟨B5, d5, S5, s5, R5, r5, S6, e6, hz, hI5⟩ => ?_
      subst e6
      obtain ⟨_, vs, hv, rv⟩ := R5.cel (Dd, .lst acc) List.mem_cons_self
      have R6 : RelH c.X.K c.B0 B5 ((Dd, .lst acc) :: S6) H5 := R5.toRelH
      refine ⟨vs, hv, by rw [Reps.length rv]; exact hz, fin (s4.trans s5) (R6.write (k := 0) (c' := Cel.lst (acc ++ [d5])) rfl ⟨_, upd_same, Reps.append rv ⟨v, [], rfl, r5, rfl⟩⟩) hI5⟩
    have go : ∀ {B4 : Hp} {S4 : Sto} {H4 : Hp} (k : Bool), Same B2 B4 → Rel c.X.K c.B0 B4 G2 S4 σ2 H4 → (∃ S3, S4 = (Dd, .lst acc) :: S3 ∧ (k = true → ∀ s H0 C cl fp, W (blkC c scope s H0 C cl fp) elt G2 S4 fun y S4 => ∃ S5, S4 = (Dd, .lst acc) :: S5 ∧ acc.length < sizeLine ∧ Iv (i + 1) (acc ++ [y]) S5) ∧ (k = false → Iv (i + 1) acc S3)) →
        if k = true then tEB c scope elt σ2 H4 (fun y H5 => ∃ acc, H5 Dd = some (.lst acc) ∧ acc.length < sizeLine ∧ Wd (i + 1) (upd H5 Dd (.lst (acc ++ [y])))) else Wd (i + 1) H4 := fun {B4 S4 H4} k s4 R4 ⟨S3, e3, h1, h2⟩ => by
      cases k with
      | true =>
        rw [if_pos rfl]
        exact elem s4 R4 (h1 rfl)
      | false =>
        rw [if_neg Bool.false_ne_true]
        subst e3
        exact fin s4 R4.toRelH (h2 rfl)
    match ifs, h3 with
    | [], h3 => exact go true (Same.refl _) R3 h3
    | [t], h3 =>
      intro s H0 C cl fp
      refine tT_mono (h3 s H0 C cl fp B2 σ2 H2 R3) fun k H4 ⟨B4, S4, s4, R4, h4⟩ => go k s4 R4 h4
  · have e : i = ds.length := by omega
    subst e
    refine .inl ⟨y3 rfl, ?_⟩
    have hmk := he acc S' hI
    rcases hmk with hq | hq
    · obtain ⟨B6, s6, R6, r6⟩ := R'.toRelH.freeze (k := 0) (a := Dd) (ds := acc) rfl
      exact ⟨B6, .lst acc, S', (s1.trans s').trans s6, R'.up s6 R6, r6, hq⟩
    · exact ⟨B', .ref Dd, _, s1.trans s', R', rfl, hq Dd⟩
theorem lc_askX {elt : Expr} {ifs : List Expr} {scope : Scope} {own : List (Str × Nat)} {bind : D → Loc → (Loc → Prop) → Prop} {G : Loc} {Q : QD} {ds : List D} {P : Pin} {S1 : Sto} (hb : BindOk c scope tg own bind) (ht : PTsB c scope ifs tt) (he : ∀ s H0 C cl fp, PEd (blkC c scope s H0 C cl fp) elt ta)
    (h : ∃ Iv : Nat → List D → Sto → Prop, Iv 0 [] S1 ∧ (∀ i acc S, Iv i acc S → Has P S) ∧
      (∀ i d acc S p, ds[i]? = some d → Iv i acc S → bind d (wipeG G (own.map (·.2))) fun G2 => tt G2 ((p, .lst acc) :: S) fun k S2 => ∃ S3, S2 = (p, .lst acc) :: S3 ∧ (k = true → ta G2 S2 fun y S4 => ∃ S5, S4 = (p, .lst acc) :: S5 ∧ acc.length < sizeLine ∧ Iv (i + 1) (acc ++ [y]) S5) ∧ (k = false → Iv (i + 1) acc S3)) ∧
      ∀ acc S, Iv ds.length acc S → mk acc S Q) : LcAskX c G scope own ifs elt bind Q ds P S1 := by
  obtain ⟨Iv, h0, hP, h1, h2⟩ := h
  refine ⟨Iv, h0, hP, fun i d acc S p e q => ?_, h2⟩
  refine hb.1 _ _ _ _ (h1 i d acc S p e q) fun G2 h3 => ?_
  exact (ht _ _ _ h3).mono fun k S2 ⟨S3, e3, h4, h5⟩ => ⟨S3, e3, fun z s H0 C cl fp => he s H0 C cl fp _ _ _ (h4 z), h5⟩
theorem d_lcX [Calm c] {elt iter : Expr} {ifs : List Expr} {scope : Scope} {bind : D → Loc → (Loc → Prop) → Prop} {ti : TXd} (own : List (Str × Nat)) (ok : L2.blkC c.X.N c.X.env.scope scope own = true) (hb : BindOk c scope tg own bind) (hi : PXd c tg iter ti) (ht : PTsB c scope ifs tt) (he : ∀ s H0 C cl fp, PEd (blkC c scope s H0 C cl fp) elt ta)
    (hs : ∀ x, foldedSetIterable iter c.X.env x = pure x := by intro _; rfl) : PEd c (.ListComp elt [⟨tg, iter, ifs, 0⟩] scope pos) (eLcX ti (own.map (·.2)) bind tt ta) := fun G S Q h B σ H R => by
  have h' := (hi G S _ h).mono fun ds P S1 h1 => lc_askX hb ht he h1
  obtain ⟨_, g, pg, hg⟩ := hb
  exact tE_of (pe_lc (Calm.calm (c := c)) c.nd (pi_self tg iter) (blkOk_by ok) pg (fun s H0 C cl fp => pts_all (c := c) (s := s) (H0 := H0) (C := C) (cl := cl) (fp := fp) ifs) (fun s H0 C cl fp => (⟨fun pins s' σ H Q I h => h s H0 C cl fp pins s' I⟩ : PE _ elt (tEB c scope elt))) hs) (lc_readX R hg h')
end
section
variable {m : Mo} {N : List Str} {qual : Str} {sc scope scp2 : Scope} {f : Addr} {cdv : Value} {A : Around} {outer : List Env} {s : Shared} {H B : Hp} {E : XK} {EX : EXT} {k : Nat} {hE : ∀ cls d H', XD m.K B EX cls d H' → E cls d H'}
  {hr : Room k (A.deeper (envOfC qual sc s.heap.objs.size f cdv))} {nd : NdS m N sc} {e a b d : Expr} {pos p : Pos} {x y : Str} {tg elt iter : Expr} {ifs : List Expr} {ta : TEd} {tt : TTd} {ti : TXd} {bind : D → Loc → (Loc → Prop) → Prop} {ls ls2 : List (Option NameKind)} {gs gs2 : List Str} {own : List (Str × Nat)}
  {s1 : Shared} {H1 : Hp} {C1 : Addr} {cl1 : List (Str × Addr)} {fp1 : List Addr}
theorem d_lcFX (ls : List (Option NameKind)) (gs : List Str) (own : List (Str × Nat)) (h : fxC N (relS scope sc) ls gs = true) (ok : L2.blkC N sc scope own = true) (hb : fxC N (relS scope sc) ls gs = true → BindOk (bodyC m N qual sc f cdv A outer s H B E EX k hE hr nd) scope tg own bind) (hi : PXd (bodyC m N qual sc f cdv A outer s H B E EX k hE hr nd) tg iter ti)
    (ht : (∀ s1 H1 C cl fp, Fx (blkC (bodyC m N qual sc f cdv A outer s H B E EX k hE hr nd) scope s1 H1 C cl fp).X ls gs) → PTsB (bodyC m N qual sc f cdv A outer s H B E EX k hE hr nd) scope ifs tt)
    (he : ∀ s1 H1 C cl fp, Fx (blkC (bodyC m N qual sc f cdv A outer s H B E EX k hE hr nd) scope s1 H1 C cl fp).X ls gs → PEd (blkC (bodyC m N qual sc f cdv A outer s H B E EX k hE hr nd) scope s1 H1 C cl fp) elt ta) (hs : ∀ z, foldedSetIterable iter (bodyC m N qual sc f cdv A outer s H B E EX k hE hr nd).X.env z = pure z := by intro _; rfl) :
    PEd (bodyC m N qual sc f cdv A outer s H B E EX k hE hr nd) (.ListComp elt [⟨tg, iter, ifs, 0⟩] scope pos) (eLcX ti (own.map (·.2)) bind tt ta) :=
  d_lcX own ok (hb h) hi (ht fun _ _ _ _ _ => fx_blk h) (fun _ _ _ _ _ => he _ _ _ _ _ (fx_blk h)) hs
end
end DL
end

section
set_option autoImplicit false
set_option maxRecDepth 100000
set_option maxHeartbeats 4000000
namespace DL
open PySem PySem.Spec PyProof.Rows L2
open PySem.W (Frag)
/-! ### a list, be it one that stands or a cell -/
def LV (S : Sto) (x : D) (ds : List D) : Prop := x = .lst ds ∨ ∃ (a : Addr) (k : Nat), x = .ref a ∧ S[k]? = some (a, Cel.lst ds)
theorem LV.lst {S : Sto} (ds : List D) : LV S (.lst ds) ds := .inl rfl
theorem LV.cell {S : Sto} {a : Addr} {k : Nat} {ds : List D} (h : S[k]? = some (a, Cel.lst ds)) : LV S (.ref a) ds := .inr ⟨a, k, rfl, h⟩
theorem LV.cons {S : Sto} {x : D} {ds : List D} (h : LV S x ds) (p : Addr × Cel) : LV (p :: S) x ds := h.imp id fun ⟨a, k, e, q⟩ => ⟨a, k + 1, e, q⟩
theorem LV.q {S : Sto} {x : D} {ds : List D} {P : List D → Prop} (h : LV S x ds) (q : P ds) : asQ x S P := by
  rcases h with rfl | ⟨a, k, rfl, e⟩
  · exact q
  · exact ⟨k, ds, e, q⟩
theorem LV.l {S : Sto} {x : D} {ds : List D} {P : List D → Prop} (h : LV S x ds) (q : P ds) : asL x S P := by
  rcases h with rfl | ⟨a, k, rfl, e⟩
  · exact q
  · exact ⟨k, ds, e, q⟩
theorem LV.len {S : Sto} {x : D} {ds : List D} {Q : QD} (h : LV S x ds) (q : Q (.int ds.length) S) : dLen [x] S Q := by
  rcases h with rfl | ⟨a, k, rfl, e⟩
  · exact q
  · exact ⟨k, ds, e, q⟩
theorem LV.ix {S : Sto} {x : D} {ds : List D} {i : Int} {d : D} {Q : QD} (h : LV S x ds) (e : atI ds i = some d) (q : Q d S) : dIx x (.int i) S Q := by
  rcases h with rfl | ⟨a, k, rfl, e2⟩
  · exact ⟨d, e, q⟩
  · exact ⟨k, ds, e2, d, e, q⟩
theorem LV.sl {S : Sto} {x : D} {ds : List D} {lo hi : Option Int} {Q : QD} (h : LV S x ds) (q : mk (cutD ds lo hi) S Q) : dSl x lo hi S Q := by
  rcases h with rfl | ⟨a, k, rfl, e2⟩
  · exact q
  · exact ⟨k, ds, e2, q⟩
theorem LV.tup {S : Sto} {x : D} {ds : List D} {Q : QD} (h : LV S x ds) (q : Q (.tup ds) S) : dTuple [x] S Q := by
  rcases h with rfl | ⟨a, k, rfl, e2⟩
  · exact q
  · exact ⟨k, ds, e2, q⟩
theorem LV.list {S : Sto} {x : D} {ds : List D} {Q : QD} (h : LV S x ds) (q : mk ds S Q) : dList [x] S Q := by
  rcases h with rfl | ⟨a, k, rfl, e2⟩
  · exact q
  · exact ⟨k, ds, e2, q⟩
/-- walking it: the list must stay -/
theorem LV.it {S : Sto} {x : D} {ds : List D} {Q : List D → Pin → Prop} (h : LV S x ds) (q : ∀ P : Pin, (∀ S', LV S' x ds → Has P S') → Q ds P) : itX x S Q := by
  rcases h with rfl | ⟨a, k, rfl, e2⟩
  · exact q [] fun _ _ => .nil
  · refine ⟨ds, List.mem_of_getElem? e2, q _ fun S' h => ?_⟩
    rcases h with h | ⟨a', k', h, e⟩
    · cases h
    · cases h
      exact .one (List.mem_of_getElem? e)
theorem LV.seq {S : Sto} {x : D} {ds : List D} {Q : List D → Pin → Prop} (h : LV S x ds) (q : ∀ P : Pin, (∀ S', LV S' x ds → Has P S') → Q ds P) : seqX x S Q := by
  have := h.it q
  rcases h with rfl | ⟨a, k, rfl, e2⟩ <;> exact this
theorem one_eq (x : D) (P : D → Prop) : one [x] P = P x := rfl
/-! ### comprehensions -/
def LcInX (G : Loc) (own : List Nat) (bind : D → Loc → (Loc → Prop) → Prop) (tt : TTd) (te : TEd) (ds : List D) (P : Pin) (S1 : Sto) (Q : QD) : Prop := ∃ Iv : Nat → List D → Sto → Prop, Iv 0 [] S1 ∧ (∀ i acc S, Iv i acc S → Has P S) ∧
  (∀ i d acc S p, ds[i]? = some d → Iv i acc S → bind d (wipeG G own) fun G2 => tt G2 ((p, .lst acc) :: S) fun k S2 => ∃ S3, S2 = (p, .lst acc) :: S3 ∧ (k = true → te G2 S2 fun y S4 => ∃ S5, S4 = (p, .lst acc) :: S5 ∧ acc.length < sizeLine ∧ Iv (i + 1) (acc ++ [y]) S5) ∧ (k = false → Iv (i + 1) acc S3)) ∧
  ∀ acc S, Iv ds.length acc S → mk acc S Q
theorem eLcX_eq (ti : TXd) (own : List Nat) (bind : D → Loc → (Loc → Prop) → Prop) (tt : TTd) (te : TEd) : eLcX ti own bind tt te = fun G S Q => ti G S fun ds P S1 => LcInX G own bind tt te ds P S1 Q := rfl
section
variable {S : Sto} {G : Loc} {own : List Nat} {bind : D → Loc → (Loc → Prop) → Prop} {tt : TTd} {te : TEd} {Q : QD} {ds : List D} {P : Pin}
theorem lcx_M {α : Type} {src : α → D} {xs : List α} (out : α → D) (hP : Has P S) (hz : xs.length ≤ 1000000)
    (h : ∀ x ∈ xs, ∀ (p : Addr) (acc : List D) (K : QD), K (out x) ((p, Cel.lst acc) :: S) → bind (src x) (wipeG G own) fun G2 => te G2 ((p, Cel.lst acc) :: S) K)
    (hm : ∀ d G P P', bind d G P → (∀ G2, P G2 → P' G2) → bind d G P')
    (q : mk (xs.map out) S Q) : LcInX G own bind tYs te (xs.map src) P S Q := by
  refine ⟨fun i acc S' => S' = S ∧ acc = (xs.take i).map out, ⟨rfl, rfl⟩, fun _ _ _ ⟨e, _⟩ => by rw [e]; exact hP, ?_, ?_⟩
  · rintro i d acc S' p e ⟨rfl, rfl⟩
    rw [List.getElem?_map] at e
    obtain ⟨x, hx, rfl⟩ := Option.map_eq_some_iff.mp e
    have hi : i < xs.length := (List.getElem?_eq_some_iff.mp hx).1
    refine hm _ _ _ _ (h x (List.mem_of_getElem? hx) p ((xs.take i).map out) (fun y S4 => ∃ S5, S4 = (p, .lst ((xs.take i).map out)) :: S5 ∧ ((xs.take i).map out).length < sizeLine ∧ S5 = S' ∧ (xs.take i).map out ++ [y] = (xs.take (i + 1)).map out) ⟨S', rfl, ?_, rfl, ?_⟩) fun G2 q2 => ⟨S', rfl, fun _ => q2, fun z => by cases z⟩
    · rw [List.length_map, List.length_take]
      exact Nat.lt_of_le_of_lt (Nat.min_le_left _ _) (Nat.lt_of_lt_of_le hi (Nat.le_trans hz (by decide)))
    · rw [List.take_add_one, hx, List.map_append]
      rfl
  · rintro acc S' ⟨rfl, rfl⟩
    rw [List.length_map, List.take_length]
    exact q
end
end DL
end

section
set_option autoImplicit false
set_option maxRecDepth 100000
set_option maxHeartbeats 4000000
namespace DL
open PySem PySem.Spec PyProof.Rows L2
open PySem.W (Frag)
/-! ### x in l of flat data; keys in dicts -/
def flatD : D → Bool
  | .non => true
  | .bl _ => true
  | .int _ => true
  | .str _ => true
  | _ => false
def toV : D → V
  | .non => .non
  | .bl b => .bl b
  | .int i => .int i
  | .str x => .str x
  | _ => .non
theorem flat_v {K : Frag} {B : Hp} {d : D} {v : V} (f : flatD d = true) (r : Rep K B d v) : v = toV d ∧ flatV v = true := by
  cases d <;> first | (cases f; done) | (cases r; exact ⟨rfl, rfl⟩)
theorem flat_vs {K : Frag} {B : Hp} : ∀ {ds : List D} {vs : List V}, ds.all flatD = true → Reps K B ds vs → vs = ds.map toV ∧ vs.all flatV = true
  | [], _, _, r => by
    cases r
    exact ⟨rfl, rfl⟩
  | d :: ds, vs, f, r => by
    obtain ⟨v, r2, e, h1, h2⟩ := r
    subst e
    rw [List.all_cons, Bool.and_eq_true] at f
    obtain ⟨e1, g1⟩ := flat_v f.1 h1
    obtain ⟨e2, g2⟩ := flat_vs f.2 h2
    exact ⟨by rw [List.map_cons, ← e1, ← e2], by rw [List.all_cons, g1, g2]; rfl⟩
/-- whether one of them is equal -/
def inD (x : D) (ds : List D) : Bool := inV (toV x) (ds.map toV)
/-- lists, cells, tuples -/
def asA (x : D) (S : Sto) (P : List D → Prop) : Prop := match x with
  | .tup ds => P ds
  | x => asQ x S P
def kD : Key → D
  | .inl i => .int i
  | .inr x => .str x
theorem kD_v {K : Frag} {B : Hp} {k : Key} {v : V} (r : Rep K B (kD k) v) : v = kV k := by
  cases k <;> exact r
def valK (kvs : List (Key × D)) (k : Key) : Option D := match kvs with
  | [] => none
  | (j, d) :: r => if j = k then some d else valK r k
theorem valK_rep {K : Frag} {B : Hp} {k : Key} : ∀ {kvs : List (Key × D)} {vs : List (Key × V)}, RepK K B kvs vs → (valK kvs k = none ∧ valV vs k = none) ∨ ∃ d v, valK kvs k = some d ∧ valV vs k = some v ∧ Rep K B d v
  | [], _, h => by
    cases h
    exact .inl ⟨rfl, rfl⟩
  | (j, d) :: r, vs, h => by
    obtain ⟨v, us, e, h1, h2⟩ := h
    subst e
    by_cases e : j = k
    · exact .inr ⟨d, v, by show (if j = k then some d else valK r k) = _; rw [if_pos e], valV_pos e, h1⟩
    · have e1 : valK ((j, d) :: r) k = valK r k := by show (if j = k then some d else valK r k) = _; rw [if_neg e]
      rw [e1, valV_neg (p := (j, v)) e]
      exact valK_rep h2
theorem RepK.length {K : Frag} {B : Hp} : ∀ {kvs : List (Key × D)} {vs : List (Key × V)}, RepK K B kvs vs → vs.map (·.1) = kvs.map (·.1)
  | [], _, h => by
    cases h
    rfl
  | (j, d) :: r, vs, h => by
    obtain ⟨v, us, e, h1, h2⟩ := h
    subst e
    rw [List.map_cons, List.map_cons, h2.length]
theorem RepK.snoc {K : Frag} {B : Hp} {k : Key} {d : D} {v : V} (q : Rep K B d v) : ∀ {kvs : List (Key × D)} {vs : List (Key × V)}, RepK K B kvs vs → RepK K B (kvs ++ [(k, d)]) (vs ++ [(k, v)])
  | [], _, h => by
    cases h
    exact ⟨v, [], rfl, q, rfl⟩
  | (j, e) :: r, vs, h => by
    obtain ⟨u, us, e, h1, h2⟩ := h
    subst e
    exact ⟨u, us ++ [(k, v)], rfl, h1, h2.snoc q⟩
section
variable {c : CD} {e a b d : Expr} {es : List Expr} {pos p : Pos} {x : Str} {tg : Expr} {ta tb td : TEd} {tt tu : TTd} {tas : TAd} {t u : TSd} {ls : List (Option NameKind)} {gs : List Str} {G : Loc} {S : Sto}
theorem asA_get {B H : Hp} {σ : L2.St} {x : D} {v : V} {P : List D → Prop} (R : c.R B G S σ H) (r : Rep c.X.K B x v) (h : asA x S P) : ∃ a vs ds, v = .ref a ∧ (SqL c.X.K H a vs ∨ SqT c.X.K H a vs) ∧ Reps c.X.K B ds vs ∧ P ds := by
  have gen : asQ x S P → ∃ a vs ds, v = .ref a ∧ (SqL c.X.K H a vs ∨ SqT c.X.K H a vs) ∧ Reps c.X.K B ds vs ∧ P ds := fun h => by
    obtain ⟨a, vs, ds, e, h1, r2, q⟩ := asQ_get R r h
    exact ⟨a, vs, ds, e, .inl h1, r2, q⟩
  cases x <;> first | exact gen h | skip
  case tup ds =>
    obtain ⟨a, vs, e, h1, r2⟩ := r
    exact ⟨a, vs, ds, e, .inr (sameT R.sub h1), r2, h⟩
/-- x in y -/
def dIn (neg : Bool) (x y : D) (S : Sto) (Q : Bool → Sto → Prop) : Prop := match y with
  | .dct kvs => ∃ k : Key, x = kD k ∧ Q (if neg then !(valK kvs k).isSome else (valK kvs k).isSome) S
  | y => flatD x = true ∧ asA y S fun ds => ds.all flatD = true ∧ Q (if neg then !inD x ds else inD x ds) S
def opIn (neg : Bool) : CmpOp := if neg then .NotIn else .In
def rDIn (neg : Bool) : R2 := fun x y H Q => ∃ a o, y = .ref a ∧ DGet H a x o ∧ Q (.bl (if neg then !o.isSome else o.isSome)) H
theorem op_dIn {X : Cx} (hu : X.A.units + 1 < cLine) (neg : Bool) : OpR X (compareOp (opIn neg)) (rDIn neg) := by
  intro pins s σ H x y v u Q I rx ry h
  obtain ⟨a, o, rfl, g, q⟩ := h
  obtain rfl : u = Value.ref a := ry
  cases neg with
  | false => exact d_in hu I g rx fun s3 I3 => ⟨.bl o.isSome, H, I3, rfl, q⟩
  | true => exact d_notIn hu I g rx fun s3 I3 => ⟨.bl (!o.isSome), H, I3, rfl, q⟩
theorem op_in {X : Cx} (hu : X.A.units + 1 < cLine) (neg : Bool) : OpR X (compareOp (opIn neg)) fun x y H Q => rIn X.K neg x y H Q ∨ rDIn neg x y H Q := by
  cases neg with
  | false => exact op_in_seq.or (op_dIn hu false)
  | true => exact op_notIn_seq.or (op_dIn hu true)
theorem in_core {neg : Bool} {B H : Hp} {σ : L2.St} {x y : D} {vx vy : V} {Q : Bool → Sto → Prop} {Q' : VK} (R : c.R B G S σ H) (rx : Rep c.X.K B x vx) (ry : Rep c.X.K B y vy) (h : dIn neg x y S Q)
    (k : ∀ b, Q b S → Q' (.bl b) H) : rIn c.X.K neg vx vy H Q' ∨ rDIn neg vx vy H Q' := by
  have gen : (flatD x = true ∧ asA y S fun ds => ds.all flatD = true ∧ Q (if neg then !inD x ds else inD x ds) S) → rIn c.X.K neg vx vy H Q' := fun ⟨f, h⟩ => by
    obtain ⟨a, vs, ds, e, hq, r2, fs, q⟩ := asA_get R ry h
    obtain ⟨e1, f1⟩ := flat_v f rx
    obtain ⟨e2, f2⟩ := flat_vs fs r2
    refine ⟨a, vs, e, hq, f1, f2, ?_⟩
    rw [e1, e2]
    exact k _ q
  cases y <;> first | exact .inl (gen h) | skip
  case dct kvs =>
    obtain ⟨ky, rfl, q⟩ := h
    obtain ⟨p, vs, e1, hp, rk⟩ := ry
    subst e1
    have := kD_v rx
    subst this
    refine .inr ⟨p, valV vs ky, rfl, .inl ⟨vs, ky, .inl (R.sub _ _ hp), rfl, rfl⟩, ?_⟩
    rcases valK_rep (k := ky) rk with ⟨e, e2⟩ | ⟨d', v, e, e2, rv⟩
    · rw [e] at q
      rw [e2]
      exact k _ q
    · rw [e] at q
      rw [e2]
      exact k _ q
def eIn (neg : Bool) (ta tb : TEd) : TEd := fun G S Q => ta G S fun x S1 => tb G S1 fun y S2 => dIn neg x y S2 fun k S3 => Q (.bl k) S3
def tIn (neg : Bool) (ta tb : TEd) : TTd := fun G S Q => ta G S fun x S1 => tb G S1 fun y S2 => dIn neg x y S2 Q
theorem in_w (neg : Bool) {op : CmpOp} (ho : op = opIn neg) (hm : behindInMarks op b = false) (ha : PEd c a ta) (hb : PEd c b tb) : PEd c (.Compare a [op] [b] pos) (eIn neg ta tb) := fun G S Q h => by
  subst ho
  refine w_cmp (P := fun x y S Q => dIn neg x y S fun k S3 => Q (.bl k) S3) (op_in (by have := c.hr.units; omega) neg) hm (fun Bl B σ H x y vx vy S Q s R rx ry h => ?_) ((ha G S _ h).mono fun x S1 h1 => hb G S1 _ h1)
  exact in_core R rx ry h fun k q => ⟨B, .bl k, S, s, R, rfl, q⟩
theorem in_t (neg : Bool) {op : CmpOp} (ho : op = opIn neg) (hm : behindInMarks op b = false) (ha : PEd c a ta) (hb : PEd c b tb) : PTd c (.Compare a [op] [b] pos) (tIn neg ta tb) := fun G S Q h => by
  subst ho
  refine wt_cmp (P := fun x y S Q => dIn neg x y S Q) (op_in (by have := c.hr.units; omega) neg) hm (fun Bl B σ H x y vx vy S Q s R rx ry h => ?_) ((ha G S _ h).mono fun x S1 h1 => hb G S1 _ h1)
  exact in_core R rx ry h fun k q => ⟨k, rfl, B, S, s, R, q⟩
theorem d_in' (ha : PEd c a ta) (hb : PEd c b tb) (hm : behindInMarks .In b = false := by rfl) : PEd c (.Compare a [.In] [b] pos) (eIn false ta tb) := in_w false rfl hm ha hb
theorem dt_in' (ha : PEd c a ta) (hb : PEd c b tb) (hm : behindInMarks .In b = false := by rfl) : PTd c (.Compare a [.In] [b] pos) (tIn false ta tb) := in_t false rfl hm ha hb
theorem dt_ni (ha : PEd c a ta) (hb : PEd c b tb) (hm : behindInMarks .NotIn b = false := by rfl) : PTd c (.Compare a [.NotIn] [b] pos) (tIn true ta tb) := in_t true rfl hm ha hb
/-! ### reversed(range(n)) -/
end
end DL
end

section
set_option autoImplicit false
set_option maxRecDepth 100000
set_option maxHeartbeats 4000000
namespace DL
open PySem PySem.Spec PyProof.Rows L2
open PySem.W (Frag)
/-! ### refusals: raised -/
def XN.ix : XN → Nat
  | .NoughtError => 0 | .NoRow => 1 | .NoBack => 2 | .NothingPut => 3 | .NoMeasure => 4 | .NoPaper => 5 | .TooMany => 6 | .NoNumbers => 7 | .NoLead => 8
  | .NoFit => 9 | .NoInverse => 10 | .NoShort => 11 | .NoLadder => 12 | .NoText => 13 | .NoLine => 14 | .NoName => 15 | .Held => 16 | .NoDrop => 17
/-- whether the one is of the other's class: all are NoughtErrors, else each is its own only -/
def isub (n o : XN) : Bool := match o with
  | .NoughtError => true
  | o => n.ix.beq o.ix
def raiseF (fl : List Str) (ds : List D) (P : List (Str × D) → Prop) : Prop := match fl, ds with
  | [f], [d] => P [(f, d)]
  | [f, g], [d, e] => P [(g, e), (f, d)]
  | _, _ => False
def sRaise (n : XN) (fl : List Str) (EX : EXG) (t : TAd) : TSd := fun _ G S => t G S fun ds S1 => raiseF fl ds fun fs => EX G n fs S1
/-- what __init__ of a refusal with one or two fields does -/
def spI1 (C : Addr) (f : Str) : Sp := fun vs H Q E => ∃ a y, vs = [.ref a, y] ∧ H a = some (exo a C none) ∧ ∀ dx, H dx = none → dx ≠ a → Q .non (upd (upd H dx (exd dx [(f, y)])) a (exo a C (some dx)))
def spI2 (C : Addr) (f g : Str) : Sp := fun vs H Q E => ∃ a y z, vs = [.ref a, y, z] ∧ H a = some (exo a C none) ∧ ∀ dx, H dx = none → dx ≠ a → Q .non (upd (upd (upd H dx (exd dx [(f, y)])) a (exo a C (some dx))) dx (exd dx [(g, z), (f, y)]))
def spI (C : Addr) (fl : List Str) : Sp := match fl with
  | [f] => spI1 C f
  | [f, g] => spI2 C f g
  | _ => fun _ _ _ _ => False
/-- a refusal's class with its own __init__, with room to call it -/
def ExD (m : Mo) (n : XN) (k : Nat) (fl : List Str) : Prop := ∃ (C fI : Addr) (fd : FuncData) (ps : List Str), CN m.K n.str C ∧ m.mg n.str = some (.ref C) ∧ OexC m.K C ∧
  PySem.W.findIn m.K (.ref C) "__init__" = some (some (.ref fI)) ∧ PySem.W.typeIn m.K (.ref fI) = some (.type "function") ∧ FnOk m.P m.w m.K m.mg m.base (L2.CX m.P m.w) k fI fd ps (spI C fl) ∧ Binds m.K fd ps []
theorem del_heap {H : Hp} {a dx : Addr} {o1 o2 : HO} (na : H a = none) {H2 : Hp} (h : ∀ b, b ≠ a → b ≠ dx → H2 b = H b) (ne : dx ≠ a) : upd (del H2 a) dx o2 = upd H dx o2 := by
  funext b
  by_cases hd : b = dx
  · subst hd
    rw [upd_same, upd_same]
  · rw [upd_ne hd, upd_ne hd]
    by_cases hb : b = a
    · subst hb
      rw [del_same, na]
    · rw [del_ne hb, h b hb hd]
section
variable {c : CD} {e a b d : Expr} {es : List Expr} {pos p p2 pos2 : Pos} {x : Str} {tas : TAd} {ls : List (Option NameKind)} {gs : List Str} {G : Loc} {S : Sto}
theorem ds_raise [Calm c] (φ : Fx c.X ls gs) (j : Nat) {n : XN} {k : Nat} {fl : List Str} (F : ExD c.X.mo n k fl) (hk : k + 1 ≤ c.k) (ha : PAd c (e :: es) tas) (hj : gs[j]? = some x := by rfl) (hn : x = n.str := by rfl)
    (he : starEach (e :: es) c.X.env = (false, eval e c.X.env) :: starEach es c.X.env := by rfl) (hpl : (backTo pos (starEach es c.X.env)).any (·.1) = false := by rfl) :
    PSd c (.Raise (some (.Call (.Name x p) (e :: es) [] pos)) none pos2) (sRaise n fl c.EX tas) := fun E G S h B σ H R => by
  subst hn
  obtain ⟨C, fI, fd, ps, cn, hm, T, iC, tI, hf, hb⟩ := F
  refine tS_of (ps_raise (Calm.calm (c := c)) c.tk (pmk_oex (sp := spI C fl) (ds := []) (dvs := []) T iC tI hf (CD.room hk) hb .nil passL (φ.gl j _ hj).1 hm (pa_self (e :: es)) (φ.gl j _ hj).2.1 he hpl)) ?_
  refine tA_mono (ha G S _ h B σ H R) fun vs H1 ⟨B1, ds, S1, s1, R1, r1, h1⟩ => ?_
  match fl, ds, h1 with
  | [f], [d], h1 =>
    obtain ⟨v, r2, e1, rv, e2⟩ := r1
    subst e2; subst e1
    refine ⟨by show 1 ≤ 1000; decide, fun a na => ⟨a, v, rfl, upd_same, fun dx ndx ne => ⟨rfl, dx, [(f, v)], upd_same, by rw [upd_ne ne, upd_same], by rw [upd_ne ne] at ndx; exact ndx, ?_⟩⟩⟩
    have ndx' : H1 dx = none := by rw [upd_ne ne] at ndx; exact ndx
    rw [del_heap (o1 := .xd []) na (fun b hb hd => by rw [upd_ne hb, upd_ne hd, upd_ne hb]) ne]
    exact ⟨n, C, [(f, d)], S1, B1, G, cn, rfl, .inr ⟨dx, rfl, by simp, R1.cell (c := .xd [(f, d)]) ndx' ⟨[(f, v)], upd_same, v, [], rfl, rv, rfl⟩⟩, h1⟩
  | [f, g], [d, e'], h1 =>
    obtain ⟨v, r2, e1, rv, w, r3, e3, rw', e2⟩ := r1
    subst e2; subst e3; subst e1
    refine ⟨by show 2 ≤ 1000; decide, fun a na => ⟨a, v, w, rfl, upd_same, fun dx ndx ne => ⟨rfl, dx, [(g, w), (f, v)], by rw [upd_ne ne.symm, upd_same], upd_same, by rw [upd_ne ne] at ndx; exact ndx, ?_⟩⟩⟩
    have ndx' : H1 dx = none := by rw [upd_ne ne] at ndx; exact ndx
    rw [del_heap (o1 := .xd []) na (fun b hb hd => by rw [upd_ne hd, upd_ne hb, upd_ne hd, upd_ne hb]) ne]
    exact ⟨n, C, [(g, e'), (f, d)], S1, B1, G, cn, rfl, .inr ⟨dx, rfl, by simp, R1.cell (c := .xd [(g, e'), (f, d)]) ndx' ⟨[(g, w), (f, v)], upd_same, w, _, rfl, rw', v, [], rfl, rv, rfl⟩⟩, h1⟩
end
/-! ### the own __init__ of a refusal -/
theorem fx_cx {CX : CXT} {P : Program} {w : World} {K : Frag} {mg : Str → Option Value} {base : Heap} {N : List Str} {qual : Str} {sc : Scope} {f : Addr} {cdv : Value} {A : Around} {outer : List Env} {s : Shared} {H : Hp} {E : XK} {ls : List (Option NameKind)} {gs : List Str} (h : fxC N sc ls gs = true) :
    Fx (cxOf CX P w K mg base N qual sc f cdv A outer s H E) ls gs := by
  obtain ⟨h1, h2, h3, h4⟩ := fxC_get h
  exact ⟨h2, h3, h4, h1⟩
theorem pv_of {X : Cx} {ls : List (Option NameKind)} {gs : List Str} {x : Str} {pos : Pos} (φ : Fx X ls gs) (i : Nat) (hN : X.N[i]? = some x) (hv : visK (ls.getD i none) = true) : PE X (.Name x pos) (tVar i) :=
  pe_var hN (vis_of (φ.kd i x hN) hv) (φ.dbg i x hN).1 (φ.dbg i x hN).2
theorem init1_ok {m : Mo} {qual fld at_ : Str} {st : Stmt} {f C : Addr} {fd : FuncData} {vm : V} (F : L2.Fun m.K "__init__" qual st f fd) (Sc : FnScope ["self", at_] ["self", at_] (defScope st)) (hno : PySem.W.findIn m.K (.ref C) fld = some none) (O : OexC m.K C)
    (hb : ∀ (cdv : Value) (A : Around) (outer : List Env) (s : Shared) (H : Hp) (E : XK), PSs (cxOf (L2.CX m.P m.w) m.P m.w m.K m.mg m.base ["self", at_] qual (defScope st) f cdv A outer s H E) (defBody st)
      (tSeq (L2.tDrop (tVeI m.K (tCons (tVar 0) (tCons (tC vm) tNil)))) (tOst m.K fld (tVar 0) (tVar 1)))) : FnOk m.P m.w m.K m.mg m.base (L2.CX m.P m.w) 1 f fd ["self", at_] (spI C [fld]) := by
  refine F.okX Sc (fun vs H Q E h => ?_) (fun cdv A outer s H vs Q E hr h => ⟨_, hb cdv A outer s H E, ?_⟩)
  · obtain ⟨a, y, rfl, _⟩ := h
    rfl
  · obtain ⟨a, y, rfl, ea, q⟩ := h
    exact ⟨.ref a, rfl, a, C, [vm], rfl, by show 1 ≤ 1000; decide, O, ea, y, rfl, .ref a, rfl, a, C, rfl, O, hno, .inl ⟨ea, fun dx n ne => q dx n ne⟩⟩
end DL
end

section
set_option autoImplicit false
set_option maxRecDepth 100000
set_option maxHeartbeats 4000000
namespace DL
open PySem PySem.Spec PyProof.Rows L2
open PySem.W (Frag)
/-! ### refusals: caught -/
def isR (a : Addr) (d : D) (P : Prop) : Prop := match d with
  | .ref b => b = a ∧ P
  | _ => False
/-- the cell of the exception's fields goes -/
def dropH (P : Sto → Prop) (S : Sto) : Prop := match S with
  | _ :: S2 => P S2
  | [] => False
def sufE0 (i : Nat) (E : DE) : DE := { nx := fun G S => E.nx (G.set i none) S, rt := E.rt, bk := fun G S => E.bk (G.set i none) S, ct := fun G S => E.ct (G.set i none) S }
def sufE1 (i : Nat) (E : DE) : DE := { nx := fun G => dropH (E.nx (G.set i none)), rt := fun d => dropH (E.rt d), bk := fun G => dropH (E.bk (G.set i none)), ct := fun G => dropH (E.ct (G.set i none)) }
def tryX (kn : XN → Bool) (o : XN) (i : Nat) (ts : Addr → XN → Option Addr → TSd) (E : DE) (EX : EXG) : EXG := fun G n fs S => kn n = true ∧ (isub n o = true → inG G i (∃ S0 : Sto, S0.Sublist S ∧ ∀ a, match fs with
  | [] => ts a n none (sufE0 i E) (G.set i (some (.ref a))) S0
  | f :: r => ∀ dd, ts a n (some dd) (sufE1 i E) (G.set i (some (.ref a))) ((dd, .xd (f :: r)) :: S0))) ∧ (isub n o = false → EX G n fs S)
/-- try: .. except o as v: .. -/
def sTryA (kn : XN → Bool) (o : XN) (i : Nat) (ts : Addr → XN → Option Addr → TSd) (tb : EXG → TSd) (EX : EXG) : TSd := fun E G S => tb (tryX kn o i ts E EX) E G S
/-- the context of a try's body -/
def trC (c : CD) (pn : List (Addr × Obj)) (xe : Value → Shared → Prop) (B : Hp) (EX : EXG) (tk : Takes (c.X.tr pn xe) (XW c.X.K B EX)) : CD where
  X := c.X.tr pn xe
  B0 := B
  EX := EX
  k := c.k
  tk := tk
  hr := c.hr
  nd := c.nd
  sr := ⟨c.sr.ns, c.sr.tree, c.sr.top⟩
instance calm_tr {c : CD} [q : Calm c] {pn : List (Addr × Obj)} {xe : Value → Shared → Prop} {B : Hp} {EX : EXG} {tk} : Calm (trC c pn xe B EX tk) := ⟨q.calm, q.hd⟩
/-- the context of an except suite -/
def suC (c : CD) (a : Addr) (oe : Obj) (pn : List (Addr × Obj)) (B : Hp) : CD where
  X := c.X.suite a ((a, oe) :: pn)
  B0 := B
  EX := fun _ _ _ _ => False
  k := c.k
  tk := fun u s' x => by
    obtain ⟨_, _, _, _, _, _, _, _, _, _, _, _, _, _, _, _, z⟩ := x
    obtain ⟨_, _, _, _, _, _, _, _, _, z⟩ := z
    exact z.elim
  hr := ⟨c.hr.dp, c.hr.un⟩
  nd := c.nd
  sr := ⟨c.sr.ns, c.sr.tree, c.sr.top⟩
theorem fx_tr {c : CD} {pn : List (Addr × Obj)} {xe : Value → Shared → Prop} {B : Hp} {EX : EXG} {tk} {ls : List (Option NameKind)} {gs : List Str} (φ : Fx c.X ls gs) : Fx (trC c pn xe B EX tk).X ls gs := ⟨φ.dbg, φ.kd, φ.gl, φ.fk⟩
theorem fx_su {c : CD} {a : Addr} {oe : Obj} {pn : List (Addr × Obj)} {B : Hp} {ls : List (Option NameKind)} {gs : List Str} (φ : Fx c.X ls gs) : Fx (suC c a oe pn B).X ls gs := ⟨φ.dbg, φ.kd, φ.gl, φ.fk⟩
theorem Rel.unset {K : Frag} {B0 B H : Hp} {G : Loc} {S : Sto} {σ : L2.St} (R : Rel K B0 B G S σ H) (i : Nat) : Rel K B0 B (G.set i none) S (σ.set i none) H :=
  ⟨R.toRelH, by rw [List.length_set, List.length_set]; exact R.len, fun j d h => by
    by_cases ej : j = i
    · subst ej
      by_cases hi : j < G.length
      · rw [List.getElem?_set_self hi] at h
        cases h
      · rw [List.getElem?_eq_none (by rw [List.length_set]; omega)] at h
        cases h
    · rw [List.getElem?_set_ne (Ne.symm ej)] at h
      obtain ⟨v, h1, h2⟩ := R.loc j d h
      exact ⟨v, by rw [List.getElem?_set_ne (Ne.symm ej)]; exact h1, h2⟩⟩
theorem Rel.base {K : Frag} {B0 B B' H : Hp} {G : Loc} {S : Sto} {σ : L2.St} (s : Same B0 B) (R : Rel K B B' G S σ H) : Rel K B0 B' G S σ H := ⟨⟨s.trans R.lo, R.sub, R.cel, R.nd⟩, R.len, R.loc⟩
theorem RelH.base {K : Frag} {B0 B B' H : Hp} {S : Sto} (s : Same B0 B) (R : RelH K B B' S H) : RelH K B0 B' S H := ⟨s.trans R.lo, R.sub, R.cel, R.nd⟩
/-- what the clause asks of the module -/
def TryF (m : Mo) (kn : XN → Bool) (o : XN) : Prop := ∃ Co, CN m.K o.str Co ∧ m.mg o.str = some (.ref Co) ∧ ∀ n, kn n = true → ∃ Cn, CN m.K n.str Cn ∧ PySem.W.exmOne m.K (.ref Cn) (.ref Co) = some (isub n o)
section
variable {c : CD} {pos pos' np : Pos} {x nm : Str} {ls : List (Option NameKind)} {gs : List Str} {body suite : List Stmt} {b0 : Stmt} {kn : XN → Bool} {o : XN} {tb : EXG → TSd}
theorem ds_tryB [Calm c] (φ : Fx c.X ls gs) (j i : Nat) {ts : Addr → XN → Option Addr → TSd} (F : TryF c.X.mo kn o)
    (hb : ∀ pn xe B EX tk, Same c.B0 B → PSsd (trC c pn xe B EX tk) body (tb EX))
    (hsu : ∀ a oe pn B n Cn d, kn n = true → CN c.X.K n.str Cn → Zc (.ref Cn) d oe → (∃ vs, oe.data = .fields vs) → PSsd (suC c a oe pn B) (b0 :: suite) (ts a n d))
    (hi : c.X.N[i]? = some nm := by rfl) (hki : isLocK (ls.getD i none) = true := by rfl) (hj : gs[j]? = some x := by rfl) (hn : x = o.str := by rfl) (hs : c.X.stack = c.X.env :: c.X.outer := by rfl) (hf : c.X.env.frame = some c.X.env.locals := by rfl) :
    PSd c (.Try body [.ExceptHandler (some (.Name x np)) (some nm) (b0 :: suite) pos'] [] [] pos) (sTryA kn o i ts tb c.EX) := fun E G S h B σ H R => by
  subst hn
  obtain ⟨Co, cno, hmo, hF⟩ := F
  refine tS_of (ps_try_as (i := i) (tb := fun W D σ H => ∀ pn xe, Takes (c.X.tr pn xe) W → tSs (c.X.tr pn xe) body D σ H) (ts := fun a cls d D σ H => ∀ oe pn, Zc cls d oe → (∃ vs, oe.data = .fields vs) → tSs (c.X.suite a ((a, oe) :: pn)) (b0 :: suite) D σ H)
    (Wout := XW c.X.K c.B0 c.EX) hs hf c.nd hi (isLoc_of (φ.kd i nm hi) hki) ⟨(φ.gl j _ hj).1, (φ.gl j _ hj).2.1, .inl hmo⟩ c.tk (fun W pn xe tk _ => ⟨fun pins s σ H D I h => h pn xe tk pins s I⟩) (fun a oe cls d pn hz hfl => ⟨fun pins s σ H D I h => h oe pn hz hfl pins s I⟩)) ?_
  intro pn xe tkW
  have sB : Same c.B0 B := R.lo
  have R0 : Rel c.X.K B B G S σ H := ⟨⟨Same.refl _, R.sub, R.cel, R.nd⟩, R.len, R.loc⟩
  have tk' : Takes (c.X.tr pn xe) (XW c.X.K B (tryX kn o i ts E c.EX)) := tkW.imp fun cls d σ' H' ⟨n, C, fs, S', B', G', cn, e, h1, k1, hy, hno⟩ => by
    obtain ⟨Cn, cn2, hx⟩ := hF n k1
    have := CN.inj cn cn2
    subst this
    subst e
    refine ⟨isub n o, hx, fun hb a na oe pn2 hz hfl => ?_, fun hb => ⟨n, C, fs, S', B', G', cn, rfl, ?_, hno hb⟩⟩
    · obtain ⟨hG, S0, hS0, hall⟩ := inG_get (hy hb)
      rcases h1 with ⟨rfl, rfl, R'⟩ | ⟨dd, rfl, ne, R'⟩
      · have J := hsu a oe pn2 B n C none k1 cn hz hfl (sufE0 i E) _ _ (hall a) B' _ _ ((R'.drop hS0).set hG rfl)
        refine tSs_mono J ⟨?_, ?_, ?_, ?_⟩
        · rintro σ2 H2 ⟨B2, G2, S2, s2, R2, q⟩
          exact ⟨B2, _, S2, R'.lo.trans s2, (R2.unset i).base sB, q⟩
        · rintro v H2 ⟨B2, d2, S2, s2, R2, r2, q⟩
          exact ⟨B2, d2, S2, R'.lo.trans s2, R2.base sB, r2, q⟩
        · rintro σ2 H2 ⟨B2, G2, S2, s2, R2, q⟩
          exact ⟨B2, _, S2, R'.lo.trans s2, (R2.unset i).base sB, q⟩
        · rintro σ2 H2 ⟨B2, G2, S2, s2, R2, q⟩
          exact ⟨B2, _, S2, R'.lo.trans s2, (R2.unset i).base sB, q⟩
      · match fs, ne with
        | f :: r, _ =>
          have J := hsu a oe pn2 B n C (some dd) k1 cn hz hfl (sufE1 i E) _ _ (hall a dd) B' _ _ ((R'.drop (hS0.cons_cons _)).set hG rfl)
          refine tSs_mono J ⟨?_, ?_, ?_, ?_⟩
          · rintro σ2 H2 ⟨B2, G2, S2, s2, R2, q⟩
            match S2, q with
            | _ :: S3, q => exact ⟨B2, _, S3, R'.lo.trans s2, ((R2.unset i).base sB).drop (List.sublist_cons_self _ _), q⟩
          · rintro v H2 ⟨B2, d2, S2, s2, R2, r2, q⟩
            match S2, q with
            | _ :: S3, q => exact ⟨B2, d2, S3, R'.lo.trans s2, (R2.base sB).drop (List.sublist_cons_self _ _), r2, q⟩
          · rintro σ2 H2 ⟨B2, G2, S2, s2, R2, q⟩
            match S2, q with
            | _ :: S3, q => exact ⟨B2, _, S3, R'.lo.trans s2, ((R2.unset i).base sB).drop (List.sublist_cons_self _ _), q⟩
          · rintro σ2 H2 ⟨B2, G2, S2, s2, R2, q⟩
            match S2, q with
            | _ :: S3, q => exact ⟨B2, _, S3, R'.lo.trans s2, ((R2.unset i).base sB).drop (List.sublist_cons_self _ _), q⟩
    · rcases h1 with ⟨e1, e2, R'⟩ | ⟨dd, e1, ne, R'⟩
      · exact .inl ⟨e1, e2, R'.base sB⟩
      · exact .inr ⟨dd, e1, ne, R'.base sB⟩
  have J := hb pn xe B _ tk' sB E G S h B σ H R0
  refine tSs_mono J ⟨?_, ?_, ?_, ?_⟩
  · rintro σ2 H2 ⟨B2, G2, S2, s2, R2, q⟩
    exact ⟨B2, G2, S2, s2, R2.base sB, q⟩
  · rintro v H2 ⟨B2, d2, S2, s2, R2, r2, q⟩
    exact ⟨B2, d2, S2, s2, R2.base sB, r2, q⟩
  · rintro σ2 H2 ⟨B2, G2, S2, s2, R2, q⟩
    exact ⟨B2, G2, S2, s2, R2.base sB, q⟩
  · rintro σ2 H2 ⟨B2, G2, S2, s2, R2, q⟩
    exact ⟨B2, G2, S2, s2, R2.base sB, q⟩
theorem ds_tryA [Calm c] (φ : Fx c.X ls gs) (j i : Nat) {ts : Addr → XN → Option Addr → TSd} (F : TryF c.X.mo kn o)
    (hb : ∀ pn xe B EX tk, PSsd (trC c pn xe B EX tk) body (tb EX))
    (hsu : ∀ a oe pn B n Cn d, kn n = true → CN c.X.K n.str Cn → Zc (.ref Cn) d oe → (∃ vs, oe.data = .fields vs) → PSsd (suC c a oe pn B) (b0 :: suite) (ts a n d))
    (hi : c.X.N[i]? = some nm := by rfl) (hki : isLocK (ls.getD i none) = true := by rfl) (hj : gs[j]? = some x := by rfl) (hn : x = o.str := by rfl) (hs : c.X.stack = c.X.env :: c.X.outer := by rfl) (hf : c.X.env.frame = some c.X.env.locals := by rfl) :
    PSd c (.Try body [.ExceptHandler (some (.Name x np)) (some nm) (b0 :: suite) pos'] [] [] pos) (sTryA kn o i ts tb c.EX) := ds_tryB φ j i F (fun pn xe B EX tk _ => hb pn xe B EX tk) hsu hi hki hj hn hs hf
end
end DL
end

section
set_option autoImplicit false
set_option maxRecDepth 100000
set_option maxHeartbeats 4000000
namespace DL
open PySem PySem.Spec PyProof.Rows L2
open PySem.W (Frag)
/-! ### what a suite asks of the exception -/
section
open PySem.W
variable {prog : Program} {w : World} {A : Around} {E : Value → Shared → Prop} {s : Shared} {K : Frag} {x D : Addr} {ox : Obj}
theorem findObj_dataN' {C : Addr} {name : Str} {a g : Value} {od : Option Obj} (hc : (clsIn K C).isSome = true) (ha : findIn K (.ref C) name = some (some a)) (hg : specialIn K a "__get__" = some (some g)) (ht : takesIn K a = some true) : findObj K C od name = some (.bind g a) := by
  obtain ⟨cd, hc⟩ := Option.isSome_iff_exists.mp hc
  unfold findObj
  rw [hc, Option.bind_some, ha, Option.bind_some]
  simp [hg, ht]
theorem kin_classE' {od : Option Obj} {Q : Option Value → Shared → Prop} (hga : findIn K (.ref D) "__getattribute__" = some (some (.builtin "BaseException.__getattribute__"))) (hgt : findIn K (.ref D) "__getattr__" = some none) (hsub : subIn K (.ref D) (.type "BaseException") = some true)
    (hdct : hasDictIn K D = true) (ha : findIn K (.ref D) "__class__" = some (some (.builtin "object.__class__")))
    (hn : specialIn K (.builtin "object.__class__") "__get__" = some (some (.builtin "getset_descriptor.__get__"))) (htk : takesIn K (.builtin "object.__class__") = some true) (hm : mroIn K D (.type "object") = some true)
    (X : K.In s.heap) (I : InstAt s.heap x ox D od) (h : Q (some (.ref D)) { s with toks := s.toks + 1 }) : wpAny (model prog w) A (getAttr? (.ref x) "__class__") Q E s := by
  have hf : findObj K D od "__class__" = some (.bind (.builtin "getset_descriptor.__get__") (.builtin "object.__class__")) := findObj_dataN' (by obtain ⟨cd, hc, _⟩ := any_some hdct; rw [hc]; rfl) ha hn htk
  obtain ⟨hp, g, d, t, os⟩ := s
  have L0 := I.type (M := model prog w)
  have L1 := looks_findIn (M := model prog w) X hga
  have L2 := looks_findIn (M := model prog w) X hgt
  have L3 := looks_find (M := model prog w) X I hf
  have sub : Looks (model prog w) hp (isInstance (.ref x) (.type "BaseException")) true := L0.andThen (looks_subIn X hsub)
  have hx0 : (false && onTheHeap (Value.builtin "BaseException.__getattribute__")) = false := rfl
  have hx2 : (Value.builtin "BaseException.__getattribute__" == Value.builtin "object.__getattribute__") = false := by decide +kernel
  have hx1 : (onTheHeap (Value.ref D) && Value.builtin "BaseException.__getattribute__" == Value.builtin "object.__getattribute__") = false := by rw [hx2]; rfl
  unfold getAttr? getAttrBy? getAttrBy
  refine wpAny_bind (wpAny_mkText (wpAny_bind (wpAny_attempt (wpAny_holding (wpAny_bind (L0.at (wpAny_bind (L1.at ?_))))))))
  show wpAny _ _ (if (onTheHeap (Value.ref D) && Value.builtin "BaseException.__getattribute__" == Value.builtin "object.__getattribute__") = true then _ else _) _ _ _
  rw [hx1, if_neg Bool.false_ne_true]
  unfold getAttrByItsOwn hookBefore
  refine wpAny_bind ?_
  rw [if_pos (show onTheHeap (Value.ref D) = true from rfl)]
  refine L2.at ?_
  refine wpAny_bind (wpAny_attempt (wpAny_holding ?_))
  unfold callGetattribute
  rw [hx0, if_neg Bool.false_ne_true]
  unfold boundAndCalled
  rw [PySem.F.excAttr_ValueError.ga.bind (.ref x)]
  refine wpAny_bind (wpAny_pure ?_)
  show wpAny _ _ (call (.builtin "BaseException.__getattribute__") [.ref x, .str "__class__" t]) _ _ _
  refine wpAny_call (codeAny_call_builtin PySem.F.excAttr_ValueError.ga.plain PySem.F.entry_bexc_ga ?_)
  refine @check_slot (model prog w) _ _ ⟨hp, g, d, t + 1, os⟩ "BaseException.__getattribute__" "BaseException" "__getattribute__" (.ref x) [.str "__class__" t] [] _ (by decide +kernel) (by decide +kernel) sub (PySem.F.args_bexc_ga (.ref x) (.str "__class__" t)) ?_
  unfold Builtin.«object.__getattribute__»
  refine wpAny_bind (wpAny_of_eq (a := ((Value.ref x : Value), [Value.str "__class__" t])) (by first | rfl | (simp only [slotArgs]; rfl)) ?_)
  refine wpAny_bind (wpAny_pure (wpAny_bind (L0.at (wpAny_bind (L3.at ?_)))))
  show wpAny _ _ (holding [Value.builtin "object.__class__"] (call (.builtin "getset_descriptor.__get__") [.builtin "object.__class__", .ref x, .ref D]) >>= ret) _ _ _
  refine wpAny_bind (wpAny_holding (wpAny_call (class_get (s := ⟨hp, g, d, t + 1, os⟩) (ox := ox) (od := od) X I hm ?_)))
  refine wpAny_pure ?_
  show wpAny _ _ (handedOut (.ref D)) _ _ _
  rw [handedOut_of (v := .ref D) rfl]
  first
    | exact wpAny_pure (wpAny_pure h)
    | exact wpAny_pure h
    | exact wpAny_pure (wpAny_bind (wpAny_pure (wpAny_pure h)))
theorem kitx_exc' (hga : findIn K (.ref D) "__getattribute__" = some (some (.builtin "BaseException.__getattribute__"))) (hgt : findIn K (.ref D) "__getattr__" = some none) (hsub : subIn K (.ref D) (.type "BaseException") = some true) (hdct : hasDictIn K D = true) (ha : findIn K (.ref D) "__class__" = some (some (.builtin "object.__class__")))
    (hn : specialIn K (.builtin "object.__class__") "__get__" = some (some (.builtin "getset_descriptor.__get__"))) (htk : takesIn K (.builtin "object.__class__") = some true) (hm : mroIn K D (.type "object") = some true) :
    KitX K (.ref x) (.ref D) (fun h => ∃ od, InstAt h x ox D od) where
  ty := fun _ _ _ ⟨od, I⟩ => I.type
  it := fun _ _ X _ => by
    obtain ⟨cdD, hcD, _⟩ := any_some hdct
    unfold clsIn at hcD
    split at hcD
    · rename_i c' d' cd' sl' ho
      intro A' Q' E' s' k q
      unfold isType loadHead
      exact wpAny_bind (wpAny_loadPart (k _ _ (X _ _ ho)) (wpAny_pure q))
    · cases hcD
  ne := fun h tp dd its n sl X htp => by
    obtain ⟨cdD, hcD, _⟩ := any_some hdct
    refine Bool.eq_false_iff.mpr fun q => ?_
    have e : D = tp := Value.ref.inj (beq_iff_eq.mp q)
    subst e
    unfold clsIn at hcD
    split at hcD
    · rename_i c' d' cd' sl' ho
      have z := (X _ _ ho).symm.trans htp
      cases z
    · cases hcD
  ca := fun X ⟨od, I⟩ k => kin_classE' hga hgt hsub hdct ha hn htk hm X I k
end
/-- isinstance(e, c), e the exception that the suite holds -/
def rIsX (K : Frag) (D a : Addr) (d : Option Addr) : List V → Hp → VK → Prop := fun xs H Q => ∃ (c : V) (b : Bool), xs = [.ref a, c] ∧ (∀ dd, d = some dd → ∃ fs, H dd = some (.xd fs)) ∧ Q (.bl b) H ∧
  ((∃ cv : Value, (∀ u, RelV c u → u = cv) ∧ PySem.W.kitOne K (.ref D) cv = some b) ∨ ∃ (tp : Addr) (cs : List Addr), c = .ref tp ∧ SqT K H tp (cs.map V.ref) ∧ PySem.W.kitAny K (.ref D) (cs.map Value.ref) = some b)
theorem vals_refs : ∀ {cs : List Addr} {us : List Value}, Vals (cs.map V.ref) us → us = cs.map Value.ref
  | [], us, h => by cases h; rfl
  | c :: cs, us, h => by
    cases h with
    | cons r rs =>
      rename_i u us'
      have r' : u = Value.ref c := r
      rw [r', vals_refs rs]
      rfl
theorem call_isX {X : Cx} {a D : Addr} {oe : Obj} {d : Option Addr} {pn : List (Addr × Obj)} (C : ExcC X.K D) (hz : Zc (.ref D) d oe) (hf : ∃ vs, oe.data = .fields vs) : CallR (X.suite a ((a, oe) :: pn)) (.builtin "isinstance") (rIsX X.K D a d) := by
  intro pins s σ H xs us Q I r h
  obtain ⟨c, b, rfl, hd, q, h⟩ := h
  cases r with
  | cons rx rr =>
    cases rr with
    | cons rt rr =>
      cases rr
      cases rx
      obtain ⟨hget, _⟩ := I.pin (a, oe) (List.mem_append.mpr (.inl List.mem_cons_self))
      obtain ⟨vs, hv⟩ := hf
      have J : ∃ od, PySem.W.InstAt s.heap a oe D od := by
        obtain ⟨h1, h2⟩ := hz
        cases d with
        | none => exact ⟨none, hget, h1, by unfold PySem.W.notCls; rw [hv] <;> rfl, by rw [h2]; trivial⟩
        | some dd =>
          obtain ⟨fs, ef⟩ := hd dd rfl
          have hx : ObjOk X.prog X.w H s.heap dd (.xd fs) := I.hok dd _ ef
          obtain ⟨mA, hns, hr⟩ := hx
          obtain ⟨od, ho, hl⟩ := lookIn_ns hns
          exact ⟨some od, hget, h1, by unfold PySem.W.notCls; rw [hv] <;> rfl, by rw [h2]; exact ho⟩
      rcases h with ⟨cv, hcv, e⟩ | ⟨tp, cs, rfl, hs, e⟩
      · have ec := hcv _ rt
        subst ec
        exact PySem.W.kia_one (kitx_exc' C.hg C.hk C.hs C.hd C.ha C.hn C.ht C.hm) I.kIn J e (fun z => nomatch z) fun tk => ⟨.bl b, H, I.kept (t' := tk) fun _ _ z => z, rfl, q⟩
      · cases rt
        obtain ⟨its, rv, ⟨o, ho, hc, n, hdat⟩, _⟩ := I.tuple hs
        have ei := vals_refs rv
        subst ei
        obtain ⟨oc, od, oda, osl⟩ := o
        dsimp only at hc hdat
        subst hc; subst hdat
        exact PySem.W.kia_tup (kitx_exc' C.hg C.hk C.hs C.hd C.ha C.hn C.ht C.hm) I.kIn J ho e (fun z => nomatch z) fun tk => ⟨.bl b, H, I.kept (t' := tk) fun _ _ z => z, rfl, q⟩
/-! ### by data -/
def headX (d : Option Addr) (S : Sto) (P : Prop) : Prop := match d with
  | none => P
  | some b => match S with
    | (b', .xd _) :: _ => b' = b ∧ P
    | _ => False
def fldX (d : Option Addr) (S : Sto) (f : Str) (P : D → Prop) : Prop := match d with
  | none => False
  | some b => match S with
    | (b', .xd fs) :: _ => b' = b ∧ ∃ v, fs.lookup f = some v ∧ P v
    | _ => False
/-- isinstance(e, o), e the exception, of the class n -/
def eIsX (i : Nat) (a : Addr) (n : XN) (d : Option Addr) (o : XN) : TEd := fun G S Q => rd G i fun x => isR a x (headX d S (Q (.bl (isub n o)) S))
def eIsXs (i : Nat) (a : Addr) (n : XN) (d : Option Addr) (os : List XN) : TEd := fun G S Q => rd G i fun x => isR a x (headX d S (Q (.bl (os.any (isub n))) S))
def eIsV (i : Nat) (a : Addr) (d : Option Addr) : TEd := fun G S Q => rd G i fun x => isR a x (headX d S (Q (.bl true) S))
/-- e.f -/
def eXf (i : Nat) (a : Addr) (d : Option Addr) (f : Str) : TEd := fun G S Q => rd G i fun x => isR a x (fldX d S f fun v => Q v S)
/-- what the module tells of the classes -/
def IsXF (m : Mo) (kn : XN → Bool) (o : XN) : Prop := ∃ Co, m.mg o.str = some (.ref Co) ∧ ∀ n, kn n = true → ∃ Cn, CN m.K n.str Cn ∧ ExcC m.K Cn ∧ PySem.W.kitOne m.K (.ref Cn) (.ref Co) = some (isub n o)
def IsVF (m : Mo) (kn : XN → Bool) : Prop := ∀ n, kn n = true → ∃ Cn, CN m.K n.str Cn ∧ ExcC m.K Cn ∧ PySem.W.kitOne m.K (.ref Cn) (.type "ValueError") = some true
def XfF (m : Mo) (kn : XN → Bool) (f : Str) : Prop := ∀ n, kn n = true → ∃ Cn, CN m.K n.str Cn ∧ XfC m.K Cn ∧ PySem.W.findIn m.K (.ref Cn) f = some none
section
variable {c : CD} {a : Addr} {oe : Obj} {pn : List (Addr × Obj)} {B : Hp} {ls : List (Option NameKind)} {gs : List Str} {kn : XN → Bool} {n o : XN} {Cn : Addr} {d : Option Addr} {x v : Str} {p p1 p2 pos : Pos} {es : List Expr}
def PIs (a : Addr) (d : Option Addr) (t : D) (b : Bool) : DCall := fun ds S Q => ds = [.ref a, t] ∧ headX d S (Q (.bl b) S)
theorem headX_get {K : Frag} {B0 B H : Hp} {G : Loc} {S : Sto} {σ : L2.St} {P : Prop} (R : Rel K B0 B G S σ H) (h : headX d S P) : (∀ dd, d = some dd → ∃ fs, H dd = some (.xd fs)) ∧ P := by
  unfold headX at h
  split at h
  · exact ⟨fun dd z => (by cases z), h⟩
  · split at h
    · obtain ⟨rfl, q⟩ := h
      refine ⟨fun dd z => ?_, q⟩
      cases z
      obtain ⟨_, vs, e, _⟩ := R.cel _ List.mem_cons_self
      exact ⟨vs, e⟩
    · exact h.elim
theorem b_isX1 {cv : Value} {b : Bool} {t : D} (ht : ∀ B w, Rep c.X.K B t w → ∀ u, RelV w u → u = cv) (hk : PySem.W.kitOne c.X.K (.ref Cn) cv = some b) : BOk (suC c a oe pn B) (rIsX c.X.K Cn a d) (PIs a d t b) := fun Bl B' G σ H ds vs S Q s R r h => by
  obtain ⟨rfl, h⟩ := h
  obtain ⟨v, r2, e1, rv, w, r3, e2, rw', e3⟩ := r
  subst e3; subst e2; subst e1
  cases rv
  obtain ⟨hd, q⟩ := headX_get R h
  exact ⟨w, b, rfl, hd, ⟨B', .bl b, S, s, R, rfl, q⟩, .inl ⟨cv, ht B' w rw', hk⟩⟩
theorem reps_refs {K : Frag} {B : Hp} : ∀ {cs : List Addr} {vs : List V}, Reps K B (cs.map D.ref) vs → vs = cs.map V.ref
  | [], vs, h => h
  | c :: cs, vs, h => by
    obtain ⟨v, r, e, h1, h2⟩ := h
    subst e
    cases h1
    rw [reps_refs h2]
    rfl
theorem b_isXs {cs : List Addr} {b : Bool} (hk : PySem.W.kitAny c.X.K (.ref Cn) (cs.map Value.ref) = some b) : BOk (suC c a oe pn B) (rIsX c.X.K Cn a d) (PIs a d (.tup (cs.map D.ref)) b) := fun Bl B' G σ H ds vs S Q s R r h => by
  obtain ⟨rfl, h⟩ := h
  obtain ⟨v, r2, e1, rv, w, r3, e2, ⟨tp, us, e4, hs, ru⟩, e3⟩ := r
  subst e4; subst e3; subst e2; subst e1
  cases rv
  obtain ⟨hd, q⟩ := headX_get R h
  have := reps_refs ru
  subst this
  exact ⟨.ref tp, b, rfl, hd, ⟨B', .bl b, S, s, R, rfl, q⟩, .inr ⟨tp, cs, rfl, sameT R.sub hs, hk⟩⟩
theorem isR_get {x : D} {P : Prop} (h : isR a x P) : x = .ref a ∧ P := by
  unfold isR at h
  split at h
  · obtain ⟨rfl, q⟩ := h
    exact ⟨rfl, q⟩
  · exact h.elim
theorem d_isX (φ : Fx (suC c a oe pn B).X ls gs) (jb jo i : Nat) (kf : kn n = true) (cn : CN c.X.K n.str Cn) (hz : Zc (.ref Cn) d oe) (hf : ∃ vs, oe.data = .fields vs) (F : IsXF c.X.mo kn o) (hm : c.X.mg "isinstance" = none)
    (hv : bootBuiltins "isinstance" = some (.builtin "isinstance")) (hj : gs[jb]? = some "isinstance" := by rfl) (hjo : gs[jo]? = some x := by rfl) (hn : x = o.str := by rfl) (hN : (suC c a oe pn B).X.N[i]? = some v := by rfl) (hvis : visK (ls.getD i none) = true := by rfl)
    (he : starEach (.Name v p1 :: [.Name x p2]) (suC c a oe pn B).X.env = (false, eval (.Name v p1) (suC c a oe pn B).X.env) :: starEach [.Name x p2] (suC c a oe pn B).X.env := by rfl) (hpl : (backTo pos (starEach [.Name x p2] (suC c a oe pn B).X.env)).any (·.1) = false := by rfl) :
    PEd (suC c a oe pn B) (.Call (.Name "isinstance" p) [.Name v p1, .Name x p2] [] pos) (eIsX i a n d o) := fun G S Q h => by
  subst hn
  obtain ⟨Co, hmo, F⟩ := F
  obtain ⟨C', cn', ec, hk⟩ := F n kf
  have := CN.inj cn cn'
  subst this
  refine d_bi φ jb (call_isX ec hz hf) (b_isX1 (t := .ref Co) (cv := .ref Co) (fun B w r u ru => by cases r; exact ru) hk) hm hv (tas := aCons (eVar i) (aCons (eC (.ref Co)) aNil)) (da_cons (d_var φ i hN hvis) (da_cons (fun G S Q h => w_glob (φ.gl jo _ hjo).1 hmo (φ.gl jo _ hjo).2.1 h) da_nil)) hj he hpl G S Q ?_
  obtain ⟨x, ex, h⟩ := rd_get h
  obtain ⟨rfl, h2⟩ := isR_get h
  show rd G i _
  unfold rd
  rw [ex]
  exact ⟨rfl, h2⟩
theorem d_isV (φ : Fx (suC c a oe pn B).X ls gs) (jb jo i : Nat) (kf : kn n = true) (cn : CN c.X.K n.str Cn) (hz : Zc (.ref Cn) d oe) (hf : ∃ vs, oe.data = .fields vs) (F : IsVF c.X.mo kn) (hm : c.X.mg "isinstance" = none)
    (hv : bootBuiltins "isinstance" = some (.builtin "isinstance")) (hmv : c.X.mg "ValueError" = none) (hvv : bootBuiltins "ValueError" = some (.type "ValueError")) (hj : gs[jb]? = some "isinstance" := by rfl) (hjo : gs[jo]? = some "ValueError" := by rfl) (hN : (suC c a oe pn B).X.N[i]? = some v := by rfl) (hvis : visK (ls.getD i none) = true := by rfl)
    (he : starEach (.Name v p1 :: [.Name "ValueError" p2]) (suC c a oe pn B).X.env = (false, eval (.Name v p1) (suC c a oe pn B).X.env) :: starEach [.Name "ValueError" p2] (suC c a oe pn B).X.env := by rfl) (hpl : (backTo pos (starEach [.Name "ValueError" p2] (suC c a oe pn B).X.env)).any (·.1) = false := by rfl) :
    PEd (suC c a oe pn B) (.Call (.Name "isinstance" p) [.Name v p1, .Name "ValueError" p2] [] pos) (eIsV i a d) := fun G S Q h => by
  obtain ⟨C', cn', ec, hk⟩ := F n kf
  have := CN.inj cn cn'
  subst this
  refine d_bi φ jb (call_isX ec hz hf) (b_isX1 (t := .ty "ValueError") (cv := .type "ValueError") (fun B w r u ru => by cases r; exact ru) hk) hm hv (tas := aCons (eVar i) (aCons (eC (.ty "ValueError")) aNil)) (da_cons (d_var φ i hN hvis) (da_cons (d_ty φ jo hmv hvv hjo) da_nil)) hj he hpl G S Q ?_
  obtain ⟨x, ex, h⟩ := rd_get h
  obtain ⟨rfl, h2⟩ := isR_get h
  show rd G i _
  unfold rd
  rw [ex]
  exact ⟨rfl, h2⟩
/-- names of classes, one after the other -/
def RfX (c' : CD) (kn : XN → Bool) (es : List Expr) (os : List XN) : Prop := ∃ cs : List Addr, PAd c' es (fun _ S Q => Q (cs.map D.ref) S) ∧ cs.length = os.length ∧ ∀ n Cn, kn n = true → CN c'.X.K n.str Cn → PySem.W.kitAny c'.X.K (.ref Cn) (cs.map Value.ref) = some (os.any (isub n))
theorem rf_nil {c' : CD} : RfX c' kn [] [] := ⟨[], da_nil, rfl, fun _ _ _ _ => rfl⟩
theorem rf_cons {c' : CD} {os : List XN} (φ : Fx c'.X ls gs) (jo : Nat) (F : IsXF c'.X.mo kn o) (h : RfX c' kn es os) (hjo : gs[jo]? = some x := by rfl) (hn : x = o.str := by rfl) : RfX c' kn (.Name x p2 :: es) (o :: os) := by
  subst hn
  obtain ⟨cs, h1, hl, h2⟩ := h
  obtain ⟨Co, hmo, F⟩ := F
  refine ⟨Co :: cs, ?_, by simp [hl], fun n Cn kf cn => ?_⟩
  · exact da_cons (ta := eC (.ref Co)) (fun G S Q h => w_glob (φ.gl jo _ hjo).1 hmo (φ.gl jo _ hjo).2.1 h) h1
  · obtain ⟨C', cn', ec, hk⟩ := F n kf
    have := CN.inj cn cn'
    subst this
    rw [List.map_cons, List.any_cons]
    unfold PySem.W.kitAny
    rw [hk]
    cases isub n o
    · exact h2 n _ kf cn
    · rfl
theorem d_isXs {os : List XN} {kk : Nat} (φ : Fx (suC c a oe pn B).X ls gs) (jb i : Nat) (kf : kn n = true) (cn : CN c.X.K n.str Cn) (hz : Zc (.ref Cn) d oe) (hf : ∃ vs, oe.data = .fields vs) (he0 : ExcC c.X.K Cn) (F : RfX (suC c a oe pn B) kn es os) (hm : c.X.mg "isinstance" = none)
    (hv : bootBuiltins "isinstance" = some (.builtin "isinstance")) (hl : os.length ≤ 1000 := by decide) (hj : gs[jb]? = some "isinstance" := by rfl) (hN : (suC c a oe pn B).X.N[i]? = some v := by rfl) (hvis : visK (ls.getD i none) = true := by rfl)
    (htp : ∀ t, PAd (suC c a oe pn B) es t → PEd (suC c a oe pn B) (.Tuple es kk p2) (eTup t) := by exact fun t h => d_tup h)
    (he : starEach (.Name v p1 :: [.Tuple es kk p2]) (suC c a oe pn B).X.env = (false, eval (.Name v p1) (suC c a oe pn B).X.env) :: starEach [.Tuple es kk p2] (suC c a oe pn B).X.env := by rfl) (hpl : (backTo pos (starEach [.Tuple es kk p2] (suC c a oe pn B).X.env)).any (·.1) = false := by rfl) :
    PEd (suC c a oe pn B) (.Call (.Name "isinstance" p) [.Name v p1, .Tuple es kk p2] [] pos) (eIsXs i a n d os) := fun G S Q h => by
  obtain ⟨cs, hcs, hlen, hk⟩ := F
  refine d_bi φ jb (call_isX he0 hz hf) (b_isXs (cs := cs) (hk n Cn kf cn)) hm hv (tas := aCons (eVar i) (aCons (eTup fun _ S Q => Q (cs.map D.ref) S) aNil)) (da_cons (d_var φ i hN hvis) (da_cons (htp _ hcs) da_nil)) hj he hpl G S Q ?_
  obtain ⟨x, ex, h⟩ := rd_get h
  obtain ⟨rfl, h2⟩ := isR_get h
  show rd G i _
  unfold rd
  rw [ex]
  exact fit_of (by rw [List.length_map, hlen]; omega) ⟨rfl, h2⟩
theorem d_xf {f : Str} (φ : Fx (suC c a oe pn B).X ls gs) (i : Nat) (kf : kn n = true) (cn : CN c.X.K n.str Cn) (hz : Zc (.ref Cn) d oe) (hf : ∃ vs, oe.data = .fields vs) (F : XfF c.X.mo kn f) (hN : (suC c a oe pn B).X.N[i]? = some v := by rfl) (hvis : visK (ls.getD i none) = true := by rfl)
    (hb : attributeBase (.Name v p1) f c.X.env (eval (.Name v p1) c.X.env) = eval (.Name v p1) c.X.env := by rfl) : PEd (suC c a oe pn B) (.Attribute (.Name v p1) f pos) (eXf i a d f) := fun G S Q h B' σ H R => by
  obtain ⟨C', cn', xc, hno⟩ := F n kf
  have := CN.inj cn cn'
  subst this
  obtain ⟨x, ex, h⟩ := rd_get h
  obtain ⟨rfl, h2⟩ := isR_get h
  unfold fldX at h2
  split at h2
  · exact h2.elim
  · split at h2
    · rename_i b b' fs S'
      obtain ⟨rfl, w, hl, q⟩ := h2
      obtain ⟨u, eu, ru⟩ := R.loc i _ ex
      cases ru
      obtain ⟨_, vs, hH, rf⟩ := R.cel _ List.mem_cons_self
      obtain ⟨z, hz2, rz⟩ := rf.get hl
      exact tE_of (pe_xf xc hno hz hf (pv_of φ i hN hvis) hb) ⟨.ref a, eu, rfl, rfl, _, vs, z, rfl, hH, hz2, B', w, _, Same.refl _, R, rz, q⟩
    · exact h2.elim
end
/-! ### what the module tells, from its parts -/
theorem exm_of {K : Frag} {Cn Co : Addr} {b : Bool} (h1 : PySem.W.subIn K (.ref Co) (.type "BaseException") = some true) (h2 : PySem.W.isClsIn K Co = true) (h3 : PySem.W.typeIn K (.ref Co) = some (.type "type")) (h4 : PySem.W.subIn K (.ref Cn) (.ref Co) = some b) :
    PySem.W.exmOne K (.ref Cn) (.ref Co) = some b := by
  have e1 : (PySem.W.subIn K (.ref Co) (.type "BaseException") == some true) = true := by rw [h1] <;> rfl
  have e2 : ((PySem.W.clsIn K Co).isSome && PySem.W.typeIn K (.ref Co) == some (.type "type")) = true := by
    have h2' : (PySem.W.clsIn K Co).isSome = true := h2
    rw [h2', h3] <;> rfl
  show (if (PySem.W.subIn K (.ref Co) (.type "BaseException") == some true) = true then (if ((PySem.W.clsIn K Co).isSome && PySem.W.typeIn K (.ref Co) == some (.type "type")) = true then PySem.W.subIn K (.ref Cn) (.ref Co) else none) else none) = some b
  rw [if_pos e1, if_pos e2]
  exact h4
theorem kit_of {K : Frag} {Cn Co : Addr} {b : Bool} (h2 : PySem.W.isClsIn K Co = true) (h3 : PySem.W.typeIn K (.ref Co) = some (.type "type")) (h4 : PySem.W.subIn K (.ref Cn) (.ref Co) = some b) (h5 : PySem.W.subIn K (.ref Co) (.ref Co) = some true) :
    PySem.W.kitOne K (.ref Cn) (.ref Co) = some b := by
  unfold PySem.W.kitOne
  by_cases e : Cn = Co
  · subst e
    rw [if_pos (by simp)]
    exact h5.symm.trans h4
  · rw [if_neg (by simpa using e)]
    have e2 : ((PySem.W.clsIn K Co).isSome && PySem.W.typeIn K (.ref Co) == some (.type "type")) = true := by
      have h2' : (PySem.W.clsIn K Co).isSome = true := h2
      rw [h2', h3] <;> rfl
    show (if ((PySem.W.clsIn K Co).isSome && PySem.W.typeIn K (.ref Co) == some (.type "type")) = true then PySem.W.subIn K (.ref Cn) (.ref Co) else none) = some b
    rw [if_pos e2]
    exact h4
theorem kit_ve {K : Frag} {Cn : Addr} (h : PySem.W.subIn K (.ref Cn) (.type "ValueError") = some true) : PySem.W.kitOne K (.ref Cn) (.type "ValueError") = some true := by
  unfold PySem.W.kitOne
  rw [if_neg (by simp)]
  show (if PySem.W.kitMeta "ValueError" = true then PySem.W.subIn K (.ref Cn) (.type "ValueError") else none) = some true
  rw [if_pos (by decide +kernel)]
  exact h
end DL
end

section
set_option autoImplicit false
set_option maxRecDepth 100000
set_option maxHeartbeats 4000000
namespace DL
open PySem PySem.Spec PyProof.Rows L2
open PySem.W (Frag)
/-! ### list(range(n)) -/
section
variable {c : CD} {a : Expr} {ta : TEd} {p p2 pos pos2 : Pos} {ls : List (Option NameKind)} {gs : List Str}
end
end DL
end

section
set_option autoImplicit false
set_option maxRecDepth 100000
set_option maxHeartbeats 4000000
namespace DL
open PySem PySem.Spec PyProof.Rows L2
open PySem.W (Frag)
/-! ### texts: str of a number, join, str by a class's own method -/
def dStrI : DCall := fun ds S Q => one ds fun x => match x with
  | .int i => i.natAbs.log2 < 1920 ∧ Q (.str (toString i)) S
  | _ => False
section
variable {c : CD}
theorem b_strI : BOk c (fun xs H Q => ∃ i, xs = [.int i] ∧ i.natAbs.log2 < 1920 ∧ Q (.str (toString i)) H) dStrI := fun Bl B G σ H ds vs S Q s R r h => by
  obtain ⟨v, d, e, r1, h⟩ := one_get r h
  subst e
  cases d <;> first | exact False.elim h | skip
  case int i =>
    cases r1
    exact ⟨i, rfl, h.1, B, .str _, S, s, R, rfl, h.2⟩
end
def mJoin : MCall := fun x ds S Q => match x with
  | .str a => one ds fun y => asQ y S fun ys => ∃ ts : List Str, ys = ts.map D.str ∧ (ts.map (·.length)).sum + ts.length * a.length ≤ 16777216 ∧ Q (.str (Txt.join a ts)) S
  | _ => False
theorem strs_vs {K : Frag} {B : Hp} : ∀ {ts : List Str} {vs : List V}, Reps K B (ts.map D.str) vs → vs = ts.map V.str
  | [], _, h => by
    cases h
    rfl
  | t :: ts, vs, h => by
    obtain ⟨v, us, e, h1, h2⟩ := h
    subst e
    cases h1
    rw [List.map_cons, strs_vs h2]
section
variable {c : CD} {e : Expr} {tas : TAd} {apos cpos : Pos} {o : Expr} {to : TEd}
theorem m_join : MOk c (fun x xs H Q => ∃ a p, ∃ ys : List Str, x = .str a ∧ xs = [.ref p] ∧ (SqL c.X.K H p (ys.map V.str) ∨ SqT c.X.K H p (ys.map V.str)) ∧
    (ys.map (·.length)).sum + ys.length * a.length ≤ 16777216 ∧ Q (.str (Txt.join a ys)) H) mJoin := fun Bl B G σ H x v ds vs S Q s R rx r h => by
  cases x <;> first | exact False.elim h | skip
  case str a =>
    cases rx
    obtain ⟨u, d, e, r1, h⟩ := one_get r h
    subst e
    obtain ⟨p, us, es, e, h1, r2, ts, e2, hz, q⟩ := asQ_get R r1 h
    subst e
    subst e2
    have e3 := strs_vs r2
    subst e3
    exact ⟨a, p, ts, rfl, rfl, .inl h1, hz, B, .str _, S, s, R, rfl, q⟩
theorem d_join (ho : PEd c o to) (ha : PAd c [e] tas) (hbase : attributeBase o "join" c.X.env (eval o c.X.env) = eval o c.X.env := by rfl)
    (hfew : ((backTo cpos (starEach [e] c.X.env)).all (fun x => !x.1) && (backToKw cpos (keywordEach [] c.X.env)).all (fun x => x.1.isSome)
      && decide ([e].length + ([] : List Keyword).length + (if ([] : List Keyword).isEmpty then 0 else 1) < 30)) = true := by rfl)
    (hline : (apos.endLine == cpos.line) = true := by rfl) (hs : starEach [e] c.X.env = (false, eval e c.X.env) :: starEach [] c.X.env := by rfl) :
    PEd c (.Call (.Attribute o "join" apos) [e] [] cpos) (eMc .str mJoin to tas) := d_mc (T := .str) PySem.F.plainAttrs_str PySem.F.slot_str_join PySem.F.type_str_join mt_join m_join ho ha hbase hfew hline hs rfl
end
/-! ### str by a class's own method -/
section
variable {c : CD} {e : Expr} {pos p : Pos} {tas : TAd} {ls : List (Option NameKind)} {gs : List Str} {G : Loc} {S : Sto}
end
end DL
end

section
set_option autoImplicit false
set_option maxRecDepth 100000
set_option maxHeartbeats 4000000
namespace DL
open PySem PySem.Spec PyProof.Rows L2
open PySem.W (Frag)
/-! ### xs.pop(); xs != [] by length; a well with a list of numbers in it -/
section
variable {c : CD} {e a b : Expr} {G : Loc} {S : Sto} {pos : Pos} {ta tb : TEd}
end
/-- a well: three numbers and a list of numbers that is its own cell, right behind it -/
def Wl4 (S : Sto) (k : Nat) (w : Addr) : Prop := ∃ (a b c : Int) (q : Addr) (ns : List Int), S[k]? = some (w, Cel.lst [.int a, .int b, .int c, .ref q]) ∧ S[k + 1]? = some (q, Cel.lst (ns.map D.int))
def Wst4 (S S' : Sto) (k : Nat) (w : Addr) : Prop := ∃ (a b c : Int) (q : Addr) (ns : List Int), (∃ a0 b0 c0 : Int, S[k]? = some (w, Cel.lst [.int a0, .int b0, .int c0, .ref q])) ∧ S' = (S.set k (w, Cel.lst [.int a, .int b, .int c, .ref q])).set (k + 1) (q, Cel.lst (ns.map D.int))
theorem Wl4.to {S S' : Sto} {k : Nat} {w : Addr} (h : Wl4 S k w) (t : Wst4 S S' k w) : Wl4 S' k w := by
  obtain ⟨_, _, _, q0, ns0, h, h2⟩ := h
  obtain ⟨a, b, c, q, ns, _, e⟩ := t
  have hk : k < S.length := (List.getElem?_eq_some_iff.mp h).1
  have hk2 : k + 1 < S.length := (List.getElem?_eq_some_iff.mp h2).1
  refine ⟨a, b, c, q, ns, ?_, ?_⟩
  · rw [e, List.getElem?_set_ne (by omega), List.getElem?_set_self hk]
  · rw [e, List.getElem?_set_self (by rw [List.length_set]; exact hk2)]
theorem set2_set2 {α : Type} (S : List α) (k : Nat) (x y x' y' : α) : (((S.set k x).set (k + 1) y).set k x').set (k + 1) y' = (S.set k x').set (k + 1) y' := by
  rw [List.set_comm (i := k + 1) (j := k) y x' (by omega), List.set_set, List.set_set]
theorem Wst4.trans {S S1 S2 : Sto} {k : Nat} {w : Addr} (h : Wst4 S S1 k w) (t : Wst4 S1 S2 k w) : Wst4 S S2 k w := by
  obtain ⟨a1, b1, c1, q1, ns1, ⟨a0, b0, c0, h0⟩, e1⟩ := h
  obtain ⟨a, b, c, q, ns, ⟨a2, b2, c2, h2⟩, e2⟩ := t
  have hk : k < S.length := (List.getElem?_eq_some_iff.mp h0).1
  rw [e1, List.getElem?_set_ne (by omega), List.getElem?_set_self hk] at h2
  injection h2 with h2
  injection h2 with _ h2
  injection h2 with h2
  injection h2 with _ h2
  injection h2 with _ h2
  injection h2 with _ h2
  injection h2 with h2 _
  injection h2 with h2
  subst h2
  exact ⟨a, b, c, q1, ns, ⟨a0, b0, c0, h0⟩, by rw [e2, e1, set2_set2]⟩
end DL
end

section
set_option autoImplicit false
set_option maxRecDepth 100000
set_option maxHeartbeats 4000000
namespace DL
open PySem PySem.Spec PyProof.Rows L2
open PySem.W (Frag)
/-! ### xs.index(y) -/
def mIdx : MCall := fun x ds S Q => one ds fun y => asQ x S fun xs => ∃ (ps : List PyData) (p : PyData) (j : Nat) (z : PyData), pds xs = some ps ∧ pd y = some p ∧ SeqAt.shaped (.list ps) = true ∧ SeqAt.shaped p = true ∧ ps[j]? = some z ∧ PyData.eqv z p = true ∧ (∀ (m : Nat) (z' : PyData), m < j → ps[m]? = some z' → PyData.eqv z' p = false) ∧ Q (.int (j : Nat)) S
section
variable {c : CD} {e : Expr} {tas : TAd}
theorem m_idx : MOk c (rIndexD c.X.K) mIdx := fun Bl B G σ H x v ds vs S Q s R r rs h => by
  obtain ⟨u, y, e, r1, h2⟩ := one_get rs h
  subst e
  obtain ⟨a, us, xs, e0, hb, r3, ps, p, j, z, e1, e2, s1, s2, hj, hz, hn, q⟩ := asQ_get R r h2
  subst e0
  exact ⟨a, u, p, ps, j, z, rfl, rfl, .lst hb (DpAll.up R.sub _ _ (pds_ok xs us ps r3 e1)), Dp.up R.sub _ _ (pd_ok _ _ _ r1 e2), s1, s2, hj, hz, hn, B, .int (j : Nat), S, s, R, rfl, q⟩
theorem d_index {apos cpos : Pos} {o : Expr} {to : TEd} (ho : PEd c o to) (ha : PAd c [e] tas) (hbase : attributeBase o "index" c.X.env (eval o c.X.env) = eval o c.X.env := by rfl)
    (hfew : ((backTo cpos (starEach [e] c.X.env)).all (fun x => !x.1) && (backToKw cpos (keywordEach [] c.X.env)).all (fun x => x.1.isSome)
      && decide ([e].length + ([] : List Keyword).length + (if ([] : List Keyword).isEmpty then 0 else 1) < 30)) = true := by rfl)
    (hline : (apos.endLine == cpos.line) = true := by rfl) (hs : starEach [e] c.X.env = (false, eval e c.X.env) :: starEach [] c.X.env := by rfl) :
    PEd c (.Call (.Attribute o "index" apos) [e] [] cpos) (eMc .list mIdx to tas) := d_mc (T := .list) PySem.F.plainAttrs_list PySem.F.slot_list_index PySem.F.type_list_index (mt_indexD (by have := c.hr.un; omega)) m_idx ho ha hbase hfew hline hs rfl
end
end DL
end

section
set_option autoImplicit false
set_option maxRecDepth 100000
set_option maxHeartbeats 4000000
namespace DL
open PySem PySem.Spec PyProof.Rows L2
open PySem.W (Frag)
/-! ### texts: constants of the module, parts, signs, split, upper, int of a text, a text times a number -/
section
variable {c : CD} {e a b : Expr} {G : Loc} {S : Sto} {x : Str} {pos p : Pos} {ta tb : TEd} {tas : TAd} {ls : List (Option NameKind)} {gs : List Str}
theorem d_gcS (φ : Fx c.X ls gs) (j : Nat) {z : Str} (h : ∃ t, c.X.mg x = some (.str z t)) (hj : gs[j]? = some x := by rfl) : PEd c (.Name x pos) (eC (.str z)) := fun G S Q q B σ H R => by
  obtain ⟨t, h⟩ := h
  exact tE_of (pe_glob (v := .str z) (φ.gl j x hj).1 h ⟨t, rfl⟩ (φ.gl j x hj).2.1) ⟨B, .str z, S, Same.refl _, R, rfl, q⟩
theorem d_gcI (φ : Fx c.X ls gs) (j : Nat) {z : Int} (h : ∃ t, c.X.mg x = some (.int z t)) (hj : gs[j]? = some x := by rfl) : PEd c (.Name x pos) (eC (.int z)) := fun G S Q q B σ H R => by
  obtain ⟨t, h⟩ := h
  exact tE_of (pe_glob (v := .int z) (φ.gl j x hj).1 h ⟨t, rfl⟩ (φ.gl j x hj).2.1) ⟨B, .int z, S, Same.refl _, R, rfl, q⟩
/-- z[i:j], z a text -/
def dSlS (x : D) (lo hi : Option Int) (S : Sto) (Q : QD) : Prop := match x with
  | .str z => z.length ≤ sizeLine ∧ Q (.str (cutS z lo hi)) S
  | _ => False
def eSlS (t : TEd) (l u : Loc → Sto → (Option Int → Sto → Prop) → Prop) : TEd := fun G S Q => t G S fun x S1 => l G S1 fun l S2 => u G S2 fun u S3 => dSlS x l u S3 Q
theorem w_slS {lo hi : Option Expr} {p2 : Pos} {Q : QD} (h : W c a G S fun x S1 => WO c lo G S1 fun l S2 => WO c hi G S2 fun u S3 => dSlS x l u S3 Q) : W c (.Subscript a (.Slice lo hi none p2) pos) G S Q := fun B σ H R => by
  obtain ⟨tl, pl, kl⟩ := po_of (X := c.X) lo
  obtain ⟨th, ph, kh⟩ := po_of (X := c.X) hi
  refine tE_of (pe_slice sl_str (pe_self a) pl ph) ?_
  refine tE_mono (h B σ H R) fun vx H1 ⟨B1, x, S1, s1, R1, r1, h1⟩ => ?_
  have fin : ∀ {l u B3 S3 H3}, Same B1 B3 → c.R B3 G S3 σ H3 → dSlS x l u S3 Q → rSlS vx l u H3 (Post c B G σ Q) := fun {l u B3 S3 H3} s3 R3 h3 => by
    cases x <;> first | exact False.elim h3 | skip
    case str z =>
      cases r1
      exact ⟨z, rfl, h3.1, B3, .str _, S3, s1.trans s3, R3, rfl, h3.2⟩
  refine kl σ H1 _ ?_
  have step2 : ∀ {l B2 S2 H2}, Same B1 B2 → c.R B2 G S2 σ H2 → (WO c hi G S2 fun u S3 => dSlS x l u S3 Q) → th σ H2 fun u H3 => rSlS vx l u H3 (Post c B G σ Q) := fun {l B2 S2 H2} s2 R2 h2 => by
    refine kh σ H2 _ ?_
    cases hi with
    | none => exact fin s2 R2 h2
    | some e =>
      refine tE_mono (h2 B2 σ H2 R2) fun v H3 ⟨B3, d, S3, s3, R3, r3, i, ei, h3⟩ => ?_
      subst ei
      cases r3
      exact ⟨i, rfl, fin (s2.trans s3) R3 h3⟩
  cases lo with
  | none => exact step2 (Same.refl _) R1 h1
  | some e =>
    refine tE_mono (h1 B1 σ H1 R1) fun v H2 ⟨B2, d, S2, s2, R2, r2, i, ei, h2⟩ => ?_
    subst ei
    cases r2
    exact ⟨i, rfl, step2 s2 R2 h2⟩
theorem d_slS {lo hi : Option Expr} {p2 : Pos} {tl th : Loc → Sto → (Option Int → Sto → Prop) → Prop} (ha : PEd c a ta) (hl : POd c lo tl) (hh : POd c hi th) : PEd c (.Subscript a (.Slice lo hi none p2) pos) (eSlS ta tl th) := fun G S Q h =>
  w_slS ((ha G S _ h).mono fun x S1 h1 => (hl G S1 _ h1).mono fun l S2 h2 => hh G S2 _ h2)
/-- a sign in a text -/
def dInS (neg : Bool) (x y : D) (S : Sto) (Q : Bool → Sto → Prop) : Prop := match x, y with
  | .str i, .str j => ∃ k : Nat, i = ⟨#[k]⟩ ∧ Q (if neg then !decide (k ∈ j.cps.toList) else decide (k ∈ j.cps.toList)) S
  | _, _ => False
def eInS (neg : Bool) (ta tb : TEd) : TEd := fun G S Q => ta G S fun x S1 => tb G S1 fun y S2 => dInS neg x y S2 fun k S3 => Q (.bl k) S3
def tInS (neg : Bool) (ta tb : TEd) : TTd := fun G S Q => ta G S fun x S1 => tb G S1 fun y S2 => dInS neg x y S2 Q
def rInS (neg : Bool) : R2 := fun x y H Q => ∃ (k : Nat) (z : Str), x = .str ⟨#[k]⟩ ∧ y = .str z ∧ Q (.bl (if neg then !decide (k ∈ z.cps.toList) else decide (k ∈ z.cps.toList))) H
theorem op_inS {X : Cx} (neg : Bool) : OpR X (compareOp (opIn neg)) (rInS neg) := by
  cases neg with
  | false => exact op_in_sign
  | true => exact op_notIn_sign
theorem inS_core {neg : Bool} {B H : Hp} {x y : D} {vx vy : V} {Q : Bool → Sto → Prop} {Q' : VK} (rx : Rep c.X.K B x vx) (ry : Rep c.X.K B y vy) (h : dInS neg x y S Q) (k : ∀ b, Q b S → Q' (.bl b) H) : rInS neg vx vy H Q' := by
  cases x <;> first | exact False.elim h | (cases y <;> first | exact False.elim h | skip)
  case str.str i j =>
    obtain ⟨n, e, q⟩ := h
    subst e
    cases rx
    cases ry
    exact ⟨n, j, rfl, rfl, k _ q⟩
theorem d_inS (ha : PEd c a ta) (hb : PEd c b tb) (hm : behindInMarks .In b = false := by rfl) : PEd c (.Compare a [.In] [b] pos) (eInS false ta tb) := fun G S Q h =>
  w_cmp (P := fun x y S Q => dInS false x y S fun k S3 => Q (.bl k) S3) (op_inS false) hm (fun Bl B σ H x y vx vy S Q s R rx ry h => inS_core rx ry h fun k q => ⟨B, .bl k, S, s, R, rfl, q⟩) ((ha G S _ h).mono fun x S1 h1 => hb G S1 _ h1)
/-- a text in pieces -/
def mSplit : MCall := fun x ds S Q => match x with
  | .str a => one ds fun y => match y with
    | .str b => (b.length == 0) = false ∧ a.length + 2 ≤ sizeLine ∧ mk ((Txt.split a b).map D.str) S Q
    | _ => False
  | _ => False
theorem strs_reps {K : Frag} {B : Hp} : ∀ ts : List Str, Reps K B (ts.map D.str) (ts.map V.str)
  | [] => rfl
  | _ :: ts => ⟨_, _, rfl, rfl, strs_reps ts⟩
theorem m_split : MOk c (fun x xs H Q => ∃ a b, x = .str a ∧ xs = [.str b] ∧ (b.length == 0) = false ∧ a.length + 2 ≤ sizeLine ∧ rNewStrs (Txt.split a b) H Q) mSplit := fun Bl B G σ H x v ds vs S Q s R rx r h => by
  cases x <;> first | exact False.elim h | skip
  case str a =>
    cases rx
    obtain ⟨u, d, e, r1, h⟩ := one_get r h
    subst e
    cases d <;> first | exact False.elim h | skip
    case str b =>
      cases r1
      exact ⟨a, b, rfl, rfl, h.1, h.2.1, fun p hp => mk_ok s R (strs_reps _) h.2.2 p hp⟩
theorem d_split {apos cpos : Pos} {o : Expr} {to : TEd} (ho : PEd c o to) (ha : PAd c [e] tas) (hbase : attributeBase o "split" c.X.env (eval o c.X.env) = eval o c.X.env := by rfl)
    (hfew : ((backTo cpos (starEach [e] c.X.env)).all (fun x => !x.1) && (backToKw cpos (keywordEach [] c.X.env)).all (fun x => x.1.isSome)
      && decide ([e].length + ([] : List Keyword).length + (if ([] : List Keyword).isEmpty then 0 else 1) < 30)) = true := by rfl)
    (hline : (apos.endLine == cpos.line) = true := by rfl) (hs : starEach [e] c.X.env = (false, eval e c.X.env) :: starEach [] c.X.env := by rfl) :
    PEd c (.Call (.Attribute o "split" apos) [e] [] cpos) (eMc .str mSplit to tas) := d_mc (T := .str) PySem.F.plainAttrs_str PySem.F.slot_str_split PySem.F.type_str_split mt_split m_split ho ha hbase hfew hline hs rfl
/-- z.upper() -/
def eUpr (to : TEd) : TEd := fun G S Q => to G S fun x S1 => match x with
  | .str z => z.length ≤ 5592405 ∧ Q (.str (Txt.upper z)) S1
  | _ => False
theorem d_upper {apos cpos : Pos} {o : Expr} {to : TEd} (ho : PEd c o to) (hbase : attributeBase o "upper" c.X.env (eval o c.X.env) = eval o c.X.env := by rfl) (hline : (apos.endLine == cpos.line) = true := by rfl) : PEd c (.Call (.Attribute o "upper" apos) [] [] cpos) (eUpr to) := fun G S Q h B σ H R => by
  refine tE_of (pe_upper (pe_self o) hbase hline) ?_
  refine tE_mono (ho G S _ h B σ H R) fun v H1 ⟨B1, x, S1, s1, R1, r1, h1⟩ => ?_
  cases x <;> first | exact False.elim h1 | skip
  case str z =>
    cases r1
    exact ⟨⟨z, rfl⟩, z, rfl, rfl, h1.1, B1, .str _, S1, s1, R1, rfl, h1.2⟩
/-- int(text) -/
def dIntS : DCall := fun ds S Q => one ds fun x => match x with
  | .str a => ∃ n, PySem.intText? a = some n ∧ a.length ≤ 640 ∧ Q (.int n) S
  | _ => False
theorem b_intS : BOk c (fun xs H Q => ∃ a n, xs = [.str a] ∧ PySem.intText? a = some n ∧ a.length ≤ 640 ∧ Q (.int n) H) dIntS := fun Bl B G σ H ds vs S Q s R r h => by
  obtain ⟨v, d, e, r1, h⟩ := one_get r h
  subst e
  cases d <;> first | exact False.elim h | skip
  case str a =>
    cases r1
    obtain ⟨n, h1, h2, q⟩ := h
    exact ⟨a, n, rfl, h1, h2, B, .int n, S, s, R, rfl, q⟩
/-- a text of one sign, so many times -/
def dMulS (x y : D) (S : Sto) (Q : QD) : Prop := match x, y with
  | .str z, .int n => ∃ k : Nat, z = ⟨#[k]⟩ ∧ 2 ≤ n ∧ n ≤ 1000 ∧ Q (.str ⟨(List.replicate n.toNat k).toArray⟩) S
  | _, _ => False
def rMulS : R2 := fun x y H Q => ∃ (k : Nat) (n : Int), x = .str ⟨#[k]⟩ ∧ y = .int n ∧ 2 ≤ n ∧ n ≤ 1000 ∧ Q (.str ⟨(List.replicate n.toNat k).toArray⟩) H
theorem fold_one (k : Nat) : ∀ (m : Nat) (acc : Array Nat), (List.replicate m #[k]).foldl (· ++ ·) acc = (acc.toList ++ List.replicate m k).toArray
  | 0, acc => by simp
  | m + 1, acc => by
    rw [List.replicate_succ, List.foldl_cons, fold_one k m, List.replicate_succ]
    simp
theorem op_mulS {X : Cx} : OpR X (binaryOp .Mult) rMulS := by
  intro pins s σ H x y v u Q I rx ry h
  obtain ⟨k, n, rfl, rfl, h1, h2, q⟩ := h
  obtain ⟨t, rfl⟩ := rx
  obtain ⟨t2, rfl⟩ := ry
  have e1 : (⟨#[k]⟩ : Str).length = 1 := rfl
  refine PySem.P.mul_str ?_ (fun _ _ => ?_) (fun _ _ => ?_) ?_
  · rw [decide_eq_false (by omega), decide_eq_false (by omega)]
    rfl
  · rw [e1]
    intro hc
    have h3 : (1000 : Int) ≤ (2 ^ 63 - 1) / n := by
      rw [Int.le_ediv_iff_mul_le (by omega)]
      omega
    omega
  · rw [e1]
    have : 1 * n.toNat ≤ 1000 := by omega
    unfold PySem.Builtin.Str.tooLong
    have : ¬ (1 * n.toNat > sizeLine) := by
      have : (1000 : Nat) ≤ sizeLine := by decide
      omega
    exact decide_eq_false this
  · have e2 : (n == 1 || (⟨#[k]⟩ : Str).length == 0) = false := by
      rw [e1]
      have : n ≠ 1 := by omega
      simp [this]
    rw [if_neg (by omega), if_neg (by rw [e2]; exact Bool.false_ne_true)]
    rw [show (⟨#[k]⟩ : Str).cps = #[k] from rfl, fold_one k n.toNat #[]]
    refine ⟨?_, .str _, H, I.tok _, ⟨_, rfl⟩, q⟩
    show ([] ++ List.replicate n.toNat k).toArray.size ≤ sizeLine
    rw [List.nil_append, List.size_toArray, List.length_replicate]
    have : (1000 : Nat) ≤ sizeLine := by decide
    omega
theorem d_mulS (ha : PEd c a ta) (hb : PEd c b tb) : PEd c (.BinOp a .Mult b pos) (eOp dMulS ta tb) := fun G S Q h => by
  refine w_op (P := dMulS) op_mulS (fun Bl B σ H x y vx vy S Q s R rx ry h => ?_) ((ha G S _ h).mono fun x S1 h1 => hb G S1 _ h1)
  cases x <;> first | exact False.elim h | (cases y <;> first | exact False.elim h | skip)
  case str.int z n =>
    obtain ⟨k, e, h1, h2, q⟩ := h
    subst e
    cases rx
    cases ry
    exact ⟨k, n, rfl, rfl, h1, h2, B, .str _, S, s, R, rfl, q⟩
end
end DL
end

section
set_option autoImplicit false
set_option maxRecDepth 100000
set_option maxHeartbeats 4000000
namespace LK
open PySem TL
/-! ### handfuls as words: names, numbers, terms -/
def abcS : PySem.Str := "abcdefghijklmnopqrstuvwxyz"
def figS : PySem.Str := "0123456789"
def zeroS : PySem.Str := "0"
def plusS : PySem.Str := "+"
def minusS : PySem.Str := "-"
def spS : PySem.Str := " "
theorem tl_abc : tl abcS = [97, 98, 99, 100, 101, 102, 103, 104, 105, 106, 107, 108, 109, 110, 111, 112, 113, 114, 115, 116, 117, 118, 119, 120, 121, 122] := by decide +kernel
theorem tl_fig : tl figS = [48, 49, 50, 51, 52, 53, 54, 55, 56, 57] := by decide +kernel
theorem tl_zero : tl zeroS = [48] := by decide +kernel
theorem tl_plus : tl plusS = [43] := by decide +kernel
theorem tl_minus : tl minusS = [45] := by decide +kernel
theorem tl_sp : tl spS = [32] := by decide +kernel
theorem mem_abc {k : Nat} : k ∈ tl abcS ↔ 97 ≤ k ∧ k ≤ 122 := by
  rw [tl_abc]
  simp only [List.mem_cons, List.not_mem_nil, or_false]
  omega
theorem mem_fig {k : Nat} : k ∈ tl figS ↔ 48 ≤ k ∧ k ≤ 57 := by
  rw [tl_fig]
  simp only [List.mem_cons, List.not_mem_nil, or_false]
  omega
/-- a name -/
def nameB (x : PySem.Str) : Bool := (decide (1 ≤ x.length) && decide (x.length ≤ 8)) && (tl x).all fun k => decide (k ∈ tl abcS)
/-- the number that a word writes -/
def numIn (x : PySem.Str) : Option Int := if ((decide (1 ≤ x.length) && decide (x.length ≤ 40)) && (tl x).all fun k => decide (k ∈ tl figS)) = true ∧ ¬ (tl x).head? = some 48 then some (NumText.digitsVal (tl x)) else none
def kindB (ns : Option (List PySem.Str)) (x : PySem.Str) : Bool := nameB x && (match ns with
  | none => true
  | some l => decide (x ∈ l))
theorem nameB_iff {x : PySem.Str} : nameB x = true ↔ 1 ≤ x.length ∧ x.length ≤ 8 ∧ ∀ k ∈ tl x, 97 ≤ k ∧ k ≤ 122 := by
  unfold nameB
  rw [Bool.and_eq_true, Bool.and_eq_true, decide_eq_true_eq, decide_eq_true_eq, List.all_eq_true]
  constructor
  · rintro ⟨⟨a, b⟩, c⟩
    exact ⟨a, b, fun k hk => mem_abc.mp (of_decide_eq_true (c k hk))⟩
  · rintro ⟨a, b, c⟩
    exact ⟨⟨a, b⟩, fun k hk => decide_eq_true (mem_abc.mpr (c k hk))⟩
/-- a number's word -/
abbrev numW (m : Nat) : PySem.Str := PySem.Str.ofString (toString ((m : Nat) : Int))
theorem numIn_some {x : PySem.Str} {n : Int} (h : numIn x = some n) : PySem.intText? x = some n ∧ x.length ≤ 640 := by
  unfold numIn at h
  split at h
  · rename_i hc
    obtain ⟨hc, _⟩ := hc
    rw [Bool.and_eq_true, Bool.and_eq_true, decide_eq_true_eq, decide_eq_true_eq, List.all_eq_true] at hc
    obtain ⟨⟨h1, h2⟩, h3⟩ := hc
    refine ⟨?_, by omega⟩
    rw [← h]
    refine PySem.intText_digits (fun k hk => mem_fig.mp (of_decide_eq_true (h3 k hk))) (fun e => ?_) (by omega)
    rw [len_tl] at h1
    have e' : tl x = [] := e
    rw [e'] at h1
    cases h1
  · cases h
theorem plus_ne_minus : plusS ≠ minusS := by decide +kernel

/-! ### the terms that words write -/
/-- the sign ahead of a term, the words behind it -/
def skipS (first : Bool) (rest : List PySem.Str) : Option (Int × List PySem.Str) := match rest with
  | [] => if first then some (1, []) else none
  | w :: r => if w = minusS then some (-1, r) else if first then some (1, w :: r) else if w = plusS then some (1, r) else none
def skipN (rest : List PySem.Str) : Int × List PySem.Str := match rest with
  | [] => (1, [])
  | w :: r => match numIn w with
    | some n => (n, r)
    | none => (1, w :: r)
abbrev Tms := List (Int × PySem.Str)
def addT (acc : Tms) : Except Nat Tms → Except Nat Tms
  | .ok ts => .ok (acc ++ ts)
  | .error k => .error k
theorem addT_nil (r : Except Nat Tms) : addT [] r = r := by cases r <;> rfl
theorem addT_addT (a b : Tms) (r : Except Nat Tms) : addT a (addT b r) = addT (a ++ b) r := by
  cases r with
  | ok ts => exact congrArg Except.ok (List.append_assoc a b ts).symm
  | error k => rfl
/-- n words in all, rest: those that are left; first: no term is read yet -/
def termsF (ns : Option (List PySem.Str)) (n : Nat) : Nat → Bool → List PySem.Str → Except Nat Tms
  | 0, _, _ => .ok []
  | f + 1, first, rest =>
    if first = false ∧ rest = [] then .ok [] else
    match skipS first rest with
    | none => .error (n - rest.length)
    | some (s, r1) =>
      match (skipN r1).2 with
      | [] => .error n
      | w :: r3 => if kindB ns w = true then addT [(s * (skipN r1).1, w)] (termsF ns n f false r3) else .error (n - (w :: r3).length)
/-- .. behind a term's number, behind its sign -/
def afterN (ns : Option (List PySem.Str)) (n f : Nat) (sm : Int) (r2 : List PySem.Str) : Except Nat Tms := match r2 with
  | [] => .error n
  | w :: r3 => if kindB ns w = true then addT [(sm, w)] (termsF ns n f false r3) else .error (n - (w :: r3).length)
def afterS (ns : Option (List PySem.Str)) (n f : Nat) (s : Int) (r1 : List PySem.Str) : Except Nat Tms := afterN ns n f (s * (skipN r1).1) (skipN r1).2
theorem termsF_succ (ns : Option (List PySem.Str)) (n f : Nat) (first : Bool) (rest : List PySem.Str) (h : ¬ (first = false ∧ rest = [])) :
    termsF ns n (f + 1) first rest = match skipS first rest with
      | none => .error (n - rest.length)
      | some (s, r1) => afterS ns n f s r1 := by
  show (if first = false ∧ rest = [] then _ else _) = _
  rw [if_neg h]
  rfl
theorem termsF_end (ns : Option (List PySem.Str)) (n f : Nat) : termsF ns n f false [] = .ok [] := by
  cases f with
  | zero => rfl
  | succ f =>
    show (if (false = false ∧ ([] : List PySem.Str) = []) then _ else _) = _
    rw [if_pos ⟨rfl, rfl⟩]
/-- what all words write -/
def termsW (ns : Option (List PySem.Str)) (ws : List PySem.Str) : Except Nat Tms := if ws = [zeroS] then .ok [] else termsF ns ws.length (ws.length + 1) true ws

/-! ### terms written -/
structure Tm where
  neg : Bool
  told : Bool
  m : Nat
  x : PySem.Str
def sgnW (neg : Bool) : PySem.Str := if neg then minusS else plusS
def Tm.val (t : Tm) : Int := if t.neg then -(t.m : Int) else t.m
theorem skipS_minus (first : Bool) (r : List PySem.Str) : skipS first (minusS :: r) = some (-1, r) := by
  unfold skipS
  simp
theorem skipS_plus (r : List PySem.Str) : skipS false (plusS :: r) = some (1, r) := by
  unfold skipS
  simp [plus_ne_minus]
theorem skipS_first {w : PySem.Str} (h : w ≠ minusS) (r : List PySem.Str) : skipS true (w :: r) = some (1, w :: r) := by
  unfold skipS
  simp [h]
theorem kind_mem {ns : List PySem.Str} {x : PySem.Str} (h : kindB (some ns) x = true) : x ∈ ns := by
  unfold kindB at h
  rw [Bool.and_eq_true] at h
  exact of_decide_eq_true h.2
theorem termsF_mem {ns : List PySem.Str} {n : Nat} : ∀ (f : Nat) (first : Bool) (rest : List PySem.Str) (ts : Tms), termsF (some ns) n f first rest = .ok ts → ∀ t ∈ ts, t.2 ∈ ns
  | 0, _, _, ts, h => by
    have : ts = [] := (Except.ok.inj h).symm
    subst this
    intro t ht
    cases ht
  | f + 1, first, rest, ts, h => by
    by_cases h0 : first = false ∧ rest = []
    · have : ts = [] := by
        have e : termsF (some ns) n (f + 1) first rest = .ok [] := if_pos h0
        rw [e] at h
        exact (Except.ok.inj h).symm
      subst this
      intro t ht
      cases ht
    · rw [termsF_succ _ _ _ _ _ h0] at h
      cases hs : skipS first rest with
      | none => rw [hs] at h; cases h
      | some p =>
        obtain ⟨s, r1⟩ := p
        rw [hs] at h
        have h' : afterN (some ns) n f (s * (skipN r1).1) (skipN r1).2 = .ok ts := h
        cases hr : (skipN r1).2 with
        | nil => rw [hr] at h'; cases h'
        | cons w r3 =>
          rw [hr] at h'
          have h2 : (if kindB (some ns) w = true then addT [(s * (skipN r1).1, w)] (termsF (some ns) n f false r3) else .error (n - (w :: r3).length)) = .ok ts := h'
          split at h2
          · rename_i hk
            cases ht : termsF (some ns) n f false r3 with
            | error k => rw [ht] at h2; cases h2
            | ok us =>
              rw [ht] at h2
              have : ts = [(s * (skipN r1).1, w)] ++ us := (Except.ok.inj h2).symm
              subst this
              intro t hm
              rcases List.mem_append.mp hm with e | e
              · rw [List.mem_singleton.mp e]
                exact kind_mem hk
              · exact termsF_mem f false r3 us ht t e
          · cases h2
theorem termsW_mem {ns : List PySem.Str} {ws : List PySem.Str} {ts : Tms} (h : termsW (some ns) ws = .ok ts) : ∀ t ∈ ts, t.2 ∈ ns := by
  unfold termsW at h
  split at h
  · have : ts = [] := (Except.ok.inj h).symm
    subst this
    intro t ht
    cases ht
  · exact termsF_mem _ _ _ _ h
/-! ### the handful that terms make -/
def putT (ns : List PySem.Str) (z : List Int) (t : Int × PySem.Str) : List Int := z.set (ns.idxOf t.2) (z.getD (ns.idxOf t.2) 0 + t.1)
def sumT (ns : List PySem.Str) (ts : Tms) : List Int := ts.foldl (putT ns) (List.replicate ns.length 0)
theorem putT_len (ns : List PySem.Str) (z : List Int) (t : Int × PySem.Str) : (putT ns z t).length = z.length := by
  unfold putT
  rw [List.length_set]
theorem foldT_len (ns : List PySem.Str) : ∀ (ts : Tms) (z : List Int), (ts.foldl (putT ns) z).length = z.length
  | [], _ => rfl
  | t :: r, z => by rw [List.foldl_cons, foldT_len ns r, putT_len]
theorem sumT_len (ns : List PySem.Str) (ts : Tms) : (sumT ns ts).length = ns.length := by
  unfold sumT
  rw [foldT_len, List.length_replicate]
theorem sumT_snoc (ns : List PySem.Str) (ts : Tms) (t : Int × PySem.Str) : sumT ns (ts ++ [t]) = putT ns (sumT ns ts) t := by
  unfold sumT
  rw [List.foldl_append]
  rfl
/-! ### handfuls shown -/
end LK
end

section
set_option autoImplicit false
set_option maxRecDepth 100000
set_option maxHeartbeats 4000000
namespace LK
open PySem PySem.Spec PyProof.Rows L2 DL
open PySem.W (Frag)
/-! ### sums and grids by functions -/
def sumN : Nat → (Nat → Int) → Int
  | 0, _ => 0
  | n + 1, f => sumN n f + f n
def dR (c : Nat) (f : Nat → Int) : D := .tup ((List.range c).map fun j => .int (f j))
def mulG (m : Nat) (f g : Nat → Nat → Int) : Nat → Nat → Int := fun i j => sumN m fun k => f i k * g k j
theorem dR_ext {c : Nat} {f g : Nat → Int} (h : ∀ j, j < c → f j = g j) : dR c f = dR c g := by
  unfold dR
  congr 1
  exact List.map_congr_left fun j hj => by rw [h j (List.mem_range.mp hj)]
theorem range_get {α : Type} {f : Nat → α} {n i : Nat} {d : α} (h : ((List.range n).map f)[i]? = some d) : i < n ∧ d = f i := by
  have hi : i < n := by
    have := (List.getElem?_eq_some_iff.mp h).1
    simpa using this
  rw [range_at f hi] at h
  exact ⟨hi, (Option.some.inj h).symm⟩
theorem span_map (n : Nat) : span 0 n = (List.range n).map fun (k : Nat) => D.int (k : Int) := by
  unfold span
  exact List.map_congr_left fun (k : Nat) _ => by rw [Int.zero_add]
theorem sumN_ext {n : Nat} {f g : Nat → Int} (h : ∀ k, k < n → f k = g k) : sumN n f = sumN n g := by
  induction n with
  | zero => rfl
  | succ n ih => unfold sumN; rw [ih fun k hk => h k (by omega), h n (by omega)]
theorem sumN_zero {n : Nat} {f : Nat → Int} (h : ∀ k, k < n → f k = 0) : sumN n f = 0 := by
  induction n with
  | zero => rfl
  | succ n ih => unfold sumN; rw [ih fun k hk => h k (by omega), h n (by omega)]; rfl
theorem sumN_add (n : Nat) (f g : Nat → Int) : sumN n (fun k => f k + g k) = sumN n f + sumN n g := by
  induction n with
  | zero => rfl
  | succ n ih =>
    show sumN n _ + (f n + g n) = (sumN n f + f n) + (sumN n g + g n)
    rw [ih]; omega
theorem sumN_mul (n : Nat) (a : Int) (f : Nat → Int) : sumN n (fun k => a * f k) = a * sumN n f := by
  induction n with
  | zero => simp [sumN]
  | succ n ih => unfold sumN; rw [ih, Int.mul_add]
theorem sumN_swap (n m : Nat) (f : Nat → Nat → Int) : sumN n (fun i => sumN m fun j => f i j) = sumN m fun j => sumN n fun i => f i j := by
  induction n with
  | zero => exact (sumN_zero (f := fun j => sumN 0 fun i => f i j) fun _ _ => rfl).symm
  | succ n ih =>
    show sumN n _ + _ = _
    rw [ih, ← sumN_add]
    rfl
def idG : Nat → Nat → Int := fun i j => if i = j then 1 else 0
theorem sumN_pick (n i : Nat) (f : Nat → Int) (h : i < n) : sumN n (fun k => idG i k * f k) = f i := by
  induction n with
  | zero => omega
  | succ n ih =>
    unfold sumN
    by_cases e : i = n
    · subst e
      rw [sumN_zero fun k hk => by unfold idG; rw [if_neg (by omega), Int.zero_mul]]
      show 0 + (if i = i then (1 : Int) else 0) * f i = f i
      rw [if_pos rfl, Int.zero_add, Int.one_mul]
    · rw [ih (by omega)]
      show f i + (if i = n then (1 : Int) else 0) * f n = f i
      rw [if_neg e, Int.zero_mul, Int.add_zero]
theorem id_mul {m : Nat} (f : Nat → Nat → Int) {i : Nat} (j : Nat) (h : i < m) : mulG m idG f i j = f i j := sumN_pick m i (fun k => f k j) h
theorem mul_id {m : Nat} (f : Nat → Nat → Int) (i : Nat) {j : Nat} (h : j < m) : mulG m f idG i j = f i j := by
  unfold mulG
  rw [← sumN_pick m j (fun k => f i k) h]
  exact sumN_ext fun k _ => by
    unfold idG
    rw [Int.mul_comm]
    by_cases e : k = j
    · rw [if_pos e, if_pos e.symm]
    · rw [if_neg e, if_neg (fun h => e h.symm)]
/-! ### bounds -/
def Bd (b r c : Nat) (f : Nat → Nat → Int) : Prop := ∀ i j, i < r → j < c → (f i j).natAbs < 2 ^ b
/-! ### promises -/
def handB (x : D) (w : Int) : Bool := match x with
  | .tup es => decide ((es.length : Int) = w) && es.all isIntD
  | _ => false
/-- what may stand as a row -/
def okE (e : D) : Prop := Pln e ∧ ∀ es, e = .tup es → es.length ≤ 1000000 ∧ ∀ e ∈ es, Pln e
def badAt (w : Int) (es : List D) : Option Nat := es.findIdx? fun e => !handB e w
/-- a list that is checked: whether all are handfuls, or the number of the first that is none -/
def ChkL (x : D) (w : Int) (S : Sto) (ok : Prop) (bad : Nat → Prop) : Prop := (∃ es, LV S x es ∧ es.length ≤ 1000000 ∧ (∀ e ∈ es, okE e) ∧ (badAt w es = none → ok) ∧ ∀ k, badAt w es = some k → bad k) ∨ (Pln x ∧ isLstD x = false ∧ bad 0)
def sp_check_list : FSp := fun ds S Q EX => ∃ (x : D) (w : Int), ds = [x, .int w] ∧ ChkL x w S (Q .non S) fun k => EX .NoRow [("at", .int k)] S
abbrev sp__law_draw : FSp := spDraw
abbrev ln__law_draw := ln_draw
-- 0 thing
-- 0 thing, 1 wide, 2 one
-- 0 things, 1 wide, 2 at, 3 thing
-- 0 parts, 1 grid, 2 wide, 3 found, 4 many, 5 row, 6 one, 7 other
-- 0 one, 1 other, 2 wide, 3 row
-- 0 grid, 1 wide, 2 k, 3 row
-- 0 _law_well, 1 _law_many, 2 _law_found, 3 _law_number
def t__law_draw (EX : EXT) : TSd := (sSeq (sIf (tOrd .Gt (eOp dIx (eVar 0) (eC (.int 0))) (eC (.int 0))) (sSeq (sSet 2 (eOp dMod (eOp dIx (eVar 0) (eC (.int 0))) (eVar 1)))
    (sSeq (sAsg (eOp dDiv (eOp dIx (eVar 0) (eC (.int 0))) (eVar 1)) (gIx (eVar 0) (eC (.int 0))))
    (sSeq (sRet (eVar 2))
    sNext))) sNext)
    (sSeq (sAsg (eOp dAdd (eOp dIx (eVar 0) (eC (.int 2))) (eC (.int 1))) (gIx (eVar 0) (eC (.int 2))))
    (sSeq (sSet 3 (eOp dMod (eOp dMul (eOp dAdd (eOp dAdd (eOp dIx (eVar 0) (eC (.int 1))) (eOp dMul (eC (.int 104729)) (eOp dIx (eVar 0) (eC (.int 2))))) (eC (.int 1))) (eC (.int 48271))) (eC (.int 2147483647))))
    (sSeq (sSet 3 (eOp dMod (eOp dMul (eVar 3) (eOp dAdd (eOp dDiv (eVar 3) (eC (.int 1009))) (eC (.int 69621)))) (eC (.int 2147483647))))
    (sSeq (sRet (eOp dMod (eOp dMod (eOp dMul (eVar 3) (eOp dAdd (eOp dDiv (eVar 3) (eC (.int 2003))) (eC (.int 40692)))) (eC (.int 2147483399))) (eVar 1)))
    sNext)))))
-- 0 many, 1 place, 2 k
-- 0 many, 1 k
theorem atI_nat {α : Type} {xs : List α} {k : Nat} {x : α} (h : xs[k]? = some x) : atI xs (k : Int) = some x := by
  have hk : k < xs.length := (List.getElem?_eq_some_iff.mp h).1
  unfold atI ixN
  rw [if_pos (by omega), if_pos (by omega)]
  simpa using h
/-! ### the promises are kept -/
local macro_rules | `(tactic| walk_at "ev") => `(tactic| dsimp only [sSeq, sRet, sIf, sSet, sFor, sNext, sEx, eAn, eOo, eNo, eCall, eFn, aCons, aNil, eVar, rd, eC, eOp, eUn, eEq, eOrd, tEq, tOrd, tVal, tNo, tAn, tOo, eTup, eLst, iR1, iR2, iSq, sForX, iSqX, iEnX, iZpX, one_eq, List.getElem?_cons_zero, List.getElem?_cons_succ, List.append_nil])
abbrev endS (Q : QD) : DE := { nx := fun _ S' => Q .non S', rt := Q }
theorem handR (c : Nat) (f : Nat → Int) : handB (dR c f) c = true := by
  show (decide ((((List.range c).map fun j => D.int (f j)).length : Int) = c) && ((List.range c).map fun j => D.int (f j)).all isIntD) = true
  rw [rng_len, Bool.and_eq_true, List.all_eq_true]
  refine ⟨by simp, fun x hx => ?_⟩
  obtain ⟨j, _, rfl⟩ := List.mem_map.mp hx
  rfl
theorem ChkL.cons {x : D} {w : Int} {S : Sto} {ok : Prop} {bad bad' : Nat → Prop} (h : ChkL x w S ok bad) (p : Addr × Cel) (k : ∀ i, bad i → bad' i) : ChkL x w (p :: S) ok bad' := by
  rcases h with ⟨es, h1, h2, h3, h4, h5⟩ | ⟨h1, h2, h3⟩
  · exact .inl ⟨es, h1.cons _, h2, h3, h4, fun i e => k i (h5 i e)⟩
  · exact .inr ⟨h1, h2, k 0 h3⟩
theorem ChkL.bad {x : D} {w : Int} {S : Sto} {Q : QD} {EX : EXT} (h : ChkL x w S False fun k => EX .NoRow [("at", .int k)] S) : sp_check_list [x, .int w] S Q EX := by
  rcases h with ⟨es, h1, h2, h3, h4, h5⟩ | h
  · exact ⟨x, w, rfl, .inl ⟨es, h1, h2, h3, fun z => (h4 z).elim, h5⟩⟩
  · exact ⟨x, w, rfl, .inr h⟩
theorem draw_core {S : Sto} {Q : QD} {EX : EXT} {w : Addr} {k : Nat} {many : Int} (hw : Wl S k w) (m0 : 0 < many) (m1 : many < 2 ^ 64) (q : ∀ (v : Int) (S' : Sto), 0 ≤ v → v < many → Wst S S' k w → Q (.int v) S') :
    t__law_draw EX (endS Q) [some (.ref w), some (.int many), none, none] S := by
  obtain ⟨a, b, c, hw⟩ := hw
  have hk : k < S.length := (List.getElem?_eq_some_iff.mp hw).1
  have p1 : ∀ z : Int, (2 : Int) ^ 64 > 0 := fun _ => by decide
  refine ⟨k, _, hw, .int a, rfl, fun h => ?_, fun h => ?_⟩
  · have ha : 0 < a := of_decide_eq_true h
    refine ⟨k, _, hw, .int a, rfl, Int.ne_of_gt m0, ?_⟩
    refine ⟨k, _, hw, .int a, rfl, div_ok m0 m1, ?_⟩
    refine ⟨w, k, _, 0, 0, rfl, rfl, hw, rfl, ?_⟩
    have f := fmod_pos (a := a) m0
    exact q _ _ f.1 f.2 ⟨a / many, b, c, rfl⟩
  · refine ⟨k, _, hw, .int c, rfl, ?_⟩
    refine ⟨w, k, _, 2, 2, rfl, rfl, hw, rfl, ?_⟩
    have hw2 : (S.set k (w, Cel.lst [.int a, .int b, .int (c + 1)]))[k]? = some (w, Cel.lst [.int a, .int b, .int (c + 1)]) := List.getElem?_set_self hk
    refine ⟨k, _, hw2, .int b, rfl, k, _, hw2, .int (c + 1), rfl, mul_ok_l (by decide), mul_ok_r (by decide), by decide, ?_⟩
    generalize (b + 104729 * (c + 1) + 1) * 48271 = z
    have f1 := fmod_pos (a := z) (b := 2147483647) (by decide)
    generalize z.fmod 2147483647 = y at f1
    refine ⟨div_ok (by decide) (by decide), mul_ok_l (by omega), by decide, ?_⟩
    generalize y * (y / 1009 + 69621) = z2
    have f2 := fmod_pos (a := z2) (b := 2147483647) (by decide)
    generalize z2.fmod 2147483647 = y2 at f2
    refine ⟨div_ok (by decide) (by decide), mul_ok_l (by omega), by decide, Int.ne_of_gt m0, ?_⟩
    generalize (y2 * (y2 / 2003 + 40692)).fmod 2147483399 = z3
    have f := fmod_pos (a := z3) m0
    exact q _ _ f.1 f.2 ⟨a, b, c + 1, rfl⟩
theorem pure__law_draw {ds : List D} {S : Sto} {Q : QD} {EX : EXT} (h : sp__law_draw ds S Q EX) : t__law_draw EX (endS Q) (startG ["_law_well", "_law_many", "_law_found", "_law_number_here"] ds) S := by
  obtain ⟨w, k, many, rfl, hw, m0, m1, q⟩ := h
  exact draw_core hw m0 m1 q
theorem enum_at {ds : List D} {i : Nat} {d : D} (h : (enumD ds)[i]? = some d) : ∃ x, ds[i]? = some x ∧ d = .tup [.int (i : Int), x] := by
  have hi : i < ds.length := by
    have := (List.getElem?_eq_some_iff.mp h).1
    rw [enum_len] at this
    exact this
  refine ⟨ds[i], List.getElem?_eq_getElem hi, ?_⟩
  rw [enum_get (List.getElem?_eq_getElem hi)] at h
  exact (Option.some.inj h).symm
theorem cut_ints (ns : List Int) (lo hi : Option Int) : ∃ ms : List Int, DL.cutD (ns.map D.int) lo hi = ms.map D.int := by
  unfold DL.cutD
  rw [← List.map_drop, ← List.map_take]
  exact ⟨_, rfl⟩
end LK
end

section
set_option autoImplicit false
set_option maxRecDepth 100000
set_option maxHeartbeats 4000000
namespace LK
/-! ### determinants by the first row -/
abbrev Mx := Nat → Nat → Int
def sg (j : Nat) : Int := 1 - 2 * ((j % 2 : Nat) : Int)
def cut (j k : Nat) : Nat := if k < j then k else k + 1
def unc (j b : Nat) : Nat := if b < j then b else b - 1
def mnr (M : Mx) (j : Nat) : Mx := fun i k => M (i + 1) (cut j k)
def det : Nat → Mx → Int
  | 0, _ => 1
  | n + 1, M => sumN (n + 1) fun j => sg j * M 0 j * det n (mnr M j)
def upR (A : Mx) (i : Nat) (v : Nat → Int) : Mx := fun a b => if a = i then v b else A a b
theorem sg_succ (j : Nat) : sg (j + 1) = - sg j := by
  unfold sg
  have : (j + 1) % 2 = 1 - j % 2 := by omega
  have h2 : j % 2 < 2 := Nat.mod_lt _ (by decide)
  rw [this]
  omega
theorem cut_lt {n j k : Nat} (hk : k < n) : cut j k < n + 1 := by unfold cut; split <;> omega
theorem cut_ne (j k : Nat) : cut j k ≠ j := by unfold cut; split <;> omega
theorem cut_unc {j b : Nat} (h : b ≠ j) : cut j (unc j b) = b := by unfold cut unc; grind
theorem unc_cut (j k : Nat) : unc j (cut j k) = k := by unfold cut unc; grind
theorem unc_lt {n j b : Nat} (hj : j < n + 1) (hb : b < n + 1) (h : b ≠ j) : unc j b < n := by unfold unc; split <;> omega
theorem sumN_neg (n : Nat) (f : Nat → Int) : sumN n (fun k => - f k) = - sumN n f := by
  induction n with
  | zero => rfl
  | succ n ih => show sumN n _ + - f n = - (sumN n f + f n); rw [ih]; omega
theorem sumN_one {n c : Nat} {f : Nat → Int} (hc : c < n) (h : ∀ j, j < n → j ≠ c → f j = 0) : sumN n f = f c := by
  induction n with
  | zero => omega
  | succ n ih =>
    show sumN n f + f n = f c
    by_cases e : c = n
    · subst e; rw [sumN_zero fun k hk => h k (by omega) (by omega)]; omega
    · rw [ih (by omega) fun j hj => h j (by omega), h n (by omega) (fun z => e z.symm)]; omega
theorem sumN_two {n c : Nat} {f : Nat → Int} (hc : c + 1 < n) (h : ∀ j, j < n → j ≠ c → j ≠ c + 1 → f j = 0) (h0 : f c + f (c + 1) = 0) : sumN n f = 0 := by
  have e : sumN n f = sumN n (fun j => (if j = c then f j else 0) + (if j = c + 1 then f j else 0)) := sumN_ext fun j hj => by
    by_cases e1 : j = c
    · subst e1; rw [if_pos rfl, if_neg (by omega)]; omega
    · by_cases e2 : j = c + 1
      · subst e2; rw [if_neg e1, if_pos rfl]; omega
      · rw [if_neg e1, if_neg e2, h j hj e1 e2]; rfl
  rw [e, sumN_add, sumN_one (c := c) (by omega) fun j _ hj => if_neg hj, sumN_one (c := c + 1) (by omega) fun j _ hj => if_neg hj, if_pos rfl, if_pos rfl]
  exact h0
/-- a sum with one place left out -/
theorem sumN_cut {n j : Nat} (hj : j < n + 1) (f : Nat → Int) : sumN n (fun k => f (cut j k)) = sumN (n + 1) fun b => if b = j then 0 else f b := by
  induction n generalizing j with
  | zero => have : j = 0 := by omega
            subst this; rfl
  | succ n ih =>
    show sumN n _ + f (cut j n) = sumN (n + 1) _ + (if n + 1 = j then 0 else f (n + 1))
    by_cases e : n + 1 = j
    · subst e
      rw [if_pos rfl, Int.add_zero]
      have : (fun k => f (cut (n + 1) k)) = fun k => f (cut (n + 1) k) := rfl
      show sumN n (fun k => f (cut (n + 1) k)) + f (cut (n + 1) n) = sumN n _ + _
      have c1 : ∀ k, k < n + 1 → cut (n + 1) k = k := fun k hk => by unfold cut; rw [if_pos hk]
      rw [c1 n (by omega)]
      show _ = sumN n (fun b => if b = n + 1 then 0 else f b) + (if n = n + 1 then 0 else f n)
      rw [if_neg (by omega)]
      congr 1
      exact sumN_ext fun k hk => by rw [c1 k (by omega), if_neg (by omega)]
    · rw [if_neg e, ih (by omega)]
      have : cut j n = n + 1 := by unfold cut; rw [if_neg (by omega)]
      rw [this]
theorem det_ext : ∀ {n : Nat} {A B : Mx}, (∀ i j, i < n → j < n → A i j = B i j) → det n A = det n B
  | 0, _, _, _ => rfl
  | n + 1, A, B, h => sumN_ext fun j hj => by
    rw [h 0 j (by omega) hj, det_ext (A := mnr A j) (B := mnr B j) fun i k hi hk => h (i + 1) (cut j k) (by omega) (cut_lt hk)]
structure Alt (n w : Nat) (f : Mx → Int) : Prop where
  ext : ∀ A B : Mx, (∀ i j, i < n → j < w → A i j = B i j) → f A = f B
  add : ∀ (A : Mx) (i : Nat) (u v : Nat → Int), i < n → f (upR A i fun b => u b + v b) = f (upR A i u) + f (upR A i v)
  mul : ∀ (A : Mx) (i : Nat) (c : Int) (u : Nat → Int), i < n → f (upR A i fun b => c * u b) = c * f (upR A i u)
  adj : ∀ (A : Mx) (i : Nat), i + 1 < n → (∀ j, j < w → A i j = A (i + 1) j) → f A = 0
theorem mnr_up0 (A : Mx) (v : Nat → Int) (j : Nat) : mnr (upR A 0 v) j = mnr A j := by
  funext i k
  show (if i + 1 = 0 then v (cut j k) else A (i + 1) (cut j k)) = A (i + 1) (cut j k)
  rw [if_neg (by omega)]
theorem mnr_up (A : Mx) (i : Nat) (v : Nat → Int) (j : Nat) : mnr (upR A (i + 1) v) j = upR (mnr A j) i fun k => v (cut j k) := by
  funext a k
  show (if a + 1 = i + 1 then v (cut j k) else A (a + 1) (cut j k)) = if a = i then v (cut j k) else A (a + 1) (cut j k)
  by_cases e : a = i
  · rw [if_pos e, if_pos (by omega)]
  · rw [if_neg e, if_neg (by omega)]
theorem upR_same (A : Mx) (i : Nat) (v : Nat → Int) (b : Nat) : upR A i v i b = v b := if_pos rfl
theorem upR_ne {A : Mx} {i a : Nat} (h : a ≠ i) (v : Nat → Int) (b : Nat) : upR A i v a b = A a b := if_neg h
theorem det_add : ∀ (n : Nat) (A : Mx) (i : Nat) (u v : Nat → Int), i < n → det n (upR A i fun b => u b + v b) = det n (upR A i u) + det n (upR A i v)
  | n + 1, A, 0, u, v, _ => by
    show sumN _ _ = sumN _ _ + sumN _ _
    rw [← sumN_add]
    refine sumN_ext fun j _ => ?_
    rw [mnr_up0, mnr_up0, mnr_up0, upR_same, upR_same, upR_same, Int.mul_add, Int.add_mul]
  | n + 1, A, i + 1, u, v, h => by
    show sumN _ _ = sumN _ _ + sumN _ _
    rw [← sumN_add]
    refine sumN_ext fun j _ => ?_
    rw [mnr_up, mnr_up, mnr_up, upR_ne (by omega), upR_ne (by omega), upR_ne (by omega), det_add n _ i (fun k => u (cut j k)) (fun k => v (cut j k)) (by omega), Int.mul_add]
theorem det_smul : ∀ (n : Nat) (A : Mx) (i : Nat) (c : Int) (u : Nat → Int), i < n → det n (upR A i fun b => c * u b) = c * det n (upR A i u)
  | n + 1, A, 0, c, u, _ => by
    show sumN _ _ = c * sumN _ _
    rw [← sumN_mul]
    refine sumN_ext fun j _ => ?_
    rw [mnr_up0, mnr_up0, upR_same, upR_same]
    grind
  | n + 1, A, i + 1, c, u, h => by
    show sumN _ _ = c * sumN _ _
    rw [← sumN_mul]
    refine sumN_ext fun j _ => ?_
    rw [mnr_up, mnr_up, upR_ne (by omega), upR_ne (by omega), det_smul n _ i c (fun k => u (cut j k)) (by omega)]
    grind
theorem anti_sum (n : Nat) (F : Nat → Nat → Int) (h : ∀ a b, a < n → b < n → F a b = - F b a) : sumN n (fun a => sumN n fun b => F a b) = 0 := by
  have e : sumN n (fun a => sumN n fun b => F a b) = - sumN n (fun a => sumN n fun b => F a b) := by
    have e1 : sumN n (fun a => sumN n fun b => F a b) = sumN n fun a => sumN n fun b => - F b a := sumN_ext fun a ha => sumN_ext fun b hb => h a b ha hb
    rw [← sumN_neg]
    rw [e1, sumN_swap]
    exact sumN_ext fun a _ => sumN_neg n _
  omega
theorem cut_cut {j k l : Nat} : cut j (cut k l) = cut (cut j k) (cut (unc (cut j k) j) l) := by
  unfold cut unc
  repeat' split <;> try omega
theorem sg_anti {a b : Nat} (h : a ≠ b) : sg a * sg (unc a b) = - (sg b * sg (unc b a)) := by
  unfold unc
  rcases Nat.lt_or_gt_of_ne h with h | h
  · rw [if_neg (by omega), if_pos h]
    obtain ⟨c, rfl⟩ : ∃ c, b = c + 1 := ⟨b - 1, by omega⟩
    rw [sg_succ, Nat.add_sub_cancel]
    grind
  · rw [if_pos h, if_neg (by omega)]
    obtain ⟨c, rfl⟩ : ∃ c, a = c + 1 := ⟨a - 1, by omega⟩
    rw [sg_succ, Nat.add_sub_cancel]
    grind
theorem det_adj : ∀ (n : Nat) (A : Mx) (i : Nat), i + 1 < n → (∀ j, j < n → A i j = A (i + 1) j) → det n A = 0
  | 0, _, _, h, _ => by omega
  | 1, _, _, h, _ => by omega
  | n + 2, A, 0, _, h => by
    have e : det (n + 2) A = sumN (n + 2) fun a => sumN (n + 2) fun b => if b = a then 0 else sg a * sg (unc a b) * A 0 a * A 0 b * det n (fun i l => A (i + 2) (cut a (cut (unc a b) l))) := by
      refine sumN_ext fun a ha => ?_
      show sg a * A 0 a * sumN (n + 1) (fun k => sg k * A 1 (cut a k) * det n (mnr (mnr A a) k)) = _
      rw [← sumN_mul, ← sumN_cut ha fun b => sg a * sg (unc a b) * A 0 a * A 0 b * det n (fun i l => A (i + 2) (cut a (cut (unc a b) l)))]
      refine sumN_ext fun k hk => ?_
      have h' : A 1 (cut a k) = A 0 (cut a k) := (h _ (cut_lt hk)).symm
      rw [unc_cut, h']
      have : mnr (mnr A a) k = fun i l => A (i + 2) (cut a (cut k l)) := rfl
      rw [this]
      grind
    rw [e]
    refine anti_sum _ _ fun a b ha hb => ?_
    by_cases hab : a = b
    · subst hab
      rw [if_pos rfl]
      rfl
    · rw [if_neg (fun z => hab z.symm), if_neg hab]
      have ec : (fun i l => A (i + 2) (cut a (cut (unc a b) l))) = fun i l => A (i + 2) (cut b (cut (unc b a) l)) := by
        funext i l
        have := cut_cut (j := a) (k := unc a b) (l := l)
        rw [cut_unc (fun z => hab z.symm)] at this
        rw [this]
      rw [ec, sg_anti hab]
      grind
  | n + 2, A, i + 1, hi, h => by
    refine sumN_zero fun j hj => ?_
    rw [det_adj (n + 1) (mnr A j) i (by omega) fun k hk => h _ (cut_lt hk), Int.mul_zero]
theorem det_alt (n : Nat) : Alt n n (det n) := ⟨fun _ _ h => det_ext h, det_add n, det_smul n, det_adj n⟩
/-! ### alternating forms -/
section
variable {n w : Nat} {f : Mx → Int}
theorem up_self (A : Mx) (i : Nat) : upR A i (A i) = A := by
  funext a b
  unfold upR
  split
  · rename_i h; rw [h]
  · rfl
theorem Alt.lin (F : Alt n w f) (A : Mx) {i : Nat} (hi : i < n) (u v : Nat → Int) (c : Int) : f (upR A i fun b => u b + c * v b) = f (upR A i u) + c * f (upR A i v) := by
  rw [F.add A i u (fun b => c * v b) hi, F.mul A i c v hi]
theorem Alt.zero (F : Alt n w f) (A : Mx) {i : Nat} (hi : i < n) (h : ∀ j, j < w → A i j = 0) : f A = 0 := by
  have e := F.mul A i 0 (A i) hi
  rw [Int.zero_mul] at e
  rw [← e]
  refine F.ext _ _ fun a b _ hb => ?_
  unfold upR
  split
  · rename_i z; subst z; show A a b = 0 * A a b; rw [h b hb, Int.zero_mul]
  · rfl
theorem Alt.sum (F : Alt n w f) (A : Mx) {i : Nat} (hi : i < n) (m : Nat) (c : Nat → Int) (v : Nat → Nat → Int) : f (upR A i fun b => sumN m fun k => c k * v k b) = sumN m fun k => c k * f (upR A i (v k)) := by
  induction m with
  | zero => exact F.zero _ hi fun j _ => upR_same _ _ _ _
  | succ m ih =>
    show f (upR A i fun b => sumN m (fun k => c k * v k b) + c m * v m b) = sumN m _ + c m * f (upR A i (v m))
    rw [F.lin A hi (fun b => sumN m fun k => c k * v k b) (v m) (c m), ih]
def exc (A : Mx) (i k : Nat) : Mx := upR (upR A i (A k)) k (A i)
theorem exc_of {n w : Nat} {f : Mx → Int} (F : Alt n w f) {i k : Nat} (hi : i < n) (hk : k < n) (hne : i ≠ k) (alt : ∀ A : Mx, (∀ j, j < w → A i j = A k j) → f A = 0) (A : Mx) : f (exc A i k) = - f A := by
  have two : ∀ u v : Nat → Int, f (upR (upR A i u) k v) = f (upR (upR A k v) i u) := fun u v => F.ext _ _ fun a b _ _ => by
    unfold upR
    by_cases h1 : a = k
    · rw [if_pos h1, if_neg (by omega), if_pos h1]
    · by_cases h2 : a = i
      · rw [if_neg h1, if_pos h2, if_pos h2]
      · rw [if_neg h1, if_neg h2, if_neg h2, if_neg h1]
  have dup : ∀ u : Nat → Int, f (upR (upR A i u) k u) = 0 := fun u => alt _ fun j _ => by rw [upR_ne hne, upR_same, upR_same]
  have h := dup fun b => A i b + A k b
  rw [F.add (upR A i fun b => A i b + A k b) k (A i) (A k) hk, two, two, F.add _ i (A i) (A k) hi, F.add _ i (A i) (A k) hi, ← two, ← two, ← two, ← two, dup, dup] at h
  have e1 : f (upR (upR A i (A i)) k (A k)) = f A := by rw [up_self, up_self]
  rw [e1] at h
  show f (upR (upR A i (A k)) k (A i)) = _
  omega
theorem Alt.alt (F : Alt n w f) : ∀ (d i : Nat) (A : Mx), i + d + 1 < n → (∀ j, j < w → A i j = A (i + d + 1) j) → f A = 0
  | 0, i, A, hn, h => F.adj A i hn h
  | d + 1, i, A, hn, h => by
    have ex := exc_of F (i := i + d + 1) (k := i + d + 2) (by omega) (by omega) (by omega) (fun B hB => F.adj B (i + d + 1) (by omega) hB) A
    have z : f (exc A (i + d + 1) (i + d + 2)) = 0 := F.alt d i _ (by omega) fun j hj => by
      unfold exc
      rw [upR_ne (by omega), upR_ne (by omega), upR_ne (by omega), upR_same]
      exact h j hj
    omega
theorem Alt.eq_rows (F : Alt n w f) {i k : Nat} (hi : i < n) (hk : k < n) (hne : i ≠ k) (A : Mx) (h : ∀ j, j < w → A i j = A k j) : f A = 0 := by
  rcases Nat.lt_or_gt_of_ne hne with l | l
  · obtain ⟨d, rfl⟩ : ∃ d, k = i + d + 1 := ⟨k - i - 1, by omega⟩
    exact F.alt d i A hk h
  · obtain ⟨d, rfl⟩ : ∃ d, i = k + d + 1 := ⟨i - k - 1, by omega⟩
    exact F.alt d k A hi fun j hj => (h j hj).symm
theorem Alt.exch (F : Alt n w f) {i k : Nat} (hi : i < n) (hk : k < n) (hne : i ≠ k) (A : Mx) : f (exc A i k) = - f A := exc_of F hi hk hne (F.eq_rows hi hk hne) A
theorem Alt.rowop (F : Alt n w f) {i k : Nat} (hi : i < n) (hk : k < n) (hne : i ≠ k) (A : Mx) (c : Int) : f (upR A i fun b => A i b + c * A k b) = f A := by
  rw [F.lin A hi (A i) (A k) c, up_self, F.eq_rows hi hk hne (upR A i (A k)) fun j _ => by rw [upR_same, upR_ne (fun z => hne z.symm)]]
  omega
end
/-! ### an alternating form of n rows in n columns is the determinant times its value at the unit -/
def ins (j : Nat) (B : Mx) : Mx := fun a b => match a with
  | 0 => idG j b
  | i + 1 => if b = j then 0 else B i (unc j b)
theorem idG_same (i : Nat) : idG i i = 1 := if_pos rfl
theorem idG_ne {i j : Nat} (h : i ≠ j) : idG i j = 0 := if_neg h
theorem ins_alt {n : Nat} {f : Mx → Int} (F : Alt (n + 1) (n + 1) f) {j : Nat} (hj : j < n + 1) : Alt n n fun B => f (ins j B) where
  ext := fun A B h => F.ext _ _ fun i b hi hb => by
    cases i with
    | zero => rfl
    | succ i =>
      show (if b = j then 0 else A i (unc j b)) = if b = j then 0 else B i (unc j b)
      split
      · rfl
      · rename_i z
        exact h i _ (by omega) (unc_lt hj hb z)
  add := fun A i u v hi => by
    have e : ∀ v : Nat → Int, ins j (upR A i v) = upR (ins j A) (i + 1) fun b => if b = j then 0 else v (unc j b) := up_ins A i
    rw [e, e, e, ← F.add _ _ _ _ (by omega)]
    congr 2
    funext b
    split <;> rfl
  mul := fun A i c u hi => by
    have e : ∀ v : Nat → Int, ins j (upR A i v) = upR (ins j A) (i + 1) fun b => if b = j then 0 else v (unc j b) := up_ins A i
    rw [e, e, ← F.mul _ _ _ _ (by omega)]
    congr 2
    funext b
    split
    · rw [Int.mul_zero]
    · rfl
  adj := fun A i hi h => F.adj _ (i + 1) (by omega) fun b hb => by
    show (if b = j then 0 else A i (unc j b)) = if b = j then 0 else A (i + 1) (unc j b)
    split
    · rfl
    · rename_i z
      exact h _ (unc_lt hj hb z)
where
  up_ins {j : Nat} (A : Mx) (i : Nat) (v : Nat → Int) : ins j (upR A i v) = upR (ins j A) (i + 1) fun b => if b = j then 0 else v (unc j b) := by
    funext a b
    cases a with
    | zero => rw [upR_ne (by omega)]; rfl
    | succ a =>
      show (if b = j then 0 else upR A i v a (unc j b)) = _
      by_cases e : a = i
      · subst e
        rw [upR_same, upR_same]
      · rw [upR_ne e, upR_ne (by omega)]; rfl
theorem ins_id {n : Nat} {f : Mx → Int} (F : Alt (n + 1) (n + 1) f) : ∀ j, j < n + 1 → f (ins j idG) = sg j * f idG
  | 0, _ => by
    have : f (ins 0 idG) = f idG := F.ext _ _ fun a b _ _ => by
      cases a with
      | zero => rfl
      | succ a =>
        show (if b = 0 then 0 else idG a (unc 0 b)) = idG (a + 1) b
        unfold idG unc
        grind
    rw [this]
    show _ = (1 - 2 * 0) * f idG
    omega
  | j + 1, h => by
    have ih := ins_id F j (by omega)
    have ex := F.exch (i := 0) (k := j + 1) (by omega) h (by omega) (ins j idG)
    have : f (exc (ins j idG) 0 (j + 1)) = f (ins (j + 1) idG) := F.ext _ _ fun a b _ _ => by
      unfold exc
      by_cases e : a = j + 1
      · subst e
        rw [upR_same]
        show idG j b = if b = j + 1 then 0 else idG j (unc (j + 1) b)
        unfold idG unc
        grind
      · rw [upR_ne e]
        cases a with
        | zero =>
          rw [upR_same]
          show (if b = j then 0 else idG j (unc j b)) = idG (j + 1) b
          unfold idG unc
          grind
        | succ a =>
          rw [upR_ne (by omega)]
          show (if b = j then 0 else idG a (unc j b)) = if b = j + 1 then 0 else idG a (unc (j + 1) b)
          unfold idG unc
          grind
    rw [← this, ex, ih, sg_succ]
    grind
theorem alt_det : ∀ (n : Nat) (f : Mx → Int), Alt n n f → ∀ A, f A = f idG * det n A
  | 0, f, F, A => by
    have : f A = f idG := F.ext _ _ fun i j hi => absurd hi (by omega)
    rw [this]
    show _ = _ * 1
    omega
  | n + 1, f, F, A => by
    have e0 : f A = f (upR A 0 fun b => sumN (n + 1) fun j => A 0 j * idG j b) := F.ext _ _ fun i b _ hb => by
      by_cases e : i = 0
      · subst e
        rw [upR_same]
        have := mul_id (m := n + 1) A 0 hb
        exact this.symm
      · rw [upR_ne e]
    rw [e0, F.sum A (by omega) (n + 1) (fun j => A 0 j) (fun j => idG j)]
    show _ = _ * sumN (n + 1) _
    rw [← sumN_mul]
    refine sumN_ext fun j hj => ?_
    have clear : ∀ t, t ≤ n → f (upR A 0 (idG j)) = f (fun a b => if a = 0 then idG j b else if a ≤ t ∧ b = j then 0 else A a b) := by
      intro t
      induction t with
      | zero =>
        intro _
        refine F.ext _ _ fun a b _ _ => ?_
        unfold upR
        split
        · rfl
        · rw [if_neg (by omega)]
      | succ t ih =>
        intro ht
        rw [ih (by omega)]
        have r := F.rowop (i := t + 1) (k := 0) (by omega) (by omega) (by omega) (fun a b => if a = 0 then idG j b else if a ≤ t ∧ b = j then 0 else A a b) (- A (t + 1) j)
        rw [← r]
        refine F.ext _ _ fun a b _ _ => ?_
        by_cases e : a = t + 1
        · subst e
          rw [upR_same]
          unfold idG
          grind
        · rw [upR_ne e]
          grind
    have c := clear n (Nat.le_refl n)
    have e1 : f (upR A 0 (idG j)) = f (ins j (mnr A j)) := by
      rw [c]
      refine F.ext _ _ fun a b ha _ => ?_
      cases a with
      | zero => rfl
      | succ a =>
        show (if a + 1 = 0 then _ else if a + 1 ≤ n ∧ b = j then 0 else A (a + 1) b) = if b = j then 0 else A (a + 1) (cut j (unc j b))
        rw [if_neg (by omega)]
        by_cases hb : b = j
        · rw [if_pos hb, if_pos ⟨by omega, hb⟩]
        · rw [if_neg hb, if_neg (fun z => hb z.2), cut_unc hb]
    rw [e1, alt_det n (fun B => f (ins j B)) (ins_alt F hj) (mnr A j), ins_id F j hj]
    grind
theorem det_id (n : Nat) : det n idG = 1 := by
  induction n with
  | zero => rfl
  | succ n ih =>
    show sumN (n + 1) _ = 1
    rw [sumN_one (c := 0) (by omega) fun j _ hj => by rw [idG_ne (fun z => hj z.symm), Int.mul_zero, Int.zero_mul], idG_same]
    have : det n (mnr idG 0) = det n idG := det_ext fun i k _ _ => by
      show idG (i + 1) (cut 0 k) = idG i k
      unfold idG cut
      grind
    rw [this, ih]
    rfl
theorem upR_mul {m : Nat} (A B : Mx) (i : Nat) (v : Nat → Int) : mulG m (upR A i v) B = upR (mulG m A B) i fun b => sumN m fun k => v k * B k b := by
  funext a b
  unfold mulG
  by_cases e : a = i
  · subst e
    rw [upR_same]
    exact sumN_ext fun k _ => by rw [upR_same]
  · rw [upR_ne e]
    exact sumN_ext fun k _ => by rw [upR_ne e]
theorem mul_alt {n m w : Nat} {f : Mx → Int} (F : Alt n w f) (B : Mx) : Alt n m fun A => f (mulG m A B) where
  ext := fun A A' h => F.ext _ _ fun i j hi _ => sumN_ext fun k hk => by rw [h i k hi hk]
  add := fun A i u v hi => by
    rw [upR_mul, upR_mul, upR_mul, ← F.add _ _ _ _ hi]
    congr 2
    funext b
    rw [← sumN_add]
    exact sumN_ext fun k _ => Int.add_mul _ _ _
  mul := fun A i c u hi => by
    rw [upR_mul, upR_mul, ← F.mul _ _ _ _ hi]
    congr 2
    funext b
    rw [← sumN_mul]
    exact sumN_ext fun k _ => Int.mul_assoc _ _ _
  adj := fun A i hi h => F.adj _ i hi fun j _ => sumN_ext fun k hk => by rw [h k hk]
theorem det_mul (n : Nat) (A B : Mx) : det n (mulG n A B) = det n A * det n B := by
  rw [alt_det n (fun A => det n (mulG n A B)) (mul_alt (det_alt n) B) A]
  have : det n (mulG n idG B) = det n B := det_ext fun i j hi _ => id_mul B j hi
  rw [this, Int.mul_comm]
/-! ### columns -/
def upC (A : Mx) (c : Nat) (v : Nat → Int) : Mx := fun a b => if b = c then v a else A a b
theorem mnr_upC_same (A : Mx) (c : Nat) (v : Nat → Int) : mnr (upC A c v) c = mnr A c := by
  funext i k
  exact if_neg (cut_ne c k)
theorem mnr_upC {A : Mx} {c j : Nat} (h : c ≠ j) (v : Nat → Int) : mnr (upC A c v) j = upC (mnr A j) (unc j c) fun i => v (i + 1) := by
  funext i k
  show (if cut j k = c then v (i + 1) else A (i + 1) (cut j k)) = if k = unc j c then v (i + 1) else A (i + 1) (cut j k)
  have : cut j k = c ↔ k = unc j c := ⟨fun e => by rw [← e, unc_cut], fun e => by rw [e, cut_unc h]⟩
  by_cases e : k = unc j c
  · rw [if_pos e, if_pos (this.mpr e)]
  · rw [if_neg e, if_neg (fun z => e (this.mp z))]
theorem det_addC : ∀ (n : Nat) (A : Mx) (c : Nat) (u v : Nat → Int), c < n → det n (upC A c fun b => u b + v b) = det n (upC A c u) + det n (upC A c v)
  | n + 1, A, c, u, v, hc => by
    show sumN _ _ = sumN _ _ + sumN _ _
    rw [← sumN_add]
    refine sumN_ext fun j hj => ?_
    by_cases e : c = j
    · subst e
      rw [mnr_upC_same, mnr_upC_same, mnr_upC_same]
      have s : ∀ v : Nat → Int, upC A c v 0 c = v 0 := fun v => if_pos rfl
      rw [s, s, s, Int.mul_add, Int.add_mul]
    · rw [mnr_upC e, mnr_upC e, mnr_upC e]
      have s : ∀ v : Nat → Int, upC A c v 0 j = A 0 j := fun v => if_neg (fun z => e z.symm)
      rw [s, s, s, det_addC n _ _ (fun i => u (i + 1)) (fun i => v (i + 1)) (unc_lt hj hc e), Int.mul_add]
theorem det_smulC : ∀ (n : Nat) (A : Mx) (c : Nat) (d : Int) (u : Nat → Int), c < n → det n (upC A c fun b => d * u b) = d * det n (upC A c u)
  | n + 1, A, c, d, u, hc => by
    show sumN _ _ = d * sumN _ _
    rw [← sumN_mul]
    refine sumN_ext fun j hj => ?_
    by_cases e : c = j
    · subst e
      rw [mnr_upC_same, mnr_upC_same]
      have s : ∀ v : Nat → Int, upC A c v 0 c = v 0 := fun v => if_pos rfl
      rw [s, s]
      grind
    · rw [mnr_upC e, mnr_upC e]
      have s : ∀ v : Nat → Int, upC A c v 0 j = A 0 j := fun v => if_neg (fun z => e z.symm)
      rw [s, s, det_smulC n _ _ d (fun i => u (i + 1)) (unc_lt hj hc e)]
      grind
theorem det_adjC : ∀ (n : Nat) (A : Mx) (c : Nat), c + 1 < n → (∀ i, i < n → A i c = A i (c + 1)) → det n A = 0
  | 0, _, _, h, _ => by omega
  | n + 1, A, c, hc, h => by
    refine sumN_two hc (fun j hj h1 h2 => ?_) ?_
    · have u1 : unc j (c + 1) = unc j c + 1 := by unfold unc; grind
      rw [det_adjC n (mnr A j) (unc j c) (by rw [← u1]; exact unc_lt hj hc (fun z => h2 z.symm)) fun i hi => ?_, Int.mul_zero]
      show A (i + 1) (cut j (unc j c)) = A (i + 1) (cut j (unc j c + 1))
      rw [← u1, cut_unc (fun z => h1 z.symm), cut_unc (fun z => h2 z.symm)]
      exact h (i + 1) (by omega)
    · have e : det n (mnr A c) = det n (mnr A (c + 1)) := det_ext fun i k hi hk => by
        show A (i + 1) (cut c k) = A (i + 1) (cut (c + 1) k)
        by_cases h1 : k = c
        · subst h1
          have : cut k k = k + 1 := by unfold cut; grind
          have h2 : cut (k + 1) k = k := by unfold cut; grind
          rw [this, h2]
          exact (h (i + 1) (by omega)).symm
        · have : cut c k = cut (c + 1) k := by unfold cut; grind
          rw [this]
      rw [e, h 0 (by omega), sg_succ]
      grind
def tr (A : Mx) : Mx := fun i j => A j i
theorem tr_up (A : Mx) (i : Nat) (v : Nat → Int) : tr (upR A i v) = upC (tr A) i v := rfl
theorem tr_alt (n : Nat) : Alt n n fun A => det n (tr A) where
  ext := fun A B h => det_ext fun i j hi hj => h j i hj hi
  add := fun A i u v hi => by rw [tr_up, tr_up, tr_up]; exact det_addC n _ i u v hi
  mul := fun A i c u hi => by rw [tr_up, tr_up]; exact det_smulC n _ i c u hi
  adj := fun A i hi h => det_adjC n _ i hi h
theorem det_tr (n : Nat) (A : Mx) : det n (tr A) = det n A := by
  rw [alt_det n (fun A => det n (tr A)) (tr_alt n) A]
  have : det n (tr idG) = det n idG := det_ext fun i j _ _ => by
    show idG j i = idG i j
    unfold idG
    grind
  rw [this, det_id]
  omega
theorem det_colEq {n : Nat} {A : Mx} {c d : Nat} (hc : c < n) (hd : d < n) (h : c ≠ d) (e : ∀ i, i < n → A i c = A i d) : det n A = 0 := by
  have := (tr_alt n).eq_rows hc hd h (tr A) e
  exact this
theorem det_colZero {n : Nat} {A : Mx} {c : Nat} (hc : c < n) (e : ∀ i, i < n → A i c = 0) : det n A = 0 := by
  have := (tr_alt n).zero (tr A) hc e
  exact this
end LK
end

section
set_option autoImplicit false
set_option maxRecDepth 100000
set_option maxHeartbeats 4000000
namespace LK
/-! ### borders of the first k rows and columns -/
def sel (k i a : Nat) : Nat := if a < k then a else i
def brd (k : Nat) (M : Mx) (i j : Nat) : Int := det (k + 1) fun a b => M (sel k i a) (sel k j b)
theorem sel_lt {k i a : Nat} (h : a < k) : sel k i a = a := if_pos h
theorem sel_ge {k i a : Nat} (h : ¬ a < k) : sel k i a = i := if_neg h
theorem det_lastC : ∀ (n : Nat) (A : Mx), (∀ a, a < n + 1 → A a n = idG n a) → det (n + 1) A = det n A
  | 0, A, h => by
    show 0 + sg 0 * A 0 0 * 1 = 1
    rw [h 0 (by omega)]
    rfl
  | n + 1, A, h => by
    show sumN (n + 1) _ + sg (n + 1) * A 0 (n + 1) * _ = sumN (n + 1) _
    rw [h 0 (by omega), idG_ne (by omega), Int.mul_zero, Int.zero_mul, Int.add_zero]
    refine sumN_ext fun j hj => ?_
    rw [det_lastC n (mnr A j) fun a ha => ?_]
    show A (a + 1) (cut j n) = idG n a
    have : cut j n = n + 1 := by unfold cut; grind
    rw [this, h (a + 1) (by omega)]
    unfold idG
    grind
theorem det_lastR (n : Nat) (A : Mx) (h : ∀ b, b < n + 1 → A n b = idG n b) : det (n + 1) A = det n A := by
  rw [← det_tr (n + 1) A, ← det_tr n A]
  exact det_lastC n (tr A) h
theorem brd_zero {k : Nat} (M : Mx) (i : Nat) {j : Nat} (h : j < k) : brd k M i j = 0 :=
  det_colEq (c := j) (d := k) (by omega) (by omega) (by omega) fun a _ => by rw [sel_lt h, sel_ge (Nat.lt_irrefl k)]
def blk (k : Nat) (M Y : Mx) : Mx := fun a b => if a < k then M a b else if b < k then 0 else Y (a - k) (b - k)
end LK
end

section
set_option autoImplicit false
set_option maxRecDepth 100000
set_option maxHeartbeats 4000000
namespace LK
open PySem PySem.Spec PyProof.Rows L2 DL
open PySem.W (Frag)
/-! ### bounds of determinants -/
theorem sumN_le {n : Nat} {f : Nat → Int} {B : Nat} (h : ∀ k, k < n → (f k).natAbs ≤ B) : (sumN n f).natAbs ≤ n * B := by
  induction n with
  | zero => simp [sumN]
  | succ n ih =>
    have h1 := ih fun k hk => h k (by omega)
    have h2 := h n (by omega)
    show (sumN n f + f n).natAbs ≤ _
    rw [Nat.succ_mul]
    omega
theorem sg_abs (j : Nat) : (sg j).natAbs = 1 := by
  have h2 : j % 2 = 0 ∨ j % 2 = 1 := by omega
  unfold sg
  rcases h2 with h | h <;> rw [h] <;> decide
theorem det_bd {b : Nat} : ∀ {n : Nat} {A : Mx}, n ≤ 8 → Bd b n n A → (det n A).natAbs ≤ 2 ^ (n * (b + 3))
  | 0, A, _, _ => by show 1 ≤ 2 ^ (0 * (b + 3)); rw [Nat.zero_mul]; decide
  | n + 1, A, hn, h => by
    have h1 := sumN_le (n := n + 1) (f := fun j => sg j * A 0 j * det n (mnr A j)) (B := 2 ^ b * 2 ^ (n * (b + 3))) fun j hj => by
      have ih := det_bd (n := n) (A := mnr A j) (by omega) fun i k hi hk => h (i + 1) (cut j k) (by omega) (cut_lt hk)
      rw [Int.natAbs_mul, Int.natAbs_mul, sg_abs, Nat.one_mul]
      exact Nat.mul_le_mul (Nat.le_of_lt (h 0 j (by omega) hj)) ih
    refine Nat.le_trans h1 ?_
    have e : (n + 1) * (b + 3) = 3 + (b + n * (b + 3)) := by rw [Nat.succ_mul]; omega
    rw [e, Nat.pow_add 2 3, Nat.pow_add 2 b]
    exact Nat.mul_le_mul_right _ (by show n + 1 ≤ 8; omega)
/-! ### lists of lists -/
end LK
end

section
set_option autoImplicit false
set_option maxRecDepth 100000
set_option maxHeartbeats 4000000
namespace LK
/-! ### systems with a determinant that is not nought -/
/-- C x = 0 has no other answer -/
theorem det_inj {n : Nat} {C : Mx} (hd : det n C ≠ 0) {x : Nat → Int} (h : ∀ i, i < n → sumN n (fun k => C i k * x k) = 0) : ∀ l, l < n → x l = 0 := by
  intro l hl
  have F := tr_alt n
  -- the column l replaced by C x
  have e1 : det n (upC C l fun i => sumN n fun k => C i k * x k) = 0 := det_colZero hl fun i hi => by
    show (if l = l then _ else _) = 0
    rw [if_pos rfl]
    exact h i hi
  have e2 : det n (upC C l fun i => sumN n fun k => C i k * x k) = x l * det n C := by
    have s := F.sum (tr C) hl n x (fun k => tr C k)
    have a1 : det n (tr (upR (tr C) l fun b => sumN n fun k => x k * tr C k b)) = det n (upC C l fun i => sumN n fun k => C i k * x k) := det_ext fun i j hi hj => by
      show upR (tr C) l _ j i = upC C l _ i j
      unfold upR upC
      split
      · exact sumN_ext fun k _ => Int.mul_comm _ _
      · rfl
    rw [← a1]
    refine s.trans ?_
    rw [sumN_one (c := l) hl fun k hk hne => ?_]
    · rw [up_self]
      show x l * det n (tr (tr C)) = _
      rfl
    · rw [F.eq_rows (i := k) (k := l) hk hl hne _ fun j _ => ?_, Int.mul_zero]
      rw [upR_same, upR_ne hne]
  rw [e1] at e2
  rcases Int.mul_eq_zero.mp e2.symm with z | z
  · exact z
  · exact absurd z hd
/-- below the diagonal noughts: the product of the diagonal -/
def prodN : Nat → (Nat → Int) → Int
  | 0, _ => 1
  | n + 1, f => prodN n f * f n
theorem det_tri : ∀ (n : Nat) (M : Mx), (∀ i j, i < n → j < i → M i j = 0) → det n M = prodN n fun i => M i i
  | 0, _, _ => rfl
  | n + 1, M, h => by
    have F := det_alt (n + 1)
    have e : det (n + 1) M = det (n + 1) (upR M n fun b => M n n * idG n b) := det_ext fun i j hi hj => by
      by_cases e : i = n
      · subst e
        rw [upR_same]
        by_cases ej : j = i
        · subst ej
          rw [idG_same, Int.mul_one]
        · rw [idG_ne (fun z => ej z.symm), Int.mul_zero]
          exact h i j hi (by omega)
      · rw [upR_ne e]
    rw [e, F.mul M n _ _ (by omega), det_lastR n _ fun b _ => upR_same _ _ _ _]
    have e2 : det n (upR M n (idG n)) = det n M := det_ext fun i j hi hj => upR_ne (by omega) _ _
    rw [e2, det_tri n M fun i j hi hj => h i j (by omega) hj]
    exact Int.mul_comm _ _
/-! ### stands: rows with heads -/
structure St where
  row : Nat → Int
  parts : Nat → Int
  head : Nat
def comb : List St → List Int → Nat → Int
  | s :: ss, c :: cs, j => c * s.row j + comb ss cs j
  | _, _, _ => 0
def InL (n : Nat) (ss : List St) (v : Nat → Int) : Prop := ∃ cs : List Int, cs.length = ss.length ∧ ∀ j, j < n → v j = comb ss cs j
theorem comb_add : ∀ (ss : List St) (cs ds : List Int) (c : Int) (j : Nat), cs.length = ss.length → ds.length = ss.length → comb ss (List.zipWith (fun a b => a + c * b) cs ds) j = comb ss cs j + c * comb ss ds j
  | [], [], [], c, j, _, _ => by simp [comb]
  | s :: ss, a :: cs, b :: ds, c, j, h1, h2 => by
    show (a + c * b) * s.row j + comb ss _ j = (a * s.row j + comb ss cs j) + c * (b * s.row j + comb ss ds j)
    rw [comb_add ss cs ds c j (by simpa using h1) (by simpa using h2)]
    grind
theorem comb_zero : ∀ (ss : List St) (j : Nat), comb ss (ss.map fun _ => (0 : Int)) j = 0
  | [], _ => rfl
  | s :: ss, j => by
    show 0 * s.row j + comb ss _ j = 0
    rw [comb_zero ss j, Int.zero_mul]
    rfl
theorem InL.zero {n : Nat} {ss : List St} {v : Nat → Int} (h : ∀ j, j < n → v j = 0) : InL n ss v := ⟨ss.map fun _ => 0, by simp, fun j hj => by rw [h j hj, comb_zero]⟩
theorem InL.lin {n : Nat} {ss : List St} {u v w : Nat → Int} (c : Int) (hu : InL n ss u) (hv : InL n ss v) (h : ∀ j, j < n → w j = u j + c * v j) : InL n ss w := by
  obtain ⟨cs, l1, e1⟩ := hu
  obtain ⟨ds, l2, e2⟩ := hv
  refine ⟨List.zipWith (fun a b => a + c * b) cs ds, by rw [List.length_zipWith]; omega, fun j hj => ?_⟩
  rw [comb_add ss cs ds c j l1 l2, h j hj, e1 j hj, e2 j hj]
theorem InL.cons {n : Nat} {s : St} {ss : List St} {v : Nat → Int} (h : InL n ss v) : InL n (s :: ss) v := by
  obtain ⟨cs, l, e⟩ := h
  refine ⟨0 :: cs, by simp [l], fun j hj => ?_⟩
  show v j = 0 * s.row j + comb ss cs j
  rw [e j hj]
  omega
theorem InL.head {n : Nat} {s : St} {ss : List St} {v : Nat → Int} (h : ∀ j, j < n → v j = s.row j) : InL n (s :: ss) v := by
  refine ⟨1 :: ss.map fun _ => 0, by simp, fun j hj => ?_⟩
  show v j = 1 * s.row j + comb ss _ j
  rw [comb_zero, h j hj]
  omega
theorem InL.ext {n : Nat} {ss : List St} {u v : Nat → Int} (hu : InL n ss u) (h : ∀ j, j < n → v j = u j) : InL n ss v := by
  obtain ⟨cs, l, e⟩ := hu
  exact ⟨cs, l, fun j hj => (h j hj).trans (e j hj)⟩
theorem InL.mem {n : Nat} : ∀ {ss : List St} {s : St}, s ∈ ss → InL n ss s.row
  | a :: ss, s, h => by
    rcases List.mem_cons.mp h with e | e
    · subst e
      exact InL.head fun j _ => rfl
    · exact (InL.mem e).cons
/-- what is made of rows that lie in another lattice lies there -/
theorem InL.sub {n : Nat} {ts : List St} : ∀ {ss : List St} {v : Nat → Int}, (∀ s ∈ ss, InL n ts s.row) → InL n ss v → InL n ts v
  | [], v, _, ⟨cs, l, e⟩ => InL.zero fun j hj => e j hj
  | s :: ss, v, h, ⟨cs, l, e⟩ => by
    match cs, l, e with
    | c :: cs, l, e =>
      have h1 : InL n ts (comb ss cs) := InL.sub (ss := ss) (fun a ha => h a (List.mem_cons_of_mem _ ha)) ⟨cs, by simpa using l, fun _ _ => rfl⟩
      refine InL.lin c h1 (h s (List.mem_cons_self ..)) fun j hj => ?_
      rw [e j hj]
      show c * s.row j + comb ss cs j = _
      omega
/-- heads that rise, each number at a head above 0, noughts ahead of it -/
structure Ech (n : Nat) (ss : List St) : Prop where
  one : ∀ s ∈ ss, s.head < n ∧ (∀ j, j < s.head → s.row j = 0) ∧ 0 < s.row s.head
  up : ss.Pairwise fun a b => a.head < b.head
theorem Ech.tail {n : Nat} {s : St} {ss : List St} (h : Ech n (s :: ss)) : Ech n ss := ⟨fun a ha => h.one a (List.mem_cons_of_mem _ ha), (List.pairwise_cons.mp h.up).2⟩
theorem Ech.low {n : Nat} {s : St} {ss : List St} (h : Ech n (s :: ss)) : ∀ a ∈ ss, a.row s.head = 0 := fun a ha => (h.one a (List.mem_cons_of_mem _ ha)).2.1 _ ((List.pairwise_cons.mp h.up).1 a ha)
theorem comb_at {j : Nat} : ∀ {ss : List St} {cs : List Int}, (∀ a ∈ ss, a.row j = 0) → comb ss cs j = 0
  | [], [], _ => rfl
  | [], _ :: _, _ => rfl
  | _ :: _, [], _ => rfl
  | s :: ss, c :: cs, h => by
    show c * s.row j + comb ss cs j = 0
    rw [h s (List.mem_cons_self ..), comb_at fun a ha => h a (List.mem_cons_of_mem _ ha), Int.mul_zero]
    rfl
def Rd (ss : List St) (v : Nat → Int) : Prop := ∀ s ∈ ss, 0 ≤ v s.head ∧ v s.head < s.row s.head
/-- two that are reduced and alike are the same -/
theorem rest_uniq {n : Nat} : ∀ {ss : List St} {u v : Nat → Int}, Ech n ss → Rd ss u → Rd ss v → InL n ss (fun j => u j - v j) → ∀ j, j < n → u j = v j
  | [], u, v, _, _, _, ⟨cs, l, e⟩, j, hj => by
    have : u j - v j = comb [] cs j := e j hj
    have h0 : comb [] cs j = 0 := by cases cs <;> rfl
    omega
  | s :: ss, u, v, E, ru, rv, ⟨cs, l, e⟩, j, hj => by
    match cs, l, e with
    | c :: cs, l, e =>
      obtain ⟨hn, hz, hp⟩ := E.one s (List.mem_cons_self ..)
      have e0 : u s.head - v s.head = c * s.row s.head + comb ss cs s.head := e s.head hn
      rw [comb_at E.low, Int.add_zero] at e0
      have r1 := ru s (List.mem_cons_self ..)
      have r2 := rv s (List.mem_cons_self ..)
      have hc : c = 0 := by
        rcases Int.lt_trichotomy c 0 with h | h | h
        · exfalso
          have : c * s.row s.head ≤ -1 * s.row s.head := Int.mul_le_mul_of_nonneg_right (by omega) (by omega)
          omega
        · exact h
        · exfalso
          have : 1 * s.row s.head ≤ c * s.row s.head := Int.mul_le_mul_of_nonneg_right (by omega) (by omega)
          omega
      subst hc
      refine rest_uniq E.tail (fun a ha => ru a (List.mem_cons_of_mem _ ha)) (fun a ha => rv a (List.mem_cons_of_mem _ ha)) ⟨cs, by simpa using l, fun j hj => ?_⟩ j hj
      have : u j - v j = 0 * s.row j + comb ss cs j := e j hj
      show u j - v j = comb ss cs j
      rw [this]
      omega
/-- the rest by the stands -/
def cutS (v : Nat → Int) (s : St) : Nat → Int := fun j => v j - (v s.head / s.row s.head) * s.row j
def restS (ss : List St) (v : Nat → Int) : Nat → Int := ss.foldl cutS v
theorem cut_low {v : Nat → Int} {s : St} {j : Nat} (h : s.row j = 0) : cutS v s j = v j := by
  unfold cutS
  rw [h, Int.mul_zero, Int.sub_zero]
theorem rest_keeps {n : Nat} {j : Nat} : ∀ {ss : List St} {v : Nat → Int}, (∀ a ∈ ss, a.row j = 0) → restS ss v j = v j
  | [], _, _ => rfl
  | s :: ss, v, h => by
    show restS ss (cutS v s) j = v j
    rw [rest_keeps (n := n) (ss := ss) fun a ha => h a (List.mem_cons_of_mem _ ha), cut_low (h s (List.mem_cons_self ..))]
theorem rest_ok {n : Nat} : ∀ {ss : List St} {v : Nat → Int}, Ech n ss → Rd ss (restS ss v) ∧ InL n ss fun j => v j - restS ss v j
  | [], v, _ => ⟨fun s hs => (by cases hs), InL.zero fun j _ => (by show v j - v j = 0; omega)⟩
  | s :: ss, v, E => by
    obtain ⟨h1, h2⟩ := rest_ok (v := cutS v s) E.tail
    obtain ⟨hn, hz, hp⟩ := E.one s (List.mem_cons_self ..)
    refine ⟨fun a ha => ?_, ?_⟩
    · rcases List.mem_cons.mp ha with e | e
      · subst e
        show 0 ≤ restS ss (cutS v a) a.head ∧ restS ss (cutS v a) a.head < a.row a.head
        rw [rest_keeps (n := n) E.low]
        unfold cutS
        have e1 := Int.emod_add_mul_ediv (v a.head) (a.row a.head)
        have e2 := Int.emod_nonneg (v a.head) (show a.row a.head ≠ 0 by omega)
        have e3 := Int.emod_lt_of_pos (v a.head) hp
        rw [Int.mul_comm] at e1
        omega
      · exact h1 a e
    · refine InL.lin (v s.head / s.row s.head) h2.cons (InL.mem (List.mem_cons_self ..)) fun j _ => ?_
      show v j - restS ss (cutS v s) j = (cutS v s j - restS ss (cutS v s) j) + _ * s.row j
      unfold cutS
      omega
/-! ### tidied -/
def hd (ss : List St) (j : Nat) : Nat := (ss.getD j ⟨fun _ => 0, fun _ => 0, 0⟩).head
def rw_ (ss : List St) (i j : Nat) : Int := (ss.getD i ⟨fun _ => 0, fun _ => 0, 0⟩).row j
def cutB (s later : St) : St := ⟨cutS s.row later, fun i => s.parts i - (s.row later.head / later.row later.head) * later.parts i, s.head⟩
structure Tdy (n : Nat) (ss : List St) : Prop where
  ech : Ech n ss
  red : ss.Pairwise fun a b => 0 ≤ a.row b.head ∧ a.row b.head < b.row b.head
/-! ### a row taken in -/
/-- a row as a stand, for the lattices -/
def rS (v : Nat → Int) : St := ⟨v, fun _ => 0, 0⟩
theorem InL.subset {n : Nat} {ss ts : List St} {v : Nat → Int} (h : ∀ s ∈ ss, s ∈ ts) (hv : InL n ss v) : InL n ts v := InL.sub (fun s hs => InL.mem (h s hs)) hv
/-- one exchange of two rows by a turning of weight 1 -/
theorem InL.turn {n : Nat} {F L : List St} {here S : St} {r r' : Nat → Int} {x y one other : Int} (hd : x * one - y * other = 1) (hS : ∀ j, j < n → S.row j = x * here.row j + y * r j) (hr : ∀ j, j < n → r' j = one * r j + other * here.row j) (v : Nat → Int) :
    InL n (rS r' :: (F ++ S :: L)) v ↔ InL n (rS r :: (F ++ here :: L)) v := by
  have m1 : ∀ {a b : St}, a ∈ rS b.row :: (F ++ a :: L) := fun {a b} => by simp
  constructor
  · intro h
    have hh : InL n (rS r :: (F ++ here :: L)) here.row := InL.mem (by simp)
    have hrr : InL n (rS r :: (F ++ here :: L)) r := InL.head fun _ _ => rfl
    have z : InL n (rS r :: (F ++ here :: L)) fun _ => 0 := InL.zero fun _ _ => rfl
    refine InL.sub (fun s hs => ?_) h
    rcases List.mem_cons.mp hs with e | e
    · subst e
      have a1 : InL n (rS r :: (F ++ here :: L)) fun j => one * r j := InL.lin one z hrr fun j _ => by omega
      exact InL.lin other a1 hh fun j hj => hr j hj
    · rcases List.mem_append.mp e with e | e
      · exact InL.mem (by simp [e])
      · rcases List.mem_cons.mp e with e | e
        · subst e
          have a1 : InL n (rS r :: (F ++ here :: L)) fun j => x * here.row j := InL.lin x z hh fun j _ => by omega
          exact InL.lin y a1 hrr fun j hj => hS j hj
        · exact InL.mem (by simp [e])
  · intro h
    have hh : InL n (rS r' :: (F ++ S :: L)) S.row := InL.mem (by simp)
    have hrr : InL n (rS r' :: (F ++ S :: L)) r' := InL.head fun _ _ => rfl
    have z : InL n (rS r' :: (F ++ S :: L)) fun _ => 0 := InL.zero fun _ _ => rfl
    refine InL.sub (fun s hs => ?_) h
    rcases List.mem_cons.mp hs with e | e
    · subst e
      have a1 : InL n (rS r' :: (F ++ S :: L)) fun j => x * r' j := InL.lin x z hrr fun j _ => by omega
      refine InL.lin (-other) a1 hh fun j hj => ?_
      show r j = x * r' j + -other * S.row j
      rw [hr j hj, hS j hj]
      have : r j = (x * one - y * other) * r j := by rw [hd, Int.one_mul]
      grind
    · rcases List.mem_append.mp e with e | e
      · exact InL.mem (by simp [e])
      · rcases List.mem_cons.mp e with e | e
        · subst e
          have a1 : InL n (rS r' :: (F ++ S :: L)) fun j => one * S.row j := InL.lin one z hh fun j _ => by omega
          refine InL.lin (-y) a1 hrr fun j hj => ?_
          rw [hr j hj, hS j hj]
          have : s.row j = (x * one - y * other) * s.row j := by rw [hd, Int.one_mul]
          grind
        · exact InL.mem (by simp [e])
end LK
end

section
set_option autoImplicit false
set_option maxRecDepth 100000
set_option maxHeartbeats 4000000
namespace LK
/-! ### the grid that turns another one back -/
/-- without row j and column k -/
def minr (j k : Nat) (M : Mx) : Mx := fun a b => M (cut j a) (cut k b)
/-- row j is that of kind k, nothing else in column k -/
def insR (j k : Nat) (B : Mx) : Mx := fun a b => if a = j then idG k b else if b = k then 0 else B (unc j a) (unc k b)
theorem insR_alt {n : Nat} {j k : Nat} (hj : j < n + 1) (hk : k < n + 1) : Alt n n fun B => det (n + 1) (insR j k B) := by
  have e : ∀ (A : Mx) (i : Nat) (v : Nat → Int), i < n → ∀ a b, insR j k (upR A i v) a b = upR (insR j k A) (cut j i) (fun b => if b = k then 0 else v (unc k b)) a b := fun A i v hi a b => by
    unfold insR
    by_cases h1 : a = j
    · rw [if_pos h1, upR_ne (by rw [h1]; exact (cut_ne j i).symm), if_pos h1]
    · rw [if_neg h1]
      by_cases h2 : a = cut j i
      · subst h2
        rw [upR_same, unc_cut]
        split
        · rfl
        · rw [upR_same]
      · have h3 : unc j a ≠ i := fun z => h2 (by rw [← z, cut_unc h1])
        rw [upR_ne h2, if_neg h1]
        split
        · rfl
        · rw [upR_ne h3]
  have dt : ∀ (A : Mx) (i : Nat) (v : Nat → Int), i < n → det (n + 1) (insR j k (upR A i v)) = det (n + 1) (upR (insR j k A) (cut j i) fun b => if b = k then 0 else v (unc k b)) := fun A i v hi => det_ext fun a b _ _ => e A i v hi a b
  refine ⟨fun A B h => det_ext fun a b ha hb => ?_, fun A i u v hi => ?_, fun A i c u hi => ?_, fun A i hi h => ?_⟩
  · unfold insR
    split
    · rfl
    · rename_i h1
      split
      · rfl
      · rename_i h2
        exact h _ _ (unc_lt hj ha h1) (unc_lt hk hb h2)
  · show det (n + 1) (insR j k (upR A i fun b => u b + v b)) = det (n + 1) (insR j k (upR A i u)) + det (n + 1) (insR j k (upR A i v))
    rw [dt A i _ hi, dt A i u hi, dt A i v hi, ← det_add (n + 1) _ _ _ _ (cut_lt hi)]
    refine det_ext fun a b _ _ => ?_
    unfold upR
    split
    · show (if b = k then 0 else u (unc k b) + v (unc k b)) = (if b = k then 0 else u (unc k b)) + (if b = k then 0 else v (unc k b))
      split
      · rfl
      · rfl
    · rfl
  · show det (n + 1) (insR j k (upR A i fun b => c * u b)) = c * det (n + 1) (insR j k (upR A i u))
    rw [dt A i _ hi, dt A i u hi, ← det_smul (n + 1) _ _ _ _ (cut_lt hi)]
    refine det_ext fun a b _ _ => ?_
    unfold upR
    split
    · show (if b = k then 0 else c * u (unc k b)) = c * (if b = k then 0 else u (unc k b))
      split
      · exact (Int.mul_zero c).symm
      · rfl
    · rfl
  · refine (det_alt (n + 1)).eq_rows (i := cut j i) (k := cut j (i + 1)) (cut_lt (by omega)) (cut_lt hi) (fun z => ?_) _ fun b hb => ?_
    · have := congrArg (unc j) z
      rw [unc_cut, unc_cut] at this
      omega
    · unfold insR
      rw [if_neg (cut_ne j i), if_neg (cut_ne j (i + 1)), unc_cut, unc_cut]
      split
      · rfl
      · rename_i h2
        exact h _ (unc_lt hk hb h2)
theorem insR_up {n : Nat} {j k : Nat} (hj : j + 1 < n + 1) (B : Mx) : det (n + 1) (insR (j + 1) k B) = - det (n + 1) (insR j k B) := by
  rw [← (det_alt (n + 1)).exch (i := j) (k := j + 1) (by omega) hj (by omega)]
  refine det_ext fun a b _ _ => ?_
  unfold exc
  by_cases h1 : a = j + 1
  · subst h1
    rw [upR_same]
    unfold insR
    rw [if_pos rfl, if_pos rfl]
  · rw [upR_ne h1]
    by_cases h2 : a = j
    · subst h2
      rw [upR_same]
      unfold insR
      rw [if_neg (show ¬ a = a + 1 by omega), if_neg (show ¬ a + 1 = a by omega)]
      split
      · rfl
      · rw [show unc (a + 1) a = unc a (a + 1) by unfold unc; rw [if_pos (by omega), if_neg (by omega)]; omega]
    · rw [upR_ne h2]
      unfold insR
      rw [if_neg h1, if_neg h2]
      split
      · rfl
      · rw [show unc (j + 1) a = unc j a by unfold unc; split <;> split <;> omega]
theorem insR_id {n : Nat} {k : Nat} (hk : k < n + 1) : ∀ j, j < n + 1 → det (n + 1) (insR j k idG) = sg j * sg k
  | 0, _ => by
    show sumN (n + 1) (fun c => sg c * insR 0 k idG 0 c * det n (mnr (insR 0 k idG) c)) = sg 0 * sg k
    rw [sumN_one hk fun c hc hne => by
      have : insR 0 k idG 0 c = 0 := by
        unfold insR
        rw [if_pos rfl]
        exact idG_ne (Ne.symm hne)
      rw [this, Int.mul_zero, Int.zero_mul]]
    have e1 : insR 0 k idG 0 k = 1 := by
      unfold insR
      rw [if_pos rfl]
      exact idG_same k
    have e2 : det n (mnr (insR 0 k idG) k) = 1 := by
      rw [← det_id n]
      refine det_ext fun a b ha hb => ?_
      unfold mnr insR
      rw [if_neg (by omega), if_neg (cut_ne k b), unc_cut]
      rw [show unc 0 (a + 1) = a by unfold unc; rw [if_neg (by omega)]; omega]
    rw [e1, e2, show sg 0 = 1 from rfl]
    omega
  | j + 1, hj => by
    rw [insR_up hj, insR_id hk j (by omega), sg_succ]
    grind
theorem insR_det {n : Nat} {j k : Nat} (hj : j < n + 1) (hk : k < n + 1) (B : Mx) : det (n + 1) (insR j k B) = sg j * sg k * det n B := by
  have h := alt_det n (fun B => det (n + 1) (insR j k B)) (insR_alt hj hk) B
  rw [insR_id hk j hj] at h
  exact h
/-- a row that is one kind: the rest of the column counts for nothing -/
theorem det_unit {n : Nat} {j k : Nat} (hj : j < n + 1) (hk : k < n + 1) (M : Mx) : det (n + 1) (upR M j (idG k)) = sg j * sg k * det n (minr j k M) := by
  have go : ∀ t, t ≤ n + 1 → det (n + 1) (upR M j (idG k)) = det (n + 1) fun a b => if a = j then idG k b else if a < t ∧ b = k then 0 else M a b := by
    intro t
    induction t with
    | zero =>
      intro _
      refine det_ext fun a b _ _ => ?_
      unfold upR
      split
      · rfl
      · rw [if_neg (by omega)]
    | succ t ih =>
      intro ht
      rw [ih (by omega)]
      by_cases e : t = j
      · refine det_ext fun a b _ _ => ?_
        split
        · rfl
        · rename_i h1
          by_cases h2 : a < t ∧ b = k
          · rw [if_pos h2, if_pos ⟨by omega, h2.2⟩]
          · rw [if_neg h2, if_neg fun z => h2 ⟨by omega, z.2⟩]
      · rw [← (det_alt (n + 1)).rowop (i := t) (k := j) (by omega) hj e _ (-(M t k))]
        refine det_ext fun a b _ _ => ?_
        by_cases h1 : a = t
        · subst h1
          rw [upR_same, if_neg e, if_pos rfl, if_neg e, if_neg (by omega)]
          unfold idG
          by_cases h2 : k = b
          · subst h2
            rw [if_pos rfl, if_pos ⟨by omega, rfl⟩]
            omega
          · rw [if_neg h2, if_neg fun z => h2 z.2.symm]
            omega
        · rw [upR_ne h1]
          split
          · rfl
          · by_cases h2 : a < t ∧ b = k
            · rw [if_pos h2, if_pos ⟨by omega, h2.2⟩]
            · rw [if_neg h2, if_neg fun z => h2 ⟨by omega, z.2⟩]
  rw [go (n + 1) (Nat.le_refl _), ← insR_det hj hk]
  refine det_ext fun a b ha hb => ?_
  unfold insR minr
  by_cases h1 : a = j
  · rw [if_pos h1, if_pos h1]
  · rw [if_neg h1, if_neg h1]
    by_cases h2 : b = k
    · rw [if_pos ⟨ha, h2⟩, if_pos h2]
    · rw [if_neg fun z => h2 z.2, if_neg h2, cut_unc h1, cut_unc h2]
end LK
end

section
set_option autoImplicit false
set_option maxRecDepth 100000
set_option maxHeartbeats 4000000
namespace LK
/-! ### how great the numbers of tidy stands can be -/
theorem sumN_front (n : Nat) (f : Nat → Int) : sumN (n + 1) f = f 0 + sumN n fun k => f (k + 1) := by
  induction n with
  | zero => show 0 + f 0 = f 0 + 0; omega
  | succ n ih =>
    show sumN (n + 1) f + f (n + 1) = f 0 + (sumN n (fun k => f (k + 1)) + f (n + 1))
    rw [ih]
    omega
theorem comb_sum : ∀ (ss : List St) (cs : List Int) (j : Nat), cs.length = ss.length → comb ss cs j = sumN ss.length fun k => cs.getD k 0 * rw_ ss k j
  | [], [], j, _ => rfl
  | s :: ss, c :: cs, j, h => by
    show c * s.row j + comb ss cs j = sumN (ss.length + 1) _
    rw [sumN_front, comb_sum ss cs j (by simpa using h)]
    rfl
theorem InL.coef {n : Nat} {ss : List St} {v : Nat → Int} (h : InL n ss v) : ∃ c : Nat → Int, ∀ j, j < n → v j = sumN ss.length fun k => c k * rw_ ss k j := by
  obtain ⟨cs, l, e⟩ := h
  exact ⟨fun k => cs.getD k 0, fun j hj => by rw [e j hj, comb_sum ss cs j l]⟩
/-- the border's sum with its numbers named -/
def brdX (k : Nat) (M : Mx) (i l : Nat) : Int := det (k + 1) (upC (fun a b => M (sel k i a) b) k (idG l))
theorem brd_linX (k : Nat) (M : Mx) (i j : Nat) : brd k M i j = det k M * M i j + sumN k fun l => brdX k M i l * M l j := by
  let N : Mx := fun a b => M (sel k i a) b
  have e : brd k M i j = det (k + 1) (tr (upR (tr N) k fun a => sumN (k + 1) fun l => M (sel k i l) j * idG l a)) := det_ext fun a b ha hb => by
    show M (sel k i a) (sel k j b) = upR (tr N) k _ b a
    by_cases hbk : b = k
    · subst hbk
      rw [upR_same, sel_ge (Nat.lt_irrefl _)]
      have := mul_id (m := b + 1) (fun _ l => M (sel b i l) j) 0 ha
      exact this.symm
    · rw [upR_ne hbk, sel_lt (i := j) (by omega)]
      rfl
  rw [e, (tr_alt (k + 1)).sum (tr N) (by omega) (k + 1) (fun l => M (sel k i l) j) (fun l => idG l)]
  show sumN k _ + _ = _
  rw [Int.add_comm]
  congr 1
  · show M (sel k i k) j * det (k + 1) (upC N k (idG k)) = _
    rw [sel_ge (Nat.lt_irrefl k), det_lastC k (upC N k (idG k)) fun a _ => if_pos rfl]
    have : det k (upC N k (idG k)) = det k M := det_ext fun a b ha hb => by
      show (if b = k then _ else M (sel k i a) b) = M a b
      rw [if_neg (by omega), sel_lt ha]
    rw [this, Int.mul_comm]
  · refine sumN_ext fun l hl => ?_
    show M (sel k i l) j * det (k + 1) (upC N k (idG l)) = _
    rw [sel_lt hl, Int.mul_comm]
    rfl
structure Box (n b : Nat) (ss : List St) (A : Mx) : Prop where
  inL : ∀ i, i < ss.length → InL n ss (A i)
  bd : Bd b ss.length n A
  ne : det ss.length (fun i j => A i (hd ss j)) ≠ 0
theorem st_at {ss : List St} {k : Nat} (hk : k < ss.length) : ∃ s ∈ ss, hd ss k = s.head ∧ ∀ j, rw_ ss k j = s.row j := by
  refine ⟨ss[k], List.getElem_mem hk, ?_, fun j => ?_⟩
  · unfold hd
    rw [List.getD_eq_getElem?_getD, List.getElem?_eq_getElem hk]
    rfl
  · unfold rw_
    rw [List.getD_eq_getElem?_getD, List.getElem?_eq_getElem hk]
    rfl
theorem Ech.at_ {n : Nat} {ss : List St} (E : Ech n ss) {k : Nat} (hk : k < ss.length) : hd ss k < n ∧ (∀ j, j < hd ss k → rw_ ss k j = 0) ∧ 0 < rw_ ss k (hd ss k) := by
  obtain ⟨s, hs, e, er⟩ := st_at hk
  obtain ⟨h1, h2, h3⟩ := E.one s hs
  rw [e]
  exact ⟨h1, fun j hj => by rw [er]; exact h2 j hj, by rw [er]; exact h3⟩
theorem Ech.rise {n : Nat} {ss : List St} (E : Ech n ss) {i k : Nat} (hi : i < k) (hk : k < ss.length) : hd ss i < hd ss k := by
  have := List.pairwise_iff_getElem.mp E.up i k (by omega) hk hi
  unfold hd
  rw [List.getD_eq_getElem?_getD, List.getD_eq_getElem?_getD, List.getElem?_eq_getElem hk, List.getElem?_eq_getElem (show i < ss.length by omega)]
  exact this
theorem prodN_pos : ∀ (n : Nat) (f : Nat → Int), (∀ i, i < n → 0 < f i) → 0 < prodN n f ∧ ∀ i, i < n → f i ≤ prodN n f
  | 0, f, _ => ⟨Int.zero_lt_one, fun i hi => by omega⟩
  | n + 1, f, h => by
    obtain ⟨h1, h2⟩ := prodN_pos n f fun i hi => h i (by omega)
    have h3 := h n (by omega)
    refine ⟨Int.mul_pos h1 h3, fun i hi => ?_⟩
    show f i ≤ prodN n f * f n
    by_cases e : i = n
    · subst e
      have : 1 * f i ≤ prodN i f * f i := Int.mul_le_mul_of_nonneg_right (by omega) (by omega)
      omega
    · have a := h2 i (by omega)
      have : prodN n f * 1 ≤ prodN n f * f n := Int.mul_le_mul_of_nonneg_left (by omega) (by omega)
      omega
theorem Box.split {n b : Nat} {ss : List St} {A : Mx} (E : Ech n ss) (B : Box n b ss A) : ∃ C : Mx, (∀ i j, i < ss.length → j < n → A i j = sumN ss.length fun k => C i k * rw_ ss k j) ∧ det ss.length C ≠ 0 ∧
    (det ss.length fun i j => A i (hd ss j)) = det ss.length C * prodN ss.length fun k => rw_ ss k (hd ss k) := by
  have h : ∀ i, ∃ c : Nat → Int, i < ss.length → ∀ j, j < n → A i j = sumN ss.length fun k => c k * rw_ ss k j := fun i => by
    by_cases hi : i < ss.length
    · obtain ⟨c, e⟩ := (B.inL i hi).coef
      exact ⟨c, fun _ => e⟩
    · exact ⟨fun _ => 0, fun z => absurd z hi⟩
  obtain ⟨C, hC⟩ := Classical.axiomOfChoice h
  have e : (det ss.length fun i j => A i (hd ss j)) = det ss.length C * prodN ss.length fun k => rw_ ss k (hd ss k) := by
    have e1 : (det ss.length fun i j => A i (hd ss j)) = det ss.length (mulG ss.length C fun k j => rw_ ss k (hd ss j)) := det_ext fun i j hi hj => hC i hi _ (E.at_ hj).1
    rw [e1, det_mul, det_tri _ fun k j => rw_ ss k (hd ss j)]
    intro k j hk hj
    exact (E.at_ hk).2.1 _ (E.rise hj hk)
  refine ⟨C, fun i j hi hj => hC i hi j hj, fun z => B.ne ?_, e⟩
  rw [e, z, Int.zero_mul]
theorem Tdy.over {n : Nat} {ss : List St} (T : Tdy n ss) {i k : Nat} (hi : i < k) (hk : k < ss.length) : 0 ≤ rw_ ss i (hd ss k) ∧ rw_ ss i (hd ss k) < rw_ ss k (hd ss k) := by
  have := List.pairwise_iff_getElem.mp T.red i k (by omega) hk hi
  unfold hd rw_
  rw [List.getD_eq_getElem?_getD, List.getD_eq_getElem?_getD, List.getElem?_eq_getElem hk, List.getElem?_eq_getElem (show i < ss.length by omega)]
  exact this
/-- a number of tidy stands is at most as many times a minor as there are stands -/
theorem Box.rows {n b : Nat} {ss : List St} {A : Mx} (T : Tdy n ss) (B : Box n b ss A) (hr : ss.length ≤ 8) (hb : 1 ≤ b) {k : Nat} (hk : k < ss.length) {j : Nat} (hj : j < n) :
    (rw_ ss k j).natAbs ≤ ss.length * 2 ^ (ss.length * (b + 3) + 3) := by
  have E := T.ech
  obtain ⟨C, hC, h0, eP⟩ := B.split E
  let M : Mx := fun a c => if a < ss.length then A c (hd ss a) else A c j
  let x : Nat → Int := brdX ss.length M ss.length
  have dM : det ss.length M = det ss.length fun i j => A i (hd ss j) := by
    rw [← det_tr]
    exact det_ext fun a c ha hc => if_pos hc
  have phiA : ∀ c, c < ss.length → det ss.length M * A c j + sumN ss.length (fun l => x l * A c (hd ss l)) = 0 := fun c hc => by
    have e := brd_linX ss.length M ss.length c
    rw [brd_zero M ss.length hc] at e
    have e1 : M ss.length c = A c j := if_neg (Nat.lt_irrefl _)
    have e2 : sumN ss.length (fun l => brdX ss.length M ss.length l * M l c) = sumN ss.length fun l => x l * A c (hd ss l) := sumN_ext fun l hl => by
      show brdX ss.length M ss.length l * (if l < ss.length then A c (hd ss l) else A c j) = _
      rw [if_pos hl]
    rw [e1, e2] at e
    exact e.symm
  let φ : Nat → Int := fun k => det ss.length M * rw_ ss k j + sumN ss.length fun l => x l * rw_ ss k (hd ss l)
  have phiH : ∀ c, c < ss.length → sumN ss.length (fun k => C c k * φ k) = 0 := fun c hc => by
    have e := phiA c hc
    rw [hC c j hc hj] at e
    have e2 : sumN ss.length (fun l => x l * A c (hd ss l)) = sumN ss.length fun l => sumN ss.length fun k => x l * (C c k * rw_ ss k (hd ss l)) := sumN_ext fun l hl => by
      rw [hC c _ hc (E.at_ hl).1, sumN_mul]
    rw [e2, sumN_swap, ← sumN_mul, ← sumN_add] at e
    rw [← e]
    refine sumN_ext fun k _ => ?_
    show C c k * (det ss.length M * rw_ ss k j + sumN ss.length fun l => x l * rw_ ss k (hd ss l)) = _
    rw [Int.mul_add, ← sumN_mul]
    congr 1
    · grind
    · exact sumN_ext fun l _ => by grind
  have zero := det_inj h0 phiH k hk
  have hne : det ss.length M ≠ 0 := by rw [dM]; exact B.ne
  have e : det ss.length M * rw_ ss k j = - sumN ss.length fun l => x l * rw_ ss k (hd ss l) := by
    have : det ss.length M * rw_ ss k j + sumN ss.length (fun l => x l * rw_ ss k (hd ss l)) = 0 := zero
    omega
  have bx : ∀ l, l < ss.length → (x l).natAbs ≤ 2 ^ (ss.length * (b + 3) + 3) := fun l hl => by
    have e : x l = det (ss.length + 1) (upR (tr fun a c => M (sel ss.length ss.length a) c) ss.length (idG l)) := by
      show det (ss.length + 1) (upC (fun a c => M (sel ss.length ss.length a) c) ss.length (idG l)) = _
      rw [← det_tr (ss.length + 1) (upR _ _ _)]
      rfl
    rw [e, det_unit (by omega) (by omega), Int.natAbs_mul, Int.natAbs_mul, sg_abs, sg_abs, Nat.one_mul]
    have q := det_bd (b := b) (n := ss.length) (A := minr ss.length l (tr fun a c => M (sel ss.length ss.length a) c)) hr fun a c ha hc => by
      have ca : cut ss.length a = a := if_pos ha
      show (if sel ss.length ss.length (cut l c) < ss.length then A (cut ss.length a) (hd ss (sel ss.length ss.length (cut l c))) else A (cut ss.length a) j).natAbs < 2 ^ b
      rw [ca]
      split
      · rename_i h
        exact B.bd a _ ha (E.at_ h).1
      · exact B.bd a j ha hj
    exact Nat.le_trans q (Nat.pow_le_pow_right (by decide) (by omega))
  obtain ⟨p1, p2⟩ := prodN_pos ss.length (fun k => rw_ ss k (hd ss k)) fun i hi => (E.at_ hi).2.2
  have dP : (det ss.length M).natAbs = (det ss.length C).natAbs * (prodN ss.length fun k => rw_ ss k (hd ss k)).natAbs := by rw [dM, eP, Int.natAbs_mul]
  have hC1 : 1 ≤ (det ss.length C).natAbs := by omega
  have hPM : (prodN ss.length fun k => rw_ ss k (hd ss k)).natAbs ≤ (det ss.length M).natAbs := by
    rw [dP]
    have := Nat.mul_le_mul_right (prodN ss.length fun k => rw_ ss k (hd ss k)).natAbs hC1
    omega
  have bH : ∀ l, l < ss.length → (rw_ ss k (hd ss l)).natAbs ≤ (det ss.length M).natAbs := fun l hl => by
    have tl := p2 l hl
    have t0 := (E.at_ hl).2.2
    have : (rw_ ss k (hd ss l)).natAbs ≤ (rw_ ss l (hd ss l)).natAbs := by
      rcases Nat.lt_trichotomy l k with h | h | h
      · rw [(E.at_ hk).2.1 _ (E.rise h hk)]
        exact Nat.zero_le _
      · subst h
        exact Nat.le_refl _
      · have := T.over h hl
        omega
    omega
  have s := sumN_le (n := ss.length) (f := fun l => x l * rw_ ss k (hd ss l)) (B := 2 ^ (ss.length * (b + 3) + 3) * (det ss.length M).natAbs) fun l hl => by
    rw [Int.natAbs_mul]
    exact Nat.mul_le_mul (bx l hl) (bH l hl)
  have e2 := congrArg Int.natAbs e
  rw [Int.natAbs_mul, Int.natAbs_neg] at e2
  rw [← e2, ← Nat.mul_assoc, Nat.mul_comm (det ss.length M).natAbs] at s
  exact Nat.le_of_mul_le_mul_right s (by omega)
end LK
end

section
set_option autoImplicit false
set_option maxRecDepth 100000
set_option maxHeartbeats 4000000
namespace LK
/-! ### mathematics: the greatest common divisor, shares -/
theorem gcd_step (a b : Int) : Int.gcd b (a.fmod b) = Int.gcd a b := by
  have e : a.fmod b = a - b * (a.fdiv b) := by
    have := Int.mul_fdiv_add_fmod a b
    omega
  rw [e, Int.gcd_comm a b, Int.sub_eq_add_neg, ← Int.mul_neg, Int.gcd_add_mul_left_right]
/-- the turns of shares, by fuel -/
def shLoop : Nat → Int → Int → Int → Int → Int → Int → Int × Int × Int
  | 0, far, mine, its, _, _, _ => (far, mine, its)
  | n + 1, far, mine, its, near, mp, ip => if near = 0 then (far, mine, its) else shLoop n near mp ip (far - far / near * near) (mine - far / near * mp) (its - far / near * ip)
def shares (a b : Int) : Int × Int × Int :=
  let r := shLoop (b.natAbs + 1) a.natAbs 1 0 b.natAbs 0 1
  (r.1, (if a < 0 then -r.2.1 else r.2.1), (if b < 0 then -r.2.2 else r.2.2))
/-- what holds of the numbers between two turns (a, b without signs) -/
structure Sh (a b far mine its near mp ip : Int) : Prop where
  f0 : 0 ≤ far
  n0 : 0 ≤ near
  e1 : far = mine * a + its * b
  e2 : near = mp * a + ip * b
  g : Int.gcd far near = Int.gcd a b
  b1 : (mp.natAbs : Int) * far + (mine.natAbs : Int) * near = b
  b2 : (ip.natAbs : Int) * far + (its.natAbs : Int) * near = a
  s1 : (0 ≤ mine ∧ mp ≤ 0) ∨ (mine ≤ 0 ∧ 0 ≤ mp)
  s2 : (0 ≤ its ∧ ip ≤ 0) ∨ (its ≤ 0 ∧ 0 ≤ ip)
  m1 : (mine.natAbs : Int) ≤ max 1 b
  m2 : (its.natAbs : Int) ≤ max 1 a
  m3 : (mp.natAbs : Int) ≤ max 1 b
  m4 : (ip.natAbs : Int) ≤ max 1 a
theorem abs_le_of_mul {x f y b : Int} (hx : 0 ≤ x) (hy : 0 ≤ y) (hf : 0 < f) (h : x * f + y = b) : x ≤ b := by
  have : x * 1 ≤ x * f := Int.mul_le_mul_of_nonneg_left (by omega) hx
  omega
theorem natAbs_sub_mul {m q p : Int} (hq : 0 ≤ q) (h : (0 ≤ m ∧ p ≤ 0) ∨ (m ≤ 0 ∧ 0 ≤ p)) : ((m - q * p).natAbs : Int) = (m.natAbs : Int) + q * (p.natAbs : Int) := by
  rcases h with ⟨h1, h2⟩ | ⟨h1, h2⟩
  · have e : (p.natAbs : Int) = -p := by omega
    have : 0 ≤ q * -p := Int.mul_nonneg hq (by omega)
    rw [e, Int.mul_neg] at *
    omega
  · have e : (p.natAbs : Int) = p := by omega
    have : 0 ≤ q * p := Int.mul_nonneg hq h2
    rw [e]
    omega
theorem sign_sub_mul {m q p : Int} (hq : 0 ≤ q) (h : (0 ≤ m ∧ p ≤ 0) ∨ (m ≤ 0 ∧ 0 ≤ p)) : (0 ≤ p ∧ m - q * p ≤ 0) ∨ (p ≤ 0 ∧ 0 ≤ m - q * p) := by
  rcases h with ⟨h1, h2⟩ | ⟨h1, h2⟩
  · have : 0 ≤ q * -p := Int.mul_nonneg hq (by omega)
    rw [Int.mul_neg] at this
    exact .inr ⟨h2, by omega⟩
  · have : 0 ≤ q * p := Int.mul_nonneg hq h2
    exact .inl ⟨h2, by omega⟩
theorem Sh.start (a b : Int) (ha : 0 ≤ a) (hb : 0 ≤ b) : Sh a b a 1 0 b 0 1 :=
  ⟨ha, hb, by omega, by omega, rfl, by simp, by simp, by omega, by omega, by simp; omega, by simp; omega, by simp; omega, by simp; omega⟩
theorem Sh.turn {a b far mine its near mp ip : Int} (h : Sh a b far mine its near mp ip) (hn : near ≠ 0) : Sh a b near mp ip (far - far / near * near) (mine - far / near * mp) (its - far / near * ip) := by
  have hpos : 0 < near := by have := h.n0; omega
  have hq : 0 ≤ far / near := Int.ediv_nonneg h.f0 h.n0
  have er : far - far / near * near = far % near := by
    have := Int.mul_ediv_add_emod far near
    rw [Int.mul_comm] at this
    omega
  have hr0 : 0 ≤ far % near := Int.emod_nonneg _ hn
  have key : ∀ x y z : Int, x * near + y * far = z → (y + far / near * x) * near + x * (far - far / near * near) = x * far + y * near := fun x y z _ => by
    rw [Int.add_mul, Int.mul_sub, Int.mul_assoc, ← Int.mul_assoc x, Int.mul_comm x (far / near), Int.mul_assoc]
    omega
  have k1 : ((mine - far / near * mp).natAbs : Int) * near + (mp.natAbs : Int) * (far - far / near * near) = b := by
    rw [natAbs_sub_mul hq h.s1, key _ _ _ rfl]
    exact h.b1
  have k2 : ((its - far / near * ip).natAbs : Int) * near + (ip.natAbs : Int) * (far - far / near * near) = a := by
    rw [natAbs_sub_mul hq h.s2, key _ _ _ rfl]
    exact h.b2
  refine ⟨h.n0, by omega, h.e2, ?_, ?_, k1, k2, ?_, ?_, h.m3, h.m4, ?_, ?_⟩
  · rw [Int.sub_mul, Int.sub_mul, Int.mul_assoc, Int.mul_assoc]
    have e1 := h.e1
    have e2 : far / near * near = far / near * (mp * a) + far / near * (ip * b) := by rw [← Int.mul_add, ← h.e2]
    omega
  · have := gcd_step far near
    rw [Int.fmod_eq_emod_of_nonneg far h.n0] at this
    rw [er, this]
    exact h.g
  · rcases sign_sub_mul hq h.s1 with z | z
    · exact .inl z
    · exact .inr z
  · rcases sign_sub_mul hq h.s2 with z | z
    · exact .inl z
    · exact .inr z
  · have h1 : 0 ≤ (mp.natAbs : Int) * (far - far / near * near) := Int.mul_nonneg (by omega) (by omega)
    have := abs_le_of_mul (by omega) h1 hpos k1
    omega
  · have h1 : 0 ≤ (ip.natAbs : Int) * (far - far / near * near) := Int.mul_nonneg (by omega) (by omega)
    have := abs_le_of_mul (by omega) h1 hpos k2
    omega
theorem Sh.less {a b far mine its near mp ip : Int} (h : Sh a b far mine its near mp ip) (hn : near ≠ 0) : 0 ≤ far - far / near * near ∧ far - far / near * near < near := by
  have hpos : 0 < near := by have := h.n0; omega
  have er : far - far / near * near = far % near := by
    have := Int.mul_ediv_add_emod far near
    rw [Int.mul_comm] at this
    omega
  have h1 : 0 ≤ far % near := Int.emod_nonneg _ hn
  have h2 : far % near < near := Int.emod_lt_of_pos _ hpos
  omega
end LK
end

section
set_option autoImplicit false
set_option maxRecDepth 100000
set_option maxHeartbeats 4000000
namespace LK
/-! ### rows made of given ones; the bounds of tidy stands -/
def Mk (n m : Nat) (G : Mx) (v p : Nat → Int) : Prop := ∀ j, j < n → v j = sumN m fun i => p i * G i j
theorem Mk.lin {n m : Nat} {G : Mx} {u v w p q r : Nat → Int} {x y : Int} (hu : Mk n m G u p) (hv : Mk n m G v q) (hw : ∀ j, j < n → w j = x * u j + y * v j) (hr : ∀ i, i < m → r i = x * p i + y * q i) : Mk n m G w r := fun j hj => by
  rw [hw j hj, hu j hj, hv j hj, ← sumN_mul, ← sumN_mul, ← sumN_add]
  exact sumN_ext fun i hi => by rw [hr i hi]; grind
theorem Ech.le {n : Nat} : ∀ {ss : List St}, Ech n ss → ∀ k, k < ss.length → k ≤ hd ss k := by
  intro ss E k
  induction k with
  | zero => intro _; exact Nat.zero_le _
  | succ k ih =>
    intro hk
    have := E.rise (i := k) (k := k + 1) (by omega) hk
    have := ih (by omega)
    omega
theorem Ech.len {n : Nat} {ss : List St} (E : Ech n ss) : ss.length ≤ n := by
  cases h : ss.length with
  | zero => omega
  | succ k =>
    have := E.le k (by omega)
    have := (E.at_ (k := k) (by omega)).1
    omega
/-! ### bits -/
theorem lin_bd {x u y w : Int} {a c d e f : Nat} (hx : x.natAbs < 2 ^ a) (hu : u.natAbs < 2 ^ c) (hy : y.natAbs < 2 ^ d) (hw : w.natAbs < 2 ^ e) (h1 : a + c ≤ f) (h2 : d + e ≤ f) : (x * u + y * w).natAbs < 2 ^ (f + 1) := by
  have p1 := Nat.lt_of_lt_of_le (DL.bits_mul hx hu) (Nat.pow_le_pow_right (by decide) h1)
  have p2 := Nat.lt_of_lt_of_le (DL.bits_mul hy hw) (Nat.pow_le_pow_right (by decide) h2)
  rw [Nat.pow_succ]
  omega
theorem up_bd {x : Int} {a c : Nat} (h : x.natAbs < 2 ^ a) (hc : a ≤ c) : x.natAbs < 2 ^ c := Nat.lt_of_lt_of_le h (Nat.pow_le_pow_right (by decide) hc)
theorem ediv_bd {x y : Int} {a : Nat} (h : x.natAbs < 2 ^ a) : (x / y).natAbs < 2 ^ a := Nat.lt_of_le_of_lt (Int.natAbs_ediv_le_natAbs x y) h
theorem cut_bd {n a B : Nat} {v : Nat → Int} {s : St} (hv : ∀ j, j < n → (v j).natAbs < 2 ^ a) (hh : s.head < n) (hs : ∀ j, j < n → (s.row j).natAbs < 2 ^ B) : ∀ j, j < n → (cutS v s j).natAbs < 2 ^ (a + (B + 1)) := fun j hj => by
  have h := lin_bd (x := 1) (u := v j) (y := -(v s.head / s.row s.head)) (w := s.row j) (a := 1) (c := a) (d := a) (e := B) (f := a + B + 0) (by decide) (hv j hj) (by rw [Int.natAbs_neg]; exact ediv_bd (hv _ hh)) (hs j hj)
  by_cases hB : B = 0
  · subst hB
    have z := hs j hj
    have z0 : s.row j = 0 := by
      have : (s.row j).natAbs < 1 := z
      omega
    unfold cutS
    rw [z0, Int.mul_zero, Int.sub_zero]
    exact up_bd (hv j hj) (by omega)
  · have h2 := h (by omega) (by omega)
    have e : cutS v s j = 1 * v j + -(v s.head / s.row s.head) * s.row j := by
      unfold cutS
      grind
    rw [e]
    exact up_bd h2 (by omega)
/-! ### the only tidy stands -/
theorem InL.zero_below {n : Nat} {ss : List St} {j0 : Nat} (hz : ∀ s ∈ ss, ∀ j, j < j0 → s.row j = 0) {v : Nat → Int} (h : InL n ss v) : ∀ j, j < j0 → j < n → v j = 0 := fun j hj hn => by
  obtain ⟨cs, l, e⟩ := h
  rw [e j hn]
  exact comb_at fun a ha => hz a ha j hj
theorem Ech.below {n : Nat} {s : St} {ss : List St} (E : Ech n (s :: ss)) : ∀ a ∈ s :: ss, ∀ j, j < s.head → a.row j = 0 := fun a ha j hj => by
  rcases List.mem_cons.mp ha with e | e
  · subst e
    exact (E.one a (List.mem_cons_self ..)).2.1 j hj
  · exact (E.one a (List.mem_cons_of_mem _ e)).2.1 j (Nat.lt_trans hj ((List.pairwise_cons.mp E.up).1 a e))
theorem InL.at_head {n : Nat} {s : St} {ss : List St} {v : Nat → Int} (E : Ech n (s :: ss)) (h : InL n (s :: ss) v) : ∃ c : Int, v s.head = c * s.row s.head ∧ InL n ss fun j => v j - c * s.row j := by
  obtain ⟨cs, l, e⟩ := h
  match cs, l, e with
  | c :: cs, l, e =>
    refine ⟨c, ?_, cs, by simpa using l, fun j hj => ?_⟩
    · rw [e _ (E.one s (List.mem_cons_self ..)).1]
      show c * s.row s.head + comb ss cs s.head = _
      rw [comb_at E.low, Int.add_zero]
    · have := e j hj
      show v j - c * s.row j = comb ss cs j
      rw [this]
      show c * s.row j + comb ss cs j - c * s.row j = comb ss cs j
      omega
theorem InL.tail_iff {n : Nat} {s : St} {ss : List St} {v : Nat → Int} (E : Ech n (s :: ss)) : InL n ss v ↔ InL n (s :: ss) v ∧ v s.head = 0 := by
  obtain ⟨hn, hz, hp⟩ := E.one s (List.mem_cons_self ..)
  constructor
  · intro h
    refine ⟨h.cons, ?_⟩
    obtain ⟨cs, l, e⟩ := h
    rw [e _ hn]
    exact comb_at E.low
  · rintro ⟨h, h0⟩
    obtain ⟨c, hc, h2⟩ := h.at_head E
    rw [h0] at hc
    rcases Int.mul_eq_zero.mp hc.symm with z | z
    · refine h2.ext fun j _ => ?_
      rw [z, Int.zero_mul, Int.sub_zero]
    · omega
theorem Tdy.tail {n : Nat} {s : St} {ss : List St} (T : Tdy n (s :: ss)) : Tdy n ss := ⟨T.ech.tail, (List.pairwise_cons.mp T.red).2⟩
/-- the same head and row -/
def SameR (n : Nat) (s t : St) : Prop := s.head = t.head ∧ ∀ j, j < n → s.row j = t.row j
inductive Alike (n : Nat) : List St → List St → Prop
  | nil : Alike n [] []
  | cons {s t : St} {ss ts : List St} : SameR n s t → Alike n ss ts → Alike n (s :: ss) (t :: ts)
theorem Alike.len {n : Nat} : ∀ {ss ts : List St}, Alike n ss ts → ss.length = ts.length
  | _, _, .nil => rfl
  | _, _, .cons _ h => by rw [List.length_cons, List.length_cons, h.len]
theorem Alike.rd {n : Nat} {v : Nat → Int} : ∀ {ss ts : List St}, Alike n ss ts → (∀ s ∈ ss, s.head < n) → Rd ts v → Rd ss v
  | _, _, .nil, _, _ => fun s hs => by cases hs
  | _, _, .cons (s := s) (t := t) q h, hn, R => fun a ha => by
    rcases List.mem_cons.mp ha with e | e
    · subst e
      have := R t (List.mem_cons_self ..)
      rw [q.1, q.2 _ (by rw [← q.1]; exact hn a (List.mem_cons_self ..))]
      exact this
    · exact h.rd (fun x hx => hn x (List.mem_cons_of_mem _ hx)) (fun x hx => R x (List.mem_cons_of_mem _ hx)) a e
theorem tdy_red {n : Nat} {s : St} {ss : List St} (T : Tdy n (s :: ss)) : Rd ss s.row := fun a ha => (List.pairwise_cons.mp T.red).1 a ha
theorem tdy_uniq {n : Nat} : ∀ {ss ts : List St}, Tdy n ss → Tdy n ts → (∀ v, InL n ss v ↔ InL n ts v) → Alike n ss ts
  | [], [], _, _, _ => .nil
  | s :: ss, [], T, _, h => by
    exfalso
    obtain ⟨hn, hz, hp⟩ := T.ech.one s (List.mem_cons_self ..)
    obtain ⟨cs, l, e⟩ := (h s.row).mp (InL.mem (List.mem_cons_self ..))
    have := e _ hn
    have z : comb [] cs s.head = 0 := by cases cs <;> rfl
    omega
  | [], t :: ts, _, T, h => by
    exfalso
    obtain ⟨hn, hz, hp⟩ := T.ech.one t (List.mem_cons_self ..)
    obtain ⟨cs, l, e⟩ := (h t.row).mpr (InL.mem (List.mem_cons_self ..))
    have := e _ hn
    have z : comb [] cs t.head = 0 := by cases cs <;> rfl
    omega
  | s :: ss, t :: ts, T, U, h => by
    obtain ⟨sn, sz, sp⟩ := T.ech.one s (List.mem_cons_self ..)
    obtain ⟨tn, tz, tp⟩ := U.ech.one t (List.mem_cons_self ..)
    have i1 : InL n (t :: ts) s.row := (h _).mp (InL.mem (List.mem_cons_self ..))
    have i2 : InL n (s :: ss) t.row := (h _).mpr (InL.mem (List.mem_cons_self ..))
    have eh : s.head = t.head := by
      rcases Nat.lt_trichotomy s.head t.head with z | z | z
      · have := i1.zero_below U.ech.below _ z sn
        omega
      · exact z
      · have := i2.zero_below T.ech.below _ z tn
        omega
    obtain ⟨c, hc, c2⟩ := i1.at_head U.ech
    obtain ⟨d, hd', d2⟩ := i2.at_head T.ech
    rw [← eh] at hc
    have tp' : 0 < t.row s.head := by rw [eh]; exact tp
    have top : s.row s.head = t.row s.head := by
      have hd2 : t.row s.head = d * s.row s.head := hd'
      have c1 : 0 < c := by
        rcases Int.lt_or_le 0 c with z | z
        · exact z
        · exfalso
          have := Int.mul_le_mul_of_nonneg_right z (Int.le_of_lt tp')
          omega
      have d1 : 0 < d := by
        rcases Int.lt_or_le 0 d with z | z
        · exact z
        · exfalso
          have := Int.mul_le_mul_of_nonneg_right z (Int.le_of_lt sp)
          omega
      have g1 : 1 * t.row s.head ≤ c * t.row s.head := Int.mul_le_mul_of_nonneg_right (by omega) (by omega)
      have g2 : 1 * s.row s.head ≤ d * s.row s.head := Int.mul_le_mul_of_nonneg_right (by omega) (by omega)
      omega
    have lat : ∀ v, InL n ss v ↔ InL n ts v := fun v => by
      rw [InL.tail_iff T.ech, InL.tail_iff U.ech, h v, eh]
    have A := tdy_uniq T.tail U.tail lat
    refine .cons ⟨eh, ?_⟩ A
    refine rest_uniq T.tail.ech (tdy_red T) (A.rd (fun a ha => (T.tail.ech.one a ha).1) (tdy_red U)) ?_
    refine (InL.tail_iff T.ech).mpr ⟨?_, by show s.row s.head - t.row s.head = 0; omega⟩
    exact InL.lin (-1) (InL.mem (List.mem_cons_self ..)) i2 fun j _ => by omega
end LK
end

section
set_option autoImplicit false
set_option maxRecDepth 100000
set_option maxHeartbeats 4000000
namespace LK
/-! ### taking a row in, turn by turn -/
/-- how great the numbers on the way may be: up to eight columns, or up to twelve -/
def Wn (n : Nat) : Nat := if n ≤ 8 then 80000 else 50000
theorem Wn_le (n : Nat) : Wn n ≤ 80000 := by
  unfold Wn
  split <;> omega
structure Dim (n b B : Nat) : Prop where
  n7 : n ≤ 8 ∨ n ≤ 12 ∧ n * (B + 1) + b ≤ 50000
  b1 : 1 ≤ b
  B1 : 1 ≤ B
  bnd : n * (B + 1) + b ≤ 80000
/-- what is known of the stands that a row is taken into -/
structure Old (n B m P : Nat) (G : Mx) (ss : List St) : Prop where
  tdy : Tdy n ss
  row : ∀ s ∈ ss, ∀ j, j < n → (s.row j).natAbs < 2 ^ B
  made : ∀ s ∈ ss, Mk n m G s.row s.parts
  zero : ∀ s ∈ ss, ∀ i, m ≤ i → s.parts i = 0
  bp : ∀ s ∈ ss, ∀ i, i < m → (s.parts i).natAbs < 2 ^ P
structure TI (n b B m P : Nat) (G : Mx) (ss0 : List St) (v0 : Nat → Int) (k : Nat) (F L : List St) (r p : Nat → Int) : Prop where
  ech : Ech n (F ++ L)
  lat : ∀ w, InL n (rS r :: (F ++ L)) w ↔ InL n (rS v0 :: ss0) w
  made : ∀ s ∈ F ++ L, Mk n m G s.row s.parts
  mkr : Mk n m G r p
  zero : ∀ s ∈ F ++ L, ∀ i, m ≤ i → s.parts i = 0
  zp : ∀ i, m ≤ i → p i = 0
  low : ∀ s ∈ F, ∀ j, j ≤ s.head → r j = 0
  left : (∀ s ∈ L, s ∈ ss0) ∨ ∀ j, j < n → r j = 0
  kk : (∀ j, j < n → r j = 0) ∨ k + L.length ≤ ss0.length
  k0 : k ≤ ss0.length
  sn : ss0.length ≤ n
  br : ∀ j, j < n → (r j).natAbs < 2 ^ (b + k * (B + 1))
  bF : ∀ s ∈ F ++ L, ∀ j, j < n → (s.row j).natAbs < 2 ^ Wn n
  bp : ∀ i, i < m → (p i).natAbs < 2 ^ (P + k * (Wn n + 1))
  bP : ∀ s ∈ F ++ L, ∀ i, i < m → (s.parts i).natAbs < 2 ^ (P + k * (Wn n + 1))
theorem Dim.n12 {n b B : Nat} (D : Dim n b B) : n ≤ 12 := by
  have := D.n7
  omega
theorem Dim.w {n b B : Nat} (D : Dim n b B) : n * (B + 1) + b ≤ Wn n := by
  have h1 := D.n7
  have h2 := D.bnd
  unfold Wn
  split <;> omega
theorem Dim.tW {n b B : Nat} (D : Dim n b B) {k : Nat} (h : k ≤ n) : k * (2 * Wn n + n) ≤ 1280064 := by
  have h1 := D.n12
  by_cases g : n ≤ 8
  · refine Nat.le_trans (Nat.mul_le_mul h (show 2 * Wn n + n ≤ 160008 by have := Wn_le n; omega)) (by omega)
  · refine Nat.le_trans (Nat.mul_le_mul h (show 2 * Wn n + n ≤ 100012 by unfold Wn; rw [if_neg g]; omega)) (by omega)
theorem Dim.B {n b B : Nat} (D : Dim n b B) (h : 0 < n) : B + 1 + b ≤ Wn n := by
  have := D.w
  have : 1 * (B + 1) ≤ n * (B + 1) := Nat.mul_le_mul_right _ h
  omega
theorem Dim.step {n b B k : Nat} (D : Dim n b B) (h : k ≤ n) : b + k * (B + 1) ≤ Wn n := by
  have := D.w
  have : k * (B + 1) ≤ n * (B + 1) := Nat.mul_le_mul_right _ h
  omega
theorem rows8 {n b B : Nat} (D : Dim n b B) {x : Int} {j : Nat} (hj : j < n) (h : x.natAbs < 2 ^ B) : x.natAbs < 2 ^ Wn n := up_bd h (by have := D.B (show 0 < n by omega); omega)
theorem TI.start {n b B m P : Nat} {G : Mx} {ss : List St} {v p : Nat → Int} (D : Dim n b B) (O : Old n B m P G ss) (hv : ∀ j, j < n → (v j).natAbs < 2 ^ b) (mk : Mk n m G v p) (zp : ∀ i, m ≤ i → p i = 0) (bp : ∀ i, i < m → (p i).natAbs < 2 ^ P) :
    TI n b B m P G ss v 0 [] ss v p where
  ech := O.tdy.ech
  lat := fun w => Iff.rfl
  made := O.made
  mkr := mk
  zero := O.zero
  zp := zp
  low := fun s hs => by cases hs
  left := .inl fun s h => h
  kk := .inr (by omega)
  k0 := Nat.zero_le _
  sn := O.tdy.ech.len
  br := fun j hj => up_bd (hv j hj) (by omega)
  bF := fun s hs j hj => rows8 D hj (O.row s hs j hj)
  bp := fun i hi => up_bd (bp i hi) (by omega)
  bP := fun s hs i hi => up_bd (O.bp s hs i hi) (by omega)
section
variable {n b B m P : Nat} {G : Mx} {ss0 : List St} {v0 : Nat → Int} {k : Nat} {F L : List St} {r p : Nat → Int}
/-- the row stands by itself -/
theorem TI.fresh (D : Dim n b B) (I : TI n b B m P G ss0 v0 k F L r p) {h : Nat} (hn : h < n) (hr : ∀ j, j < h → r j = 0) (hne : r h ≠ 0) (hF : ∀ s ∈ F, s.head < h) (hL : ∀ s ∈ L, h < s.head) {sg : Int} (hs : sg = 1 - 2 * (if r h < 0 then 1 else 0)) :
    TI n b B m P G ss0 v0 k F (⟨fun j => sg * r j + 0 * r j, fun i => sg * p i + 0 * p i, h⟩ :: L) (fun _ => 0) (fun _ => 0) := by
  have s1 : sg = 1 ∨ sg = -1 := by
    rw [hs]
    split <;> omega
  have ab : ∀ x : Int, (sg * x + 0 * x).natAbs = x.natAbs := fun x => by
    rcases s1 with e | e <;> rw [e] <;> simp
  have pos : 0 < sg * r h + 0 * r h := by
    rw [hs]
    split <;> omega
  have Up := List.pairwise_append.mp I.ech.up
  have memF : ∀ {s : St}, s ∈ F ++ L → s ∈ F ++ (⟨fun j => sg * r j + 0 * r j, fun i => sg * p i + 0 * p i, h⟩ :: L) := fun hs => by
    rcases List.mem_append.mp hs with e | e
    · exact List.mem_append_left _ e
    · exact List.mem_append_right _ (List.mem_cons_of_mem _ e)
  have cases_ : ∀ {Pr : St → Prop}, (∀ s ∈ F ++ L, Pr s) → Pr ⟨fun j => sg * r j + 0 * r j, fun i => sg * p i + 0 * p i, h⟩ → ∀ s ∈ F ++ (⟨fun j => sg * r j + 0 * r j, fun i => sg * p i + 0 * p i, h⟩ :: L), Pr s := fun h1 h2 s hs => by
    rcases List.mem_append.mp hs with e | e
    · exact h1 s (List.mem_append_left _ e)
    · rcases List.mem_cons.mp e with e | e
      · subst e
        exact h2
      · exact h1 s (List.mem_append_right _ e)
  have b8 := D.step (Nat.le_trans I.k0 I.sn)
  refine { ech := ⟨cases_ I.ech.one ⟨hn, fun j hj => by show sg * r j + 0 * r j = 0; rw [hr j hj]; simp, pos⟩, ?_⟩, lat := fun w => ?_, made := cases_ I.made (I.mkr.lin I.mkr (fun _ _ => rfl) fun _ _ => rfl), mkr := fun j hj => ?_, zero := cases_ I.zero fun i hi => ?_, zp := fun _ _ => rfl, low := fun _ _ _ _ => rfl, left := .inr fun _ _ => rfl, kk := .inl fun _ _ => rfl, k0 := I.k0, sn := I.sn, br := fun j _ => Nat.two_pow_pos _, bF := cases_ I.bF fun j hj => ?_, bp := fun i _ => Nat.two_pow_pos _, bP := cases_ I.bP fun i hi => ?_ }
  · refine List.pairwise_append.mpr ⟨Up.1, List.pairwise_cons.mpr ⟨hL, Up.2.1⟩, fun a ha c hc => ?_⟩
    rcases List.mem_cons.mp hc with e | e
    · subst e
      exact hF a ha
    · exact Up.2.2 a ha c e
  · rw [← I.lat w]
    have z : ∀ {X : List St}, InL n X fun _ => 0 := InL.zero fun _ _ => rfl
    constructor
    · intro q
      refine InL.sub (fun s hs => ?_) q
      rcases List.mem_cons.mp hs with e | e
      · subst e
        exact z
      · exact cases_ (Pr := fun s => InL n (rS r :: (F ++ L)) s.row) (fun s hs => InL.mem (List.mem_cons_of_mem _ hs)) (InL.lin sg z (InL.head fun _ _ => rfl) fun j _ => by show sg * r j + 0 * r j = 0 + sg * r j; omega) s e
    · intro q
      refine InL.sub (fun s hs => ?_) q
      rcases List.mem_cons.mp hs with e | e
      · subst e
        refine InL.lin sg z (InL.mem (s := ⟨fun j => sg * r j + 0 * r j, fun i => sg * p i + 0 * p i, h⟩) (by simp)) fun j _ => ?_
        show r j = 0 + sg * (sg * r j + 0 * r j)
        rcases s1 with e | e <;> rw [e] <;> omega
      · exact InL.mem (List.mem_cons_of_mem _ (memF e))
  · exact (sumN_zero fun i hi => Int.zero_mul _).symm
  · show sg * p i + 0 * p i = 0
    rw [I.zp i hi]
    simp
  · show (sg * r j + 0 * r j).natAbs < _
    rw [ab]
    exact up_bd (I.br j hj) b8
  · show (sg * p i + 0 * p i).natAbs < _
    rw [ab]
    exact I.bp i hi
theorem max1_bd {x y : Int} {a : Nat} (h : (x.natAbs : Int) ≤ max 1 (y.natAbs : Int)) (hy : y.natAbs < 2 ^ a) (ha : 1 ≤ a) : x.natAbs < 2 ^ a := by
  have h2 : 2 ^ 1 ≤ 2 ^ a := Nat.pow_le_pow_right (by decide) ha
  omega
/-- the row and a stand at its head -/
theorem TI.turn (D : Dim n b B) (O : Old n B m P G ss0) {here : St} {L' : List St} (I : TI n b B m P G ss0 v0 k F (here :: L') r p) (hn : here.head < n) (hr : ∀ j, j < here.head → r j = 0) (hne : r here.head ≠ 0) (hF : ∀ s ∈ F, s.head < here.head) {g x y : Int}
    (hg : 0 < g) (e0 : x * here.row here.head + y * r here.head = g) (g1 : g ∣ here.row here.head) (g2 : g ∣ r here.head) (bx : (x.natAbs : Int) ≤ max 1 ((r here.head).natAbs : Int)) (by_ : (y.natAbs : Int) ≤ max 1 ((here.row here.head).natAbs : Int)) :
    TI n b B m P G ss0 v0 (k + 1) (F ++ [⟨fun j => x * here.row j + y * r j, fun i => x * here.parts i + y * p i, here.head⟩]) L'
      (fun j => (here.row here.head / g) * r j + -(r here.head / g) * here.row j) (fun i => (here.row here.head / g) * p i + -(r here.head / g) * here.parts i) := by
  have hm : here ∈ ss0 := by
    rcases I.left with z | z
    · exact z here (List.mem_cons_self ..)
    · exact absurd (z _ hn) hne
  have hk : k + 1 ≤ ss0.length := by
    rcases I.kk with z | z
    · exact absurd (z _ hn) hne
    · rw [List.length_cons] at z
      omega
  have hk2 : k + 1 + L'.length ≤ ss0.length := by
    rcases I.kk with z | z
    · exact absurd (z _ hn) hne
    · rw [List.length_cons] at z
      omega
  have b8 := D.step (Nat.le_trans hk I.sn)
  have b9 : b + k * (B + 1) ≤ Wn n := D.step (Nat.le_trans I.k0 I.sn)
  have hB := D.B (show 0 < n by omega)
  have rb := O.row here hm
  have here_low := (I.ech.one here (by simp)).2.1
  obtain ⟨t, ht⟩ := g1
  obtain ⟨q, hq⟩ := g2
  have et : here.row here.head / g = t := by rw [ht]; exact Int.mul_ediv_cancel_left _ (by omega)
  have eq : r here.head / g = q := by rw [hq]; exact Int.mul_ediv_cancel_left _ (by omega)
  have one : x * t - y * -q = 1 := by
    rw [ht, hq] at e0
    have : g * (x * t + y * q) = g * 1 := by rw [Int.mul_one]; grind
    have := Int.eq_of_mul_eq_mul_left (by omega) this
    rw [Int.mul_neg]
    omega
  have btop := rb _ hn
  have bnum := I.br _ hn
  have bt : t.natAbs < 2 ^ B := by rw [← et]; exact ediv_bd btop
  have bq : (-q).natAbs < 2 ^ (b + k * (B + 1)) := by rw [Int.natAbs_neg, ← eq]; exact ediv_bd bnum
  have b1 : 1 ≤ b := D.b1
  have bn1 : 1 ≤ B := D.B1
  have bx' := max1_bd bx bnum (by omega)
  have by' := max1_bd by_ btop bn1
  have km : (k + 1) * (B + 1) = k * (B + 1) + (B + 1) := Nat.succ_mul _ _
  have Up := List.pairwise_append.mp I.ech.up
  have eA : (F ++ [(⟨fun j => x * here.row j + y * r j, fun i => x * here.parts i + y * p i, here.head⟩ : St)]) ++ L' = F ++ ⟨fun j => x * here.row j + y * r j, fun i => x * here.parts i + y * p i, here.head⟩ :: L' := by rw [List.append_assoc]; rfl
  have cases_ : ∀ {Pr : St → Prop}, (∀ s ∈ F ++ here :: L', Pr s) → Pr ⟨fun j => x * here.row j + y * r j, fun i => x * here.parts i + y * p i, here.head⟩ → ∀ s ∈ F ++ ⟨fun j => x * here.row j + y * r j, fun i => x * here.parts i + y * p i, here.head⟩ :: L', Pr s := fun h1 h2 s hs => by
    rcases List.mem_append.mp hs with e | e
    · exact h1 s (List.mem_append_left _ e)
    · rcases List.mem_cons.mp e with e | e
      · subst e
        exact h2
      · exact h1 s (List.mem_append_right _ (List.mem_cons_of_mem _ e))
  have ks : (k + 1) * (Wn n + 1) = k * (Wn n + 1) + (Wn n + 1) := Nat.succ_mul _ _
  have pk : P + k * (Wn n + 1) ≤ P + (k + 1) * (Wn n + 1) := by omega
  rw [et, eq]
  refine { ech := ?_, lat := ?_, made := ?_, mkr := ?_, zero := ?_, zp := fun i hi => ?_, low := ?_, left := ?_, kk := .inr hk2, k0 := hk, sn := I.sn, br := fun j hj => ?_, bF := ?_, bp := fun i hi => ?_, bP := ?_ }
  · rw [eA]
    refine ⟨cases_ I.ech.one ⟨hn, fun j hj => ?_, ?_⟩, ?_⟩
    · show x * here.row j + y * r j = 0
      rw [here_low j hj, hr j hj]
      simp
    · show 0 < x * here.row here.head + y * r here.head
      omega
    · refine List.pairwise_append.mpr ⟨Up.1, List.pairwise_cons.mpr (List.pairwise_cons.mp Up.2.1), fun a ha c hc => ?_⟩
      rcases List.mem_cons.mp hc with e | e
      · subst e
        exact hF a ha
      · exact Up.2.2 a ha c (List.mem_cons_of_mem _ e)
  · intro w
    rw [eA, ← I.lat w]
    exact InL.turn (x := x) (y := y) (one := t) (other := -q) one (fun _ _ => rfl) (fun _ _ => rfl) w
  · rw [eA]
    exact cases_ I.made ((I.made here (by simp)).lin I.mkr (fun _ _ => rfl) fun _ _ => rfl)
  · exact I.mkr.lin (I.made here (by simp)) (fun _ _ => rfl) fun _ _ => rfl
  · rw [eA]
    refine cases_ I.zero fun i hi => ?_
    show x * here.parts i + y * p i = 0
    rw [I.zero here (by simp) i hi, I.zp i hi]
    simp
  · show t * p i + -q * here.parts i = 0
    rw [I.zero here (by simp) i hi, I.zp i hi]
    simp
  · intro s hs j hj
    rcases List.mem_append.mp hs with e | e
    · show t * r j + -q * here.row j = 0
      have := hF s e
      rw [I.low s e j hj, here_low j (by omega)]
      simp
    · have e' : s = _ := List.mem_singleton.mp e
      subst e'
      show t * r j + -q * here.row j = 0
      have hj' : j ≤ here.head := hj
      rcases Nat.lt_or_eq_of_le hj' with z | z
      · rw [hr j z, here_low j z]
        simp
      · subst z
        rw [ht, hq]
        grind
  · rcases I.left with z | z
    · exact .inl fun s hs => z s (List.mem_cons_of_mem _ hs)
    · exact absurd (z _ hn) hne
  · refine up_bd (lin_bd bt (I.br j hj) bq (rb j hj) (Nat.le_refl _) (f := B + (b + k * (B + 1))) (by omega)) (by omega)
  · rw [eA]
    refine cases_ I.bF fun j hj => ?_
    exact up_bd (lin_bd bx' (rb j hj) by' (I.br j hj) (f := B + (b + k * (B + 1))) (by omega) (by omega)) (by omega)
  · exact up_bd (lin_bd (rows8 D hn bt) (I.bp i hi) (up_bd bq (by omega)) (I.bP here (by simp) i hi) (f := Wn n + (P + k * (Wn n + 1))) (Nat.le_refl _) (by omega)) (by omega)
  · rw [eA]
    refine cases_ (fun s hs i hi => up_bd (I.bP s hs i hi) pk) fun i hi => ?_
    exact up_bd (lin_bd (a := Wn n) (d := Wn n) (up_bd bx' b9) (I.bP here (by simp) i hi) (rows8 D hn by') (I.bp i hi) (f := Wn n + (P + k * (Wn n + 1))) (Nat.le_refl _) (by omega)) (by omega)
/-- the row is used up -/
theorem TI.done (I : TI n b B m P G ss0 v0 k F L r p) (h0 : ∀ j, j < n → r j = 0) (w : Nat → Int) : InL n (F ++ L) w ↔ InL n (rS v0 :: ss0) w := by
  rw [← I.lat w]
  refine ⟨fun h => h.cons, fun h => InL.sub (fun s hs => ?_) h⟩
  rcases List.mem_cons.mp hs with e | e
  · subst e
    exact InL.zero h0
  · exact InL.mem e
end
/-! ### tidied: parts -/
/-- a stand cut by tidy ones: its numbers on the way -/
structure CutB (n m B a Q : Nat) (s : St) : Prop where
  row : ∀ j, j < n → (s.row j).natAbs < 2 ^ a
  parts : ∀ i, i < m → (s.parts i).natAbs < 2 ^ Q
theorem CutB.cut {n m B a Q P : Nat} {s t : St} (h : CutB n m B a Q s) (ht : t.head < n) (hr : ∀ j, j < n → (t.row j).natAbs < 2 ^ B) (hp : ∀ i, i < m → (t.parts i).natAbs < 2 ^ P) (hq : a + P ≤ Q) : CutB n m B (a + (B + 1)) (Q + 1) (cutB s t) := by
  refine ⟨cut_bd h.row ht hr, fun i hi => ?_⟩
  have hm : (-(s.row t.head / t.row t.head)).natAbs < 2 ^ a := by rw [Int.natAbs_neg]; exact ediv_bd (h.row _ ht)
  show (s.parts i - _ * t.parts i).natAbs < _
  have p1 := h.parts i hi
  have p2 := Nat.lt_of_lt_of_le (DL.bits_mul hm (hp i hi)) (Nat.pow_le_pow_right (by decide) hq)
  have e : s.parts i - (s.row t.head / t.row t.head) * t.parts i = s.parts i + -(s.row t.head / t.row t.head) * t.parts i := by grind
  rw [e, Nat.pow_succ]
  omega
end LK
end

section
set_option autoImplicit false
set_option maxRecDepth 100000
set_option maxHeartbeats 4000000
namespace LK
/-! ### rows put one by one -/
def snocG (m : Nat) (G : Mx) (v : Nat → Int) : Mx := fun i => if i < m then G i else v
theorem snocG_lt {m i : Nat} {G : Mx} {v : Nat → Int} (h : i < m) : snocG m G v i = G i := if_pos h
theorem snocG_at (m : Nat) (G : Mx) (v : Nat → Int) : snocG m G v m = v := if_neg (Nat.lt_irrefl m)
def PB (m : Nat) : Nat := m * 2000000 + 1
/-- how great tidy rows of what these rows span can be -/
def Lm (n B m : Nat) (G : Mx) : Prop := ∀ ss : List St, Tdy n ss → (∀ i, i < m → InL n ss (G i)) → (∀ s ∈ ss, Mk n m G s.row s.parts) → ∀ s ∈ ss, ∀ j, j < n → (s.row j).natAbs < 2 ^ B
structure RI (n b B m : Nat) (G : Mx) (ss : List St) : Prop where
  tdy : Tdy n ss
  row : ∀ s ∈ ss, ∀ j, j < n → (s.row j).natAbs < 2 ^ B
  inL : ∀ i, i < m → InL n ss (G i)
  made : ∀ s ∈ ss, Mk n m G s.row s.parts
  zero : ∀ s ∈ ss, ∀ i, m ≤ i → s.parts i = 0
  bd : Bd b m n G
  bp : ∀ s ∈ ss, ∀ i, i < m → (s.parts i).natAbs < 2 ^ PB m
theorem RI.nil (n b B : Nat) (G : Mx) : RI n b B 0 G [] := ⟨⟨⟨fun s h => (by cases h), .nil⟩, .nil⟩, fun s h => (by cases h), fun i h => absurd h (by omega), fun s h => (by cases h), fun s h => (by cases h), fun i j h => absurd h (by omega), fun s h => (by cases h)⟩
theorem Mk.snoc {n m : Nat} {G : Mx} {u p v : Nat → Int} (h : Mk n m G u p) (z : p m = 0) : Mk n (m + 1) (snocG m G v) u p := fun j hj => by
  show u j = sumN m _ + p m * _
  rw [z, Int.zero_mul, Int.add_zero, h j hj]
  exact sumN_ext fun i hi => by rw [snocG_lt hi]
theorem Mk.unit {n m : Nat} {G : Mx} {v : Nat → Int} : Mk n (m + 1) (snocG m G v) v (idG m) := fun j hj => by
  have := sumN_pick (m + 1) m (fun i => snocG m G v i j) (by omega)
  rw [snocG_at] at this
  exact this.symm
theorem snoc_bd {n b m : Nat} {G : Mx} {v : Nat → Int} (h : Bd b m n G) (hv : ∀ j, j < n → (v j).natAbs < 2 ^ b) : Bd b (m + 1) n (snocG m G v) := fun i j hi hj => by
  unfold snocG
  split
  · exact h i j (by assumption) hj
  · exact hv j hj
section
variable {n b B m : Nat} {G : Mx} {ss : List St} {v : Nat → Int}
theorem RI.rows (R : RI n b B m G ss) (D : Dim n b B) : ∀ s ∈ ss, ∀ j, j < n → (s.row j).natAbs < 2 ^ B := R.row
theorem RI.rest (R : RI n b B m G ss) : Rd ss (restS ss v) ∧ InL n ss fun j => v j - restS ss v j := rest_ok R.tdy.ech
theorem RI.same (R : RI n b B m G ss) (hv : ∀ j, j < n → (v j).natAbs < 2 ^ b) (h : InL n ss v) : RI n b B (m + 1) (snocG m G v) ss where
  tdy := R.tdy
  row := R.row
  inL := fun i hi => by
    unfold snocG
    split
    · exact R.inL i (by assumption)
    · exact h
  made := fun s hs => (R.made s hs).snoc (R.zero s hs m (Nat.le_refl _))
  zero := fun s hs i hi => R.zero s hs i (by omega)
  bd := snoc_bd R.bd hv
  bp := fun s hs i hi => by
    by_cases e : i < m
    · exact up_bd (R.bp s hs i e) (by unfold PB; omega)
    · rw [R.zero s hs i (by omega)]
      exact Nat.two_pow_pos _
theorem RI.old (R : RI n b B m G ss) (D : Dim n b B) : Old n B (m + 1) (PB m) (snocG m G v) ss where
  tdy := R.tdy
  row := R.rows D
  made := fun s hs => (R.made s hs).snoc (R.zero s hs m (Nat.le_refl _))
  zero := fun s hs i hi => R.zero s hs i (by omega)
  bp := fun s hs i hi => by
    by_cases e : i < m
    · exact R.bp s hs i e
    · rw [R.zero s hs i (by omega)]
      exact Nat.two_pow_pos _
theorem RI.start (R : RI n b B m G ss) (D : Dim n b B) (hv : ∀ j, j < n → (v j).natAbs < 2 ^ b) : TI n b B (m + 1) (PB m) (snocG m G v) ss v 0 [] ss v (idG m) :=
  TI.start D (R.old D) hv Mk.unit (fun i hi => idG_ne (by omega)) fun i hi => by
    have : 2 ^ 1 ≤ 2 ^ PB m := Nat.pow_le_pow_right (by decide) (by unfold PB; omega)
    unfold idG
    split
    · show 1 < _
      omega
    · exact Nat.two_pow_pos _
end
end LK
end

section
set_option autoImplicit false
set_option maxRecDepth 100000
set_option maxHeartbeats 4000000
namespace LK
open PySem PySem.Spec PyProof.Rows L2 DL
open PySem.W (Frag)
/-! ### stands and rows by data -/
def dS (n m : Nat) (s : St) : D := .ins "Stand" [("row", dR n s.row), ("parts", dR m s.parts), ("head", .int s.head)]
def rowsF (n : Nat) (g : Addr) (m : Nat) (ss : List St) : List (PySem.Str × D) := [("held_wide", .int n), ("held_given", .ref g), ("held_stands", .lst (ss.map (dS n m)))]
def rowsL (n m : Nat) (G : Mx) : List D := (List.range m).map fun k => dR n (G k)
def IsHead (n : Nat) (f : Nat → Int) (h : Nat) : Prop := h < n ∧ f h ≠ 0 ∧ ∀ j, j < h → f j = 0
structure RAt (S : Sto) (x : Addr) (n b B m : Nat) (G : Mx) (ss : List St) (i j : Nat) (g : Addr) : Prop where
  lm : ∀ k, k ≤ m → Lm n B k G
  ob : S[i]? = some (x, Cel.ins "Rows" (rowsF n g m ss))
  gv : S[j]? = some (g, Cel.lst (rowsL n m G))
  ri : RI n b B m G ss
  dim : Dim n b B
  m100 : m ≤ 20
/-- an object of Rows that is no longer written -/
def dRows (n m : Nat) (G : Mx) (ss : List St) : D := .ins "Rows" [("held_wide", .int n), ("held_given", .lst (rowsL n m G)), ("held_stands", .lst (ss.map (dS n m)))]
/-- x is an object of Rows: of cells, or no longer written -/
structure RVal (S : Sto) (x : D) (n b B m : Nat) (G : Mx) (ss : List St) : Prop where
  lm : ∀ k, k ≤ m → Lm n B k G
  ri : RI n b B m G ss
  dim : Dim n b B
  m100 : m ≤ 20
  at_ : (∃ (a : Addr) (i j : Nat) (g : Addr), x = .ref a ∧ S[i]? = some (a, Cel.ins "Rows" (rowsF n g m ss)) ∧ S[j]? = some (g, Cel.lst (rowsL n m G))) ∨ x = dRows n m G ss
theorem RAt.val {S : Sto} {x : Addr} {n b B m : Nat} {G : Mx} {ss : List St} {i j : Nat} {g : Addr} (R : RAt S x n b B m G ss i j g) : RVal S (.ref x) n b B m G ss := ⟨R.lm, R.ri, R.dim, R.m100, .inl ⟨x, i, j, g, rfl, R.ob, R.gv⟩⟩
theorem RVal.push {S : Sto} {x : D} {n b B m : Nat} {G : Mx} {ss : List St} (R : RVal S x n b B m G ss) (p : Addr × Cel) : RVal (p :: S) x n b B m G ss := ⟨R.lm, R.ri, R.dim, R.m100, R.at_.imp (fun ⟨a, i, j, g, e, h1, h2⟩ => ⟨a, i + 1, j + 1, g, e, h1, h2⟩) id⟩
theorem RVal.asI {S : Sto} {x : D} {n b B m : Nat} {G : Mx} {ss : List St} (R : RVal S x n b B m G ss) {P : List (PySem.Str × D) → Prop} (h : ∀ y, LV S y (rowsL n m G) → P [("held_wide", .int n), ("held_given", y), ("held_stands", .lst (ss.map (dS n m)))]) : DL.asI "Rows" x S P := by
  rcases R.at_ with ⟨a, i, j, g, rfl, h1, h2⟩ | rfl
  · exact ⟨i, _, h1, h _ (.cell h2)⟩
  · exact ⟨rfl, h _ (.lst _)⟩
/-! ### promises -/
/-! ### readings -/
-- 0 one, 1 other, 2 far, 3 mine, 4 its, 5 near, 6 my_part, 7 its_part, 8 many
-- 0 thing, 1 wide
-- 0 row, 1 one
-- 0 row, 1 k
-- 0 x, 1 one, 2 y, 3 other, 4 mine, 5 its
-- 0 self, 1 row, 2 parts
-- 0 self
-- 0 self, 1 x, 2 other, 3 y
-- 0 self
-- 0 self, 1 later, 2 many
-- 0 stands, 1 found, 2 stand, 3 later
-- 0 stands, 1 row, 2 parts, 3 found, 4 left, 5 at, 6 sign, 7 here, 8 top, 9 number, 10 most, 11 x, 12 y, 13 one, 14 other, 15 stand
-- 0 self, 1 wide, 2 rows, 3 row
-- 0 self, 1 row, 2 grew, 3 parts, 4 stand
-- 0 self, 1 left, 2 row
-- 0 self
-- 0 self, 1 stand
-- 0 self, 1 handful, 2 stand, 3 many
-- 0 self
/-! ### the promises are kept -/
local macro_rules | `(tactic| walk_at "ev") => `(tactic| dsimp only [sSeq, sRet, sIf, sSet, sFor, sNext, sEx, sPar, sAsg, DL.sFld, eAn, eOo, eNo, eCall, eFn, eMeth, eNew, eFld, aCons, aNil, eVar, rd, eC, eOp, eUn, eEq, eOrd, tEq, tOrd, tVal, tNo, tAn, tOo, tEqL, eEqL, tNone, eTup, eLst, eSl, oNo, oSome, eRev, iR1, iR2, iSq, iZp, sForX, iSqX, iEnX, iZpX, one_eq, gNm, gTp, gsCons, gsNil, eLc_eq, inG, List.set_cons_zero, List.set_cons_succ, List.getElem?_cons_zero, List.getElem?_cons_succ, List.append_nil])
theorem mulB_le {a b : Nat} {i j : Int} (hi : i.natAbs < 2 ^ a) (hj : j.natAbs < 2 ^ b) (h : a + b ≤ 134000000) : MulB i j := by
  have x := PySem.Flt.log2_lt_of (show 0 < a + 1 by omega) (up_bd hi (show a ≤ a + 1 by omega))
  have y := PySem.Flt.log2_lt_of (show 0 < b + 1 by omega) (up_bd hj (show b ≤ b + 1 by omega))
  have g : ∀ x : Int, Builtin.Int.intBits x ≤ x.natAbs.log2 + 1 := fun x => by
    unfold Builtin.Int.intBits
    split <;> omega
  have h1 := g i
  have h2 := g j
  have e : bitsLine = 134217728 := by decide
  show IntMulOk i j
  unfold IntMulOk
  intro z
  rw [Bool.and_eq_true] at z
  have z2 := z.2
  unfold Builtin.Int.intTooBig at z2
  have z3 := of_decide_eq_true z2
  rw [e] at z3
  omega
/-! ### tidied -/
theorem Ech.head {n : Nat} {ss : List St} (E : Ech n ss) : ∀ s ∈ ss, IsHead n s.row s.head := fun s hs => by
  obtain ⟨h1, h2, h3⟩ := E.one s hs
  exact ⟨h1, by omega, h2⟩
theorem Ech.drop {n : Nat} : ∀ {ss : List St} (k : Nat), Ech n ss → Ech n (ss.drop k)
  | _, 0, E => E
  | [], k + 1, E => E
  | s :: ss, k + 1, E => Ech.drop (ss := ss) k E.tail
/-! ### taken_in -/
section
variable {n b B m P k h : Nat} {G : Mx} {ss F L : List St} {v r p p0 : Nat → Int} {S : Sto} {EX : EXT} {E : DE} {o6 o7 o8 o9 o10 o11 o12 o13 o14 : Option D} {pc : Addr}
end
/-! ### rows -/
theorem RI.congr {n b B m : Nat} {G G' : Mx} {ss : List St} (R : RI n b B m G ss) (h : ∀ i j, i < m → j < n → G i j = G' i j) : RI n b B m G' ss where
  tdy := R.tdy
  row := R.row
  inL := fun i hi => (R.inL i hi).ext fun j hj => (h i j hi hj).symm
  made := fun s hs j hj => by
    rw [R.made s hs j hj]
    exact sumN_ext fun i hi => by rw [h i j hi hj]
  zero := R.zero
  bd := fun i j hi hj => by rw [← h i j hi hj]; exact R.bd i j hi hj
  bp := R.bp
theorem Mk.congr {n m : Nat} {G G' : Mx} {v p : Nat → Int} (h : Mk n m G v p) (e : ∀ i j, i < m → j < n → G i j = G' i j) : Mk n m G' v p := fun j hj => by
  rw [h j hj]
  exact sumN_ext fun i hi => by rw [e i j hi hj]
theorem Lm.congr {n B m : Nat} {G G' : Mx} (h : Lm n B m G) (e : ∀ i j, i < m → j < n → G i j = G' i j) : Lm n B m G' := fun ss T hG mk =>
  h ss T (fun i hi => (hG i hi).ext fun j hj => e i j hi hj) fun s hs => (mk s hs).congr fun i j hi hj => (e i j hi hj).symm
theorem at_ne {S : Sto} {i j : Nat} {x g : Addr} {c : PySem.Str} {fs : List (PySem.Str × D)} {l : List D} (h : S[i]? = some (x, Cel.ins c fs)) (h2 : S[j]? = some (g, Cel.lst l)) : i ≠ j := fun e => by
  subst e
  rw [h] at h2
  cases h2
theorem set_at {S : Sto} {i : Nat} {p q : Addr × Cel} (h : S[i]? = some p) : (S.set i q)[i]? = some q := List.getElem?_set_self (List.getElem?_eq_some_iff.mp h).1
theorem set_off {S : Sto} {i j : Nat} {p q : Addr × Cel} (h : S[i]? = some p) (hne : i ≠ j) : (S.set j q)[i]? = some p := by rw [List.getElem?_set_ne (Ne.symm hne)]; exact h
end LK
end

section
set_option autoImplicit false
set_option maxRecDepth 100000
set_option maxHeartbeats 4000000
namespace LK
open PySem PySem.Spec PyProof.Rows L2 DL
open PySem.W (Frag)
/-! ### what laws over rows share -/
def pickI (x : D) : Int := match x with
  | .int i => i
  | _ => 0
/-! ### the object and the well -/
theorem RAt.well {S S' : Sto} {x : Addr} {n b B m : Nat} {G : Mx} {ss : List St} {i j : Nat} {g : Addr} {k : Nat} {w : Addr} (R : RAt S x n b B m G ss i j g) (hw : Wl S k w) (t : Wst S S' k w) : RAt S' x n b B m G ss i j g := by
  obtain ⟨a0, b0, c0, h0⟩ := hw
  obtain ⟨a1, b1, c1, rfl⟩ := t
  have ik : i ≠ k := at_ne R.ob h0
  have jk : j ≠ k := fun e => by
    have h1 := R.gv
    rw [e, h0] at h1
    have h2 := Cel.lst.inj (Prod.mk.inj (Option.some.inj h1)).2
    cases m with
    | zero => cases h2
    | succ m =>
      unfold rowsL at h2
      rw [List.range_succ_eq_map, List.map_cons] at h2
      cases h2
  exact ⟨R.lm, set_off R.ob ik, set_off R.gv jk, R.ri, R.dim, R.m100⟩
/-- behind a row put -/
theorem RAt.put {S : Sto} {x : Addr} {n b B m : Nat} {G : Mx} {ss : List St} {i j : Nat} {g : Addr} {v : Nat → Int} {ss' : List St} (R : RAt S x n b B m G ss i j g) (hm : m < 20) (hL : Lm n B (m + 1) (snocG m G v)) (R' : RI n b B (m + 1) (snocG m G v) ss') :
    RAt ((S.set j (g, Cel.lst (rowsL n (m + 1) (snocG m G v)))).set i (x, Cel.ins "Rows" (rowsF n g (m + 1) ss'))) x n b B (m + 1) (snocG m G v) ss' i j g := by
  have hij := at_ne R.ob R.gv
  refine ⟨fun k hk => ?_, set_at (set_off R.ob hij), set_off (set_at R.gv) (Ne.symm hij), R', R.dim, hm⟩
  by_cases e : k = m + 1
  · rw [e]
    exact hL
  · exact (R.lm k (by omega)).congr fun i j hi _ => by rw [snocG_lt (by omega)]
theorem RAt.back {S : Sto} {x : Addr} {n b B m : Nat} {G : Mx} {ss : List St} {i j : Nat} {g : Addr} {g' : Addr} {ss' : List St} (R : RAt S x n b B (m + 1) G ss i j g) (R' : RI n b B m G ss') :
    RAt ((g', Cel.lst (rowsL n m G)) :: S.set i (x, Cel.ins "Rows" (rowsF n g' m ss'))) x n b B m G ss' (i + 1) 0 g' := by
  refine ⟨fun k hk => R.lm k (by omega), set_at R.ob, rfl, R', R.dim, by have := R.m100; omega⟩
theorem RI.only {n b B m b' B' m' : Nat} {G G' : Mx} {ss ts : List St} (R : RI n b B m G ss) (R' : RI n b' B' m' G' ts) (h1 : ∀ i, i < m → InL n ts (G i)) (h2 : ∀ i, i < m' → InL n ss (G' i)) : Alike n ss ts := by
  have mem : ∀ {b B m : Nat} {G : Mx} {ss ts : List St}, RI n b B m G ss → (∀ i, i < m → InL n ts (G i)) → ∀ v, InL n ss v → InL n ts v := fun {b B m G ss ts} R h v hv => by
    refine InL.sub (fun s hs => ?_) hv
    have key : ∀ k, k ≤ m → InL n ts fun j => sumN k fun i => s.parts i * G i j := by
      intro k
      induction k with
      | zero => exact fun _ => InL.zero fun _ _ => rfl
      | succ k ih => exact fun hk => InL.lin (s.parts k) (ih (by omega)) (h k (by omega)) fun j _ => rfl
    exact (key m (Nat.le_refl _)).ext fun j hj => R.made s hs j hj
  exact tdy_uniq R.tdy R'.tdy fun v => ⟨mem R h1 v, mem R' h2 v⟩
theorem Alike.inL {n : Nat} : ∀ {ss ts : List St} {v : Nat → Int}, Alike n ss ts → InL n ss v → InL n ts v
  | _, _, v, .nil, h => h
  | _, _, v, .cons (s := s) (t := t) (ss := ss) (ts := ts) q A, ⟨cs, l, e⟩ => by
    match cs, l, e with
    | c :: cs, l, e =>
      have h1 : InL n ts (comb ss cs) := Alike.inL A ⟨cs, by simpa using l, fun _ _ => rfl⟩
      refine InL.lin c h1.cons (InL.mem (s := t) (List.mem_cons_self ..)) fun j hj => ?_
      rw [e j hj, ← q.2 j hj]
      show c * s.row j + comb ss cs j = _
      omega
theorem Alike.symm {n : Nat} : ∀ {ss ts : List St}, Alike n ss ts → Alike n ts ss
  | _, _, .nil => .nil
  | _, _, .cons q A => .cons ⟨q.1.symm, fun j hj => (q.2 j hj).symm⟩ A.symm
theorem Alike.rest {n : Nat} {ss ts : List St} {v : Nat → Int} (A : Alike n ss ts) (E : Ech n ss) (F : Ech n ts) : ∀ j, j < n → restS ss v j = restS ts v j := by
  obtain ⟨h1, h2⟩ := rest_ok (v := v) E
  obtain ⟨h3, h4⟩ := rest_ok (v := v) F
  refine rest_uniq E h1 (A.rd (fun s hs => (E.one s hs).1) h3) ?_
  exact InL.lin (-1) (A.symm.inL h4) h2 fun j _ => by omega
theorem Alike.told {n : Nat} : ∀ {ss ts : List St}, Alike n ss ts → (ss.map fun s => dR n s.row) = ts.map fun s => dR n s.row
  | _, _, .nil => rfl
  | _, _, .cons q A => by
    rw [List.map_cons, List.map_cons, A.told, dR_ext q.2]
/-! ### taking told rows off, by a law's own words -/
end LK
end

section
set_option autoImplicit false
set_option maxRecDepth 100000
set_option maxHeartbeats 4000000
namespace LK
open PySem PySem.Spec PyProof.Rows L2 DL
open PySem.W (Frag)
-- 0 self, 1 stand
-- 0 self, 1 other
-- 0 rows, 1 wide
-- 0 one, 1 other, 2 wide
local macro_rules | `(tactic| walk_at "ev") => `(tactic| dsimp only [sSeq, sRet, sIf, sSet, sFor, sNext, sEx, sPar, sAsg, DL.sFld, eAn, eOo, eNo, eCall, eFn, eMeth, eNew, eFld, aCons, aNil, eVar, rd, eC, eOp, eUn, eEq, eOrd, tEq, tOrd, tVal, tNo, tAn, tOo, tEqL, eEqL, tNone, eTup, eLst, eSl, oNo, oSome, eRev, iR1, iR2, iSq, iZp, gNm, gTp, gsCons, gsNil, eLc_eq, inG, bind1, bind2, wipeG, List.set_cons_zero, List.set_cons_succ, List.getElem?_cons_zero, List.getElem?_cons_succ, List.append_nil])
end LK
end

section
set_option autoImplicit false
set_option maxRecDepth 100000
set_option maxHeartbeats 4000000
namespace LK
open PySem PySem.Spec PyProof.Rows L2 DL
open PySem.W (Frag)
/-! ### what laws over rows share, second part -/
theorem RAt.cons {S : Sto} {x : Addr} {n b B m : Nat} {G : Mx} {ss : List St} {i j : Nat} {g : Addr} (R : RAt S x n b B m G ss i j g) (p : Addr × Cel) : RAt (p :: S) x n b B m G ss (i + 1) (j + 1) g := ⟨R.lm, R.ob, R.gv, R.ri, R.dim, R.m100⟩
theorem RAt.other {S : Sto} {x : Addr} {n b B m : Nat} {G : Mx} {ss : List St} {i j : Nat} {g : Addr} (R : RAt S x n b B m G ss i j g) {k : Nat} {q : Addr × Cel} (h1 : i ≠ k) (h2 : j ≠ k) : RAt (S.set k q) x n b B m G ss i j g := ⟨R.lm, set_off R.ob h1, set_off R.gv h2, R.ri, R.dim, R.m100⟩
end LK
end

section
set_option autoImplicit false
set_option maxRecDepth 100000
set_option maxHeartbeats 4000000
namespace LK
/-! ### a measure by which told rows come to nothing and a rest does not -/
def dotN (n : Nat) (v w : Nat → Int) : Int := sumN n fun j => v j * w j
theorem dot_lin {n k : Nat} {v w : Nat → Int} {a c : Int} (hk : k < n) : dotN n v (fun j => a * w j + c * idG k j) = a * dotN n v w + c * v k := by
  unfold dotN
  rw [show (fun j => v j * (a * w j + c * idG k j)) = fun j => a * (v j * w j) + c * (idG k j * v j) by funext j; grind, sumN_add, sumN_mul, sumN_mul, sumN_pick n k v hk]
theorem Ech.same {n : Nat} {ss : List St} (E : Ech n ss) {s t : St} (hs : s ∈ ss) (ht : t ∈ ss) (h : s.head = t.head) : s = t := by
  obtain ⟨i, hi⟩ := List.mem_iff_getElem?.mp hs
  obtain ⟨j, hj⟩ := List.mem_iff_getElem?.mp ht
  obtain ⟨h1, e1⟩ := List.getElem?_eq_some_iff.mp hi
  obtain ⟨h2, e2⟩ := List.getElem?_eq_some_iff.mp hj
  have up := List.pairwise_iff_getElem.mp E.up
  rcases Nat.lt_trichotomy i j with z | z | z
  · have := up i j h1 h2 z
    rw [e1, e2] at this
    omega
  · subst z
    rw [hi] at hj
    exact Option.some.inj hj
  · have := up j i h2 h1 z
    rw [e1, e2] at this
    omega
structure MI (n : Nat) (ss : List St) (col i : Nat) (w : Nat → Int) (W : Int) : Prop where
  hi : ∀ j, col < j → w j = 0
  lo : ∀ j, j < i → w j = 0
  at_ : w col = W
  pos : 0 < W
  nul : ∀ s ∈ ss, i ≤ s.head → s.head < col → dotN n s.row w = 0
theorem MI.start {n : Nat} {ss : List St} {col : Nat} : MI n ss col col (idG col) 1 where
  hi := fun j h => by unfold idG; rw [if_neg (by omega)]
  lo := fun j h => by unfold idG; rw [if_neg (by omega)]
  at_ := by unfold idG; rw [if_pos rfl]
  pos := by decide
  nul := fun s _ h1 h2 => absurd h1 (by omega)
theorem MI.skip {n : Nat} {ss : List St} {col i : Nat} {w : Nat → Int} {W : Int} (I : MI n ss col (i + 1) w W) (h : ∀ s ∈ ss, s.head ≠ i) : MI n ss col i w W where
  hi := I.hi
  lo := fun j hj => I.lo j (by omega)
  at_ := I.at_
  pos := I.pos
  nul := fun s hs h1 h2 => I.nul s hs (by have := h s hs; omega) h2
/-- the numbers behind a turn -/
def mvN (n : Nat) (s : St) (w : Nat → Int) : Nat → Int := fun j => if j = s.head then -(dotN n s.row w / (Int.gcd (dotN n s.row w) (s.row s.head) : Int)) else s.row s.head / (Int.gcd (dotN n s.row w) (s.row s.head) : Int) * w j
theorem gcd_pos_r {a b : Int} (h : 0 < b) : 0 < (Int.gcd a b : Int) := by
  have : 0 < Int.gcd a b := Int.gcd_pos_of_ne_zero_right _ (by omega)
  omega
theorem MI.turn {n : Nat} {ss : List St} {col i : Nat} {w : Nat → Int} {W : Int} (E : Ech n ss) (I : MI n ss col (i + 1) w W) {s : St} (hs : s ∈ ss) (h : s.head = i) (hc : i < col) :
    MI n ss col i (mvN n s w) (s.row s.head / (Int.gcd (dotN n s.row w) (s.row s.head) : Int) * W) := by
  obtain ⟨s1, s2, s3⟩ := E.one s hs
  have gp := gcd_pos_r (a := dotN n s.row w) s3
  have ga : (Int.gcd (dotN n s.row w) (s.row s.head) : Int) ∣ s.row s.head := Int.gcd_dvd_right _ _
  have gb : (Int.gcd (dotN n s.row w) (s.row s.head) : Int) ∣ dotN n s.row w := Int.gcd_dvd_left _ _
  generalize hg : (Int.gcd (dotN n s.row w) (s.row s.head) : Int) = g at gp ga gb ⊢
  obtain ⟨a, ea⟩ := ga
  obtain ⟨b, eb⟩ := gb
  have qa : s.row s.head / g = a := by rw [ea, Int.mul_ediv_cancel_left _ (by omega)]
  have qb : dotN n s.row w / g = b := by rw [eb, Int.mul_ediv_cancel_left _ (by omega)]
  have ap : 0 < a := by
    rcases Int.lt_trichotomy a 0 with z | z | z
    · have := Int.mul_neg_of_pos_of_neg gp z
      omega
    · rw [z, Int.mul_zero] at ea
      omega
    · exact z
  have wk : w s.head = 0 := I.lo _ (by omega)
  have e : mvN n s w = fun j => a * w j + (-b) * idG s.head j := by
    funext j
    unfold mvN
    rw [hg, qa, qb]
    unfold idG
    by_cases e : j = s.head
    · subst e
      rw [if_pos rfl, if_pos rfl, wk]
      omega
    · rw [if_neg e, if_neg (by omega)]
      omega
  rw [qa]
  refine ⟨fun j hj => ?_, fun j hj => ?_, ?_, Int.mul_pos ap I.pos, fun t ht h1 h2 => ?_⟩
  · rw [e]
    show a * w j + -b * idG s.head j = 0
    rw [I.hi j hj]
    unfold idG
    rw [if_neg (by omega)]
    omega
  · rw [e]
    show a * w j + -b * idG s.head j = 0
    rw [I.lo j (by omega)]
    unfold idG
    rw [if_neg (by omega)]
    omega
  · rw [e]
    show a * w col + -b * idG s.head col = a * W
    rw [I.at_]
    unfold idG
    rw [if_neg (by omega)]
    omega
  · rw [e, dot_lin s1]
    by_cases et : t.head = i
    · have := E.same ht hs (by omega)
      subst this
      rw [eb, ea]
      grind
    · rw [I.nul t ht (by omega) h2]
      obtain ⟨_, t2, _⟩ := E.one t ht
      rw [t2 s.head (by omega)]
      omega
/-- a row with its head at the column, or farther right; a rest with its head at the column -/
theorem MI.dot_at {n : Nat} {ss : List St} {col i : Nat} {w : Nat → Int} {W : Int} (I : MI n ss col i w W) (hc : col < n) {v : Nat → Int} (hv : ∀ j, j < col → v j = 0) : dotN n v w = v col * W := by
  unfold dotN
  rw [sumN_one hc fun j hj hne => ?_, I.at_]
  rcases Nat.lt_or_ge j col with z | z
  · rw [hv j z, Int.zero_mul]
  · rw [I.hi j (by omega), Int.mul_zero]
/-- a measure by which the stands come to nothing and the rest does not -/
def IsMs (n : Nat) (ss : List St) (v : Nat → Int) (b : Int) (w : Nat → Int) : Prop := 2 ≤ b ∧ (∀ j, j < n → 0 ≤ w j ∧ w j < b) ∧ (∀ s ∈ ss, b ∣ dotN n s.row w) ∧ ¬ b ∣ dotN n v w
theorem dot_mod {n : Nat} {v w : Nat → Int} {b : Int} (hb : 0 < b) : b ∣ dotN n v (fun j => (w j).fmod b) ↔ b ∣ dotN n v w := by
  have e : dotN n v w = dotN n v (fun j => (w j).fmod b) + b * sumN n fun j => v j * (w j).fdiv b := by
    unfold dotN
    rw [← sumN_mul, ← sumN_add]
    refine sumN_ext fun j _ => ?_
    have := Int.mul_fdiv_add_fmod (w j) b
    have h2 : w j = (w j).fmod b + b * (w j).fdiv b := by omega
    have h3 := congrArg (v j * ·) h2
    exact h3.trans (by rw [Int.mul_add, Int.mul_left_comm])
  rw [e]
  exact (Int.dvd_add_left (Int.dvd_mul_right _ _)).symm
theorem MI.done {n : Nat} {ss : List St} {h : Nat} {w v : Nat → Int} {W b : Int} (E : Ech n ss) (I : MI n ss h 0 w W) (hh : h < n) (v0 : ∀ j, j < h → v j = 0) (vh : v h ≠ 0) (rd : ∀ s ∈ ss, 0 ≤ v s.head ∧ v s.head < s.row s.head)
    (hb : (∃ s ∈ ss, s.head = h ∧ b = s.row h * W) ∨ ((∀ s ∈ ss, s.head ≠ h) ∧ b = ((v h * W).natAbs : Int) + 1)) : IsMs n ss v b fun j => (w j).fmod b := by
  have W0 := I.pos
  have dv := I.dot_at hh v0
  have far : ∀ s ∈ ss, h < s.head → dotN n s.row w = 0 := fun s hs hl => by
    obtain ⟨_, s2, _⟩ := E.one s hs
    rw [I.dot_at hh fun j hj => s2 j (by omega), s2 h hl, Int.zero_mul]
  have fm : ∀ {b : Int}, 2 ≤ b → ∀ j, j < n → 0 ≤ (w j).fmod b ∧ (w j).fmod b < b := fun hb j _ => by
    rw [Int.fmod_eq_emod_of_nonneg _ (by omega)]
    exact ⟨Int.emod_nonneg _ (by omega), Int.emod_lt_of_pos _ (by omega)⟩
  rcases hb with ⟨s0, hs0, e0, rfl⟩ | ⟨hno, rfl⟩
  · obtain ⟨r1, r2⟩ := rd s0 hs0
    rw [e0] at r1 r2
    have t2 : 2 ≤ s0.row h := by omega
    have b2 : 2 ≤ s0.row h * W := by
      have : 2 * 1 ≤ s0.row h * W := Int.mul_le_mul t2 (by omega) (by decide) (by omega)
      omega
    refine ⟨b2, fm b2, fun s hs => (dot_mod (by omega)).mpr ?_, fun z => ?_⟩
    · rcases Nat.lt_trichotomy s.head h with z | z | z
      · rw [I.nul s hs (by omega) z]
        exact Int.dvd_zero _
      · have := E.same hs hs0 (by omega)
        subst this
        obtain ⟨_, s2, _⟩ := E.one s hs
        rw [I.dot_at hh fun j hj => s2 j (by omega)]
        exact Int.dvd_refl _
      · rw [far s hs z]
        exact Int.dvd_zero _
    · have z := (dot_mod (by omega)).mp z
      rw [dv] at z
      have z2 := Int.dvd_of_mul_dvd_mul_right (by omega) z
      have := Int.le_of_dvd (by omega) z2
      omega
  · have vw : v h * W ≠ 0 := Int.mul_ne_zero vh (by omega)
    refine ⟨by omega, fm (by omega), fun s hs => (dot_mod (by omega)).mpr ?_, fun z => ?_⟩
    · rcases Nat.lt_trichotomy s.head h with z | z | z
      · rw [I.nul s hs (by omega) z]
        exact Int.dvd_zero _
      · exact absurd z (hno s hs)
      · rw [far s hs z]
        exact Int.dvd_zero _
    · have z := (dot_mod (by omega)).mp z
      rw [dv] at z
      obtain ⟨k, ek⟩ := z
      have e1 : (v h * W).natAbs = (((v h * W).natAbs : Int) + 1).natAbs * k.natAbs := by
        rw [← Int.natAbs_mul, ← ek]
      have k0 : k.natAbs ≠ 0 := fun e => by
        rw [e, Nat.mul_zero] at e1
        omega
      have : (((v h * W).natAbs : Int) + 1).natAbs * 1 ≤ (((v h * W).natAbs : Int) + 1).natAbs * k.natAbs := Nat.mul_le_mul_left _ (by omega)
      omega
end LK
end

section
set_option autoImplicit false
set_option maxRecDepth 100000
set_option maxHeartbeats 4000000
namespace LK
/-! ### the measure that is told, by its steps -/
inductive MW (n : Nat) (ss : List St) (col : Nat) : Nat → (Nat → Int) → Int → Prop
  | start : MW n ss col col (idG col) 1
  | skip {i : Nat} {w : Nat → Int} {W : Int} : MW n ss col (i + 1) w W → (∀ s ∈ ss, s.head ≠ i) → MW n ss col i w W
  | turn {i : Nat} {w : Nat → Int} {W : Int} {s : St} : MW n ss col (i + 1) w W → s ∈ ss → s.head = i → MW n ss col i (mvN n s w) (s.row s.head / (Int.gcd (dotN n s.row w) (s.row s.head) : Int) * W)
theorem MW.le {n : Nat} {ss : List St} {col i : Nat} {w : Nat → Int} {W : Int} (h : MW n ss col i w W) : i ≤ col := by
  induction h with
  | start => exact Nat.le_refl _
  | skip _ _ ih => omega
  | turn _ _ _ ih => omega
theorem Alike.mem {n : Nat} : ∀ {ss ts : List St}, Alike n ss ts → ∀ s ∈ ss, ∃ t ∈ ts, s.head = t.head ∧ ∀ j, j < n → s.row j = t.row j
  | _, _, .nil, s, hs => by cases hs
  | _, _, .cons (s := a) (t := b) q A, s, hs => by
    rcases List.mem_cons.mp hs with e | e
    · exact ⟨b, List.mem_cons_self .., by rw [e]; exact q.1, fun j hj => by rw [e]; exact q.2 j hj⟩
    · obtain ⟨t, ht, h⟩ := A.mem s e
      exact ⟨t, List.mem_cons_of_mem _ ht, h⟩
end LK
end

section
set_option autoImplicit false
set_option maxRecDepth 100000
set_option maxHeartbeats 4000000
namespace LK
open PySem PySem.Spec PyProof.Rows L2 DL
open PySem.W (Frag)
-- 0 one, 1 other
-- 0 told, 1 rest, 2 heads, 3 column, 4 numbers, 5 bottom, 6 k, 7 row, 8 total, 9 most, 10 wider, 11 one, 12 other
-- 0 self, 1 handful, 2 rest, 3 parts, 4 stand, 5 many
-- 0 self, 1 found, 2 stand
local macro_rules | `(tactic| walk_at "ev") => `(tactic| dsimp only [sSeq, sRet, sIf, sSet, sFor, sNext, sEx, sPar, sAsg, DL.sFld, eAn, eOo, eNo, eCall, eFn, eMeth, eNew, eFld, aCons, aNil, eVar, rd, eC, eOp, eUn, eEq, eOrd, tEq, tOrd, tVal, tNo, tAn, tOo, tEqL, eEqL, tNone, eTup, eLst, eSl, oNo, oSome, eRev, iR1, iR2, iSq, iZp, sForX, iSqX, iEnX, iZpX, one_eq, eLcX_eq, gNm, gTp, gsCons, gsNil, eLc_eq, inG, List.set_cons_zero, List.set_cons_succ, List.getElem?_cons_zero, List.getElem?_cons_succ, List.append_nil])
/-! ### papers -/
theorem dvd_comb {n : Nat} {w : Nat → Int} {b : Int} : ∀ {ss : List St} {cs : List Int}, (∀ s ∈ ss, b ∣ dotN n s.row w) → b ∣ dotN n (comb ss cs) w
  | [], [], _ => by
    show b ∣ sumN n fun j => 0 * w j
    rw [sumN_zero fun k _ => by rw [Int.zero_mul]]
    exact Int.dvd_zero _
  | [], _ :: _, _ => by
    show b ∣ sumN n fun j => 0 * w j
    rw [sumN_zero fun k _ => by rw [Int.zero_mul]]
    exact Int.dvd_zero _
  | _ :: _, [], _ => by
    show b ∣ sumN n fun j => 0 * w j
    rw [sumN_zero fun k _ => by rw [Int.zero_mul]]
    exact Int.dvd_zero _
  | s :: ss, c :: cs, h => by
    have e : dotN n (comb (s :: ss) (c :: cs)) w = c * dotN n s.row w + dotN n (comb ss cs) w := by
      unfold dotN
      rw [← sumN_mul, ← sumN_add]
      refine sumN_ext fun j _ => ?_
      show (c * s.row j + comb ss cs j) * w j = _
      grind
    rw [e]
    exact Int.dvd_add (Int.dvd_trans (h s (List.mem_cons_self ..)) (Int.dvd_mul_left _ _)) (dvd_comb fun t ht => h t (List.mem_cons_of_mem _ ht))
theorem IsMs.row {n : Nat} {ss : List St} {v w u : Nat → Int} {b : Int} (M : IsMs n ss v b w) (h : InL n ss u) : b ∣ dotN n u w := by
  obtain ⟨cs, _, e⟩ := h
  have : dotN n u w = dotN n (comb ss cs) w := sumN_ext fun j hj => by rw [e j hj]
  rw [this]
  exact dvd_comb M.2.2.1
theorem IsMs.alike {n : Nat} {ss : List St} {v w u : Nat → Int} {b : Int} (M : IsMs n ss v b w) (h : InL n ss fun j => u j - v j) : IsMs n ss u b w := by
  refine ⟨M.1, M.2.1, M.2.2.1, fun z => M.2.2.2 ?_⟩
  have e : dotN n v w = dotN n u w - dotN n (fun j => u j - v j) w := by
    have : dotN n u w = dotN n (fun j => u j - v j) w + dotN n v w := by
      unfold dotN
      rw [← sumN_add]
      exact sumN_ext fun j _ => by grind
    omega
  rw [e]
  exact Int.dvd_sub z (M.row h)
end LK
end

section
set_option autoImplicit false
set_option maxRecDepth 100000
set_option maxHeartbeats 4000000
namespace DL
open PySem PySem.Spec PyProof.Rows L2
open PySem.W (Frag)
/-! ### x in a tuple, x being nested plain data -/
section
variable {c : CD} {e a b d : Expr} {pos : Pos} {ta tb : TEd} {G : Loc} {S : Sto}
end
end DL
end

section
set_option autoImplicit false
set_option maxRecDepth 100000
set_option maxHeartbeats 4000000
namespace LK
open PySem PySem.Spec PyProof.Rows L2 DL
open PySem.W (Frag)
/-! ### measures and papers by data -/
def msB (x : D) (w : Int) : Bool := match x with
  | .tup [.int b, r] => decide (2 ≤ b) && handB r w
  | _ => false
theorem ms_is {n : Nat} {b : Int} {w : Nat → Int} (h : 2 ≤ b) : msB (.tup [.int b, dR n w]) n = true := by
  show (decide (2 ≤ b) && handB (dR n w) n) = true
  rw [decide_eq_true h, handR]
  rfl
def getI (x : D) (i : Nat) : Int := match x with
  | .tup es => pickI (es.getD i .non)
  | _ => 0
theorem getI_dR {m i : Nat} {p : Nat → Int} (h : i < m) : getI (dR m p) i = p i := by
  show pickI (((List.range m).map fun j => D.int (p j)).getD i .non) = _
  rw [List.getD_eq_getElem?_getD, range_at (fun j => D.int (p j)) h]
  rfl
def firstN (n : Nat) (P : Nat → Bool) : Option Nat := (List.range n).find? P
theorem firstN_none {n : Nat} {P : Nat → Bool} : firstN n P = none ↔ ∀ j, j < n → P j = false := by
  unfold firstN
  rw [List.find?_range_eq_none]
  exact ⟨fun h j hj => by simpa using h j hj, fun h j hj => by simpa using h j hj⟩
/-- where shares fail -/
def inF (n m : Nat) (G : Mx) (v : Nat → Int) (x : D) : Option Int := match handB x m with
  | true => (firstN n fun j => decide ((sumN m fun i => getI x i * G i j) ≠ v j)).map fun (k : Nat) => (k : Int)
  | false => some (-1)
def msN (x : D) : Int := match x with
  | .tup (.int b :: _) => b
  | _ => 0
def msW (x : D) : Nat → Int := match x with
  | .tup [_, r] => getI r
  | _ => fun _ => 0
/-- where a measure fails -/
def outF (n m : Nat) (G : Mx) (v : Nat → Int) (x : D) : Option Int := match msB x n with
  | true => (match firstN m fun i => decide ((dotN n (msW x) (G i)).fmod (msN x) ≠ 0) with
    | some k => some (k : Int)
    | none => if (dotN n (msW x) v).fmod (msN x) = 0 then some (m : Int) else none)
  | false => some (-1)
def pF (n m : Nat) (G : Mx) (v : Nat → Int) (x : D) : Option Int := match x with
  | .tup [.str s, part] => if s = "in" then inF n m G v part else if s = "out" then outF n m G v part else some (-1)
  | _ => some (-1)
theorem dot_len {n : Nat} {w w' v v' : Nat → Int} (h : ∀ j, j < n → w j = w' j) (h' : ∀ j, j < n → v j = v' j) : dotN n w v = dotN n w' v' := sumN_ext fun j hj => by rw [h j hj, h' j hj]
/-! ### readings -/
-- 0 thing, 1 wide
-- 0 measure, 1 handful, 2 one, 3 other
-- 0 wide, 1 rows, 2 handful, 3 parts, 4 made, 5 column
-- 0 wide, 1 rows, 2 handful, 3 measure, 4 at, 5 row
-- 0 wide, 1 rows, 2 handful, 3 paper
local macro_rules | `(tactic| walk_at "ev") => `(tactic| dsimp only [sSeq, sRet, sIf, sSet, sFor, sNext, sEx, sPar, sAsg, DL.sFld, eAn, eOo, eNo, eCall, eFn, eMeth, eNew, eFld, aCons, aNil, eVar, rd, eC, eOp, eUn, eEq, eOrd, tEq, tOrd, tVal, tNo, tAn, tOo, tEqL, eEqL, tNone, eTup, eLst, eSl, oNo, oSome, eRev, iR1, iR2, iSq, iZp, sForX, iSqX, iEnX, iZpX, one_eq, eLcX_eq, gNm, gTp, gsCons, gsNil, eLc_eq, inG, List.set_cons_zero, List.set_cons_succ, List.getElem?_cons_zero, List.getElem?_cons_succ, List.append_nil])
end LK
end

section
set_option autoImplicit false
set_option maxRecDepth 100000
set_option maxHeartbeats 4000000
namespace LK
open PySem PySem.Spec PyProof.Rows L2 DL
open PySem.W (Frag)
/-! ### houses by data -/
def houseF (n m : Nat) (G : Mx) (ss : List St) : List (PySem.Str × D) := [("held_kinds", .lst (span 0 n)), ("held_rows", dRows n m G ss)]
def dH (n m : Nat) (G : Mx) (ss : List St) : D := .ins "House" (houseF n m G ss)
/-- x is a house, no longer written -/
structure HV (x : D) (n b B m : Nat) (G : Mx) (ss : List St) : Prop where
  e : x = dH n m G ss
  lm : ∀ k, k ≤ m → Lm n B k G
  ri : RI n b B m G ss
  dim : Dim n b B
  m100 : m ≤ 20
  n8 : n ≤ 8
theorem HV.rows {x : D} {n b B m : Nat} {G : Mx} {ss : List St} (H : HV x n b B m G ss) {S : Sto} : RVal S (dRows n m G ss) n b B m G ss := ⟨H.lm, H.ri, H.dim, H.m100, .inr rfl⟩
theorem HV.asI {x : D} {n b B m : Nat} {G : Mx} {ss : List St} (H : HV x n b B m G ss) {S : Sto} {P : List (PySem.Str × D) → Prop} (h : P (houseF n m G ss)) : DL.asI "House" x S P := by
  rw [H.e]
  exact ⟨rfl, h⟩
/-- two handfuls that are handed in, or not -/
def twoH (M n : Nat) (y z : D) (bad : Prop) (good : (Nat → Int) → (Nat → Int) → Prop) : Prop := (∃ (u v : Nat → Int) (c : Nat), y = dR n u ∧ z = dR n v ∧ c + 1 ≤ M ∧ (∀ k, k < n → (u k).natAbs < 2 ^ c) ∧ (∀ k, k < n → (v k).natAbs < 2 ^ c) ∧ good u v) ∨
  (okE y ∧ handB y n = false ∧ bad) ∨ ∃ u, y = dR n u ∧ okE z ∧ handB z n = false ∧ bad
def sp_House_alike : FSp := fun ds S Q EX => ∃ (x y z : D) (n b B m : Nat) (G : Mx) (ss : List St), ds = [x, y, z] ∧ HV x n b B m G ss ∧ twoH 89000000 n y z (EX .NoRow [("at", .int 0)] S) fun u v => ∀ k : Bool, (k = true ↔ InL n ss fun j => u j - v j) → Q (.bl k) S
-- 0 one, 1 other, 2 mine, 3 its
-- 0 one, 1 other, 2 wide
-- 0 self, 1 wide, 2 rules
-- 0 self
-- 0 self
-- 0 self
-- 0 self, 1 kind
-- 0 self, 1 handful
-- 0 self, 1 one, 2 other
-- 0 self, 1 one, 2 other
-- 0 house, 1 one, 2 other, 3 paper, 4 handful
local macro_rules | `(tactic| walk_at "ev") => `(tactic| dsimp only [sSeq, sRet, sIf, sSet, sFor, sNext, sEx, sPar, sAsg, DL.sFld, eAn, eOo, eNo, eCall, eFn, eMeth, eNew, eFld, aCons, aNil, eVar, rd, eC, eOp, eUn, eEq, eOrd, tEq, tOrd, tVal, tNo, tAn, tOo, tEqL, eEqL, tNone, eTup, eLst, eSl, oNo, oSome, eRev, iR1, iR2, iSq, iZp, sForX, iSqX, iEnX, iZpX, one_eq, eLcX_eq, gNm, gTp, gsCons, gsNil, eLc_eq, inG, List.set_cons_zero, List.set_cons_succ, List.getElem?_cons_zero, List.getElem?_cons_succ, List.append_nil])
end LK
end

section
set_option autoImplicit false
set_option maxRecDepth 100000
set_option maxHeartbeats 4000000
namespace LK
open PySem PySem.Spec PyProof.Rows L2 DL
open PySem.W (Frag)
/-! ### what laws over rows and houses share -/
theorem InL.sum {n m : Nat} {ss : List St} {G : Mx} (p : Nat → Int) (h : ∀ i, i < m → InL n ss (G i)) : ∀ k, k ≤ m → InL n ss fun j => sumN k fun i => p i * G i j
  | 0, _ => InL.zero fun _ _ => rfl
  | k + 1, hk => InL.lin (p k) (InL.sum p h k (by omega)) (h k (by omega)) fun j _ => rfl
theorem HV.alike {x : D} {n b B m : Nat} {G : Mx} {ss : List St} (H : HV x n b B m G ss) {u v : Nat → Int} {c : Nat} {S : Sto} {Q : QD} {EX : EXT} (hc : c ≤ 49999999) (hu : ∀ j, j < n → (u j).natAbs < 2 ^ c) (hv : ∀ j, j < n → (v j).natAbs < 2 ^ c) (q : ∀ k : Bool, (k = true ↔ InL n ss fun j => u j - v j) → Q (.bl k) S) : DL.asI "House" x S fun f => f.lookup ("alike" : PySem.Str) = none ∧ sp_House_alike (x :: ([dR n u, dR n v] ++ [])) S Q EX :=
  H.asI ⟨rfl, x, _, _, n, b, B, m, G, ss, rfl, H, .inl ⟨u, v, c, rfl, rfl, by omega, hu, hv, q⟩⟩
end LK
end

section
set_option autoImplicit false
set_option maxRecDepth 100000
set_option maxHeartbeats 4000000
namespace LK
open PySem PySem.Spec PyProof.Rows L2 DL
open PySem.W (Frag)
/-! ### papers walked -/
theorem pF_inE (n m : Nat) (G : Mx) (v : Nat → Int) (x : D) : pF n m G v (.tup [.str "in", x]) = inF n m G v x := by
  show (if (("in" : PySem.Str) = "in") then inF n m G v x else if (("in" : PySem.Str) = "out") then outF n m G v x else some (-1)) = _
  rw [if_pos rfl]
theorem pF_outE (n m : Nat) (G : Mx) (v : Nat → Int) (x : D) : pF n m G v (.tup [.str "out", x]) = outF n m G v x := by
  show (if (("out" : PySem.Str) = "in") then inF n m G v x else if (("out" : PySem.Str) = "out") then outF n m G v x else some (-1)) = _
  rw [if_neg (by decide), if_pos rfl]
theorem pF_in {n m : Nat} {G : Mx} {v p : Nat → Int} (h : Mk n m G v p) : pF n m G v (.tup [.str "in", dR m p]) = none := by
  rw [pF_inE]
  unfold inF
  rw [handR]
  have : (firstN n fun j => decide ((sumN m fun i => getI (dR m p) i * G i j) ≠ v j)) = none := firstN_none.mpr fun j hj => by
    rw [show (sumN m fun i => getI (dR m p) i * G i j) = sumN m fun i => p i * G i j from sumN_ext fun i hi => by rw [getI_dR hi]]
    simpa using (h j hj).symm
  dsimp only
  rw [this]
  rfl
theorem pF_out {n m : Nat} {G : Mx} {v w : Nat → Int} {b : Int} (h2 : 2 ≤ b) (hr : ∀ i, i < m → (dotN n w (G i)).fmod b = 0) (hv : (dotN n w v).fmod b ≠ 0) : pF n m G v (.tup [.str "out", .tup [.int b, dR n w]]) = none := by
  rw [pF_outE]
  unfold outF
  rw [ms_is h2]
  have eW : ∀ u : Nat → Int, dotN n (msW (.tup [.int b, dR n w])) u = dotN n w u := fun u => dot_len (fun j hj => getI_dR hj) fun j hj => rfl
  have eN : msN (.tup [.int b, dR n w]) = b := rfl
  simp only [eW, eN]
  rw [firstN_none.mpr fun j hj => by simpa using hr j hj]
  dsimp only
  rw [if_neg hv]
theorem lt_bd {x b : Int} {e : Nat} (h0 : 0 ≤ x) (h1 : x < b) (h2 : b.natAbs < 2 ^ e) : x.natAbs < 2 ^ e := by omega
def PpI (m : Nat) (p : Nat → Int) : Prop := ∀ i, i < m → (p i).natAbs < 2 ^ 90000000
def PpO (n : Nat) (b : Int) (w : Nat → Int) : Prop := 2 ≤ b ∧ b.natAbs < 2 ^ 50000000 ∧ ∀ j, j < n → 0 ≤ w j ∧ w j < b
theorem PpO.bd {n : Nat} {b : Int} {w : Nat → Int} (h : PpO n b w) : ∀ j, j < n → (w j).natAbs < 2 ^ 50000000 := fun j hj => by
  obtain ⟨h1, h2, h3⟩ := h
  exact lt_bd (h3 j hj).1 (h3 j hj).2 h2
theorem PpI.mul {n m : Nat} {G : Mx} {p : Nat → Int} (h : PpI m p) (bG : Bd 100 m n G) : ∀ i j, i < m → j < n → MulB (p i) (G i j) := fun i j hi hj => mulB_le (h i hi) (bG i j hi hj) (by decide)
theorem PpO.mul {n m : Nat} {G : Mx} {b : Int} {w : Nat → Int} (h : PpO n b w) (bG : Bd 100 m n G) : ∀ i j, i < m → j < n → MulB (w j) (G i j) := fun i j hi hj => mulB_le (h.bd j hj) (bG i j hi hj) (by decide)
/-- a good paper and its word -/
def GoodP (n m : Nat) (G : Mx) (v : Nat → Int) (t : D) (wd : PySem.Str) : Prop := (wd = "in" ∧ ∃ p, t = .tup [.str "in", dR m p] ∧ Mk n m G v p ∧ PpI m p) ∨
  (wd = "out" ∧ ∃ b w, t = .tup [.str "out", .tup [.int b, dR n w]] ∧ PpO n b w ∧ (∀ i, i < m → (dotN n w (G i)).fmod b = 0) ∧ (dotN n w v).fmod b ≠ 0)
theorem GoodP.none {n m : Nat} {G : Mx} {v : Nat → Int} {t : D} {wd : PySem.Str} (h : GoodP n m G v t wd) : pF n m G v t = none := by
  rcases h with ⟨_, p, rfl, h, _⟩ | ⟨_, b, w, rfl, h, hr, hv⟩
  · exact pF_in h
  · exact pF_out h.1 hr hv
end LK
end

section
set_option autoImplicit false
set_option maxRecDepth 100000
set_option maxHeartbeats 4000000
namespace LK
/-! ### what rows span, by themselves -/
def spL (m : Nat) (G : Mx) : List St := (List.range m).map fun i => rS (G i)
theorem spL_mem {n m i : Nat} {G : Mx} (h : i < m) : InL n (spL m G) (G i) := InL.mem (s := rS (G i)) (List.mem_map.mpr ⟨i, List.mem_range.mpr h, rfl⟩)
theorem spL_sub {n m : Nat} {G : Mx} {ts : List St} {v : Nat → Int} (h : ∀ i, i < m → InL n ts (G i)) (hv : InL n (spL m G) v) : InL n ts v := InL.sub (fun s hs => by
  obtain ⟨i, hi, rfl⟩ := List.mem_map.mp hs
  exact h i (List.mem_range.mp hi)) hv
/-- two lists of rows span the same -/
def SpE (n m : Nat) (G : Mx) (m' : Nat) (G' : Mx) : Prop := (∀ i, i < m → InL n (spL m' G') (G i)) ∧ ∀ i, i < m' → InL n (spL m G) (G' i)
theorem SpE.refl (n m : Nat) (G : Mx) : SpE n m G m G := ⟨fun i hi => spL_mem hi, fun i hi => spL_mem hi⟩
theorem SpE.trans {n m1 m2 m3 : Nat} {G1 G2 G3 : Mx} (a : SpE n m1 G1 m2 G2) (b : SpE n m2 G2 m3 G3) : SpE n m1 G1 m3 G3 := ⟨fun i hi => spL_sub b.1 (a.1 i hi), fun i hi => spL_sub a.2 (b.2 i hi)⟩
theorem SpE.symm {n m m' : Nat} {G G' : Mx} (a : SpE n m G m' G') : SpE n m' G' m G := ⟨a.2, a.1⟩
theorem RI.sp {n b B m : Nat} {G : Mx} {ss : List St} (R : RI n b B m G ss) (v : Nat → Int) : InL n ss v ↔ InL n (spL m G) v := by
  constructor
  · intro h
    refine InL.sub (fun s hs => ?_) h
    have key : ∀ k, k ≤ m → InL n (spL m G) fun j => sumN k fun i => s.parts i * G i j := by
      intro k
      induction k with
      | zero => exact fun _ => InL.zero fun _ _ => rfl
      | succ k ih => exact fun hk => InL.lin (s.parts k) (ih (by omega)) (spL_mem (by omega)) fun j _ => rfl
    exact (key m (Nat.le_refl _)).ext fun j hj => R.made s hs j hj
  · exact spL_sub R.inL
theorem SpE.alike {n b B m b' B' m' : Nat} {G G' : Mx} {ss ts : List St} (R : RI n b B m G ss) (R' : RI n b' B' m' G' ts) (h : SpE n m G m' G') : Alike n ss ts :=
  R.only R' (fun i hi => (R'.sp _).mpr (h.1 i hi)) fun i hi => (R.sp _).mpr (h.2 i hi)
/-- one row told otherwise -/
theorem SpE.row {n m k : Nat} {G : Mx} {v : Nat → Int} (hk : k < m) (h1 : InL n (spL m G) v) (h2 : InL n (spL m (upR G k v)) (G k)) : SpE n m G m (upR G k v) := by
  refine ⟨fun i hi => ?_, fun i hi => ?_⟩
  · by_cases e : i = k
    · rw [e]; exact h2
    · exact (spL_mem (n := n) (G := upR G k v) hi).ext fun j _ => (upR_ne e v j).symm
  · by_cases e : i = k
    · rw [e]; exact h1.ext fun j _ => upR_same _ _ _ _
    · exact (spL_mem (n := n) (G := G) hi).ext fun j _ => upR_ne e v j
/-- a row put in -/
def insG (G : Mx) (p : Nat) (v : Nat → Int) : Mx := fun i => if i < p then G i else if i = p then v else G (i - 1)
theorem SpE.ins {n m p : Nat} {G : Mx} {v : Nat → Int} (hp : p ≤ m) (h : InL n (spL m G) v) : SpE n m G (m + 1) (insG G p v) := by
  refine ⟨fun i hi => ?_, fun i hi => ?_⟩
  · by_cases e : i < p
    · exact (spL_mem (n := n) (G := insG G p v) (show i < m + 1 by omega)).ext fun j _ => by unfold insG; rw [if_pos e]
    · exact (spL_mem (n := n) (G := insG G p v) (show i + 1 < m + 1 by omega)).ext fun j _ => by unfold insG; rw [if_neg (by omega), if_neg (by omega)]; rfl
  · unfold insG
    split
    · exact spL_mem (by omega)
    · split
      · exact h
      · exact spL_mem (by omega)
/-! ### told rows handed in again -/
theorem Tdy.take {n : Nat} {ss : List St} (T : Tdy n ss) (k : Nat) : Tdy n (ss.take k) :=
  ⟨⟨fun s hs => T.ech.one s (List.mem_of_mem_take hs), T.ech.up.sublist (List.take_sublist k ss)⟩, T.red.sublist (List.take_sublist k ss)⟩
/-! ### a lattice of small index -/
end LK
namespace LK
/-! ### a told row so many times -/
section
variable {n B a : Nat} {c : Nat} {ss : List St}
end
end LK
end

section
set_option autoImplicit false
set_option maxRecDepth 100000
set_option maxHeartbeats 4000000
namespace LK
open PySem PySem.Spec PyProof.Rows L2 DL
open PySem.W (Frag)
/-! ### what later laws share -/
theorem mul_int {i j : Int} {S : Sto} {Q : QD} (h : MulB i j) (q : Q (.int (i * j)) S) : dMul (.int i) (.int j) S Q := ⟨h, q⟩
theorem neg_int {i : Int} {S : Sto} {Q : QD} (q : Q (.int (-i)) S) : dNeg (.int i) S Q := q
theorem ixN_nat {n i : Nat} (h : i < n) : ixN n (i : Int) = some i := by
  unfold ixN
  rw [if_pos (by omega), if_pos (by omega)]
  simp
theorem SpE.snoc {n m m' : Nat} {G G' : Mx} {v : Nat → Int} (h : SpE n m G m' G') (hv : InL n (spL m G) v) : SpE n m G (m' + 1) (snocG m' G' v) := by
  refine ⟨fun i hi => ?_, fun i hi => ?_⟩
  · refine spL_sub (fun r hr => ?_) (h.1 i hi)
    have := spL_mem (n := n) (m := m' + 1) (i := r) (G := snocG m' G' v) (by omega)
    rwa [snocG_lt hr] at this
  · by_cases e : i < m'
    · rw [snocG_lt e]
      exact h.2 i e
    · obtain rfl : i = m' := by omega
      rw [snocG_at]
      exact hv
end LK
end

section
set_option autoImplicit false
set_option maxRecDepth 100000
set_option maxHeartbeats 4000000
namespace LK
open PySem PySem.Spec PyProof.Rows L2 DL
open PySem.W (Frag)
/-! ### rows and numbers drawn -/
theorem ix_mem {ds : List D} {i : Int} {S : Sto} {Q : QD} (h0 : 0 ≤ i) (h1 : i < ds.length) (q : ∀ d ∈ ds, Q d S) : dIx (.lst ds) (.int i) S Q := by
  obtain ⟨a, rfl⟩ : ∃ a : Nat, i = a := ⟨i.toNat, by omega⟩
  have ha : a < ds.length := by omega
  exact (LV.lst _).ix (atI_nat (List.getElem?_eq_getElem ha)) (q _ (List.getElem_mem ha))
theorem cut_le (ds : List D) (lo hi : Option Int) : (DL.cutD ds lo hi).length ≤ ds.length := by
  unfold DL.cutD
  rw [List.length_take, List.length_drop]
  omega
end LK
end

section
set_option autoImplicit false
set_option maxRecDepth 100000
set_option maxHeartbeats 4000000
namespace DL
open PySem PySem.Spec PyProof.Rows L2
open PySem.W (Frag)
/-! ### a field of a refusal that is made on the spot: C(e, ..).f -/
section
variable {c : CD} {e : Expr} {es : List Expr} {pos p p2 pos2 : Pos} {x : Str} {tas : TAd} {ls : List (Option NameKind)} {gs : List Str}
end
end DL
end

section
set_option autoImplicit false
set_option maxRecDepth 100000
set_option maxHeartbeats 4000000
namespace DL
open PySem PySem.Spec PyProof.Rows L2
open PySem.W (Frag)
/-! ### max(xs), xs a list of numbers -/
section
variable {c : CD}
end
end DL
end

section
set_option autoImplicit false
set_option maxRecDepth 100000
set_option maxHeartbeats 4000000
namespace DL
open PySem PySem.Spec PyProof.Rows L2
open PySem.W (Frag)
/-! ### == of tuples with cells in them -/
/-- a datum, its cell read -/
def Fl1 (S : Sto) (d d' : D) : Prop := d' = d ∨ ∃ (a : Addr) (k : Nat) (xs : List D), d = .ref a ∧ S[k]? = some (a, Cel.lst xs) ∧ d' = .lst xs
inductive FlL (S : Sto) : List D → List D → Prop
  | nil : FlL S [] []
  | cons {d d' : D} {ds ds' : List D} : Fl1 S d d' → FlL S ds ds' → FlL S (d :: ds) (d' :: ds')
def Fl (S : Sto) (x x' : D) : Prop := Fl1 S x x' ∨ (∃ ds ds', x = .tup ds ∧ x' = .tup ds' ∧ FlL S ds ds') ∨ ∃ ds ds', x = .lst ds ∧ x' = .lst ds' ∧ FlL S ds ds'
theorem Fl1.self (S : Sto) (d : D) : Fl1 S d d := .inl rfl
theorem Fl1.cell {S : Sto} {a : Addr} {k : Nat} {xs : List D} (h : S[k]? = some (a, Cel.lst xs)) : Fl1 S (.ref a) (.lst xs) := .inr ⟨a, k, xs, rfl, h, rfl⟩
theorem FlL.self (S : Sto) : ∀ ds, FlL S ds ds
  | [] => .nil
  | d :: ds => .cons (.self S d) (FlL.self S ds)
theorem Fl.self (S : Sto) (x : D) : Fl S x x := .inl (.self S x)
section
variable {c : CD} {G : Loc} {S : Sto} {e a b : Expr} {pos : Pos} {ta tb : TEd}
def dEqN (neg : Bool) (x y : D) (S : Sto) (Q : Bool → Sto → Prop) : Prop := ∃ x' y' p q, Fl S x x' ∧ Fl S y y' ∧ pd x' = some p ∧ pd y' = some q ∧ SeqAt.shaped p = true ∧ SeqAt.shaped q = true ∧ Q (if neg then !PyData.eqv p q else PyData.eqv p q) S
def eEqN (neg : Bool) (ta tb : TEd) : TEd := fun G S Q => ta G S fun x S1 => tb G S1 fun y S2 => dEqN neg x y S2 fun k S3 => Q (.bl k) S3
def tEqN (neg : Bool) (ta tb : TEd) : TTd := fun G S Q => ta G S fun x S1 => tb G S1 fun y S2 => dEqN neg x y S2 Q
end
end DL
end

section
set_option autoImplicit false
set_option maxRecDepth 100000
set_option maxHeartbeats 4000000
namespace LK
open PySem PySem.Spec PyProof.Rows L2 DL TL
/-! ### texts: what the program's functions promise -/
/-- names handed in: a list or a tuple of texts -/
def NmV (x : D) (ns : List PySem.Str) : Prop := x = .lst (ns.map D.str) ∨ x = .tup (ns.map D.str)
/-- .. or None -/
def NsV (x : D) : Option (List PySem.Str) → Prop
  | none => x = .non
  | some l => NmV x l
def tmD (t : Int × PySem.Str) : D := .tup [.int t.1, .str t.2]
def sp_is_name : FSp := fun ds S Q _ => ∃ s : PySem.Str, ds = [.str s] ∧ s.length ≤ 1000000 ∧ Q (.bl (nameB s)) S
def numD : Option Int → D
  | some n => .int n
  | none => .non
def sp_number_in : FSp := fun ds S Q _ => ∃ s : PySem.Str, ds = [.str s] ∧ s.length ≤ 1000000 ∧ Q (numD (numIn s)) S
def sp_is_kind : FSp := fun ds S Q _ => ∃ (s : PySem.Str) (x : D) (ns : Option (List PySem.Str)), ds = [.str s, x] ∧ s.length ≤ 1000000 ∧ NsV x ns ∧ Q (.bl (kindB ns s)) S
/-- how the reading of terms ends -/
def TmsEnd (r : Except Nat Tms) (told : Tms → Prop) (bad : Nat → Prop) : Prop := match r with
  | .ok ts => told ts
  | .error k => bad k
def sp_terms_in : FSp := fun ds S Q EX => ∃ (x : D) (ws : List PySem.Str) (ns : Option (List PySem.Str)), ds = [.lst (ws.map D.str), x] ∧ ws.length ≤ 1000000 ∧ (∀ s ∈ ws, PyData.strOk s = true ∧ s.length ≤ 1000000) ∧ NsV x ns ∧
  TmsEnd (termsW ns ws) (fun ts => Q (.lst (ts.map tmD)) S) fun k => EX .NoText [("at", .int k)] S
def sp_sum_of_terms : FSp := fun ds S Q _ => ∃ (x : D) (ts : Tms) (ns : List PySem.Str), ds = [.lst (ts.map tmD), x] ∧ NmV x ns ∧ ns.length ≤ 1000000 ∧ (∀ s ∈ ns, PyData.strOk s = true) ∧ (∀ t ∈ ts, t.2 ∈ ns) ∧ Q (.tup ((sumT ns ts).map D.int)) S
def sp_read_handful : FSp := fun ds S Q EX => ∃ (t x : D), ds = [t, x] ∧ ((∃ (z : PySem.Str) (ns : List PySem.Str), t = .str z ∧ z.length ≤ 1000000 ∧ NmV x ns ∧ ns.length ≤ 1000000 ∧ (∀ s ∈ ns, PyData.strOk s = true) ∧
    (Txt.split z spS).length ≤ 1000000 ∧ (∀ s ∈ Txt.split z spS, PyData.strOk s = true ∧ s.length ≤ 1000000) ∧
    TmsEnd (termsW (some ns) (Txt.split z spS)) (fun ts => Q (.tup ((sumT ns ts).map D.int)) S) fun k => EX .NoText [("at", .int k)] S) ∨
  (Pln t ∧ (∀ z, t ≠ .str z) ∧ EX .NoText [("at", .int 0)] S))
theorem ln_is_name : ∀ ds S Q EX, sp_is_name ds S Q EX → ds.length = 1 := fun ds S Q EX ⟨_, e, _⟩ => by rw [e]; rfl
theorem ln_number_in : ∀ ds S Q EX, sp_number_in ds S Q EX → ds.length = 1 := fun ds S Q EX ⟨_, e, _⟩ => by rw [e]; rfl
theorem ln_is_kind : ∀ ds S Q EX, sp_is_kind ds S Q EX → ds.length = 2 := fun ds S Q EX ⟨_, _, _, e, _⟩ => by rw [e]; rfl
theorem ln_terms_in : ∀ ds S Q EX, sp_terms_in ds S Q EX → ds.length = 2 := fun ds S Q EX ⟨_, _, _, e, _⟩ => by rw [e]; rfl
theorem ln_sum_of_terms : ∀ ds S Q EX, sp_sum_of_terms ds S Q EX → ds.length = 2 := fun ds S Q EX ⟨_, _, _, e, _⟩ => by rw [e]; rfl
theorem ln_read_handful : ∀ ds S Q EX, sp_read_handful ds S Q EX → ds.length = 2 := fun ds S Q EX ⟨_, _, e, _⟩ => by rw [e]; rfl
-- 0 thing, 1 sign
def t_is_name (EX : EXT) : TSd := (sSeq (sIf (tOo (tNo (tVal (eCall dIsi (aCons (eVar 0) (aCons (eC (.ty "str")) aNil))))) (tNo (tChn .LtE .LtE (eC (.int 1)) (eCall dLen (aCons (eVar 0) aNil)) (eC (.int 8))))) (sSeq (sRet (eC (.bl false)))
    sNext) sNext)
    (sSeq (sRet (eCall dAll (aCons (eLc (iSq (eVar 0)) [1] (bind1 1) tYs (eInS false (eVar 1) (eC (.str ("abcdefghijklmnopqrstuvwxyz" : PySem.Str))))) aNil)))
    sNext))
-- 0 word, 1 sign
def t_number_in (EX : EXT) : TSd := (sSeq (sIf (tOo (tNo (tChn .LtE .LtE (eC (.int 1)) (eCall dLen (aCons (eVar 0) aNil)) (eC (.int 40)))) (tNo (tVal (eCall dAll (aCons (eLc (iSq (eVar 0)) [1] (bind1 1) tYs (eInS false (eVar 1) (eC (.str ("0123456789" : PySem.Str))))) aNil))))) (sSeq (sRet (eC .non))
    sNext) sNext)
    (sSeq (sIf (tEq false (eOp dIx (eVar 0) (eC (.int 0))) (eC (.str ("0" : PySem.Str)))) (sSeq (sRet (eC .non))
    sNext) sNext)
    (sSeq (sRet (eCall dIntS (aCons (eVar 0) aNil)))
    sNext)))
-- 0 word, 1 names
def t_is_kind (EX : EXT) : TSd := (sSeq (sRet (eAn (eFn sp_is_name (kX EX) [] (aCons (eVar 0) aNil)) (eOo (eNone false (eVar 1)) (eIn false (eVar 0) (eVar 1)))))
    sNext)
-- 0 words, 1 names, 2 found, 3 at, 4 sign, 5 many
def t_terms_in (EX : EXT) : TSd := (sSeq (sSet 2 (eLst aNil))
    (sSeq (sIf (tEq false (eVar 0) (eLst (aCons (eC (.str ("0" : PySem.Str))) aNil))) (sFz 2 (sSeq (sRet (eVar 2))
    sNext)) sNext)
    (sSeq (sSet 3 (eC (.int 0)))
    (sSeq (sWhile (tOo (tEq false (eVar 3) (eC (.int 0))) (tOrd .Lt (eVar 3) (eCall dLen (aCons (eVar 0) aNil)))) (sSeq (sSet 4 (eC (.int 1)))
    (sSeq (sIf (tAn (tOrd .Gt (eVar 3) (eC (.int 0))) (tIn true (eOp dIx (eVar 0) (eVar 3)) (eTup (aCons (eC (.str ("+" : PySem.Str))) (aCons (eC (.str ("-" : PySem.Str))) aNil))))) (sDr (sSeq (sRaise .NoText ["at"] (kX EX) (aCons (eVar 3) aNil))
    sNext)) sNext)
    (sSeq (sIf (tOo (tOrd .Gt (eVar 3) (eC (.int 0))) (tEq false (eSl (eVar 0) oNo (oSome (eC (.int 1)))) (eLst (aCons (eC (.str ("-" : PySem.Str))) aNil)))) (sSeq (sSet 4 (eOp dSub (eC (.int 1)) (eOp dMul (eC (.int 2)) (eCall dInt (aCons (eEq false (eOp dIx (eVar 0) (eVar 3)) (eC (.str ("-" : PySem.Str)))) aNil)))))
    (sSeq (sSet 3 (eOp dAdd (eVar 3) (eC (.int 1))))
    sNext)) sNext)
    (sSeq (sSet 5 (eC (.int 1)))
    (sSeq (sIf (tAn (tOrd .Lt (eVar 3) (eCall dLen (aCons (eVar 0) aNil))) (tNone true (eFn sp_number_in (kX EX) [] (aCons (eOp dIx (eVar 0) (eVar 3)) aNil)))) (sSeq (sSet 5 (eFn sp_number_in (kX EX) [] (aCons (eOp dIx (eVar 0) (eVar 3)) aNil)))
    (sSeq (sSet 3 (eOp dAdd (eVar 3) (eC (.int 1))))
    sNext)) sNext)
    (sSeq (sIf (tOo (tOrd .GtE (eVar 3) (eCall dLen (aCons (eVar 0) aNil))) (tNo (tVal (eFn sp_is_kind (kX EX) [] (aCons (eOp dIx (eVar 0) (eVar 3)) (aCons (eVar 1) aNil)))))) (sDr (sSeq (sRaise .NoText ["at"] (kX EX) (aCons (eVar 3) aNil))
    sNext)) sNext)
    (sSeq (sEx (eMc .list mApp (eVar 2) (aCons (eTup (aCons (eOp dMul (eVar 4) (eVar 5)) (aCons (eOp dIx (eVar 0) (eVar 3)) aNil))) aNil)))
    (sSeq (sSet 3 (eOp dAdd (eVar 3) (eC (.int 1))))
    sNext)))))))))
    (sFz 2 (sSeq (sRet (eVar 2))
    sNext))))))
-- 0 terms, 1 names, 2 found, 3 many, 4 name, 5 at
def t_sum_of_terms (EX : EXT) : TSd := (sSeq (sSet 2 (eOp dMul (eLst (aCons (eC (.int 0)) aNil)) (eCall dLen (aCons (eVar 1) aNil))))
    (sSeq (sFor (iSq (eVar 0)) (gTp 2 (gsCons (gNm 3) (gsCons (gNm 4) gsNil))) (sSeq (sSet 5 (eMc .list mIdx (eCall dList (aCons (eVar 1) aNil)) (aCons (eVar 4) aNil)))
    (sSeq (sAsg (eOp dAdd (eOp dIx (eVar 2) (eVar 5)) (eVar 3)) (gIx (eVar 2) (eVar 5)))
    sNext)))
    (sSeq (sRet (eCall dTuple (aCons (eVar 2) aNil)))
    sNext)))
-- 0 text, 1 names
def t_read_handful (EX : EXT) : TSd := (sSeq (sIf (tNo (tVal (eCall dIsi (aCons (eVar 0) (aCons (eC (.ty "str")) aNil))))) (sSeq (sRaise .NoText ["at"] (kX EX) (aCons (eC (.int 0)) aNil))
    sNext) sNext)
    (sSeq (sRet (eFn sp_sum_of_terms (kX EX) [] (aCons (eFn sp_terms_in (kX EX) [] (aCons (eMc .str mSplit (eVar 0) (aCons (eC (.str (" " : PySem.Str))) aNil)) (aCons (eVar 1) aNil))) (aCons (eVar 1) aNil))))
    sNext))
-- 0 handful, 1 names, 2 words, 3 many, 4 name
local macro_rules | `(tactic| walk_at "ev") => `(tactic| dsimp only [sSeq, sRet, sIf, sSet, sFor, sNext, sEx, sPar, sAsg, DL.sFld, eAn, eOo, eNo, eCall, eFn, eMeth, eNew, eFld, aCons, aNil, eVar, rd, eC, eOp, eUn, eEq, eOrd, tEq, tOrd, tVal, tNo, tAn, tOo, tEqL, eEqL, tEqN, eEqN, tNone, eNone, tChn, eTup, eLst, eSl, eSlS, eInS, tInS, oNo, oSome, eRev, iR1, iR2, iSq, iZp, sForX, iSqX, iEnX, iZpX, one_eq, eLcX_eq, gNm, gTp, gsCons, gsNil, eLc_eq, lenIs, eIn, tIn, tEqO, eEqO, eIsC, sRaise, raiseF, eIsB, tIsB, eMc, eClr, eUpr, inG, List.set_cons_zero, List.set_cons_succ, List.getElem?_cons_zero, List.getElem?_cons_succ, List.append_nil])
theorem all_map {α : Type} (xs : List α) (f : α → Bool) : (xs.map f).all id = xs.all f := by rw [List.all_map]; rfl
/-- the signs of a text looked at one by one -/
theorem signs_all {G : DL.Loc} {S : Sto} {Q : QD} {z y : PySem.Str} {i : Nat} {te : TEd} (hz : z.length ≤ 1000000) (hi : i < G.length) (hG : wipeG G [i] = G) (he : ∀ k S1 (P : QD), P (.bl (decide (k ∈ tl y))) S1 → te (G.set i (some (.str ⟨#[k]⟩))) S1 P)
    (q : Q (.bl ((tl z).all fun k => decide (k ∈ tl y))) S) : LcIn G [i] (bind1 i) tYs te (signs z) S fun x S1 => dAll [x] S1 Q := by
  have hl : (tl z).length ≤ 1000000 := by rw [← len_tl]; exact hz
  refine lc_M (xs := tl z) (src := fun k => D.str ⟨#[k]⟩) (fun k => D.bl (decide (k ∈ tl y))) hl (fun k hk p acc K hK => ?_) bind1_mono (Or.inl ?_)
  · rw [hG]
    exact inG_of hi (he k _ _ hK)
  · refine ⟨(tl z).map fun k => decide (k ∈ tl y), by rw [List.map_map]; rfl, ?_⟩
    rw [all_map]
    exact q
theorem ge_len {z : PySem.Str} : cmpI .LtE 1 (z.length : Int) = decide (1 ≤ z.length) := by
  show decide ((1 : Int) ≤ (z.length : Int)) = _
  congr 1
  exact propext (by omega)
theorem le_len {z : PySem.Str} (c : Nat) : cmpI .LtE (z.length : Int) (c : Int) = decide (z.length ≤ c) := by
  show decide ((z.length : Int) ≤ (c : Int)) = _
  congr 1
  exact propext (by omega)
theorem pure_is_name {ds : List D} {S : Sto} {Q : QD} {EX : EXT} (h : sp_is_name ds S Q EX) : t_is_name EX (endS Q) (startG ["thing", "sign"] ds) S := by
  obtain ⟨z, rfl, hz, q⟩ := h
  show t_is_name EX (endS Q) [some (.str z), none] S
  unfold t_is_name
  walk_at "ev"
  refine isi_str ⟨_, rfl⟩ ?_
  have no : ¬ (1 ≤ z.length ∧ z.length ≤ 8) → Q (.bl false) S := fun h => by
    have : nameB z = false := by
      cases e : nameB z with
      | false => rfl
      | true =>
        have := nameB_iff.mp e
        exact absurd ⟨this.1, this.2.1⟩ h
    rw [this] at q
    exact q
  refine ⟨fun h => (by cases h), fun _ => ⟨by show z.length ≤ 16777216; omega, fun h => ?_, fun h => ?_⟩⟩
  · have h' : cmpI .LtE 1 (z.length : Int) = false := h
    rw [ge_len] at h'
    have h2 := of_decide_eq_false h'
    exact ⟨fun _ => no fun z => h2 z.1, fun z => by cases z⟩
  · have h' : cmpI .LtE 1 (z.length : Int) = true := h
    rw [ge_len] at h'
    have h1 := of_decide_eq_true h'
    have e2 := le_len (z := z) 8
    show ((!cmpI .LtE (z.length : Int) 8) = true → _) ∧ ((!cmpI .LtE (z.length : Int) 8) = false → _)
    rw [show cmpI .LtE (z.length : Int) 8 = decide (z.length ≤ 8) from e2]
    by_cases h8 : z.length ≤ 8
    · rw [decide_eq_true h8]
      refine ⟨fun z => (by cases z), fun _ => ?_⟩
      refine signs_all (y := abcS) hz (Nat.lt_succ_self 1) rfl (fun k S1 P p => ⟨k, rfl, p⟩) ?_
      have : nameB z = (tl z).all fun k => decide (k ∈ tl abcS) := by
        unfold nameB
        rw [decide_eq_true h1, decide_eq_true h8]
        rfl
      rw [← this]
      exact q
    · rw [decide_eq_false h8]
      exact ⟨fun _ => no fun z => h8 z.2, fun z => by cases z⟩
theorem pure_number_in {ds : List D} {S : Sto} {Q : QD} {EX : EXT} (h : sp_number_in ds S Q EX) : t_number_in EX (endS Q) (startG ["word", "sign"] ds) S := by
  obtain ⟨z, rfl, hz, q⟩ := h
  show t_number_in EX (endS Q) [some (.str z), none] S
  have no : ¬ (((decide (1 ≤ z.length) && decide (z.length ≤ 40)) && (tl z).all fun k => decide (k ∈ tl figS)) = true ∧ ¬ (tl z).head? = some 48) → Q .non S := fun h => by
    have e : numIn z = none := if_neg h
    rw [e] at q
    exact q
  have rest : ((decide (1 ≤ z.length) && decide (z.length ≤ 40)) && (tl z).all fun k => decide (k ∈ tl figS)) = true → ((sSeq (sIf (tEq false (eOp dIx (eVar 0) (eC (.int 0))) (eC (.str ("0" : PySem.Str)))) (sSeq (sRet (eC .non))
    sNext) sNext)
    (sSeq (sRet (eCall dIntS (aCons (eVar 0) aNil)))
    sNext))) (endS Q) [some (.str z), none] S := fun h1 => by
    obtain ⟨k, r, e⟩ : ∃ k r, tl z = k :: r := by
      rw [Bool.and_eq_true, Bool.and_eq_true, decide_eq_true_eq, len_tl] at h1
      cases e : tl z with
      | nil =>
        rw [e] at h1
        exact absurd h1.1.1 (by decide)
      | cons k r => exact ⟨k, r, rfl⟩
    walk_at "ev"
    refine ⟨k, by show z.length ≤ 16777216; omega, ?_, ?_⟩
    · show atI (tl z) ((0 : Nat) : Int) = some k
      exact atI_nat (by rw [e]; rfl)
    · have eq : (decide ((⟨#[k]⟩ : PySem.Str) = zeroS)) = decide ((tl z).head? = some 48) := by
        congr 1
        rw [e]
        refine propext ⟨fun h => ?_, fun h => ?_⟩
        · have : tl (⟨#[k]⟩ : PySem.Str) = tl zeroS := by rw [h]
          rw [tl_zero] at this
          have : [k] = [48] := this
          rw [List.head?_cons]
          exact congrArg some (List.head_eq_of_cons_eq this)
        · have : k = 48 := Option.some.inj h
          subst this
          exact ext_tl (by rw [tl_zero])
      show ((decide ((⟨#[k]⟩ : PySem.Str) = zeroS)) = true → _) ∧ ((decide ((⟨#[k]⟩ : PySem.Str) = zeroS)) = false → _)
      rw [eq]
      refine ⟨fun h2 => no fun z => z.2 (of_decide_eq_true h2), fun h2 => ?_⟩
      have hn : numIn z = some ((NumText.digitsVal (tl z) : Nat) : Int) := if_pos ⟨h1, of_decide_eq_false h2⟩
      obtain ⟨h3, h4⟩ := numIn_some hn
      rw [hn] at q
      exact ⟨_, h3, h4, q⟩
  generalize hT : ((sSeq (sIf (tEq false (eOp dIx (eVar 0) (eC (.int 0))) (eC (.str ("0" : PySem.Str)))) (sSeq (sRet (eC .non))
    sNext) sNext)
    (sSeq (sRet (eCall dIntS (aCons (eVar 0) aNil)))
    sNext))) = T at rest
  unfold t_number_in
  rw [hT]
  walk_at "ev"
  refine ⟨by show z.length ≤ 16777216; omega, fun h => ?_, fun h => ?_⟩
  · have h' : cmpI .LtE 1 (z.length : Int) = false := h
    rw [ge_len] at h'
    exact ⟨fun _ => ⟨fun _ => no fun z => (by rw [h'] at z; exact absurd z.1 (by simp)), fun z => (by cases z)⟩, fun z => (by cases z)⟩
  · have h' : cmpI .LtE 1 (z.length : Int) = true := h
    rw [ge_len] at h'
    have e2 := le_len (z := z) 40
    show ((!cmpI .LtE (z.length : Int) 40) = true → _) ∧ ((!cmpI .LtE (z.length : Int) 40) = false → _)
    rw [show cmpI .LtE (z.length : Int) 40 = decide (z.length ≤ 40) from e2]
    cases h8 : decide (z.length ≤ 40) with
    | true =>
      refine ⟨fun z => (by cases z), fun _ => ?_⟩
      refine signs_all (y := figS) (Q := fun d S1 => dTru d S1 _) hz (Nat.lt_succ_self 1) rfl (fun k S1 P p => ⟨k, rfl, p⟩) ?_
      cases ha : (tl z).all fun k => decide (k ∈ tl figS) with
      | true => exact ⟨fun z => (by cases z), fun _ => rest (by rw [h', h8, ha]; rfl)⟩
      | false => exact ⟨fun _ => no fun z => (by rw [ha] at z; exact absurd z.1 (by simp)), fun z => (by cases z)⟩
    | false => exact ⟨fun _ => ⟨fun _ => no fun z => (by rw [h8] at z; exact absurd z.1 (by simp)), fun z => (by cases z)⟩, fun z => (by cases z)⟩
theorem flat_strs (ns : List PySem.Str) : (ns.map D.str).all flatD = true := by
  rw [List.all_eq_true]
  intro d hd
  obtain ⟨z, _, rfl⟩ := List.mem_map.mp hd
  rfl
theorem inD_str (z : PySem.Str) : ∀ ns : List PySem.Str, inD (.str z) (ns.map D.str) = decide (z ∈ ns)
  | [] => by
    rw [decide_eq_false (by simp)]
    rfl
  | x :: r => by
    have ih := inD_str z r
    have e : inD (.str z) ((x :: r).map D.str) = ((x == z) || inD (.str z) (r.map D.str)) := rfl
    rw [e, ih]
    by_cases h : x = z
    · subst h
      rw [decide_eq_true (List.mem_cons_self ..), beq_self_eq_true]
      rfl
    · have hb : (x == z) = false := beq_eq_false_iff_ne.mpr h
      rw [hb, Bool.false_or]
      congr 1
      rw [List.mem_cons]
      exact propext ⟨fun h => .inr h, fun h' => h'.elim (fun e => absurd e.symm h) id⟩
theorem NmV.a {x : D} {ns : List PySem.Str} (h : NmV x ns) {S : Sto} {P : List D → Prop} (p : P (ns.map D.str)) : asA x S P := by
  rcases h with rfl | rfl <;> exact p
/-- a text among names -/
theorem in_names {neg : Bool} {z : PySem.Str} {x : D} {ns : List PySem.Str} {S : Sto} {Q : Bool → Sto → Prop} (h : NmV x ns) (q : Q (if neg then !decide (z ∈ ns) else decide (z ∈ ns)) S) : dIn neg (.str z) x S Q := by
  have : asA x S fun ds => ds.all flatD = true ∧ Q (if neg then !inD (.str z) ds else inD (.str z) ds) S := h.a ⟨flat_strs ns, by rw [inD_str]; exact q⟩
  rcases h with rfl | rfl <;> exact ⟨rfl, this⟩
theorem pure_is_kind {ds : List D} {S : Sto} {Q : QD} {EX : EXT} (h : sp_is_kind ds S Q EX) : t_is_kind EX (endS Q) (startG ["word", "names"] ds) S := by
  obtain ⟨z, x, ns, rfl, hz, hx, q⟩ := h
  show t_is_kind EX (endS Q) [some (.str z), some x] S
  unfold t_is_kind
  walk_at "ev"
  refine ⟨z, rfl, hz, ?_⟩
  cases hn : nameB z with
  | false =>
    have e : kindB ns z = false := by unfold kindB; rw [hn]; rfl
    rw [e] at q
    exact ⟨fun z => (by cases z), fun _ => q⟩
  | true =>
    refine ⟨fun _ => ?_, fun z => (by cases z)⟩
    cases ns with
    | none =>
      obtain rfl : x = .non := hx
      rw [show kindB none z = true by unfold kindB; rw [hn]; rfl] at q
      exact ⟨fun _ => q, fun z => (by cases z)⟩
    | some l =>
      rw [show kindB (some l) z = decide (z ∈ l) by unfold kindB; rw [hn]; rfl] at q
      have no : dNone false x S fun k S2 => k = false ∧ S2 = S := by
        rcases (hx : NmV x l) with rfl | rfl <;> exact ⟨rfl, rfl⟩
      have fin : dIn false (.str z) x S fun k S3 => Q (.bl k) S3 := in_names hx q
      rcases (hx : NmV x l) with rfl | rfl
      · exact ⟨fun z => (by cases z), fun _ => fin⟩
      · exact ⟨fun z => (by cases z), fun _ => fin⟩
/-- words that stand, one of them -/
theorem ix_word {ws : List PySem.Str} {i : Nat} {w : PySem.Str} {S : Sto} {Q : QD} (h : ws[i]? = some w) (q : Q (.str w) S) : dIx (.lst (ws.map D.str)) (.int (i : Nat)) S Q :=
  ⟨.str w, atI_nat (by rw [List.getElem?_map, h]; rfl), q⟩
theorem len_strs {ws : List PySem.Str} {S : Sto} {Q : QD} (q : Q (.int (ws.length : Nat)) S) : dLen [.lst (ws.map D.str)] S Q := by
  have : Q (.int (ws.map D.str).length) S := by rw [List.length_map]; exact q
  exact this
theorem drop_get {ws : List PySem.Str} {i : Nat} {w : PySem.Str} (h : ws[i]? = some w) : ws.drop i = w :: ws.drop (i + 1) := by
  obtain ⟨hi, e⟩ := List.getElem?_eq_some_iff.mp h
  rw [List.drop_eq_getElem_cons hi, e]
theorem lt_int (i j : Nat) : cmpI .Lt (i : Int) (j : Int) = decide (i < j) := by
  show decide ((i : Int) < (j : Int)) = _
  congr 1
  exact propext (by omega)
theorem ge_int (i j : Nat) : cmpI .GtE (i : Int) (j : Int) = decide (j ≤ i) := by
  show decide ((j : Int) ≤ (i : Int)) = _
  congr 1
  exact propext (by omega)
theorem gt_int (i j : Nat) : cmpI .Gt (i : Int) (j : Int) = decide (j < i) := by
  show decide ((j : Int) < (i : Int)) = _
  congr 1
  exact propext (by omega)
/-- .. behind a term's number -/
theorem terms_tail5 {W x : D} {ws : List PySem.Str} {ns : Option (List PySem.Str)} {S : Sto} {EX : EXT} {E : DE} {p : Addr} {acc : Tms} {R : Except Nat Tms} {n f j : Nat} {s m : Int}
    (hW : W = .lst (ws.map D.str)) (hn : ws.length = n) (ok : ∀ s ∈ ws, s.length ≤ 1000000) (hx : NsV x ns) (hj : j ≤ n) (ha : acc.length ≤ n)
    (he : R = addT acc (afterN ns n f (s * m) (ws.drop j))) (hb : ∀ k, R = .error k → EX .NoText [("at", .int k)] S)
    (hnx : ∀ w, j < n → R = addT (acc ++ [(s * m, w)]) (termsF ns n f false (ws.drop (j + 1))) → E.nx [some W, some x, some (.ref p), some (.int ((j + 1 : Nat) : Int)), some (.int s), some (.int m)] ((p, .lst ((acc ++ [(s * m, w)]).map tmD)) :: S)) 
    (cm : MulB s m) (hz : n ≤ 1000000) :
    ((sSeq (sIf (tOo (tOrd .GtE (eVar 3) (eCall dLen (aCons (eVar 0) aNil))) (tNo (tVal (eFn sp_is_kind (kX EX) [] (aCons (eOp dIx (eVar 0) (eVar 3)) (aCons (eVar 1) aNil)))))) (sDr (sSeq (sRaise .NoText ["at"] (kX EX) (aCons (eVar 3) aNil))
    sNext)) sNext)
    (sSeq (sEx (eMc .list mApp (eVar 2) (aCons (eTup (aCons (eOp dMul (eVar 4) (eVar 5)) (aCons (eOp dIx (eVar 0) (eVar 3)) aNil))) aNil)))
    (sSeq (sSet 3 (eOp dAdd (eVar 3) (eC (.int 1))))
    sNext)))) E [some W, some x, some (.ref p), some (.int (j : Nat)), some (.int s), some (.int m)] ((p, .lst (acc.map tmD)) :: S) := by
  subst hW
  walk_at "ev"
  refine len_strs ?_
  show (cmpI .GtE (j : Int) (ws.length : Int) = true → _) ∧ (cmpI .GtE (j : Int) (ws.length : Int) = false → _)
  rw [ge_int]
  have bad : ∀ k, R = .error k → k = j → EX .NoText [("at", .int (j : Nat))] S := fun k e h => by subst h; exact hb _ e
  by_cases h : ws.length ≤ j
  · rw [decide_eq_true h]
    refine ⟨fun _ => ⟨fun _ => ?_, fun z => (by cases z)⟩, fun z => (by cases z)⟩
    have e1 : ws.drop j = [] := List.drop_eq_nil_of_le h
    rw [e1] at he
    have : R = .error n := he
    exact ⟨S, List.sublist_cons_self .., bad _ this (by omega)⟩
  · rw [decide_eq_false h]
    refine ⟨fun z => (by cases z), fun _ => ?_⟩
    have hj' : j < ws.length := by omega
    obtain ⟨w, hw⟩ : ∃ w, ws[j]? = some w := ⟨_, List.getElem?_eq_getElem hj'⟩
    have e1 := drop_get hw
    rw [e1] at he
    have he' : R = addT acc (if kindB ns w = true then addT [(s * m, w)] (termsF ns n f false (ws.drop (j + 1))) else .error (n - (w :: ws.drop (j + 1)).length)) := he
    refine ix_word hw ?_
    refine ⟨w, x, ns, rfl, ok w (List.mem_of_getElem? hw), hx, ?_⟩
    cases hk : kindB ns w with
    | false =>
      refine ⟨fun _ => ?_, fun z => (by cases z)⟩
      rw [hk, if_neg Bool.false_ne_true] at he'
      refine ⟨S, List.sublist_cons_self .., bad _ he' ?_⟩
      rw [List.length_cons, List.length_drop]
      omega
    | true =>
      refine ⟨fun z => (by cases z), fun _ => ?_⟩
      rw [hk, if_pos rfl, addT_addT] at he'
      refine ⟨⟨0, _, rfl, trivial⟩, cm, ?_⟩
      refine ix_word hw ?_
      refine ⟨0, _, rfl, by rw [List.length_map]; show acc.length < 16777216; omega, ?_⟩
      have := hnx w (by omega) he'
      rw [List.map_append] at this
      exact this
/-- .. behind its sign -/
theorem terms_tail3 {W x : D} {ws : List PySem.Str} {ns : Option (List PySem.Str)} {S : Sto} {EX : EXT} {E : DE} {p : Addr} {acc : Tms} {R : Except Nat Tms} {n f j : Nat} {s : Int} {o5 : Option D}
    (hW : W = .lst (ws.map D.str)) (hn : ws.length = n) (ok : ∀ s ∈ ws, s.length ≤ 1000000) (hx : NsV x ns) (hj : j ≤ n) (ha : acc.length ≤ n)
    (he : R = addT acc (afterS ns n f s (ws.drop j))) (hb : ∀ k, R = .error k → EX .NoText [("at", .int k)] S)
    (hnx : ∀ w (j' : Nat) (m : Int), j ≤ j' → j' < n → R = addT (acc ++ [(s * m, w)]) (termsF ns n f false (ws.drop (j' + 1))) → E.nx [some W, some x, some (.ref p), some (.int ((j' + 1 : Nat) : Int)), some (.int s), some (.int m)] ((p, .lst ((acc ++ [(s * m, w)]).map tmD)) :: S)) 
    (cm : s.natAbs < 2 ^ 64) (hz : n ≤ 1000000) :
    ((sSeq (sSet 5 (eC (.int 1)))
    (sSeq (sIf (tAn (tOrd .Lt (eVar 3) (eCall dLen (aCons (eVar 0) aNil))) (tNone true (eFn sp_number_in (kX EX) [] (aCons (eOp dIx (eVar 0) (eVar 3)) aNil)))) (sSeq (sSet 5 (eFn sp_number_in (kX EX) [] (aCons (eOp dIx (eVar 0) (eVar 3)) aNil)))
    (sSeq (sSet 3 (eOp dAdd (eVar 3) (eC (.int 1))))
    sNext)) sNext)
    (sSeq (sIf (tOo (tOrd .GtE (eVar 3) (eCall dLen (aCons (eVar 0) aNil))) (tNo (tVal (eFn sp_is_kind (kX EX) [] (aCons (eOp dIx (eVar 0) (eVar 3)) (aCons (eVar 1) aNil)))))) (sDr (sSeq (sRaise .NoText ["at"] (kX EX) (aCons (eVar 3) aNil))
    sNext)) sNext)
    (sSeq (sEx (eMc .list mApp (eVar 2) (aCons (eTup (aCons (eOp dMul (eVar 4) (eVar 5)) (aCons (eOp dIx (eVar 0) (eVar 3)) aNil))) aNil)))
    (sSeq (sSet 3 (eOp dAdd (eVar 3) (eC (.int 1))))
    sNext)))))) E [some W, some x, some (.ref p), some (.int (j : Nat)), some (.int s), o5] ((p, .lst (acc.map tmD)) :: S) := by
  have t5 : ∀ (j' : Nat) (m : Int), j ≤ j' → j' ≤ n → afterS ns n f s (ws.drop j) = afterN ns n f (s * m) (ws.drop j') → ((sSeq (sIf (tOo (tOrd .GtE (eVar 3) (eCall dLen (aCons (eVar 0) aNil))) (tNo (tVal (eFn sp_is_kind (kX EX) [] (aCons (eOp dIx (eVar 0) (eVar 3)) (aCons (eVar 1) aNil)))))) (sDr (sSeq (sRaise .NoText ["at"] (kX EX) (aCons (eVar 3) aNil))
    sNext)) sNext)
    (sSeq (sEx (eMc .list mApp (eVar 2) (aCons (eTup (aCons (eOp dMul (eVar 4) (eVar 5)) (aCons (eOp dIx (eVar 0) (eVar 3)) aNil))) aNil)))
    (sSeq (sSet 3 (eOp dAdd (eVar 3) (eC (.int 1))))
    sNext)))) E [some W, some x, some (.ref p), some (.int (j' : Nat)), some (.int s), some (.int m)] ((p, .lst (acc.map tmD)) :: S) := fun j' m h1 h2 h3 =>
    terms_tail5 hW hn ok hx h2 ha (by rw [he, h3]) hb (fun w h4 h5 => hnx w j' m h1 h4 h5) (mul_ok_l cm) hz
  generalize ((sSeq (sIf (tOo (tOrd .GtE (eVar 3) (eCall dLen (aCons (eVar 0) aNil))) (tNo (tVal (eFn sp_is_kind (kX EX) [] (aCons (eOp dIx (eVar 0) (eVar 3)) (aCons (eVar 1) aNil)))))) (sDr (sSeq (sRaise .NoText ["at"] (kX EX) (aCons (eVar 3) aNil))
    sNext)) sNext)
    (sSeq (sEx (eMc .list mApp (eVar 2) (aCons (eTup (aCons (eOp dMul (eVar 4) (eVar 5)) (aCons (eOp dIx (eVar 0) (eVar 3)) aNil))) aNil)))
    (sSeq (sSet 3 (eOp dAdd (eVar 3) (eC (.int 1))))
    sNext)))) = T at t5
  subst hW
  walk_at "ev"
  refine len_strs ?_
  show (cmpI .Lt (j : Int) (ws.length : Int) = true → _) ∧ (cmpI .Lt (j : Int) (ws.length : Int) = false → _)
  rw [lt_int]
  by_cases h : j < ws.length
  · rw [decide_eq_true h]
    refine ⟨fun _ => ?_, fun z => (by cases z)⟩
    obtain ⟨w, hw⟩ : ∃ w, ws[j]? = some w := ⟨_, List.getElem?_eq_getElem h⟩
    have e1 := drop_get hw
    refine ix_word hw ?_
    refine ⟨w, rfl, ok w (List.mem_of_getElem? hw), ?_⟩
    cases hk : numIn w with
    | none =>
      refine ⟨fun z => (by cases z), fun _ => t5 j 1 (Nat.le_refl _) hj ?_⟩
      rw [e1]
      show afterN ns n f (s * (match numIn w with | some n => (n, _) | none => (1, w :: _)).1) (match numIn w with | some n => (n, _) | none => (1, w :: _)).2 = _
      rw [hk]
    | some m =>
      refine ⟨fun _ => ?_, fun z => (by cases z)⟩
      refine ix_word hw ?_
      refine ⟨w, rfl, ok w (List.mem_of_getElem? hw), ?_⟩
      rw [hk]
      have := t5 (j + 1) m (Nat.le_succ _) (by omega) (by
        rw [e1]
        show afterN ns n f (s * (match numIn w with | some n => (n, _) | none => (1, w :: _)).1) (match numIn w with | some n => (n, _) | none => (1, w :: _)).2 = _
        rw [hk])
      exact this
  · rw [decide_eq_false h]
    refine ⟨fun z => (by cases z), fun _ => ?_⟩
    have e1 : ws.drop j = [] := List.drop_eq_nil_of_le (by omega)
    exact ⟨fun z => (by cases z), fun _ => t5 j 1 (Nat.le_refl _) hj (by rw [e1]; rfl)⟩
theorem skipS_zero (r : List PySem.Str) (h : ∀ q, r ≠ minusS :: q) : skipS true r = some (1, r) := by
  cases r with
  | nil => rfl
  | cons w r => exact skipS_first (fun e => h r (by rw [e])) r
theorem in_signs {neg : Bool} {w : PySem.Str} {S : Sto} {Q : Bool → Sto → Prop} (q : Q (if neg then !decide (w = plusS ∨ w = minusS) else decide (w = plusS ∨ w = minusS)) S) : dIn neg (.str w) (.tup [.str plusS, .str minusS]) S Q := by
  refine in_names (ns := [plusS, minusS]) (.inr rfl) ?_
  have e : decide (w ∈ [plusS, minusS]) = decide (w = plusS ∨ w = minusS) := by
    congr 1
    simp
  rw [e]
  exact q
theorem cut_tk (ds : List D) (k : Nat) : DL.cutD ds none (some (k : Int)) = ds.take k := by
  have e : HT.sIx ds.length ds.length (some (k : Int)) = min k ds.length := by rw [HT.sIx_nat]
  unfold DL.cutD
  rw [e]
  show (ds.drop 0).take (min k ds.length - 0) = _
  rw [List.drop_zero, Nat.sub_zero, List.take_eq_take_iff]
  omega
theorem str_dec {x y : PySem.Str} {neg : Bool} {S : Sto} {Q : Bool → Sto → Prop} (q : Q (if neg then !decide (x = y) else decide (x = y)) S) : dEq neg (.str x) (.str y) S Q := q
theorem int_dec {i j : Int} {neg : Bool} {S : Sto} {Q : Bool → Sto → Prop} (q : Q (if neg then !decide (i = j) else decide (i = j)) S) : dEq neg (.int i) (.int j) S Q := q
theorem isI_ofT {i : Int} {P : Int → Prop} (p : P i) : isI (.int i) P := p
theorem sl_lst {ds : List D} {lo hi : Option Int} {S : Sto} {Q : QD} (q : Q (.lst (DL.cutD ds lo hi)) S) : dSl (.lst ds) lo hi S Q := Or.inl q
/-- a term's turn -/
theorem terms_turn {W x : D} {ws : List PySem.Str} {ns : Option (List PySem.Str)} {S : Sto} {EX : EXT} {E : DE} {p : Addr} {acc : Tms} {R : Except Nat Tms} {n f i : Nat} {o4 o5 : Option D}
    (hW : W = .lst (ws.map D.str)) (hn : ws.length = n) (ok : ∀ s ∈ ws, PyData.strOk s = true ∧ s.length ≤ 1000000) (hx : NsV x ns) (hi : i = 0 ∨ i < n) (ha : acc.length ≤ n)
    (he : R = addT acc (termsF ns n (f + 1) (decide (i = 0)) (ws.drop i))) (hb : ∀ k, R = .error k → EX .NoText [("at", .int k)] S)
    (hnx : ∀ w (j' : Nat) (s m : Int), i ≤ j' → j' < n → R = addT (acc ++ [(s * m, w)]) (termsF ns n f false (ws.drop (j' + 1))) → E.nx [some W, some x, some (.ref p), some (.int ((j' + 1 : Nat) : Int)), some (.int s), some (.int m)] ((p, .lst ((acc ++ [(s * m, w)]).map tmD)) :: S)) 
    (hz : n ≤ 1000000) :
    ((sSeq (sSet 4 (eC (.int 1)))
    (sSeq (sIf (tAn (tOrd .Gt (eVar 3) (eC (.int 0))) (tIn true (eOp dIx (eVar 0) (eVar 3)) (eTup (aCons (eC (.str ("+" : PySem.Str))) (aCons (eC (.str ("-" : PySem.Str))) aNil))))) (sDr (sSeq (sRaise .NoText ["at"] (kX EX) (aCons (eVar 3) aNil))
    sNext)) sNext)
    (sSeq (sIf (tOo (tOrd .Gt (eVar 3) (eC (.int 0))) (tEq false (eSl (eVar 0) oNo (oSome (eC (.int 1)))) (eLst (aCons (eC (.str ("-" : PySem.Str))) aNil)))) (sSeq (sSet 4 (eOp dSub (eC (.int 1)) (eOp dMul (eC (.int 2)) (eCall dInt (aCons (eEq false (eOp dIx (eVar 0) (eVar 3)) (eC (.str ("-" : PySem.Str)))) aNil)))))
    (sSeq (sSet 3 (eOp dAdd (eVar 3) (eC (.int 1))))
    sNext)) sNext)
    (sSeq (sSet 5 (eC (.int 1)))
    (sSeq (sIf (tAn (tOrd .Lt (eVar 3) (eCall dLen (aCons (eVar 0) aNil))) (tNone true (eFn sp_number_in (kX EX) [] (aCons (eOp dIx (eVar 0) (eVar 3)) aNil)))) (sSeq (sSet 5 (eFn sp_number_in (kX EX) [] (aCons (eOp dIx (eVar 0) (eVar 3)) aNil)))
    (sSeq (sSet 3 (eOp dAdd (eVar 3) (eC (.int 1))))
    sNext)) sNext)
    (sSeq (sIf (tOo (tOrd .GtE (eVar 3) (eCall dLen (aCons (eVar 0) aNil))) (tNo (tVal (eFn sp_is_kind (kX EX) [] (aCons (eOp dIx (eVar 0) (eVar 3)) (aCons (eVar 1) aNil)))))) (sDr (sSeq (sRaise .NoText ["at"] (kX EX) (aCons (eVar 3) aNil))
    sNext)) sNext)
    (sSeq (sEx (eMc .list mApp (eVar 2) (aCons (eTup (aCons (eOp dMul (eVar 4) (eVar 5)) (aCons (eOp dIx (eVar 0) (eVar 3)) aNil))) aNil)))
    (sSeq (sSet 3 (eOp dAdd (eVar 3) (eC (.int 1))))
    sNext))))))))) E [some W, some x, some (.ref p), some (.int (i : Nat)), o4, o5] ((p, .lst (acc.map tmD)) :: S) := by
  have t3 : ∀ (j : Nat) (s : Int), i ≤ j → j ≤ n → s.natAbs < 2 ^ 64 → skipS (decide (i = 0)) (ws.drop i) = some (s, ws.drop j) → ((sSeq (sSet 5 (eC (.int 1)))
    (sSeq (sIf (tAn (tOrd .Lt (eVar 3) (eCall dLen (aCons (eVar 0) aNil))) (tNone true (eFn sp_number_in (kX EX) [] (aCons (eOp dIx (eVar 0) (eVar 3)) aNil)))) (sSeq (sSet 5 (eFn sp_number_in (kX EX) [] (aCons (eOp dIx (eVar 0) (eVar 3)) aNil)))
    (sSeq (sSet 3 (eOp dAdd (eVar 3) (eC (.int 1))))
    sNext)) sNext)
    (sSeq (sIf (tOo (tOrd .GtE (eVar 3) (eCall dLen (aCons (eVar 0) aNil))) (tNo (tVal (eFn sp_is_kind (kX EX) [] (aCons (eOp dIx (eVar 0) (eVar 3)) (aCons (eVar 1) aNil)))))) (sDr (sSeq (sRaise .NoText ["at"] (kX EX) (aCons (eVar 3) aNil))
    sNext)) sNext)
    (sSeq (sEx (eMc .list mApp (eVar 2) (aCons (eTup (aCons (eOp dMul (eVar 4) (eVar 5)) (aCons (eOp dIx (eVar 0) (eVar 3)) aNil))) aNil)))
    (sSeq (sSet 3 (eOp dAdd (eVar 3) (eC (.int 1))))
    sNext)))))) E [some W, some x, some (.ref p), some (.int (j : Nat)), some (.int s), o5] ((p, .lst (acc.map tmD)) :: S) := fun j s h1 h2 h3 h4 => by
    refine terms_tail3 hW hn (fun s hs => (ok s hs).2) hx h2 ha ?_ hb (fun w j' m h5 h6 h7 => hnx w j' s m (by omega) h6 h7) h3 hz
    rw [termsF_succ _ _ _ _ _ (fun z => by
      have h5 := of_decide_eq_false z.1
      have h6 := List.drop_eq_nil_iff.mp z.2
      omega), h4] at he
    exact he
  generalize ((sSeq (sSet 5 (eC (.int 1)))
    (sSeq (sIf (tAn (tOrd .Lt (eVar 3) (eCall dLen (aCons (eVar 0) aNil))) (tNone true (eFn sp_number_in (kX EX) [] (aCons (eOp dIx (eVar 0) (eVar 3)) aNil)))) (sSeq (sSet 5 (eFn sp_number_in (kX EX) [] (aCons (eOp dIx (eVar 0) (eVar 3)) aNil)))
    (sSeq (sSet 3 (eOp dAdd (eVar 3) (eC (.int 1))))
    sNext)) sNext)
    (sSeq (sIf (tOo (tOrd .GtE (eVar 3) (eCall dLen (aCons (eVar 0) aNil))) (tNo (tVal (eFn sp_is_kind (kX EX) [] (aCons (eOp dIx (eVar 0) (eVar 3)) (aCons (eVar 1) aNil)))))) (sDr (sSeq (sRaise .NoText ["at"] (kX EX) (aCons (eVar 3) aNil))
    sNext)) sNext)
    (sSeq (sEx (eMc .list mApp (eVar 2) (aCons (eTup (aCons (eOp dMul (eVar 4) (eVar 5)) (aCons (eOp dIx (eVar 0) (eVar 3)) aNil))) aNil)))
    (sSeq (sSet 3 (eOp dAdd (eVar 3) (eC (.int 1))))
    sNext)))))) = T at t3
  subst hW
  walk_at "ev"
  show (cmpI .Gt (i : Int) ((0 : Nat) : Int) = true → _) ∧ (cmpI .Gt (i : Int) ((0 : Nat) : Int) = false → _)
  rw [gt_int]
  by_cases h0 : i = 0
  · subst h0
    rw [show decide (0 < 0) = false from rfl]
    refine ⟨fun z => (by cases z), fun _ => ⟨fun z => (by cases z), fun _ => ?_⟩⟩
    show (cmpI .Gt ((0 : Nat) : Int) ((0 : Nat) : Int) = true → _) ∧ (cmpI .Gt ((0 : Nat) : Int) ((0 : Nat) : Int) = false → _)
    rw [gt_int, show decide (0 < 0) = false from rfl]
    refine ⟨fun z => (by cases z), fun _ => ?_⟩
    refine isI_ofT ?_
    refine sl_lst ?_
    rw [show DL.cutD (ws.map D.str) none (some 1) = (ws.map D.str).take 1 from cut_tk _ 1]
    refine fit_of (by show 1 ≤ 1000000; decide) (Or.inl ?_)
    have okw : okD 1 (.lst ((ws.map D.str).take 1)) = true := by
      show ((ws.map D.str).take 1).all (okD 0) = true
      rw [List.all_eq_true]
      intro d hd
      obtain ⟨z, hz, rfl⟩ := List.mem_map.mp (List.mem_of_mem_take hd)
      exact (ok z hz).1
    have no : (∀ q, ws ≠ minusS :: q) → T E [some (.lst (ws.map D.str)), some x, some (.ref p), some (.int ((0 : Nat) : Int)), some (.int 1), o5] ((p, .lst (acc.map tmD)) :: S) := fun h => by
      refine t3 0 1 (Nat.le_refl _) (Nat.zero_le _) (by decide) ?_
      rw [List.drop_zero]
      exact skipS_zero ws h
    refine eq_ok 1 okw (by decide +kernel) (by decide) (fun e => ?_) (fun e => ?_)
    · obtain ⟨r, hr⟩ : ∃ r, ws = minusS :: r := by
        cases ws with
        | nil => cases e
        | cons w r =>
          injection e with e
          injection e with e _
          injection e with e
          exact ⟨r, by rw [e]; rfl⟩
      subst hr
      refine ⟨fun _ => ?_, fun z => (by cases z)⟩
      refine ix_word (i := 0) (w := minusS) rfl ?_
      refine eq_same 0 (by decide +kernel) (by decide) rfl ?_
      refine ⟨mul_ok_l (by decide), ?_⟩
      have hn' : r.length + 1 = n := hn
      have := t3 1 (-1) (Nat.zero_le _) (by omega) (by decide) (by rw [List.drop_zero]; exact skipS_minus true r)
      exact this
    · exact ⟨fun z => (by cases z), fun _ => no fun q hq => e (by rw [hq]; rfl)⟩
  · have hi' : i < ws.length := by omega
    have d0 : decide (i = 0) = false := decide_eq_false h0
    rw [d0] at t3 he
    rw [show decide (0 < i) = true from decide_eq_true (by omega)]
    refine ⟨fun _ => ?_, fun z => (by cases z)⟩
    obtain ⟨w, hw⟩ : ∃ w, ws[i]? = some w := ⟨_, List.getElem?_eq_getElem hi'⟩
    have e1 := drop_get hw
    refine ix_word hw ?_
    refine fit_of (by show 2 ≤ 1000000; decide) ?_
    refine in_signs ?_
    rw [e1] at t3 he
    by_cases hs : w = plusS ∨ w = minusS
    · rw [decide_eq_true hs]
      refine ⟨fun z => (by cases z), fun _ => ?_⟩
      show (cmpI .Gt (i : Int) ((0 : Nat) : Int) = true → _) ∧ (cmpI .Gt (i : Int) ((0 : Nat) : Int) = false → _)
      rw [gt_int, show decide (0 < i) = true from decide_eq_true (by omega)]
      refine ⟨fun _ => ⟨fun _ => ?_, fun z => (by cases z)⟩, fun z => (by cases z)⟩
      refine ix_word hw ?_
      have fin : ∀ s : Int, s.natAbs < 2 ^ 64 → skipS false (w :: ws.drop (i + 1)) = some (s, ws.drop (i + 1)) → T E [some (.lst (ws.map D.str)), some x, some (.ref p), some (.int ((i : Int) + 1)), some (.int s), o5] ((p, .lst (acc.map tmD)) :: S) := fun s h1 h2 => t3 (i + 1) s (by omega) (by omega) h1 h2
      rcases hs with e | e
      · subst e
        refine eq_ok 0 (by decide +kernel) (by decide +kernel) (by decide) (fun e => absurd (D.str.inj e) plus_ne_minus) fun _ => ?_
        exact ⟨mul_ok_l (by decide), fin 1 (by decide) (skipS_plus _)⟩
      · subst e
        refine eq_same 0 (by decide +kernel) (by decide) rfl ?_
        exact ⟨mul_ok_l (by decide), fin (-1) (by decide) (skipS_minus false _)⟩
    · rw [decide_eq_false hs]
      refine ⟨fun _ => ?_, fun z => (by cases z)⟩
      refine ⟨S, List.sublist_cons_self .., ?_⟩
      have he' : R = .error (n - (w :: ws.drop (i + 1)).length) := by
        rw [he, termsF_succ _ _ _ _ _ (fun z => by cases z.2)]
        have : skipS false (w :: ws.drop (i + 1)) = none := by
          unfold skipS
          simp only
          rw [if_neg fun e => hs (.inr e), if_neg Bool.false_ne_true, if_neg fun e => hs (.inl e)]
        rw [this]
        rfl
      have h2 := hb _ he'
      rw [List.length_cons, List.length_drop, show n - (ws.length - (i + 1) + 1) = i by omega] at h2
      exact h2
theorem pure_terms_in {ds : List D} {S : Sto} {Q : QD} {EX : EXT} (h : sp_terms_in ds S Q EX) : t_terms_in EX (endS Q) (startG ["words", "names", "found", "at", "sign", "many"] ds) S := by
  obtain ⟨x, ws, ns, rfl, hz, ok, hx, q⟩ := h
  show t_terms_in EX (endS Q) [some (.lst (ws.map D.str)), some x, none, none, none, none] S
  have qk : ∀ ts, termsW ns ws = .ok ts → Q (.lst (ts.map tmD)) S := fun ts e => by rw [e] at q; exact q
  have qb : ∀ k, termsW ns ws = .error k → EX .NoText [("at", .int k)] S := fun k e => by rw [e] at q; exact q
  have loop : ∀ p, ws ≠ [zeroS] → ((sSeq (sSet 3 (eC (.int 0)))
    (sSeq (sWhile (tOo (tEq false (eVar 3) (eC (.int 0))) (tOrd .Lt (eVar 3) (eCall dLen (aCons (eVar 0) aNil)))) (sSeq (sSet 4 (eC (.int 1)))
    (sSeq (sIf (tAn (tOrd .Gt (eVar 3) (eC (.int 0))) (tIn true (eOp dIx (eVar 0) (eVar 3)) (eTup (aCons (eC (.str ("+" : PySem.Str))) (aCons (eC (.str ("-" : PySem.Str))) aNil))))) (sDr (sSeq (sRaise .NoText ["at"] (kX EX) (aCons (eVar 3) aNil))
    sNext)) sNext)
    (sSeq (sIf (tOo (tOrd .Gt (eVar 3) (eC (.int 0))) (tEq false (eSl (eVar 0) oNo (oSome (eC (.int 1)))) (eLst (aCons (eC (.str ("-" : PySem.Str))) aNil)))) (sSeq (sSet 4 (eOp dSub (eC (.int 1)) (eOp dMul (eC (.int 2)) (eCall dInt (aCons (eEq false (eOp dIx (eVar 0) (eVar 3)) (eC (.str ("-" : PySem.Str)))) aNil)))))
    (sSeq (sSet 3 (eOp dAdd (eVar 3) (eC (.int 1))))
    sNext)) sNext)
    (sSeq (sSet 5 (eC (.int 1)))
    (sSeq (sIf (tAn (tOrd .Lt (eVar 3) (eCall dLen (aCons (eVar 0) aNil))) (tNone true (eFn sp_number_in (kX EX) [] (aCons (eOp dIx (eVar 0) (eVar 3)) aNil)))) (sSeq (sSet 5 (eFn sp_number_in (kX EX) [] (aCons (eOp dIx (eVar 0) (eVar 3)) aNil)))
    (sSeq (sSet 3 (eOp dAdd (eVar 3) (eC (.int 1))))
    sNext)) sNext)
    (sSeq (sIf (tOo (tOrd .GtE (eVar 3) (eCall dLen (aCons (eVar 0) aNil))) (tNo (tVal (eFn sp_is_kind (kX EX) [] (aCons (eOp dIx (eVar 0) (eVar 3)) (aCons (eVar 1) aNil)))))) (sDr (sSeq (sRaise .NoText ["at"] (kX EX) (aCons (eVar 3) aNil))
    sNext)) sNext)
    (sSeq (sEx (eMc .list mApp (eVar 2) (aCons (eTup (aCons (eOp dMul (eVar 4) (eVar 5)) (aCons (eOp dIx (eVar 0) (eVar 3)) aNil))) aNil)))
    (sSeq (sSet 3 (eOp dAdd (eVar 3) (eC (.int 1))))
    sNext)))))))))
    (sFz 2 (sSeq (sRet (eVar 2))
    sNext))))) (endS Q) [some (.lst (ws.map D.str)), some x, some (.ref p), none, none, none] ((p, .lst []) :: S) := fun p hne => by
    have turn := @terms_turn (.lst (ws.map D.str)) x ws ns S EX
    generalize ((sSeq (sSet 4 (eC (.int 1)))
    (sSeq (sIf (tAn (tOrd .Gt (eVar 3) (eC (.int 0))) (tIn true (eOp dIx (eVar 0) (eVar 3)) (eTup (aCons (eC (.str ("+" : PySem.Str))) (aCons (eC (.str ("-" : PySem.Str))) aNil))))) (sDr (sSeq (sRaise .NoText ["at"] (kX EX) (aCons (eVar 3) aNil))
    sNext)) sNext)
    (sSeq (sIf (tOo (tOrd .Gt (eVar 3) (eC (.int 0))) (tEq false (eSl (eVar 0) oNo (oSome (eC (.int 1)))) (eLst (aCons (eC (.str ("-" : PySem.Str))) aNil)))) (sSeq (sSet 4 (eOp dSub (eC (.int 1)) (eOp dMul (eC (.int 2)) (eCall dInt (aCons (eEq false (eOp dIx (eVar 0) (eVar 3)) (eC (.str ("-" : PySem.Str)))) aNil)))))
    (sSeq (sSet 3 (eOp dAdd (eVar 3) (eC (.int 1))))
    sNext)) sNext)
    (sSeq (sSet 5 (eC (.int 1)))
    (sSeq (sIf (tAn (tOrd .Lt (eVar 3) (eCall dLen (aCons (eVar 0) aNil))) (tNone true (eFn sp_number_in (kX EX) [] (aCons (eOp dIx (eVar 0) (eVar 3)) aNil)))) (sSeq (sSet 5 (eFn sp_number_in (kX EX) [] (aCons (eOp dIx (eVar 0) (eVar 3)) aNil)))
    (sSeq (sSet 3 (eOp dAdd (eVar 3) (eC (.int 1))))
    sNext)) sNext)
    (sSeq (sIf (tOo (tOrd .GtE (eVar 3) (eCall dLen (aCons (eVar 0) aNil))) (tNo (tVal (eFn sp_is_kind (kX EX) [] (aCons (eOp dIx (eVar 0) (eVar 3)) (aCons (eVar 1) aNil)))))) (sDr (sSeq (sRaise .NoText ["at"] (kX EX) (aCons (eVar 3) aNil))
    sNext)) sNext)
    (sSeq (sEx (eMc .list mApp (eVar 2) (aCons (eTup (aCons (eOp dMul (eVar 4) (eVar 5)) (aCons (eOp dIx (eVar 0) (eVar 3)) aNil))) aNil)))
    (sSeq (sSet 3 (eOp dAdd (eVar 3) (eC (.int 1))))
    sNext))))))))) = T at turn
    have e0 : termsW ns ws = termsF ns ws.length (ws.length + 1) true ws := if_neg hne
    walk_at "ev"
    refine ⟨fun m G S' => ∃ (i f : Nat) (acc : Tms) (o4 o5 : Option D), G = [some (.lst (ws.map D.str)), some x, some (.ref p), some (.int (i : Nat)), o4, o5] ∧ S' = (p, .lst (acc.map tmD)) :: S ∧ m = ws.length - i + 1 + (if i = 0 then 1 else 0) ∧ i ≤ ws.length + 1 ∧ acc.length ≤ i ∧ (i ≤ ws.length) ∧ ws.length < f + i ∧ termsW ns ws = addT acc (termsF ns ws.length f (decide (i = 0)) (ws.drop i)), _, ⟨0, ws.length + 1, [], none, none, rfl, rfl, rfl, by omega, Nat.le_refl _, by omega, by omega, ?_⟩, ?_⟩
    · rw [addT_nil, e0, List.drop_zero]
      rfl
    rintro m G S' ⟨i, f, acc, o4, o5, rfl, rfl, hm, hi, ha, hi2, hf, he⟩
    walk_at "ev"
    have go : ∀ (E : DE), E.rt = Q → (∀ (w : PySem.Str) (j' : Nat) (s m' : Int), i ≤ j' → j' < ws.length → termsW ns ws = addT (acc ++ [(s * m', w)]) (termsF ns ws.length (f - 1) false (ws.drop (j' + 1))) →
        E.nx [some (.lst (ws.map D.str)), some x, some (.ref p), some (.int ((j' + 1 : Nat) : Int)), some (.int s), some (.int m')] ((p, .lst ((acc ++ [(s * m', w)]).map tmD)) :: S)) → (i = 0 ∨ i < ws.length) →
        T E [some (.lst (ws.map D.str)), some x, some (.ref p), some (.int (i : Nat)), o4, o5] ((p, .lst (acc.map tmD)) :: S) := fun E _ hnx h => by
      refine turn (n := ws.length) (f := f - 1) (i := i) (acc := acc) (R := termsW ns ws) rfl rfl ok hx h (by omega) ?_ qb hnx hz
      rw [show f - 1 + 1 = f by omega]
      exact he
    have nxt : ∀ (w : PySem.Str) (j' : Nat) (s m' : Int), i ≤ j' → j' < ws.length → termsW ns ws = addT (acc ++ [(s * m', w)]) (termsF ns ws.length (f - 1) false (ws.drop (j' + 1))) →
        ∃ m2, m2 < m ∧ ∃ (i f : Nat) (acc_ : Tms) (o4 o5 : Option D), [some (.lst (ws.map D.str)), some x, some (.ref p), some (.int ((j' + 1 : Nat) : Int)), some (.int s), some (.int m')] = [some (.lst (ws.map D.str)), some x, some (.ref p), some (.int (i : Nat)), o4, o5] ∧ (p, Cel.lst ((acc ++ [(s * m', w)]).map tmD)) :: S = (p, .lst (acc_.map tmD)) :: S ∧ m2 = ws.length - i + 1 + (if i = 0 then 1 else 0) ∧ i ≤ ws.length + 1 ∧ acc_.length ≤ i ∧ (i ≤ ws.length) ∧ ws.length < f + i ∧ termsW ns ws = addT acc_ (termsF ns ws.length f (decide (i = 0)) (ws.drop i)) := fun w j' s m' h1 h2 h3 => by
      refine ⟨_, ?_, j' + 1, f - 1, acc ++ [(s * m', w)], some (.int s), some (.int m'), rfl, rfl, rfl, by omega, ?_, by omega, by omega, h3⟩
      · rw [hm]
        split <;> split <;> omega
      · rw [List.length_append, List.length_singleton]
        omega
    have stop : ¬ (i = 0 ∨ i < ws.length) → (sFz 2 (sSeq (sRet (eVar 2)) sNext)) (endS Q) [some (.lst (ws.map D.str)), some x, some (.ref p), some (.int (i : Nat)), o4, o5] ((p, .lst (acc.map tmD)) :: S) := fun h => by
      refine ⟨0, rfl, ?_⟩
      have e1 : ws.drop i = [] := List.drop_eq_nil_of_le (by omega)
      rw [e1, show decide (i = 0) = false from decide_eq_false (by omega), termsF_end] at he
      have := qk acc (by rw [he]; show Except.ok (acc ++ []) = _; rw [List.append_nil])
      exact this
    have e0 : decide ((i : Int) = 0) = decide (i = 0) := by
      congr 1
      exact propext (by omega)
    refine int_dec ?_
    rw [e0]
    by_cases h0 : i = 0
    · rw [decide_eq_true h0]
      exact ⟨fun _ => ⟨fun _ => go _ rfl (fun w j' s m' h1 h2 h3 => nxt w j' s m' h1 h2 h3) (.inl h0), fun z => (by cases z)⟩, fun z => (by cases z)⟩
    · rw [decide_eq_false h0]
      refine ⟨fun z => (by cases z), fun _ => ?_⟩
      refine len_strs ?_
      show (cmpI .Lt (i : Int) (ws.length : Int) = true → _) ∧ (cmpI .Lt (i : Int) (ws.length : Int) = false → _)
      rw [lt_int]
      by_cases h : i < ws.length
      · rw [decide_eq_true h]
        exact ⟨fun _ => go _ rfl (fun w j' s m' h1 h2 h3 => nxt w j' s m' h1 h2 h3) (.inr h), fun z => (by cases z)⟩
      · rw [decide_eq_false h]
        exact ⟨fun z => (by cases z), fun _ => stop (by omega)⟩
  generalize hT : ((sSeq (sSet 3 (eC (.int 0)))
    (sSeq (sWhile (tOo (tEq false (eVar 3) (eC (.int 0))) (tOrd .Lt (eVar 3) (eCall dLen (aCons (eVar 0) aNil)))) (sSeq (sSet 4 (eC (.int 1)))
    (sSeq (sIf (tAn (tOrd .Gt (eVar 3) (eC (.int 0))) (tIn true (eOp dIx (eVar 0) (eVar 3)) (eTup (aCons (eC (.str ("+" : PySem.Str))) (aCons (eC (.str ("-" : PySem.Str))) aNil))))) (sDr (sSeq (sRaise .NoText ["at"] (kX EX) (aCons (eVar 3) aNil))
    sNext)) sNext)
    (sSeq (sIf (tOo (tOrd .Gt (eVar 3) (eC (.int 0))) (tEq false (eSl (eVar 0) oNo (oSome (eC (.int 1)))) (eLst (aCons (eC (.str ("-" : PySem.Str))) aNil)))) (sSeq (sSet 4 (eOp dSub (eC (.int 1)) (eOp dMul (eC (.int 2)) (eCall dInt (aCons (eEq false (eOp dIx (eVar 0) (eVar 3)) (eC (.str ("-" : PySem.Str)))) aNil)))))
    (sSeq (sSet 3 (eOp dAdd (eVar 3) (eC (.int 1))))
    sNext)) sNext)
    (sSeq (sSet 5 (eC (.int 1)))
    (sSeq (sIf (tAn (tOrd .Lt (eVar 3) (eCall dLen (aCons (eVar 0) aNil))) (tNone true (eFn sp_number_in (kX EX) [] (aCons (eOp dIx (eVar 0) (eVar 3)) aNil)))) (sSeq (sSet 5 (eFn sp_number_in (kX EX) [] (aCons (eOp dIx (eVar 0) (eVar 3)) aNil)))
    (sSeq (sSet 3 (eOp dAdd (eVar 3) (eC (.int 1))))
    sNext)) sNext)
    (sSeq (sIf (tOo (tOrd .GtE (eVar 3) (eCall dLen (aCons (eVar 0) aNil))) (tNo (tVal (eFn sp_is_kind (kX EX) [] (aCons (eOp dIx (eVar 0) (eVar 3)) (aCons (eVar 1) aNil)))))) (sDr (sSeq (sRaise .NoText ["at"] (kX EX) (aCons (eVar 3) aNil))
    sNext)) sNext)
    (sSeq (sEx (eMc .list mApp (eVar 2) (aCons (eTup (aCons (eOp dMul (eVar 4) (eVar 5)) (aCons (eOp dIx (eVar 0) (eVar 3)) aNil))) aNil)))
    (sSeq (sSet 3 (eOp dAdd (eVar 3) (eC (.int 1))))
    sNext)))))))))
    (sFz 2 (sSeq (sRet (eVar 2))
    sNext))))) = T at loop
  unfold t_terms_in
  rw [hT]
  walk_at "ev"
  refine fit_of (by show 0 ≤ 1000000; decide) (Or.inr fun p => ?_)
  refine fit_of (by show 1 ≤ 1000000; decide) (Or.inl ?_)
  have okw : okD 1 (.lst (ws.map D.str)) = true := by
    show (ws.map D.str).all (okD 0) = true
    rw [List.all_eq_true]
    intro d hd
    obtain ⟨z, hz, rfl⟩ := List.mem_map.mp hd
    exact (ok z hz).1
  refine eq_ok 1 okw (by decide +kernel) (by decide) (fun e => ?_) (fun e => ?_)
  · have hw : ws = [zeroS] := by
      have e' : ws.map D.str = [zeroS].map D.str := D.lst.inj e
      exact (List.map_inj_right (fun a b h => D.str.inj h)).mp e'
    refine ⟨fun _ => ?_, fun z => (by cases z)⟩
    exact ⟨0, rfl, qk [] (if_pos hw)⟩
  · exact ⟨fun z => (by cases z), fun _ => loop p fun h => e (by rw [h]; rfl)⟩
theorem pds_strs : ∀ ns : List PySem.Str, pds (ns.map D.str) = some (ns.map PyData.str)
  | [] => rfl
  | x :: r => by
    rw [List.map_cons, List.map_cons]
    unfold pds
    rw [pds_strs r]
    rfl
theorem shaped_strs {ns : List PySem.Str} (h : ∀ s ∈ ns, PyData.strOk s = true) : SeqAt.shaped (.list (ns.map PyData.str)) = true := by
  obtain ⟨p, e, c, d⟩ := pd_of 1 (.lst (ns.map D.str)) (by
    show (ns.map D.str).all (okD 0) = true
    rw [List.all_eq_true]
    intro z hz
    obtain ⟨s, hs, rfl⟩ := List.mem_map.mp hz
    exact h s hs)
  have e' : p = .list (ns.map PyData.str) := by
    have : pd (.lst (ns.map D.str)) = (pds (ns.map D.str)).map .list := by simp [pd]
    rw [this, pds_strs] at e
    exact (Option.some.inj e).symm
  subst e'
  simp only [SeqAt.shaped, Bool.and_eq_true, decide_eq_true_eq]
  exact ⟨c, by omega⟩
/-- the number of a name -/
theorem idx_name {ns : List PySem.Str} {z : PySem.Str} {S : Sto} {Q : QD} (ok : ∀ s ∈ ns, PyData.strOk s = true) (hz : z ∈ ns) (q : Q (.int (ns.idxOf z : Nat)) S) : mIdx (.lst (ns.map D.str)) [.str z] S Q := by
  have hi : ns.idxOf z < ns.length := List.idxOf_lt_length_of_mem hz
  refine ⟨ns.map PyData.str, .str z, ns.idxOf z, .str z, pds_strs ns, rfl, shaped_strs ok, ?_, ?_, ?_, ?_, q⟩
  · simp only [SeqAt.shaped, Bool.and_eq_true, decide_eq_true_eq]
    refine ⟨?_, by simp [PyData.depth]⟩
    simpa [PyData.canLay0] using ok z hz
  · rw [List.getElem?_map, List.getElem?_eq_getElem hi, List.getElem_idxOf hi]
    rfl
  · show (z == z) = true
    exact beq_self_eq_true z
  · intro m z' hm e
    rw [List.getElem?_map] at e
    have hm' : m < ns.length := by omega
    rw [List.getElem?_eq_getElem hm'] at e
    have e' : PyData.str ns[m] = z' := Option.some.inj e
    subst e'
    show (ns[m] == z) = false
    exact List.not_of_lt_findIdx (p := fun y => y == z) hm
theorem NmV.len {x : D} {ns : List PySem.Str} (h : NmV x ns) {S : Sto} {Q : QD} (q : Q (.int (ns.length : Nat)) S) : dLen [x] S Q := by
  have : Q (.int (ns.map D.str).length) S := by rw [List.length_map]; exact q
  rcases h with rfl | rfl <;> exact this
theorem NmV.list {x : D} {ns : List PySem.Str} (h : NmV x ns) {S : Sto} {Q : QD} (q : mk (ns.map D.str) S Q) : dList [x] S Q := by
  rcases h with rfl | rfl <;> exact q
theorem rep_one (d : D) : ∀ n : Nat, (List.replicate n [d]).flatten = List.replicate n d
  | 0 => rfl
  | n + 1 => by rw [List.replicate_succ, List.flatten_cons, rep_one d n]; rfl
theorem pure_sum_of_terms {ds : List D} {S : Sto} {Q : QD} {EX : EXT} (h : sp_sum_of_terms ds S Q EX) : t_sum_of_terms EX (endX Q) (startG ["terms", "names", "found", "many", "name", "at"] ds) S := by
  obtain ⟨x, ts, ns, rfl, hx, hz, ok, hm, q⟩ := h
  show t_sum_of_terms EX (endX Q) [some (.lst (ts.map tmD)), some x, none, none, none, none] S
  unfold t_sum_of_terms
  walk_at "ev"
  refine fit_of (by show 1 ≤ 1000000; decide) (Or.inl ?_)
  refine hx.len ?_
  refine ⟨by omega, by omega, by show 1 * ns.length ≤ 16777216; omega, Or.inr fun p => ?_⟩
  rw [show ((ns.length : Int)).toNat = ns.length from Int.toNat_natCast _, rep_one]
  refine ⟨fun i G S' => ∃ o3 o4 o5 : Option D, G = [some (.lst (ts.map tmD)), some x, some (.ref p), o3, o4, o5] ∧ S' = (p, .lst ((sumT ns (ts.take i)).map D.int)) :: S, ⟨none, none, none, rfl, ?_⟩, ?_, ?_⟩
  · show (p, Cel.lst (List.replicate ns.length (.int 0))) :: S = (p, Cel.lst ((List.replicate ns.length (0 : Int)).map D.int)) :: S
    rw [List.map_replicate]
  · rintro i d G S' hi ⟨o3, o4, o5, rfl, rfl⟩
    rw [List.getElem?_map] at hi
    cases ht : ts[i]? with
    | none => rw [ht] at hi; cases hi
    | some t =>
      rw [ht] at hi
      obtain rfl := Option.some.inj hi
      have hmem := hm t (List.mem_of_getElem? ht)
      walk_at "ev"
      show dList [x] _ _
      have hj : ns.idxOf t.2 < (sumT ns (ts.take i)).length := by rw [sumT_len]; exact List.idxOf_lt_length_of_mem hmem
      refine hx.list (Or.inl ⟨trivial, idx_name ok hmem ?_⟩)
      have hl : ((sumT ns (ts.take i)).map D.int)[ns.idxOf t.2]? = some (.int ((sumT ns (ts.take i)).getD (ns.idxOf t.2) 0)) := by
        rw [List.getElem?_map, List.getD_eq_getElem?_getD, List.getElem?_eq_getElem hj]
        rfl
      refine ⟨0, _, rfl, _, atI_nat hl, ?_⟩
      refine ⟨p, 0, _, _, _, rfl, rfl, rfl, ixN_nat (by rw [List.length_map]; exact hj), some (.int t.1), some (.str t.2), _, rfl, ?_⟩
      have e1 : ts.take (i + 1) = ts.take i ++ [t] := by
        rw [List.take_add_one, ht]
        rfl
      rw [e1, sumT_snoc]
      unfold putT
      rw [List.map_set]
      rfl
  · rintro G S' ⟨o3, o4, o5, rfl, rfl⟩
    walk_at "ev"
    rw [List.length_map, List.take_length]
    exact ⟨0, _, rfl, S, List.sublist_cons_self .., q⟩
theorem pure_read_handful {ds : List D} {S : Sto} {Q : QD} {EX : EXT} (h : sp_read_handful ds S Q EX) : t_read_handful EX (endS Q) (startG ["text", "names"] ds) S := by
  obtain ⟨t, x, rfl, h⟩ := h
  show t_read_handful EX (endS Q) [some t, some x] S
  unfold t_read_handful
  walk_at "ev"
  rcases h with ⟨z, ns, rfl, hz, hx, hn, okn, hl, okw, q⟩ | ⟨pl, ns, q⟩
  · refine isi_str ⟨_, rfl⟩ ⟨fun z => (by cases z), fun _ => ⟨trivial, by decide +kernel, by show z.length + 2 ≤ 16777216; omega, Or.inl ?_⟩⟩
    refine ⟨x, Txt.split z spS, some ns, rfl, hl, okw, hx, ?_⟩
    unfold TmsEnd at q ⊢
    cases e : termsW (some ns) (Txt.split z spS) with
    | error k =>
      rw [e] at q
      exact q
    | ok ts =>
      rw [e] at q
      exact ⟨x, ts, ns, rfl, hx, hn, okn, fun t ht => termsW_mem e t ht, q⟩
  · refine isi_str pl ?_
    have : isStrD t = false := by
      cases t <;> first | rfl | skip
      case str z => exact absurd rfl (ns z)
    rw [this]
    exact ⟨fun _ => q, fun z => (by cases z)⟩
theorem NmV.itD {x : D} {ns : List PySem.Str} (h : NmV x ns) {P : List D → Prop} (p : P (ns.map D.str)) : DL.itD x P := by
  rcases h with rfl | rfl <;> exact p
theorem app_word {p : Addr} {ws : List PySem.Str} {v : PySem.Str} {S : Sto} {Q : QD} (hl : ws.length ≤ 100000) (q : Q .non ((p, .lst ((ws ++ [v]).map D.str)) :: S)) : mApp (.ref p) [.str v] ((p, .lst (ws.map D.str)) :: S) Q := by
  refine ⟨0, _, rfl, by rw [List.length_map]; show ws.length < 16777216; omega, ?_⟩
  rw [List.map_append] at q
  exact q
theorem join_le (a : PySem.Str) (c : Nat) : ∀ ws : List PySem.Str, (∀ w ∈ ws, w.length ≤ c) → (ws.map (·.length)).sum + ws.length * a.length ≤ ws.length * (c + a.length)
  | [], _ => by simp
  | w :: r, h => by
    have ih := join_le a c r fun u hu => h u (List.mem_cons_of_mem _ hu)
    have hw := h w (List.mem_cons_self ..)
    rw [List.map_cons, List.sum_cons, List.length_cons, Nat.succ_mul, Nat.succ_mul]
    omega
end LK
end

section
set_option autoImplicit false
set_option maxRecDepth 100000
set_option maxHeartbeats 4000000
namespace LK
open PySem PySem.Spec PyProof.Rows L2 DL TL
/-! ### texts drawn by the laws -/
/-- things drawn into a list, one by one -/
theorem draw_A {α : Type} (out : α → D) {Pr : Nat → α → Prop} {src : Nat → D} {S : Sto} {G : DL.Loc} {own : List Nat} {bind : D → DL.Loc → (DL.Loc → Prop) → Prop} {te : TEd} {Q : QD} {k : Nat} {w : Addr} {n : Nat} (hw : Wl S k w) (hz : n ≤ 1000000)
    (h : ∀ (i : Nat), i < n → ∀ (p : Addr) (acc : List D) (S1 : Sto) (K : QD), Wl S1 k w → (∀ v S2, Pr i v → Wst S1 S2 k w → K (out v) ((p, Cel.lst acc) :: S2)) → bind (src i) (wipeG G own) fun G2 => te G2 ((p, Cel.lst acc) :: S1) K)
    (hm : ∀ d G P P', bind d G P → (∀ G2, P G2 → P' G2) → bind d G P')
    (q : ∀ (l : List α) S', l.length = n → (∀ (i : Nat) (y : α), l[i]? = some y → Pr i y) → Wst S S' k w → mk (l.map out) S' Q) : LcIn G own bind tYs te ((List.range n).map src) S Q := by
  refine ⟨fun i acc S' => Wst S S' k w ∧ ∃ l : List α, acc = l.map out ∧ l.length = i ∧ ∀ (j : Nat) (y : α), l[j]? = some y → Pr j y, ⟨wst_self hw, [], rfl, rfl, fun j y e => by simp at e⟩, ?_, ?_⟩
  · rintro i d acc S' p e ⟨T, l, rfl, hl, hf⟩
    obtain ⟨hi, rfl⟩ := range_get e
    refine hm _ _ _ _ (h i hi p _ S' (fun y S4 => ∃ S5, S4 = (p, Cel.lst (l.map out)) :: S5 ∧ (l.map out).length < sizeLine ∧ Wst S S5 k w ∧ ∃ l' : List α, l.map out ++ [y] = l'.map out ∧ l'.length = i + 1 ∧ ∀ (j : Nat) (y : α), l'[j]? = some y → Pr j y) (hw.to T) fun v S2 hv t => ?_) fun G2 q2 => ⟨S', rfl, fun _ => q2, fun z => by cases z⟩
    refine ⟨S2, rfl, by rw [List.length_map, hl]; show i < 16777216; omega, T.trans t, l ++ [v], by rw [List.map_append]; rfl, by rw [List.length_append, hl]; rfl, fun j y e => ?_⟩
    rw [List.getElem?_append] at e
    split at e
    · exact hf j y e
    · have hj := (List.getElem?_eq_some_iff.mp e).1
      rw [List.length_singleton] at hj
      have : j - l.length = 0 := by omega
      rw [this] at e
      have e' : v = y := Option.some.inj e
      subst e'
      have : j = i := by omega
      subst this
      exact hv
  · rintro acc S' ⟨T, l, rfl, hl, hf⟩
    rw [rng_len] at hl
    exact q l S' hl hf T
theorem joinL_one : ∀ l : List Nat, joinL [] (l.map fun c => [c]) = l
  | [] => rfl
  | [c] => rfl
  | c :: d :: r => by
    have ih := joinL_one (d :: r)
    show [c] ++ ([] ++ joinL [] ((d :: r).map fun c => [c])) = c :: d :: r
    rw [ih]
    rfl
/-- signs put together -/
theorem join_signs (l : List Nat) : tl (Txt.join ("" : PySem.Str) (l.map fun c => (⟨#[c]⟩ : PySem.Str))) = l := by
  rw [join_eq, tl_join]
  have e : tl ("" : PySem.Str) = [] := by decide +kernel
  rw [e, List.map_map]
  exact joinL_one l
/-- a letter -/
theorem letter {v : Int} {S : Sto} {Q : QD} (h0 : 0 ≤ v) (h1 : v < 26) (q : Q (.str ⟨#[97 + v.toNat]⟩) S) : dIx (.str abcS) (.int v) S Q := by
  obtain ⟨a, rfl⟩ : ∃ a : Nat, v = a := ⟨v.toNat, by omega⟩
  refine ⟨97 + a, by decide +kernel, atI_nat ?_, by rw [Int.toNat_natCast] at q; exact q⟩
  show (tl abcS)[a]? = some (97 + a)
  rw [tl_abc]
  have ha : a < 26 := by omega
  have all : ∀ a : Nat, a < 26 → ([97, 98, 99, 100, 101, 102, 103, 104, 105, 106, 107, 108, 109, 110, 111, 112, 113, 114, 115, 116, 117, 118, 119, 120, 121, 122] : List Nat)[a]? = some (97 + a) := by decide
  exact all a ha
theorem tl_cutS (z : PySem.Str) (v : Nat) : tl (L2.cutS z none (some (v : Int))) = (tl z).take v := by
  show ((tl z).drop (HT.sIx z.length 0 none)).take (HT.sIx z.length z.length (some (v : Int)) - HT.sIx z.length 0 none) = _
  rw [HT.sIx_nat, HT.sIx_none, List.drop_zero, Nat.sub_zero, len_tl, List.take_eq_take_iff]
  omega
/-- z[:v] -/
theorem sl_str {z : PySem.Str} {v : Nat} {S : Sto} {Q : QD} (hz : z.length ≤ 1000000) (q : ∀ s, tl s = (tl z).take v → Q (.str s) S) : dSlS (.str z) none (some (v : Int)) S Q := ⟨Nat.le_trans hz (by decide), q _ (tl_cutS z v)⟩
theorem name_cons {s : PySem.Str} {c : Nat} {l : List Nat} (e : tl s = c :: l) (hc : 97 ≤ c ∧ c ≤ 122) (hl : l.length ≤ 7) (ha : ∀ k ∈ l, 97 ≤ k ∧ k ≤ 122) : nameB s = true := by
  refine nameB_iff.mpr ⟨?_, ?_, ?_⟩
  · rw [len_tl, e, List.length_cons]; omega
  · rw [len_tl, e, List.length_cons]; omega
  · rw [e]
    intro k hk
    rcases List.mem_cons.mp hk with h | h
    · rw [h]; exact hc
    · exact ha k h
theorem add_str {x y : PySem.Str} {S : Sto} {Q : QD} (h : x.length + y.length ≤ 16777216) (q : Q (.str (x ++ y)) S) : dAdd (.str x) (.str y) S Q := ⟨h, q⟩
end LK
end

section
set_option autoImplicit false
set_option maxRecDepth 100000
set_option maxHeartbeats 4000000
namespace LK
open PySem TL
/-! ### handfuls as words read back -/
/-- a word without a blank in it -/
structure WdOk (w : PySem.Str) : Prop where
  ok : PyData.strOk w = true
  le : w.length ≤ 40
  sp : 32 ∉ tl w
theorem strOk_of {w : PySem.Str} (h : ∀ k ∈ tl w, k < 256) : PyData.strOk w = true := by
  unfold PyData.strOk
  rw [Array.all_eq_true_iff_forall_mem]
  intro k hk
  have := h k (Array.mem_def.mp hk)
  exact decide_eq_true (by omega)
theorem wd_name {x : PySem.Str} (h : nameB x = true) : WdOk x := by
  obtain ⟨_, h2, h3⟩ := nameB_iff.mp h
  exact ⟨strOk_of fun k hk => by have := h3 k hk; omega, by omega, fun hm => by have := h3 32 hm; omega⟩
theorem wd_num {m : Nat} (h : m < 10 ^ 40) : WdOk (numW m) := by
  refine ⟨strOk_of fun k hk => ?_, ?_, fun hm => ?_⟩
  · rw [tl_num] at hk
    have := numL_digits m k hk
    omega
  · rw [len_tl, tl_num]
    exact numL_len (by decide) h
  · rw [tl_num] at hm
    have := numL_digits m 32 hm
    omega
theorem wd_sgn (b : Bool) : WdOk (sgnW b) := by
  cases b with
  | true => exact ⟨by decide +kernel, by decide +kernel, by rw [show sgnW true = minusS from rfl, tl_minus]; decide⟩
  | false => exact ⟨by decide +kernel, by decide +kernel, by rw [show sgnW false = plusS from rfl, tl_plus]; decide⟩
theorem wd_zero : WdOk zeroS := ⟨by decide +kernel, by decide +kernel, by rw [tl_zero]; decide⟩
theorem join_sz (a : PySem.Str) (c : Nat) : ∀ ws : List PySem.Str, (∀ w ∈ ws, w.length ≤ c) → (Txt.join a ws).length ≤ ws.length * (c + a.length) := by
  intro ws h
  rw [join_eq]
  induction ws with
  | nil => exact Nat.zero_le _
  | cons x r ih =>
    have hx := h x (List.mem_cons_self ..)
    have hr := ih fun t ht => h t (List.mem_cons_of_mem _ ht)
    cases r with
    | nil =>
      show x.length ≤ _
      rw [List.length_cons, List.length_nil]
      omega
    | cons y r =>
      show (x ++ a ++ PySem.Str.join a (y :: r)).length ≤ _
      rw [len_tl, tl_append, tl_append, List.length_append, List.length_append, ← len_tl, ← len_tl, ← len_tl, List.length_cons, Nat.succ_mul]
      omega
end LK
end

section
set_option autoImplicit false
set_option maxRecDepth 100000
set_option maxHeartbeats 4000000
set_option pp.maxSteps 1500
namespace LK
open PySem PySem.Spec PyProof.Rows L2 DL TL
/-- words without a blank -/
structure WdX (w : PySem.Str) : Prop where
  ok : PyData.strOk w = true
  le : w.length ≤ 100
  sp : 32 ∉ tl w
abbrev namD (ns : List PySem.Str) : D := .lst (ns.map D.str)
abbrev intD (zs : List Int) : D := .tup (zs.map D.int)
def AllN (ns : List PySem.Str) : Prop := ns.length ≤ 4 ∧ ∀ s ∈ ns, nameB s = true
def AllW (ws : List PySem.Str) (m : Nat) : Prop := ws.length ≤ m ∧ ∀ s ∈ ws, WdX s
/-- what the law's walk tells -/
def ansD (ns : List PySem.Str) (r : Except Nat Tms) : D := match r with
  | .ok ts => .tup [.str "told", intD (sumT ns ts)]
  | .error k => .tup [.str "at", .int (k : Nat)]
def sp__law_names : FSp := fun ds S Q _ => ∃ (w : Addr) (k n : Nat), ds = [.ref w, .int n] ∧ Wl S k w ∧ n ≤ 4 ∧ ∀ (ns : List PySem.Str) (S' : Sto), AllN ns → ns.length = n → Wst S S' k w → Q (namD ns) S'
def sp__law_terms : FSp := fun ds S Q _ => ∃ (w : Addr) (k : Nat) (ns : List PySem.Str), ds = [.ref w, namD ns] ∧ Wl S k w ∧ AllN ns ∧ 1 ≤ ns.length ∧ ∀ (ws : List PySem.Str) (S' : Sto), AllW ws 15 → Wst S S' k w → Q (namD ws) S'
def sp__law_odd : FSp := fun ds S Q _ => ∃ (w : Addr) (k : Nat) (ns : List PySem.Str), ds = [.ref w, namD ns] ∧ Wl S k w ∧ AllN ns ∧ 1 ≤ ns.length ∧ ∀ (x : PySem.Str) (S' : Sto), WdX x → Wst S S' k w → Q (.str x) S'
def sp__law_spoilt : FSp := fun ds S Q _ => ∃ (w : Addr) (k m : Nat) (ws ns : List PySem.Str), ds = [.ref w, namD ws, namD ns] ∧ Wl S k w ∧ AllN ns ∧ 1 ≤ ns.length ∧ m ≤ 100 ∧ AllW ws m ∧ ∀ (ws' : List PySem.Str) (S' : Sto), AllW ws' (m + 1) → Wst S S' k w → Q (namD ws') S'
def sp__law_figures : FSp := fun ds S Q _ => ∃ x : PySem.Str, ds = [.str x] ∧ x.length ≤ 1000 ∧ Q (.bl (numIn x).isSome) S
def sp__law_walk : FSp := fun ds S Q _ => ∃ ws ns : List PySem.Str, ds = [namD ws, namD ns] ∧ AllW ws 20 ∧ AllN ns ∧ Q (ansD ns (termsW (some ns) ws)) S
def sp__law_said : FSp := fun ds S Q _ => ∃ (t x : D) (ns : List PySem.Str), ds = [t, x] ∧ NmV x ns ∧ AllN ns ∧ ((∃ z ws, t = .str z ∧ z.length ≤ 100000 ∧ Txt.split z spS = ws ∧ AllW ws 100 ∧ Q (ansD ns (termsW (some ns) ws)) S) ∨ (Pln t ∧ (∀ z, t ≠ .str z) ∧ Q (ansD ns (.error 0)) S))
def sp__law_right : FSp := fun ds S Q _ => ∃ (w : Addr) (k : Nat), ds = [.ref w] ∧ Wl S k w ∧ ∀ S', Q (.bl true) S'
abbrev sp_law : FSp := spLaw
theorem ln__law_names : ∀ ds S Q EX, sp__law_names ds S Q EX → ds.length = 2 := fun ds S Q EX ⟨_, _, _, e, _⟩ => by rw [e]; rfl
theorem ln__law_terms : ∀ ds S Q EX, sp__law_terms ds S Q EX → ds.length = 2 := fun ds S Q EX ⟨_, _, _, e, _⟩ => by rw [e]; rfl
theorem ln__law_odd : ∀ ds S Q EX, sp__law_odd ds S Q EX → ds.length = 2 := fun ds S Q EX ⟨_, _, _, e, _⟩ => by rw [e]; rfl
theorem ln__law_spoilt : ∀ ds S Q EX, sp__law_spoilt ds S Q EX → ds.length = 3 := fun ds S Q EX ⟨_, _, _, _, _, e, _⟩ => by rw [e]; rfl
theorem ln__law_figures : ∀ ds S Q EX, sp__law_figures ds S Q EX → ds.length = 1 := fun ds S Q EX ⟨_, e, _⟩ => by rw [e]; rfl
theorem ln__law_walk : ∀ ds S Q EX, sp__law_walk ds S Q EX → ds.length = 2 := fun ds S Q EX ⟨_, _, e, _⟩ => by rw [e]; rfl
theorem ln__law_said : ∀ ds S Q EX, sp__law_said ds S Q EX → ds.length = 2 := fun ds S Q EX ⟨_, _, _, e, _⟩ => by rw [e]; rfl
theorem ln__law_right : ∀ ds S Q EX, sp__law_right ds S Q EX → ds.length = 1 := fun ds S Q EX ⟨_, _, e, _⟩ => by rw [e]; rfl
theorem ln_law : ∀ ds S Q EX, sp_law ds S Q EX → ds.length = 1 := fun ds S Q EX ⟨_, e, _⟩ => by rw [e]; rfl
def knL : XN → Bool := fun n => match n with
  | .NoText => true
  | _ => false
-- 0 _law_well, 1 _law_many, 2 _law_letters, 3 _law_first, 4 _law_base, 5 _law_k
def t__law_names (EX : EXT) : TSd := (sSeq (sSet 2 (eC (.str ("abcdefghijklmnopqrstuvwxyz" : PySem.Str))))
    (sSeq (sSet 3 (eFn sp__law_draw (kX EX) [] (aCons (eVar 0) (aCons (eC (.int 26)) aNil))))
    (sSeq (sSet 4 (eMc .str mJoin (eC (.str ("" : PySem.Str))) (aCons (eLc (iR1 (aCons (eC (.int 7)) aNil)) [5] (bind1 5) tYs (eOp dIx (eVar 2) (eFn sp__law_draw E0X [] (aCons (eVar 0) (aCons (eC (.int 26)) aNil))))) aNil)))
    (sSeq (sRet (eLc (iR1 (aCons (eVar 1) aNil)) [5] (bind1 5) tYs (eOp dAdd (eOp dIx (eVar 2) (eOp dMod (eOp dAdd (eVar 3) (eOp dMul (eC (.int 7)) (eVar 5))) (eC (.int 26)))) (eSlS (eVar 4) oNo (oSome (eFn sp__law_draw E0X [] (aCons (eVar 0) (aCons (eC (.int 8)) aNil))))))))
    sNext))))
-- 0 _law_well, 1 _law_names_here, 2 _law_words, 3 _law_k, 4 _law_sign
def t__law_terms (EX : EXT) : TSd := (sSeq (sSet 2 (eLst aNil))
    (sSeq (sFor (iR1 (aCons (eOp dAdd (eC (.int 1)) (eFn sp__law_draw (kX EX) [] (aCons (eVar 0) (aCons (eC (.int 5)) aNil)))) aNil)) (gNm 3) (sSeq (sSet 4 (eOp dIx (eLst (aCons (eC (.str ("+" : PySem.Str))) (aCons (eC (.str ("-" : PySem.Str))) aNil))) (eFn sp__law_draw (kX EX) [] (aCons (eVar 0) (aCons (eC (.int 2)) aNil)))))
    (sSeq (sIf (tOo (tOrd .Gt (eVar 3) (eC (.int 0))) (tEq false (eVar 4) (eC (.str ("-" : PySem.Str))))) (sSeq (sEx (eMc .list mApp (eVar 2) (aCons (eVar 4) aNil)))
    sNext) sNext)
    (sSeq (sIf (tEq false (eFn sp__law_draw (kX EX) [] (aCons (eVar 0) (aCons (eC (.int 2)) aNil))) (eC (.int 0))) (sSeq (sEx (eMc .list mApp (eVar 2) (aCons (eCall dStrI (aCons (eOp dAdd (eC (.int 1)) (eFn sp__law_draw (kX EX) [] (aCons (eVar 0) (aCons (eOp dIx (eLst (aCons (eC (.int 9)) (aCons (eOp dPow (eC (.int 10)) (eC (.int 9))) aNil))) (eFn sp__law_draw (kX EX) [] (aCons (eVar 0) (aCons (eC (.int 2)) aNil)))) aNil)))) aNil)) aNil)))
    sNext) sNext)
    (sSeq (sEx (eMc .list mApp (eVar 2) (aCons (eOp dIx (eVar 1) (eFn sp__law_draw (kX EX) [] (aCons (eVar 0) (aCons (eCall dLen (aCons (eVar 1) aNil)) aNil)))) aNil)))
    sNext)))))
    (sFz 2 (sSeq (sRet (eVar 2))
    sNext))))
-- 0 _law_well, 1 _law_names_here, 2 _law_name, 3 _law_figures_here, 4 _law_some
def t__law_odd (EX : EXT) : TSd := (sSeq (sSet 2 (eOp dIx (eVar 1) (eFn sp__law_draw (kX EX) [] (aCons (eVar 0) (aCons (eCall dLen (aCons (eVar 1) aNil)) aNil)))))
    (sSeq (sSet 3 (eOp dAdd (eC (.str ("1" : PySem.Str))) (eOp dMulS (eOp dIx (eC (.str ("0369" : PySem.Str))) (eFn sp__law_draw (kX EX) [] (aCons (eVar 0) (aCons (eC (.int 4)) aNil)))) (eC (.int 39)))))
    (sSeq (sSet 4 (eLst (aCons (eOp dAdd (eVar 2) (eC (.str ("qz" : PySem.Str)))) (aCons (eOp dAdd (eC (.str ("qz" : PySem.Str))) (eVar 2)) (aCons (eUpr (eVar 2)) (aCons (eOp dAdd (eC (.str ("0" : PySem.Str))) (eCall dStrI (aCons (eFn sp__law_draw (kX EX) [] (aCons (eVar 0) (aCons (eC (.int 20)) aNil))) aNil))) (aCons (eC (.str ("0" : PySem.Str))) (aCons (eVar 3) (aCons (eOp dAdd (eVar 3) (eC (.str ("7" : PySem.Str)))) aNil)))))))))
    (sSeq (sSet 4 (eOp dAdd (eVar 4) (eLst (aCons (eC (.str ("+" : PySem.Str))) (aCons (eC (.str ("-" : PySem.Str))) (aCons (eC (.str ("" : PySem.Str))) (aCons (eC (.str (":" : PySem.Str))) (aCons (eC (.str ("," : PySem.Str))) (aCons (eOp dAdd (eC (.str ("3" : PySem.Str))) (eVar 2)) (aCons (eOp dAdd (eVar 2) (eC (.str ("3" : PySem.Str)))) (aCons (eC (.str ("--" : PySem.Str))) (aCons (eC (.str ("-3" : PySem.Str))) (aCons (eC (.str ("+3" : PySem.Str))) (aCons (eC (.str ("1.0" : PySem.Str))) (aCons (eVar 2) (aCons (eC (.str ("12" : PySem.Str))) (aCons (eC (.str ("abcdefghi" : PySem.Str))) aNil)))))))))))))))))
    (sSeq (sSet 4 (eOp dAdd (eVar 4) (eLst (aCons (eOp dAdd (eVar 2) (eC (.str ("\n" : PySem.Str)))) (aCons (eOp dAdd (eC (.str ("\n" : PySem.Str))) (eVar 2)) (aCons (eC (.str ("\n" : PySem.Str))) (aCons (eC (.str ("2\n" : PySem.Str))) (aCons (eOp dAdd (eVar 2) (eC (.str ("\t" : PySem.Str)))) (aCons (eC (.str ("+\n" : PySem.Str))) aNil)))))))))
    (sSeq (sRet (eOp dIx (eVar 4) (eFn sp__law_draw (kX EX) [] (aCons (eVar 0) (aCons (eCall dLen (aCons (eVar 4) aNil)) aNil)))))
    sNext))))))
-- 0 _law_well, 1 _law_words, 2 _law_names_here, 3 _law_at, 4 _law_way
def t__law_spoilt (EX : EXT) : TSd := (sSeq (sSet 3 (eFn sp__law_draw (kX EX) [] (aCons (eVar 0) (aCons (eOp dAdd (eCall dLen (aCons (eVar 1) aNil)) (eC (.int 1))) aNil))))
    (sSeq (sSet 4 (eFn sp__law_draw (kX EX) [] (aCons (eVar 0) (aCons (eC (.int 4)) aNil))))
    (sSeq (sIf (tEq false (eVar 4) (eC (.int 0))) (sSeq (sRet (eOp dAdd (eSl (eVar 1) oNo (oSome (eVar 3))) (eSl (eVar 1) (oSome (eOp dAdd (eVar 3) (eC (.int 1)))) oNo)))
    sNext) sNext)
    (sSeq (sIf (tEq false (eVar 4) (eC (.int 1))) (sSeq (sRet (eOp dAdd (eOp dAdd (eSl (eVar 1) oNo (oSome (eVar 3))) (eLst (aCons (eFn sp__law_odd (kX EX) [] (aCons (eVar 0) (aCons (eVar 2) aNil))) aNil))) (eSl (eVar 1) (oSome (eVar 3)) oNo)))
    sNext) sNext)
    (sSeq (sIf (tEq false (eVar 4) (eC (.int 2))) (sSeq (sRet (eOp dAdd (eOp dAdd (eSl (eVar 1) oNo (oSome (eVar 3))) (eSl (eVar 1) (oSome (eVar 3)) (oSome (eOp dAdd (eVar 3) (eC (.int 1)))))) (eSl (eVar 1) (oSome (eVar 3)) oNo)))
    sNext) sNext)
    (sSeq (sRet (eOp dAdd (eOp dAdd (eSl (eVar 1) oNo (oSome (eVar 3))) (eLst (aCons (eFn sp__law_odd (kX EX) [] (aCons (eVar 0) (aCons (eVar 2) aNil))) aNil))) (eSl (eVar 1) (oSome (eOp dAdd (eVar 3) (eC (.int 1)))) oNo)))
    sNext))))))
-- 0 _law_word, 1 _law_sign
def t__law_figures (EX : EXT) : TSd := (sSeq (sIf (tOo (tEq false (eVar 0) (eC (.str ("" : PySem.Str)))) (tOo (tOrd .Gt (eCall dLen (aCons (eVar 0) aNil)) (eC (.int 40))) (tEq false (eOp dIx (eVar 0) (eC (.int 0))) (eC (.str ("0" : PySem.Str)))))) (sSeq (sRet (eC (.bl false)))
    sNext) sNext)
    (sSeq (sRet (eCall dAll (aCons (eLcX (iSqX (eVar 0)) [1] (bind1 1) tYs (eInS false (eVar 1) (eC (.str ("0123456789" : PySem.Str))))) aNil)))
    sNext))
-- 0 _law_words, 1 _law_names_here, 2 _law_found, 3 _law_wants, 4 _law_sign, 5 _law_many, 6 _law_at, 7 _law_word, 8 _law_ahead, 9 _law_place
def t__law_walk (EX : EXT) : TSd := (sSeq (sIf (tEq false (eVar 0) (eLst (aCons (eC (.str ("0" : PySem.Str))) aNil))) (sSeq (sRet (eTup (aCons (eC (.str ("told" : PySem.Str))) (aCons (eOp dTmulA (eTup (aCons (eC (.int 0)) aNil)) (eCall dLen (aCons (eVar 1) aNil))) aNil))))
    sNext) sNext)
    (sSeq (sSet 2 (eOp dMul (eLst (aCons (eC (.int 0)) aNil)) (eCall dLen (aCons (eVar 1) aNil))))
    (sSeq (sSet 3 (eC (.str ("begin" : PySem.Str))))
    (sSeq (sAsg (eTup (aCons (eC (.int 1)) (aCons (eC (.int 1)) aNil))) (gTp 2 (gsCons (gNm 4) (gsCons (gNm 5) gsNil))))
    (sSeq (sForX (iEnX (aCons (eVar 0) aNil)) (gTp 2 (gsCons (gNm 6) (gsCons (gNm 7) gsNil))) (sSeq (sSet 8 (eSl (eLst (aCons (eC (.str ("-" : PySem.Str))) (aCons (eC (.str ("+" : PySem.Str))) aNil))) oNo (oSome (eOp dAdd (eC (.int 1)) (eCall dInt (aCons (eEq false (eVar 3) (eC (.str ("sign" : PySem.Str)))) aNil))))))
    (sSeq (sIf (tAn (tIn false (eVar 3) (eTup (aCons (eC (.str ("begin" : PySem.Str))) (aCons (eC (.str ("sign" : PySem.Str))) aNil)))) (tIn false (eVar 7) (eVar 8))) (sSeq (sSet 4 (eOp dIx (eLst (aCons (eC (.int 1)) (aCons (eUn dNeg (eC (.int 1))) aNil))) (eCall dInt (aCons (eEq false (eVar 7) (eC (.str ("-" : PySem.Str)))) aNil))))
    (sSeq (sSet 3 (eC (.str ("term" : PySem.Str))))
    sNext)) (sSeq (sIf (tAn (tIn false (eVar 3) (eTup (aCons (eC (.str ("begin" : PySem.Str))) (aCons (eC (.str ("term" : PySem.Str))) aNil)))) (tVal (eFn sp__law_figures (kX EX) [] (aCons (eVar 7) aNil)))) (sSeq (sSet 5 (eCall dIntS (aCons (eVar 7) aNil)))
    (sSeq (sSet 3 (eC (.str ("name" : PySem.Str))))
    sNext)) (sSeq (sIf (tAn (tEq true (eVar 3) (eC (.str ("sign" : PySem.Str)))) (tIn false (eVar 7) (eVar 1))) (sSeq (sSet 9 (eMc .list mIdx (eVar 1) (aCons (eVar 7) aNil)))
    (sSeq (sAsg (eOp dAdd (eOp dIx (eVar 2) (eVar 9)) (eOp dMul (eVar 4) (eVar 5))) (gIx (eVar 2) (eVar 9)))
    (sSeq (sAsg (eTup (aCons (eC (.int 1)) (aCons (eC (.int 1)) (aCons (eC (.str ("sign" : PySem.Str))) aNil)))) (gTp 3 (gsCons (gNm 4) (gsCons (gNm 5) (gsCons (gNm 3) gsNil)))))
    sNext))) (sSeq (sRet (eTup (aCons (eC (.str ("at" : PySem.Str))) (aCons (eVar 6) aNil))))
    sNext))
    sNext))
    sNext))
    sNext)))
    (sSeq (sIf (tEq true (eVar 3) (eC (.str ("sign" : PySem.Str)))) (sSeq (sRet (eTup (aCons (eC (.str ("at" : PySem.Str))) (aCons (eCall dLen (aCons (eVar 0) aNil)) aNil))))
    sNext) sNext)
    (sSeq (sRet (eTup (aCons (eC (.str ("told" : PySem.Str))) (aCons (eCall dTuple (aCons (eVar 2) aNil)) aNil))))
    sNext)))))))
-- 0 _law_text, 1 _law_names_here, 2 _law_told, 3 e, 4 _law_others
def t__law_said (EX : EXT) : TSd := (sSeq (sSet 2 (eTup (aCons (eC (.str ("told" : PySem.Str))) (aCons (eC .non) aNil))))
    (sSeq (sTryA knL .NoughtError 3 (fun a n d => (sSeq (sSet 2 (eTup (aCons (eC (.str ("other" : PySem.Str))) (aCons (eC .non) aNil))))
    (sSeq (sSet 4 (eIsXs 3 a n d [.NoLine, .NoName, .NoRow]))
    (sSeq (sIf (tAn (tVal (eIsX 3 a n d .NoText)) (tAn (tVal (eIsV 3 a d)) (tNo (tVal (eVar 4))))) (sSeq (sSet 2 (eTup (aCons (eC (.str ("at" : PySem.Str))) (aCons (eXf 3 a d "at") aNil))))
    sNext) sNext)
    sNext)))) (fun EXt => (sSeq (sSet 2 (eTup (aCons (eC (.str ("told" : PySem.Str))) (aCons (eFn sp_read_handful EXt [] (aCons (eVar 0) (aCons (eVar 1) aNil))) aNil))))
    sNext)) (kX EX))
    (sSeq (sRet (eVar 2))
    sNext)))
-- 0 _law_well, 1 _law_times_spoilt, 2 _law_names_here, 3 _law_words, 4 _law_k, 5 _law_due, 6 _law_text, 7 _law_odd_here, 8 _law_some
def t__law_right (EX : EXT) : TSd := (sSeq (sSet 1 (eOp dAdd (eC (.int 1)) (eFn sp__law_draw (kX EX) [] (aCons (eVar 0) (aCons (eC (.int 2)) aNil)))))
    (sSeq (sSet 2 (eFn sp__law_names (kX EX) [] (aCons (eVar 0) (aCons (eOp dAdd (eC (.int 1)) (eFn sp__law_draw (kX EX) [] (aCons (eVar 0) (aCons (eC (.int 4)) aNil)))) aNil))))
    (sSeq (sSet 3 (eFn sp__law_terms (kX EX) [] (aCons (eVar 0) (aCons (eVar 2) aNil))))
    (sSeq (sFor (iR1 (aCons (eVar 1) aNil)) (gNm 4) (sSeq (sSet 3 (eFn sp__law_spoilt (kX EX) [] (aCons (eVar 0) (aCons (eVar 3) (aCons (eVar 2) aNil)))))
    sNext))
    (sSeq (sIf (tEq false (eVar 3) (eLst aNil)) (sSeq (sSet 3 (eLst (aCons (eC (.str ("" : PySem.Str))) aNil)))
    sNext) sNext)
    (sSeq (sSet 5 (eFn sp__law_walk (kX EX) [] (aCons (eVar 3) (aCons (eVar 2) aNil))))
    (sSeq (sSet 6 (eMc .str mJoin (eC (.str (" " : PySem.Str))) (aCons (eVar 3) aNil)))
    (sSeq (sIf (tEq true (eLcX (iSqX (eLst (aCons (eVar 2) (aCons (eCall dTuple (aCons (eVar 2) aNil)) (aCons (eVar 2) aNil))))) [8] (bind1 8) tYs (eFn sp__law_said E0X [] (aCons (eVar 6) (aCons (eVar 8) aNil)))) (eOp dMul (eLst (aCons (eVar 5) aNil)) (eC (.int 3)))) (sSeq (sRet (eC (.bl false)))
    sNext) sNext)
    (sSeq (sSet 7 (eOp dIx (eLst (aCons (eC .non) (aCons (eC (.int 7)) (aCons (eVar 3) (aCons (eC (.bl true)) (aCons (eTup (aCons (eVar 6) aNil)) aNil)))))) (eFn sp__law_draw (kX EX) [] (aCons (eVar 0) (aCons (eC (.int 5)) aNil)))))
    (sSeq (sRet (eAn (eEq false (eFn sp__law_said (kX EX) [] (aCons (eVar 7) (aCons (eVar 2) aNil))) (eTup (aCons (eC (.str ("at" : PySem.Str))) (aCons (eC (.int 0)) aNil)))) (eNo (eCall dIsi (aCons (eOp dIx (eVar 5) (eC (.int 1))) (aCons (eC (.ty "bool")) aNil))))))
    sNext))))))))))
-- 0 _law_script, 1 _law_k, 2 _law_cell
def t_law (EX : EXT) : TSd := (sSeq (sForX (iEnX (aCons (eOp dAdd (eLst (aCons (eC (.int 0)) aNil)) (eSl (eVar 0) oNo (oSome (eC (.int 10))))) aNil)) (gTp 2 (gsCons (gNm 1) (gsCons (gNm 2) gsNil))) (sSeq (sIf (tNo (tVal (eFn sp__law_right (kX EX) [] (aCons (eLst (aCons (eOp dMul (eVar 2) (eCall dInt (aCons (eOrd .GtE (eVar 2) (eOp dPow (eC (.int 10)) (eC (.int 18)))) aNil))) (aCons (eOp dAdd (eOp dMod (eVar 2) (eC (.int 2147483647))) (eOp dMul (eC (.int 7919)) (eVar 1))) (aCons (eC (.int 0)) aNil)))) aNil)))) (sSeq (sRet (eC (.bl false)))
    sNext) sNext)
    sNext))
    (sSeq (sRet (eAn (eEq false (eFn sp__law_said (kX EX) [] (aCons (eC (.str ("" : PySem.Str))) (aCons (eLst aNil) aNil))) (eTup (aCons (eC (.str ("at" : PySem.Str))) (aCons (eC (.int 0)) aNil)))) (eEq false (eFn sp__law_said (kX EX) [] (aCons (eC (.str ("0" : PySem.Str))) (aCons (eLst aNil) aNil))) (eTup (aCons (eC (.str ("told" : PySem.Str))) (aCons (eTup aNil) aNil))))))
    sNext))
local macro_rules | `(tactic| walk_at "ev") => `(tactic| dsimp only [sSeq, sRet, sIf, sSet, sFor, sNext, sEx, sPar, sAsg, DL.sFld, eAn, eOo, eNo, eCall, eFn, eMeth, eNew, eFld, aCons, aNil, eVar, rd, eC, eOp, eUn, eEq, eOrd, tEq, tOrd, tVal, tNo, tAn, tOo, tEqL, eEqL, tEqN, eEqN, tNone, eNone, tChn, eTup, eLst, eSl, eSlS, eInS, tInS, oNo, oSome, eRev, iR1, iR2, iSq, iZp, sForX, iSqX, iEnX, iZpX, one_eq, eLcX_eq, gNm, gTp, gsCons, gsNil, eLc_eq, lenIs, eIn, tIn, tEqO, eEqO, eIsC, sRaise, raiseF, eIsB, tIsB, eMc, eClr, eUpr, inG, List.set_cons_zero, List.set_cons_succ, List.getElem?_cons_zero, List.getElem?_cons_succ, List.append_nil])
theorem fmod26 (z : Int) : z.fmod 26 = z % 26 := Int.fmod_eq_emod_of_nonneg _ (by decide)
theorem pure__law_names {ds : List D} {S : Sto} {Q : QD} {EX : EXT} (h : sp__law_names ds S Q EX) : t__law_names EX (endS Q) (startG ["_law_well", "_law_many", "_law_letters", "_law_first", "_law_base", "_law_k"] ds) S := by
  obtain ⟨w, k, n, rfl, hw, n4, q⟩ := h
  show t__law_names EX (endS Q) [some (.ref w), some (.int n), none, none, none, none] S
  unfold t__law_names
  walk_at "ev"
  refine ⟨w, k, 26, rfl, hw, by decide, by decide, fun v S1 a1 b1 t1 => ?_⟩
  refine ⟨trivial, ⟨by decide, by decide⟩, ?_⟩
  rw [show (7 : Int).toNat = 7 from rfl, span_map]
  refine (draw_A (fun c : Nat => D.str ⟨#[c]⟩) (Pr := fun _ c => 97 ≤ c ∧ c ≤ 122) (hw.to t1) (by decide) (fun i hi p acc S3 K w3 hK => ?_) bind1_mono (fun l S3 hl hc t3 => Or.inl ?_) : LcIn _ _ _ _ _ ((List.range 7).map fun i => D.int (i : Nat)) _ _)
  · refine inG_of (by show 5 < 6; decide) ?_
    walk_at "ev"
    refine ⟨w, k + 1, 26, rfl, wl_cons _ w3, by decide, by decide, fun v3 S4 a4 b4 t4 => ?_⟩
    obtain ⟨S5, rfl, t5⟩ := wst_cons t4
    exact letter a4 b4 (hK _ S5 ⟨by omega, by omega⟩ t5)
  have t3 := t1.trans t3
  refine ⟨l.map fun c => (⟨#[c]⟩ : PySem.Str), by rw [List.map_map]; rfl, ?_, ?_⟩
  · rw [List.map_map, List.length_map, hl]
    have : ((l.map ((fun x : PySem.Str => x.length) ∘ fun c => (⟨#[c]⟩ : PySem.Str))).sum) ≤ 7 := by
      have e : (l.map ((fun x : PySem.Str => x.length) ∘ fun c => (⟨#[c]⟩ : PySem.Str))) = List.replicate l.length 1 := by
        rw [List.eq_replicate_iff]
        refine ⟨by rw [List.length_map], fun b hb => ?_⟩
        obtain ⟨c, _, rfl⟩ := List.mem_map.mp hb
        rfl
      rw [e, List.sum_replicate_nat, hl]
      decide
    have e0 : ("" : PySem.Str).length = 0 := by decide +kernel
    rw [e0]
    omega
  have eb := join_signs l
  generalize Txt.join ("" : PySem.Str) (l.map fun c => (⟨#[c]⟩ : PySem.Str)) = base at eb
  have lb : base.length = 7 := by rw [len_tl, eb, hl]
  have hl7 : ∀ c ∈ l, 97 ≤ c ∧ c ≤ 122 := fun c hm => by
    obtain ⟨i, hi⟩ := List.mem_iff_getElem?.mp hm
    exact hc i c hi
  refine ⟨⟨by omega, by omega⟩, ?_⟩
  rw [Int.toNat_natCast, span_map]
  refine (draw_A D.str (Pr := fun _ s => nameB s = true) (hw.to t3) (by omega) (fun i hi p acc S4 K w4 hK => ?_) bind1_mono (fun ns S4 hns hp t4 => Or.inl ?_) : LcIn _ _ _ _ _ ((List.range n).map fun i => D.int (i : Nat)) _ _)
  · refine inG_of (by show 5 < 6; decide) ?_
    walk_at "ev"
    refine ⟨mul_ok_l (by decide), by decide, ?_⟩
    rw [fmod26]
    have h26 := Int.emod_lt_of_pos (v + 7 * (i : Nat)) (show (0 : Int) < 26 by decide)
    have h26' := Int.emod_nonneg (v + 7 * (i : Nat)) (show (26 : Int) ≠ 0 by decide)
    refine letter h26' h26 ?_
    refine ⟨w, k + 1, 8, rfl, wl_cons _ w4, by decide, by decide, fun v4 S5 a5 b5 t5 => ?_⟩
    obtain ⟨m, rfl⟩ : ∃ m : Nat, v4 = m := ⟨v4.toNat, by omega⟩
    obtain ⟨S6, rfl, t6⟩ := wst_cons t5
    refine isI_ofT ?_
    refine sl_str (by omega) fun s es => ?_
    have ls : s.length ≤ 7 := by rw [len_tl, es, List.length_take, ← len_tl]; omega
    refine add_str (by show 1 + s.length ≤ 16777216; omega) (hK _ S6 ?_ t6)
    refine name_cons (c := 97 + ((v + 7 * (i : Nat)) % 26).toNat) (l := l.take m) (by rw [tl_append, es, eb]; rfl) ⟨by omega, by omega⟩ (by rw [List.length_take]; omega) fun c hm => hl7 c (List.mem_of_mem_take hm)
  refine q ns S4 ⟨by omega, fun s hs => ?_⟩ hns (t3.trans t4)
  obtain ⟨i, hi⟩ := List.mem_iff_getElem?.mp hs
  exact hp i s hi
theorem wx_of {w : PySem.Str} (h : WdOk w) : WdX w := ⟨h.ok, Nat.le_trans h.le (by decide), h.sp⟩
theorem sgn_two {v : Int} {S : Sto} {Q : QD} (h0 : 0 ≤ v) (h1 : v < 2) (q : ∀ b, Q (.str (sgnW b)) S) : dIx (.lst [.str plusS, .str minusS]) (.int v) S Q := by
  have : v = 0 ∨ v = 1 := by omega
  rcases this with e | e
  · subst e; exact ⟨_, rfl, q false⟩
  · subst e; exact ⟨_, rfl, q true⟩
theorem add_ints {i j : Int} {S : Sto} {Q : QD} (q : Q (.int (i + j)) S) : dAdd (.int i) (.int j) S Q := q
theorem pure__law_terms {ds : List D} {S : Sto} {Q : QD} {EX : EXT} (h : sp__law_terms ds S Q EX) : t__law_terms EX (endS Q) (startG ["_law_well", "_law_names_here", "_law_words", "_law_k", "_law_sign"] ds) S := by
  obtain ⟨w, k, ns, rfl, hw, ⟨n4, nn⟩, n1, q⟩ := h
  show t__law_terms EX (endS Q) [some (.ref w), some (namD ns), none, none, none] S
  -- a number, a name
  have t3 : ∀ (p : Addr) (ws : List PySem.Str) (S1 : Sto) (o3 o4 : Option D) (E : DE) (m : Nat), Wst S S1 k w → AllW ws m → m ≤ 20 → (∀ ws' S2, AllW ws' (m + 1) → Wst S S2 k w → E.nx [some (.ref w), some (namD ns), some (.ref p), o3, o4] ((p, .lst (ws'.map D.str)) :: S2)) →
      ((sSeq (sEx (eMc .list mApp (eVar 2) (aCons (eOp dIx (eVar 1) (eFn sp__law_draw (kX EX) [] (aCons (eVar 0) (aCons (eCall dLen (aCons (eVar 1) aNil)) aNil)))) aNil)))
    sNext)) E [some (.ref w), some (namD ns), some (.ref p), o3, o4] ((p, .lst (ws.map D.str)) :: S1) := fun p ws S1 o3 o4 E m t W hm nx => by
    walk_at "ev"
    refine ⟨⟨0, _, rfl, trivial⟩, len_strs ?_⟩
    refine ⟨w, k + 1, _, rfl, wl_cons _ (hw.to t), by omega, by omega, fun a S2 a2 b2 t2 => ?_⟩
    obtain ⟨S3, rfl, t3⟩ := wst_cons t2
    obtain ⟨a, rfl⟩ : ∃ a' : Nat, a = a' := ⟨a.toNat, by omega⟩
    have ha : a < ns.length := by omega
    refine ix_word (List.getElem?_eq_getElem ha) (app_word (by have := W.1; omega) (nx _ S3 ⟨by rw [List.length_append]; have := W.1; show _ + 1 ≤ _; omega, fun s hs => ?_⟩ (t.trans t3)))
    rcases List.mem_append.mp hs with h | h
    · exact W.2 s h
    · rw [List.mem_singleton.mp h]
      exact wx_of (wd_name (nn _ (List.getElem_mem ha)))
  have t2 : ∀ (p : Addr) (ws : List PySem.Str) (S1 : Sto) (o3 o4 : Option D) (E : DE) (m : Nat), Wst S S1 k w → AllW ws m → m ≤ 15 → (∀ ws' S2, AllW ws' (m + 2) → Wst S S2 k w → E.nx [some (.ref w), some (namD ns), some (.ref p), o3, o4] ((p, .lst (ws'.map D.str)) :: S2)) →
      ((sSeq (sIf (tEq false (eFn sp__law_draw (kX EX) [] (aCons (eVar 0) (aCons (eC (.int 2)) aNil))) (eC (.int 0))) (sSeq (sEx (eMc .list mApp (eVar 2) (aCons (eCall dStrI (aCons (eOp dAdd (eC (.int 1)) (eFn sp__law_draw (kX EX) [] (aCons (eVar 0) (aCons (eOp dIx (eLst (aCons (eC (.int 9)) (aCons (eOp dPow (eC (.int 10)) (eC (.int 9))) aNil))) (eFn sp__law_draw (kX EX) [] (aCons (eVar 0) (aCons (eC (.int 2)) aNil)))) aNil)))) aNil)) aNil)))
    sNext) sNext)
    (sSeq (sEx (eMc .list mApp (eVar 2) (aCons (eOp dIx (eVar 1) (eFn sp__law_draw (kX EX) [] (aCons (eVar 0) (aCons (eCall dLen (aCons (eVar 1) aNil)) aNil)))) aNil)))
    sNext))) E [some (.ref w), some (namD ns), some (.ref p), o3, o4] ((p, .lst (ws.map D.str)) :: S1) := fun p ws S1 o3 o4 E m t W hm nx => by
    have t3 := t3
    generalize ((sSeq (sEx (eMc .list mApp (eVar 2) (aCons (eOp dIx (eVar 1) (eFn sp__law_draw (kX EX) [] (aCons (eVar 0) (aCons (eCall dLen (aCons (eVar 1) aNil)) aNil)))) aNil)))
    sNext)) = T at t3
    walk_at "ev"
    refine ⟨w, k + 1, 2, rfl, wl_cons _ (hw.to t), by decide, by decide, fun v S2 a2 b2 ta => ?_⟩
    obtain ⟨S3, rfl, tb⟩ := wst_cons ta
    have tc := t.trans tb
    refine int_dec ?_
    refine ⟨fun _ => ?_, fun _ => t3 p ws S3 o3 o4 E (m + 1) tc ⟨by have := W.1; omega, W.2⟩ (by omega) nx⟩
    refine ⟨⟨0, _, rfl, trivial⟩, ?_⟩
    refine ⟨by constructor <;> decide, ?_⟩
    refine fit_of (by show 2 ≤ 1000000; decide) (Or.inl ?_)
    refine ⟨w, k + 1, 2, rfl, wl_cons _ (hw.to tc), by decide, by decide, fun u S4 a4 b4 td => ?_⟩
    obtain ⟨S5, rfl, te⟩ := wst_cons td
    have tf := tc.trans te
    refine ix_mem a4 (by show u < 2; exact b4) fun d hd => ?_
    obtain ⟨c, hc0, hc1, rfl⟩ : ∃ c : Int, 0 < c ∧ c ≤ 10 ^ 9 ∧ d = .int c := by
      simp only [List.mem_cons, List.not_mem_nil, or_false] at hd
      rcases hd with e | e <;> subst e
      · exact ⟨9, by decide, by decide, rfl⟩
      · exact ⟨_, by decide, by decide, rfl⟩
    have hc2 : c ≤ 1000000000 := hc1
    refine ⟨w, k + 1, c, rfl, wl_cons _ (hw.to tf), hc0, by omega, fun y S6 a6 b6 tg => ?_⟩
    obtain ⟨S7, rfl, th⟩ := wst_cons tg
    obtain ⟨y, rfl⟩ : ∃ y' : Nat, y = y' := ⟨y.toNat, by omega⟩
    refine add_ints ?_
    rw [show (1 : Int) + (y : Int) = ((1 + y : Nat) : Int) by omega]
    have hy : 1 + y < 10 ^ 40 := Nat.lt_trans (show 1 + y < 10 ^ 10 by omega) (by decide)
    refine ⟨?_, app_word (by have := W.1; omega) ?_⟩
    · rw [Int.natAbs_natCast]
      have hy2 : 1 + y < 2 ^ 40 := by omega
      have := (Nat.log2_lt (by omega)).mpr hy2
      omega
    · refine t3 p _ S7 o3 o4 E (m + 1) (tf.trans th) ⟨by rw [List.length_append]; have := W.1; show _ + 1 ≤ _; omega, fun s hs => ?_⟩ (by omega) nx
      rcases List.mem_append.mp hs with h | h
      · exact W.2 s h
      · rw [List.mem_singleton.mp h]
        exact wx_of (wd_num hy)
  generalize hT : ((sSeq (sIf (tEq false (eFn sp__law_draw (kX EX) [] (aCons (eVar 0) (aCons (eC (.int 2)) aNil))) (eC (.int 0))) (sSeq (sEx (eMc .list mApp (eVar 2) (aCons (eCall dStrI (aCons (eOp dAdd (eC (.int 1)) (eFn sp__law_draw (kX EX) [] (aCons (eVar 0) (aCons (eOp dIx (eLst (aCons (eC (.int 9)) (aCons (eOp dPow (eC (.int 10)) (eC (.int 9))) aNil))) (eFn sp__law_draw (kX EX) [] (aCons (eVar 0) (aCons (eC (.int 2)) aNil)))) aNil)))) aNil)) aNil)))
    sNext) sNext)
    (sSeq (sEx (eMc .list mApp (eVar 2) (aCons (eOp dIx (eVar 1) (eFn sp__law_draw (kX EX) [] (aCons (eVar 0) (aCons (eCall dLen (aCons (eVar 1) aNil)) aNil)))) aNil)))
    sNext))) = T at t2
  unfold t__law_terms
  rw [hT]
  walk_at "ev"
  refine fit_of (by show 0 ≤ 1000000; decide) (Or.inr fun p => ?_)
  refine ⟨w, k + 1, 5, rfl, wl_cons _ hw, by decide, by decide, fun v S1 a1 b1 ta => ?_⟩
  obtain ⟨S2, rfl, tb⟩ := wst_cons ta
  obtain ⟨r, rfl⟩ : ∃ r : Nat, v = r := ⟨v.toNat, by omega⟩
  refine ⟨⟨by omega, by omega⟩, ?_⟩
  rw [show ((1 : Int) + (r : Int)).toNat = 1 + r by omega]
  refine ⟨fun i G S' => ∃ (ws : List PySem.Str) (S3 : Sto) (o3 o4 : Option D), G = [some (.ref w), some (namD ns), some (.ref p), o3, o4] ∧ S' = (p, .lst (ws.map D.str)) :: S3 ∧ AllW ws (3 * i) ∧ Wst S S3 k w, ⟨[], S2, none, none, rfl, rfl, ⟨Nat.zero_le _, (fun s hs => by cases hs)⟩, tb⟩, ?_, ?_⟩
  · rintro i d G S' hi ⟨ws, S3, o3, o4, rfl, rfl, W, t⟩
    rw [span_map] at hi
    obtain ⟨hi, rfl⟩ := range_get hi
    walk_at "ev"
    refine fit_of (by show 2 ≤ 1000000; decide) (Or.inl ?_)
    refine ⟨w, k + 1, 2, rfl, wl_cons _ (hw.to t), by decide, by decide, fun u S4 a4 b4 tc => ?_⟩
    obtain ⟨S5, rfl, td⟩ := wst_cons tc
    have te := t.trans td
    refine sgn_two a4 b4 fun b => ?_
    have yes : ∀ E : DE, (∀ ws' S2, AllW ws' (3 * i + 1 + 2) → Wst S S2 k w → E.nx [some (.ref w), some (namD ns), some (.ref p), some (.int (i : Nat)), some (.str (sgnW b))] ((p, Cel.lst (ws'.map D.str)) :: S2)) → tyOk .list (.ref p) ((p, .lst (ws.map D.str)) :: S5) ∧ mApp (.ref p) [.str (sgnW b)] ((p, .lst (ws.map D.str)) :: S5) fun _ S6 => T E [some (.ref w), some (namD ns), some (.ref p), some (.int (i : Nat)), some (.str (sgnW b))] S6 := fun E nx => by
      refine ⟨⟨0, _, rfl, trivial⟩, app_word (by have := W.1; omega) ?_⟩
      refine t2 p _ S5 _ _ E (3 * i + 1) te ⟨by rw [List.length_append]; have := W.1; show _ + 1 ≤ _; omega, fun s hs => ?_⟩ (by omega) nx
      rcases List.mem_append.mp hs with h | h
      · exact W.2 s h
      · rw [List.mem_singleton.mp h]
        exact wx_of (wd_sgn b)
    have no : ∀ E : DE, (∀ ws' S2, AllW ws' (3 * i + 1 + 2) → Wst S S2 k w → E.nx [some (.ref w), some (namD ns), some (.ref p), some (.int (i : Nat)), some (.str (sgnW b))] ((p, Cel.lst (ws'.map D.str)) :: S2)) → T E [some (.ref w), some (namD ns), some (.ref p), some (.int (i : Nat)), some (.str (sgnW b))] ((p, .lst (ws.map D.str)) :: S5) := fun E nx =>
      t2 p ws S5 _ _ E (3 * i + 1) te ⟨by have := W.1; omega, W.2⟩ (by omega) nx
    show (cmpI .Gt (i : Int) ((0 : Nat) : Int) = true → _) ∧ (cmpI .Gt (i : Int) ((0 : Nat) : Int) = false → _)
    have nx := fun (ws' : List PySem.Str) (S2 : Sto) (W' : AllW ws' (3 * i + 1 + 2)) (t' : Wst S S2 k w) => (⟨ws', S2, _, _, rfl, rfl, ⟨by have := W'.1; omega, W'.2⟩, t'⟩ : ∃ (ws : List PySem.Str) (S3 : Sto) (o3' o4' : Option D), [some (.ref w), some (namD ns), some (.ref p), some (.int (i : Nat)), some (.str (sgnW b))] = [some (.ref w), some (namD ns), some (.ref p), o3', o4'] ∧ (p, Cel.lst (ws'.map D.str)) :: S2 = (p, .lst (ws.map D.str)) :: S3 ∧ AllW ws (3 * (i + 1)) ∧ Wst S S3 k w)
    refine ⟨fun _ => ⟨fun _ => yes _ nx, fun z => (by cases z)⟩, fun _ => ?_⟩
    refine str_dec ?_
    exact ⟨fun _ => yes _ nx, fun _ => no _ nx⟩
  · rintro G S' ⟨ws, S3, o3, o4, rfl, rfl, W, t⟩
    rw [span_len] at W
    exact ⟨0, rfl, q ws S3 ⟨by have := W.1; omega, W.2⟩ t⟩
/-- words of at most n signs -/
structure WdC (n : Nat) (w : PySem.Str) : Prop where
  ok : ∀ k ∈ tl w, k < 256 ∧ k ≠ 32
  le : w.length ≤ n
theorem WdC.x {n : Nat} {w : PySem.Str} (h : WdC n w) (hn : n ≤ 100) : WdX w := ⟨strOk_of fun k hk => (h.ok k hk).1, Nat.le_trans h.le hn, fun hm => (h.ok 32 hm).2 rfl⟩
theorem WdC.cat {m n : Nat} {v w : PySem.Str} (h : WdC m v) (g : WdC n w) : WdC (m + n) (v ++ w) := by
  refine ⟨fun k hk => ?_, ?_⟩
  · rw [tl_append] at hk
    rcases List.mem_append.mp hk with e | e
    · exact h.ok k e
    · exact g.ok k e
  · rw [strLen_append]
    have := h.le
    have := g.le
    omega
theorem wc_name {x : PySem.Str} (h : nameB x = true) : WdC 8 x := by
  obtain ⟨_, h2, h3⟩ := nameB_iff.mp h
  exact ⟨fun k hk => by have := h3 k hk; omega, h2⟩
theorem up_abc : ∀ c, c < 123 → 97 ≤ c → Unicode.upperOf c = [c - 32] := by decide +kernel
theorem tl_upper (x : PySem.Str) : tl (Txt.upper x) = (tl x).flatMap Unicode.upperOf := by
  show ((x.cps.mapIdx fun _ c => (Unicode.upperOf c).toArray).flatten).toList = x.cps.toList.flatMap Unicode.upperOf
  rw [Array.toList_flatten, Array.toList_mapIdx]
  have e : (x.cps.toList.mapIdx fun _ c => (Unicode.upperOf c).toArray) = x.cps.toList.map fun c => (Unicode.upperOf c).toArray := by
    refine List.ext_getElem? fun i => ?_
    rw [List.getElem?_mapIdx, List.getElem?_map]
  rw [e, List.map_map, List.flatMap_def]
  rfl
theorem wc_upper {x : PySem.Str} (h : nameB x = true) : WdC 8 (Txt.upper x) := by
  obtain ⟨_, h2, h3⟩ := nameB_iff.mp h
  have e : tl (Txt.upper x) = (tl x).map fun c => c - 32 := by
    rw [tl_upper]
    have all : ∀ l : List Nat, (∀ c ∈ l, 97 ≤ c ∧ c ≤ 122) → l.flatMap Unicode.upperOf = l.map fun c => c - 32 := by
      intro l
      induction l with
      | nil => intro _; rfl
      | cons c r ih =>
        intro hl
        have hc := hl c (List.mem_cons_self ..)
        rw [List.flatMap_cons, ih fun d hd => hl d (List.mem_cons_of_mem _ hd), up_abc c (by omega) hc.1]
        rfl
    exact all _ h3
  refine ⟨fun k hk => ?_, ?_⟩
  · rw [e] at hk
    obtain ⟨c, hc, rfl⟩ := List.mem_map.mp hk
    have := h3 c hc
    omega
  · rw [len_tl, e, List.length_map, ← len_tl]
    exact h2
theorem wc_lit {w : PySem.Str} (h : ((tl w).all fun k => decide (k < 256) && !decide (k = 32)) = true) (n : Nat) (hn : w.length ≤ n) : WdC n w := ⟨fun k hk => by
  have := List.all_eq_true.mp h k hk
  simpa using this, hn⟩
theorem add_lst {xs ys : List D} {S : Sto} {Q : QD} (h : xs.length + ys.length ≤ 16777216) (q : Q (.lst (xs ++ ys)) S) : dAdd (.lst xs) (.lst ys) S Q := ⟨h, Or.inl q⟩
theorem len_lst91 {ds : List D} {S : Sto} {Q : QD} (q : Q (.int ds.length) S) : dLen [.lst ds] S Q := q
theorem itl_lst {xs : List D} {S : Sto} {P : List D → Pin → Prop} (q : P xs []) : itL (.lst xs) S P := q
theorem okd_of {x : PySem.Str} (h : WdX x) {d : D} (e : d = .str x) : ∃ y, WdX y ∧ d = .str y := ⟨x, h, e⟩
theorem pure__law_odd {ds : List D} {S : Sto} {Q : QD} {EX : EXT} (h : sp__law_odd ds S Q EX) : t__law_odd EX (endS Q) (startG ["_law_well", "_law_names_here", "_law_name", "_law_figures_here", "_law_some"] ds) S := by
  obtain ⟨w, k, ns, rfl, hw, ⟨n4, nn⟩, n1, q⟩ := h
  show t__law_odd EX (endS Q) [some (.ref w), some (namD ns), none, none, none] S
  unfold t__law_odd
  walk_at "ev"
  refine len_strs ?_
  refine ⟨w, k, _, rfl, hw, by omega, by omega, fun a S1 a1 b1 t1 => ?_⟩
  obtain ⟨a, rfl⟩ : ∃ a' : Nat, a = a' := ⟨a.toNat, by omega⟩
  have ha : a < ns.length := by omega
  refine ix_word (List.getElem?_eq_getElem ha) ?_
  have N := nn _ (List.getElem_mem ha)
  generalize ns[a] = x at N
  have l8 := (nameB_iff.mp N).2.1
  refine ⟨w, k, 4, rfl, hw.to t1, by decide, by decide, fun v S2 a2 b2 t2 => ?_⟩
  have t2 := t1.trans t2
  obtain ⟨v, rfl⟩ : ∃ v' : Nat, v = v' := ⟨v.toNat, by omega⟩
  obtain ⟨c, hc, hc2⟩ : ∃ c, (tl ("0369" : PySem.Str))[v]? = some c ∧ (48 ≤ c ∧ c ≤ 57) := by
    have e : tl ("0369" : PySem.Str) = [48, 51, 54, 57] := by decide +kernel
    rw [e]
    have hv : v = 0 ∨ v = 1 ∨ v = 2 ∨ v = 3 := by omega
    rcases hv with h | h | h | h <;> subst h <;> exact ⟨_, rfl, by decide, by decide⟩
  refine ⟨c, by decide +kernel, atI_nat hc, ?_⟩
  refine ⟨c, rfl, by decide, by decide, ?_⟩
  have wf : WdC 39 (⟨(List.replicate (39 : Int).toNat c).toArray⟩ : PySem.Str) := by
    refine ⟨fun k hk => ?_, by show (List.replicate 39 c).toArray.size ≤ 39; rw [List.size_toArray, List.length_replicate]; exact Nat.le_refl _⟩
    have : k = c := (List.mem_replicate.mp (show k ∈ List.replicate 39 c from hk)).2
    omega
  generalize (⟨(List.replicate (39 : Int).toNat c).toArray⟩ : PySem.Str) = fg at wf
  have lf := wf.le
  have w1 : WdC 1 ("1" : PySem.Str) := wc_lit (by decide +kernel) 1 (by decide +kernel)
  refine add_str (by have := w1.le; omega) ?_
  have w40 := w1.cat wf
  generalize ("1" : PySem.Str) ++ fg = fi at w40
  have lfi := w40.le
  have wx := wc_name N
  have cat : ∀ {y z : PySem.Str} {m n : Nat} {S : Sto} {Q : QD}, WdC m y → WdC n z → m + n ≤ 1000 → Q (.str (y ++ z)) S → dAdd (.str y) (.str z) S Q := fun {y z m n S Q} h g hl q => by
    refine add_str ?_ q
    have := h.le
    have := g.le
    omega
  have wqz : WdC 2 ("qz" : PySem.Str) := wc_lit (by decide +kernel) 2 (by decide +kernel)
  have w0 : WdC 1 ("0" : PySem.Str) := wc_lit (by decide +kernel) 1 (by decide +kernel)
  have w7 : WdC 1 ("7" : PySem.Str) := wc_lit (by decide +kernel) 1 (by decide +kernel)
  have w3 : WdC 1 ("3" : PySem.Str) := wc_lit (by decide +kernel) 1 (by decide +kernel)
  have wn : WdC 1 ("\n" : PySem.Str) := wc_lit (by decide +kernel) 1 (by decide +kernel)
  have wt : WdC 1 ("\t" : PySem.Str) := wc_lit (by decide +kernel) 1 (by decide +kernel)
  refine cat wx wqz (by decide) ?_
  refine cat wqz wx (by decide) ?_
  refine ⟨Nat.le_trans l8 (by decide), ?_⟩
  refine ⟨w, k, 20, rfl, hw.to t2, by decide, by decide, fun y S3 a3 b3 t3 => ?_⟩
  have t3 := t2.trans t3
  obtain ⟨y, rfl⟩ : ∃ y' : Nat, y = y' := ⟨y.toNat, by omega⟩
  refine ⟨?_, ?_⟩
  · rw [Int.natAbs_natCast]
    exact Nat.lt_of_le_of_lt (Nat.log2_le_self _) (by omega)
  have wy : WdC 40 (numW y) := by
    have hy : y < 10 ^ 40 := Nat.lt_trans (show y < 10 ^ 2 by omega) (by decide)
    refine ⟨fun k hk => ?_, (wd_num hy).le⟩
    rw [tl_num] at hk
    have := numL_digits y k hk
    omega
  refine cat w0 wy (by decide) ?_
  refine cat w40 w7 (by decide) ?_
  refine fit_of (by show 7 ≤ 1000000; decide) (Or.inl ?_)
  refine cat w3 wx (by decide) ?_
  refine cat wx w3 (by decide) ?_
  refine fit_of (by show 14 ≤ 1000000; decide) (Or.inl ?_)
  refine add_lst (by show 7 + 14 ≤ 16777216; decide) ?_
  refine cat wx wn (by decide) ?_
  refine cat wn wx (by decide) ?_
  refine cat wx wt (by decide) ?_
  refine fit_of (by show 6 ≤ 1000000; decide) (Or.inl ?_)
  refine add_lst (by show 21 + 6 ≤ 16777216; decide) ?_
  refine len_lst91 ?_
  have all : ∀ d ∈ ([D.str (x ++ "qz"), .str ("qz" ++ x), .str (Txt.upper x), .str ("0" ++ numW y), .str "0", .str fi, .str (fi ++ "7")] ++ [.str "+", .str "-", .str "", .str ":", .str ",", .str ("3" ++ x), .str (x ++ "3"), .str "--", .str "-3", .str "+3", .str "1.0", .str x, .str "12", .str "abcdefghi"]) ++ [.str (x ++ "\n"), .str ("\n" ++ x), .str "\n", .str "2\n", .str (x ++ "\t"), .str "+\n"], ∃ z, WdX z ∧ d = .str z := by
    intro d hd
    simp only [List.mem_append, List.mem_cons, List.not_mem_nil, or_false] at hd
    rcases hd with ((h | h | h | h | h | h | h) | (h | h | h | h | h | h | h | h | h | h | h | h | h | h)) | (h | h | h | h | h | h)
    · exact ⟨_, (wx.cat wqz).x (by decide), h⟩
    · exact ⟨_, (wqz.cat wx).x (by decide), h⟩
    · exact ⟨_, (wc_upper N).x (by decide), h⟩
    · exact ⟨_, (w0.cat wy).x (by decide), h⟩
    · exact ⟨_, w0.x (by decide), h⟩
    · exact ⟨_, w40.x (by decide), h⟩
    · exact ⟨_, (w40.cat w7).x (by decide), h⟩
    · exact ⟨_, (wc_lit (by decide +kernel) 9 (by decide +kernel)).x (by decide), h⟩
    · exact ⟨_, (wc_lit (by decide +kernel) 9 (by decide +kernel)).x (by decide), h⟩
    · exact ⟨_, (wc_lit (by decide +kernel) 9 (by decide +kernel)).x (by decide), h⟩
    · exact ⟨_, (wc_lit (by decide +kernel) 9 (by decide +kernel)).x (by decide), h⟩
    · exact ⟨_, (wc_lit (by decide +kernel) 9 (by decide +kernel)).x (by decide), h⟩
    · exact ⟨_, (w3.cat wx).x (by decide), h⟩
    · exact ⟨_, (wx.cat w3).x (by decide), h⟩
    · exact ⟨_, (wc_lit (by decide +kernel) 9 (by decide +kernel)).x (by decide), h⟩
    · exact ⟨_, (wc_lit (by decide +kernel) 9 (by decide +kernel)).x (by decide), h⟩
    · exact ⟨_, (wc_lit (by decide +kernel) 9 (by decide +kernel)).x (by decide), h⟩
    · exact ⟨_, (wc_lit (by decide +kernel) 9 (by decide +kernel)).x (by decide), h⟩
    · exact ⟨_, wx.x (by decide), h⟩
    · exact ⟨_, (wc_lit (by decide +kernel) 9 (by decide +kernel)).x (by decide), h⟩
    · exact ⟨_, (wc_lit (by decide +kernel) 9 (by decide +kernel)).x (by decide), h⟩
    · exact ⟨_, (wx.cat wn).x (by decide), h⟩
    · exact ⟨_, (wn.cat wx).x (by decide), h⟩
    · exact ⟨_, wn.x (by decide), h⟩
    · exact ⟨_, (wc_lit (by decide +kernel) 9 (by decide +kernel)).x (by decide), h⟩
    · exact ⟨_, (wx.cat wt).x (by decide), h⟩
    · exact ⟨_, (wc_lit (by decide +kernel) 9 (by decide +kernel)).x (by decide), h⟩
  refine ⟨w, k, 27, rfl, hw.to t3, by decide, by decide, fun u S4 a4 b4 t4 => ?_⟩
  refine ix_mem a4 (by show u < 27; exact b4) fun d hd => ?_
  obtain ⟨z, hz, rfl⟩ := all d hd
  exact q z S4 hz (t3.trans t4)
theorem cut_dp (l : List D) (n : Nat) : DL.cutD l (some (n : Int)) none = l.drop n := by
  unfold DL.cutD
  rw [HT.sIx_nat, HT.sIx_none]
  by_cases h : n ≤ l.length
  · rw [Nat.min_eq_left h, List.take_of_length_le (by rw [List.length_drop]; omega)]
  · rw [Nat.min_eq_right (by omega), List.drop_length, List.drop_of_length_le (by omega), List.take_nil]
theorem cut_md (l : List D) (a b : Nat) (h : a ≤ l.length) (hb : a ≤ b) : DL.cutD l (some (a : Int)) (some (b : Int)) = (l.drop a).take (b - a) := by
  unfold DL.cutD
  rw [HT.sIx_nat, HT.sIx_nat, Nat.min_eq_left h]
  by_cases h2 : b ≤ l.length
  · rw [Nat.min_eq_left h2]
  · rw [Nat.min_eq_right (by omega), List.take_of_length_le (by rw [List.length_drop]; omega), List.take_of_length_le (by rw [List.length_drop]; omega)]
theorem pure__law_spoilt {ds : List D} {S : Sto} {Q : QD} {EX : EXT} (h : sp__law_spoilt ds S Q EX) : t__law_spoilt EX (endS Q) (startG ["_law_well", "_law_words", "_law_names_here", "_law_at", "_law_way"] ds) S := by
  obtain ⟨w, k, m, ws, ns, rfl, hw, N, n1, hm, ⟨lm, W⟩, q⟩ := h
  show t__law_spoilt EX (endS Q) [some (.ref w), some (namD ws), some (namD ns), none, none] S
  unfold t__law_spoilt
  walk_at "ev"
  refine len_strs ?_
  refine add_ints ?_
  refine ⟨w, k, _, rfl, hw, by omega, by omega, fun a S1 a1 b1 t1 => ?_⟩
  obtain ⟨a, rfl⟩ : ∃ a' : Nat, a = a' := ⟨a.toNat, by omega⟩
  have ha : a ≤ ws.length := by omega
  refine ⟨w, k, 4, rfl, hw.to t1, by decide, by decide, fun v S2 a2 b2 t2 => ?_⟩
  have t2 := t1.trans t2
  have e1 : DL.cutD (ws.map D.str) none (some (a : Int)) = (ws.take a).map D.str := by rw [cut_tk, List.map_take]
  have e2 : DL.cutD (ws.map D.str) (some (a : Int)) none = (ws.drop a).map D.str := by rw [cut_dp, List.map_drop]
  have e3 : DL.cutD (ws.map D.str) (some ((a : Int) + 1)) none = (ws.drop (a + 1)).map D.str := by
    have := cut_dp (ws.map D.str) (a + 1)
    rw [← List.map_drop] at this
    exact this
  have e4 : DL.cutD (ws.map D.str) (some (a : Int)) (some ((a : Int) + 1)) = ((ws.drop a).take 1).map D.str := by
    have := cut_md (ws.map D.str) a (a + 1) (by rw [List.length_map]; exact ha) (by omega)
    rw [show a + 1 - a = 1 by omega, ← List.map_drop, ← List.map_take] at this
    exact this
  have i1 : ∀ s ∈ ws.take a, WdX s := fun s h => W s (List.mem_of_mem_take h)
  have i2 : ∀ s ∈ ws.drop a, WdX s := fun s h => W s (List.mem_of_mem_drop h)
  have i3 : ∀ s ∈ ws.drop (a + 1), WdX s := fun s h => W s (List.mem_of_mem_drop h)
  have i4 : ∀ s ∈ (ws.drop a).take 1, WdX s := fun s h => W s (List.mem_of_mem_drop (List.mem_of_mem_take h))
  have l1 : (ws.take a).length ≤ a := by rw [List.length_take]; omega
  have l2 : (ws.drop a).length = ws.length - a := List.length_drop ..
  have l3 : (ws.drop (a + 1)).length ≤ ws.length - a := by rw [List.length_drop]; omega
  have l4 : ((ws.drop a).take 1).length ≤ 1 := by rw [List.length_take]; omega
  have add : ∀ {us vs : List PySem.Str} {S : Sto} {Q : QD}, us.length ≤ 1000 → vs.length ≤ 1000 → Q (namD (us ++ vs)) S → dAdd (namD us) (namD vs) S Q := fun {us vs S Q} h g q => by
    refine add_lst (by rw [List.length_map, List.length_map]; omega) ?_
    rw [← List.map_append]
    exact q
  have app : ∀ {us vs : List PySem.Str}, (∀ s ∈ us, WdX s) → (∀ s ∈ vs, WdX s) → ∀ s ∈ us ++ vs, WdX s := fun {us vs} h g s hs => (List.mem_append.mp hs).elim (h s) (g s)
  refine int_dec ⟨fun _ => ?_, fun _ => ?_⟩
  · refine isI_ofT (sl_lst ?_)
    rw [e1]
    refine add_ints (isI_ofT (sl_lst ?_))
    rw [e3]
    refine add (by omega) (by omega) ?_
    exact q _ S2 ⟨by rw [List.length_append]; omega, app i1 i3⟩ t2
  refine int_dec ⟨fun _ => ?_, fun _ => ?_⟩
  · refine isI_ofT (sl_lst ?_)
    rw [e1]
    refine ⟨w, k, ns, rfl, hw.to t2, N, n1, fun x S3 hx t3 => ?_⟩
    refine fit_of (by show 1 ≤ 1000000; decide) (Or.inl ?_)
    have ix : ∀ s ∈ [x], WdX s := fun s h => by rw [List.mem_singleton.mp h]; exact hx
    refine add (us := ws.take a) (vs := [x]) (by omega) (by show 1 ≤ 1000; decide) ?_
    refine isI_ofT (sl_lst ?_)
    rw [e2]
    refine add (by rw [List.length_append]; show _ + 1 ≤ _; omega) (by omega) ?_
    exact q _ S3 ⟨by rw [List.length_append, List.length_append]; show _ + 1 + _ ≤ _; omega, app (app i1 ix) i2⟩ (t2.trans t3)
  refine int_dec ⟨fun _ => ?_, fun _ => ?_⟩
  · refine isI_ofT (sl_lst ?_)
    rw [e1]
    refine isI_ofT (add_ints (isI_ofT (sl_lst ?_)))
    rw [e4]
    refine add (by omega) (by omega) ?_
    refine isI_ofT (sl_lst ?_)
    rw [e2]
    refine add (by rw [List.length_append]; omega) (by omega) ?_
    exact q _ S2 ⟨by rw [List.length_append, List.length_append]; omega, app (app i1 i4) i2⟩ t2
  · refine isI_ofT (sl_lst ?_)
    rw [e1]
    refine ⟨w, k, ns, rfl, hw.to t2, N, n1, fun x S3 hx t3 => ?_⟩
    refine fit_of (by show 1 ≤ 1000000; decide) (Or.inl ?_)
    have ix : ∀ s ∈ [x], WdX s := fun s h => by rw [List.mem_singleton.mp h]; exact hx
    refine add (us := ws.take a) (vs := [x]) (by omega) (by show 1 ≤ 1000; decide) ?_
    refine add_ints (isI_ofT (sl_lst ?_))
    rw [e3]
    refine add (by rw [List.length_append]; show _ + 1 ≤ _; omega) (by omega) ?_
    exact q _ S3 ⟨by rw [List.length_append, List.length_append]; show _ + 1 + _ ≤ _; omega, app (app i1 ix) i3⟩ (t2.trans t3)
theorem pure__law_figures {ds : List D} {S : Sto} {Q : QD} {EX : EXT} (h : sp__law_figures ds S Q EX) : t__law_figures EX (endS Q) (startG ["_law_word", "_law_sign"] ds) S := by
  obtain ⟨z, rfl, hz, q⟩ := h
  show t__law_figures EX (endS Q) [some (.str z), none] S
  unfold t__law_figures
  walk_at "ev"
  refine str_dec ?_
  rw [if_neg Bool.false_ne_true]
  have no : ¬ (((decide (1 ≤ z.length) && decide (z.length ≤ 40)) && (tl z).all fun k => decide (k ∈ tl figS)) = true ∧ ¬ (tl z).head? = some 48) → Q (.bl false) S := fun h => by
    have e : numIn z = none := if_neg h
    rw [e] at q
    exact q
  by_cases h0 : z = ("" : PySem.Str)
  · rw [decide_eq_true h0]
    have l0 : z.length = 0 := by rw [h0]; decide +kernel
    exact ⟨fun _ => ⟨fun _ => no fun h => by rw [l0] at h; exact absurd h.1 (by simp), fun z => (by cases z)⟩, fun z => (by cases z)⟩
  · rw [decide_eq_false h0]
    refine ⟨fun z => (by cases z), fun _ => ?_⟩
    have l1 : 1 ≤ z.length := by
      by_cases h : 1 ≤ z.length
      · exact h
      · refine absurd (ext_tl ?_) h0
        rw [show tl ("" : PySem.Str) = [] by decide +kernel]
        exact List.eq_nil_of_length_eq_zero (by rw [← len_tl]; omega)
    refine ⟨by show z.length ≤ 16777216; omega, ?_⟩
    have e40 : cmpI .Gt (z.length : Int) ((40 : Nat) : Int) = decide (40 < z.length) := gt_int _ _
    show (cmpI .Gt (z.length : Int) ((40 : Nat) : Int) = true → _) ∧ (cmpI .Gt (z.length : Int) ((40 : Nat) : Int) = false → _)
    rw [e40]
    by_cases h40 : 40 < z.length
    · rw [decide_eq_true h40]
      exact ⟨fun _ => ⟨fun _ => no fun h => by
        have := h.1
        rw [decide_eq_false (show ¬ z.length ≤ 40 by omega)] at this
        simp at this, fun z => (by cases z)⟩, fun z => (by cases z)⟩
    · rw [decide_eq_false h40]
      refine ⟨fun z => (by cases z), fun _ => ?_⟩
      obtain ⟨k, r, e⟩ : ∃ k r, tl z = k :: r := by
        cases e : tl z with
        | nil => rw [len_tl, e] at l1; cases l1
        | cons k r => exact ⟨k, r, rfl⟩
      refine ⟨k, by show z.length ≤ 16777216; omega, ?_, ?_⟩
      · show atI (tl z) ((0 : Nat) : Int) = some k
        exact atI_nat (by rw [e]; rfl)
      refine str_dec ?_
      have eq : (decide ((⟨#[k]⟩ : PySem.Str) = zeroS)) = decide ((tl z).head? = some 48) := by
        congr 1
        rw [e]
        refine propext ⟨fun h => ?_, fun h => ?_⟩
        · have : tl (⟨#[k]⟩ : PySem.Str) = tl zeroS := by rw [h]
          rw [tl_zero] at this
          have : [k] = [48] := this
          rw [List.head?_cons]
          exact congrArg some (List.head_eq_of_cons_eq this)
        · have : k = 48 := Option.some.inj h
          subst this
          exact ext_tl (by rw [tl_zero])
      rw [if_neg Bool.false_ne_true, show decide ((⟨#[k]⟩ : PySem.Str) = ("0" : PySem.Str)) = decide ((tl z).head? = some 48) from eq]
      by_cases h48 : (tl z).head? = some 48
      · rw [decide_eq_true h48]
        exact ⟨fun _ => no fun h => h.2 h48, fun z => (by cases z)⟩
      · rw [decide_eq_false h48]
        refine ⟨fun z => (by cases z), fun _ => ?_⟩
        have hl : (tl z).length ≤ 1000000 := by rw [← len_tl]; omega
        refine (lcx_M (xs := tl z) (src := fun k => D.str ⟨#[k]⟩) (fun k => D.bl (decide (k ∈ tl figS))) .nil hl (fun k hk p acc K hK => ?_) bind1_mono (Or.inl ?_) : LcInX _ _ _ _ _ (signs z) _ _ _)
        · refine inG_of (by show 1 < 2; decide) ?_
          exact ⟨k, rfl, hK⟩
        · refine ⟨(tl z).map fun k => decide (k ∈ tl figS), by rw [List.map_map]; rfl, ?_⟩
          rw [all_map]
          have e : (numIn z).isSome = (tl z).all fun k => decide (k ∈ tl figS) := by
            cases ha : (tl z).all fun k => decide (k ∈ tl figS) with
            | true =>
              have : numIn z = some ((NumText.digitsVal (tl z) : Nat) : Int) := if_pos ⟨by rw [decide_eq_true l1, decide_eq_true (show z.length ≤ 40 by omega), ha]; rfl, h48⟩
              rw [this]
              rfl
            | false =>
              have : numIn z = none := if_neg fun h => by
                have := h.1
                rw [ha] at this
                simp at this
              rw [this]
              rfl
          rw [← e]
          exact q
/-! ### the law's walk -/
def WkI (ns ws : List PySem.Str) (R : Except Nat Tms) (i : Nat) (wants : PySem.Str) (s m : Int) (acc : Tms) : Prop := ∃ f, ws.length < f + i ∧ (
  (wants = "begin" ∧ i = 0 ∧ s = 1 ∧ m = 1 ∧ acc = [] ∧ R = termsF (some ns) ws.length f true ws) ∨
  (wants = "sign" ∧ s = 1 ∧ m = 1 ∧ R = addT acc (termsF (some ns) ws.length f false (ws.drop i))) ∨
  (wants = "term" ∧ m = 1 ∧ R = addT acc (afterS (some ns) ws.length f s (ws.drop i))) ∨
  (wants = "name" ∧ R = addT acc (afterN (some ns) ws.length f (s * m) (ws.drop i))))
theorem kind_all {ns : List PySem.Str} (nn : ∀ s ∈ ns, nameB s = true) (w : PySem.Str) : kindB (some ns) w = decide (w ∈ ns) := by
  show (nameB w && decide (w ∈ ns)) = _
  by_cases h : w ∈ ns
  · rw [nn w h]
    rfl
  · rw [decide_eq_false h, Bool.and_false]
theorem afterN_in {ns : List PySem.Str} {n f : Nat} {sm : Int} {w : PySem.Str} {r : List PySem.Str} (nn : ∀ s ∈ ns, nameB s = true) (h : w ∈ ns) : afterN (some ns) n f sm (w :: r) = addT [(sm, w)] (termsF (some ns) n f false r) := by
  show (if kindB (some ns) w = true then _ else _) = _
  rw [kind_all nn, decide_eq_true h, if_pos rfl]
theorem afterN_out {ns : List PySem.Str} {n f : Nat} {sm : Int} {w : PySem.Str} {r : List PySem.Str} (nn : ∀ s ∈ ns, nameB s = true) (h : w ∉ ns) : afterN (some ns) n f sm (w :: r) = .error (n - (r.length + 1)) := by
  show (if kindB (some ns) w = true then addT [(sm, w)] (termsF (some ns) n f false r) else .error (n - (w :: r).length)) = _
  rw [kind_all nn, decide_eq_false h, if_neg Bool.false_ne_true]
  rfl
theorem afterS_num {ns : List PySem.Str} {n f : Nat} {s m : Int} {w : PySem.Str} {r : List PySem.Str} (h : numIn w = some m) : afterS (some ns) n f s (w :: r) = afterN (some ns) n f (s * m) r := by
  have e : skipN (w :: r) = (m, r) := by
    show (match numIn w with | some n => (n, r) | none => (1, w :: r)) = _
    rw [h]
  unfold afterS
  rw [e]
theorem afterS_no {ns : List PySem.Str} {n f : Nat} {s : Int} {w : PySem.Str} {r : List PySem.Str} (h : numIn w = none) : afterS (some ns) n f s (w :: r) = afterN (some ns) n f (s * 1) (w :: r) := by
  have e : skipN (w :: r) = (1, w :: r) := by
    show (match numIn w with | some n => (n, r) | none => (1, w :: r)) = _
    rw [h]
  unfold afterS
  rw [e]
theorem terms_sgn {ns : List PySem.Str} {n f : Nat} {first : Bool} {w : PySem.Str} {r r1 : List PySem.Str} {s : Int} (h : skipS first (w :: r) = some (s, r1)) : termsF (some ns) n (f + 1) first (w :: r) = afterS (some ns) n f s r1 := by
  rw [termsF_succ _ _ _ _ _ (fun z => by cases z.2), h]
theorem terms_bad {ns : List PySem.Str} {n f : Nat} {w : PySem.Str} {r : List PySem.Str} (h1 : w ≠ minusS) (h2 : w ≠ plusS) : termsF (some ns) n (f + 1) false (w :: r) = .error (n - (r.length + 1)) := by
  rw [termsF_succ _ _ _ _ _ (fun z => by cases z.2)]
  have : skipS false (w :: r) = none := by
    unfold skipS
    simp only
    rw [if_neg h1, if_neg Bool.false_ne_true, if_neg h2]
  rw [this]
  rfl
/-- the walk's end -/
theorem WkI.stop {ns ws : List PySem.Str} {R : Except Nat Tms} {i : Nat} {wants : PySem.Str} {s m : Int} {acc : Tms} (h : WkI ns ws R i wants s m acc) (hi : i = ws.length) : (wants = "sign" ∧ R = .ok acc) ∨ (wants ≠ "sign" ∧ R = .error ws.length) := by
  have e1 : ws.drop i = [] := List.drop_eq_nil_of_le (by omega)
  obtain ⟨f, hf, ⟨h1, h2, h3, h4, h5, h6⟩ | ⟨h1, h2, h3, h4⟩ | ⟨h1, h2, h3⟩ | ⟨h1, h2⟩⟩ := h
  · refine .inr ⟨by rw [h1]; decide +kernel, ?_⟩
    have e : ws = [] := List.eq_nil_of_length_eq_zero (by omega)
    subst e
    cases f with
    | zero => exact absurd hf (by omega)
    | succ f => rw [h6]; rfl
  · refine .inl ⟨h1, ?_⟩
    rw [h4, e1, termsF_end]
    show Except.ok (acc ++ []) = _
    rw [List.append_nil]
  · refine .inr ⟨by rw [h1]; decide +kernel, ?_⟩
    rw [h3, e1]
    rfl
  · refine .inr ⟨by rw [h1]; decide +kernel, ?_⟩
    rw [h2, e1]
    rfl
/-- what a word does to the walk -/
inductive WkS (ns ws : List PySem.Str) (R : Except Nat Tms) (i : Nat) (w : PySem.Str) (wants : PySem.Str) (s m : Int) (acc : Tms) : Prop where
  | sgn (h : wants = "begin" ∧ w = minusS ∨ wants = "sign" ∧ (w = minusS ∨ w = plusS)) (k : WkI ns ws R (i + 1) "term" (if w = minusS then -1 else 1) m acc)
  | num (h1 : ¬ (wants = "begin" ∧ w = minusS ∨ wants = "sign" ∧ (w = minusS ∨ w = plusS))) (h : wants = "begin" ∨ wants = "term") (n : Int) (e : numIn w = some n) (k : WkI ns ws R (i + 1) "name" s n acc)
  | nam (h1 : ¬ (wants = "begin" ∧ w = minusS ∨ wants = "sign" ∧ (w = minusS ∨ w = plusS))) (h2 : ¬ ((wants = "begin" ∨ wants = "term") ∧ (numIn w).isSome = true)) (h : wants ≠ "sign") (hm : w ∈ ns) (k : WkI ns ws R (i + 1) "sign" 1 1 (acc ++ [(s * m, w)]))
  | bad (h1 : ¬ (wants = "begin" ∧ w = minusS ∨ wants = "sign" ∧ (w = minusS ∨ w = plusS))) (h2 : ¬ ((wants = "begin" ∨ wants = "term") ∧ (numIn w).isSome = true)) (h : ¬ (wants ≠ "sign" ∧ w ∈ ns)) (k : R = .error i)
theorem bg_sg : ("begin" : PySem.Str) ≠ "sign" := by decide +kernel
theorem bg_tm : ("begin" : PySem.Str) ≠ "term" := by decide +kernel
theorem tm_sg : ("term" : PySem.Str) ≠ "sign" := by decide +kernel
theorem sg_tm : ("sign" : PySem.Str) ≠ "term" := by decide +kernel
theorem nm_sg : ("name" : PySem.Str) ≠ "sign" := by decide +kernel
theorem nm_bg : ("name" : PySem.Str) ≠ "begin" := by decide +kernel
theorem nm_tm : ("name" : PySem.Str) ≠ "term" := by decide +kernel
theorem WkI.step {ns ws : List PySem.Str} {R : Except Nat Tms} {i : Nat} {wants w : PySem.Str} {s m : Int} {acc : Tms} (nn : ∀ s ∈ ns, nameB s = true) (H : WkI ns ws R i wants s m acc) (hw : ws[i]? = some w) : WkS ns ws R i w wants s m acc := by
  have hi : i < ws.length := (List.getElem?_eq_some_iff.mp hw).1
  have e1 := drop_get hw
  have el : ws.length - ((ws.drop (i + 1)).length + 1) = i := by rw [List.length_drop]; omega
  obtain ⟨f, hf, h⟩ := H
  -- behind a sign
  have aft : ∀ (g : Nat) (s1 : Int), ws.length < g + (i + 1) → s1 = s → m = 1 → R = addT acc (afterS (some ns) ws.length g s1 (w :: ws.drop (i + 1))) → wants = "begin" ∧ w ≠ minusS ∨ wants = "term" → WkS ns ws R i w wants s m acc := fun g s1 hg es em hR hwn => by
    subst es em
    have n1 : ¬ (wants = "begin" ∧ w = minusS ∨ wants = "sign" ∧ (w = minusS ∨ w = plusS)) := by
      rintro (⟨a, b⟩ | ⟨a, _⟩)
      · rcases hwn with ⟨_, h⟩ | h
        · exact h b
        · exact bg_tm (a.symm.trans h)
      · rcases hwn with ⟨h, _⟩ | h
        · exact bg_sg (h.symm.trans a)
        · exact tm_sg (h.symm.trans a)
    have bt : wants = "begin" ∨ wants = "term" := hwn.imp (fun h => h.1) id
    have nsg : wants ≠ "sign" := fun e => by
      rcases bt with h | h
      · exact bg_sg (h.symm.trans e)
      · exact tm_sg (h.symm.trans e)
    cases hn : numIn w with
    | some n =>
      rw [afterS_num hn] at hR
      exact .num n1 bt n hn ⟨g, hg, .inr (.inr (.inr ⟨rfl, hR⟩))⟩
    | none =>
      rw [afterS_no hn] at hR
      have n2 : ¬ ((wants = "begin" ∨ wants = "term") ∧ (numIn w).isSome = true) := fun h => by rw [hn] at h; cases h.2
      by_cases hm : w ∈ ns
      · rw [afterN_in nn hm, addT_addT] at hR
        exact .nam n1 n2 nsg hm ⟨g, hg, .inr (.inl ⟨rfl, rfl, rfl, hR⟩)⟩
      · rw [afterN_out nn hm, el] at hR
        exact .bad n1 n2 (fun h => hm h.2) hR
  rcases h with ⟨h1, h2, h3, h4, h5, h6⟩ | ⟨h1, h2, h3, h4⟩ | ⟨h1, h2, h3⟩ | ⟨h1, h2⟩
  · subst h2
    rw [List.drop_zero] at e1
    obtain ⟨g, rfl⟩ : ∃ g, f = g + 1 := ⟨f - 1, by omega⟩
    by_cases hm : w = minusS
    · subst hm
      refine .sgn (.inl ⟨h1, rfl⟩) ⟨g, by omega, .inr (.inr (.inl ⟨rfl, h4, ?_⟩))⟩
      rw [if_pos rfl, h6, h5, addT_nil]
      have := terms_sgn (ns := ns) (n := ws.length) (f := g) (skipS_minus true (ws.drop 1))
      rw [← this]
      congr 1
    · refine aft g 1 (by omega) h3.symm h4 ?_ (.inl ⟨h1, hm⟩)
      rw [h6, h5, addT_nil]
      have := terms_sgn (ns := ns) (n := ws.length) (f := g) (skipS_first hm (ws.drop 1))
      rw [← this]
      congr 1
  · obtain ⟨g, rfl⟩ : ∃ g, f = g + 1 := ⟨f - 1, by omega⟩
    rw [e1] at h4
    by_cases hm : w = minusS
    · subst hm
      refine .sgn (.inr ⟨h1, .inl rfl⟩) ⟨g, by omega, .inr (.inr (.inl ⟨rfl, h3, ?_⟩))⟩
      rw [if_pos rfl, h4, terms_sgn (skipS_minus false _)]
    · by_cases hp : w = plusS
      · subst hp
        refine .sgn (.inr ⟨h1, .inr rfl⟩) ⟨g, by omega, .inr (.inr (.inl ⟨rfl, h3, ?_⟩))⟩
        rw [if_neg plus_ne_minus, h4, terms_sgn (skipS_plus _)]
      · rw [terms_bad hm hp, el] at h4
        refine .bad ?_ ?_ (fun h => h.1 h1) h4
        · rintro (⟨a, _⟩ | ⟨_, b⟩)
          · exact bg_sg (a.symm.trans h1)
          · exact b.elim hm hp
        · rintro ⟨a | a, _⟩
          · exact bg_sg (a.symm.trans h1)
          · exact tm_sg (a.symm.trans h1)
  · rw [e1] at h3
    exact aft f s (by omega) rfl h2 h3 (.inr h1)
  · rw [e1] at h2
    have n1 : ¬ (wants = "begin" ∧ w = minusS ∨ wants = "sign" ∧ (w = minusS ∨ w = plusS)) := by
      rintro (⟨a, _⟩ | ⟨a, _⟩)
      · exact nm_bg (h1.symm.trans a)
      · exact nm_sg (h1.symm.trans a)
    have n2 : ¬ ((wants = "begin" ∨ wants = "term") ∧ (numIn w).isSome = true) := by
      rintro ⟨a | a, _⟩
      · exact nm_bg (h1.symm.trans a)
      · exact nm_tm (h1.symm.trans a)
    by_cases hm : w ∈ ns
    · rw [afterN_in nn hm, addT_addT] at h2
      exact .nam n1 n2 (fun e => nm_sg (h1.symm.trans e)) hm ⟨f, by omega, .inr (.inl ⟨rfl, rfl, rfl, h2⟩)⟩
    · rw [afterN_out nn hm, el] at h2
      exact .bad n1 n2 (fun h => hm h.2) h2
theorem NmV.idx {x : D} {ns : List PySem.Str} (h : x = .lst (ns.map D.str)) : True := trivial
theorem tokL {xs : List D} {S : Sto} : tyOk .list (.lst xs) S := trivial
theorem two_in {a b z : PySem.Str} {neg : Bool} {S : Sto} {Q : Bool → Sto → Prop} (q : Q (if neg then !decide (z ∈ [a, b]) else decide (z ∈ [a, b])) S) : dIn neg (.str z) (.tup [.str a, .str b]) S Q := in_names (ns := [a, b]) (.inr rfl) q
theorem add_flag {n : Int} {b : Bool} {S : Sto} {Q : QD} (q : Q (.int (n + if b = true then 1 else 0)) S) : dInt [.bl b] S fun y S2 => dAdd (.int n) y S2 Q := q
theorem walk_turn {S : Sto} {EX : EXT} {E : DE} {ws ns : List PySem.Str} {R : Except Nat Tms} {i : Nat} {w wants : PySem.Str} {s m : Int} {acc : Tms} {p : Addr} {o8 o9 : Option D} (nn : ∀ s ∈ ns, nameB s = true) (H : WkS ns ws R i w wants s m acc) (hs : s.natAbs ≤ 1) (hx : WdX w)
    (nx : ∀ (wants' : PySem.Str) (s' m' : Int) (acc' : Tms) (o8 o9 : Option D), WkI ns ws R (i + 1) wants' s' m' acc' → s'.natAbs ≤ 1 → E.nx [some (namD ws), some (namD ns), some (.ref p), some (.str wants'), some (.int s'), some (.int m'), some (.int (i : Nat)), some (.str w), o8, o9] ((p, .lst ((sumT ns acc').map D.int)) :: S))
    (bad : R = .error i → E.rt (.tup [.str "at", .int (i : Nat)]) ((p, .lst ((sumT ns acc).map D.int)) :: S)) :
    ((sSeq (sSet 8 (eSl (eLst (aCons (eC (.str ("-" : PySem.Str))) (aCons (eC (.str ("+" : PySem.Str))) aNil))) oNo (oSome (eOp dAdd (eC (.int 1)) (eCall dInt (aCons (eEq false (eVar 3) (eC (.str ("sign" : PySem.Str)))) aNil))))))
    (sSeq (sIf (tAn (tIn false (eVar 3) (eTup (aCons (eC (.str ("begin" : PySem.Str))) (aCons (eC (.str ("sign" : PySem.Str))) aNil)))) (tIn false (eVar 7) (eVar 8))) (sSeq (sSet 4 (eOp dIx (eLst (aCons (eC (.int 1)) (aCons (eUn dNeg (eC (.int 1))) aNil))) (eCall dInt (aCons (eEq false (eVar 7) (eC (.str ("-" : PySem.Str)))) aNil))))
    (sSeq (sSet 3 (eC (.str ("term" : PySem.Str))))
    sNext)) (sSeq (sIf (tAn (tIn false (eVar 3) (eTup (aCons (eC (.str ("begin" : PySem.Str))) (aCons (eC (.str ("term" : PySem.Str))) aNil)))) (tVal (eFn sp__law_figures (kX EX) [] (aCons (eVar 7) aNil)))) (sSeq (sSet 5 (eCall dIntS (aCons (eVar 7) aNil)))
    (sSeq (sSet 3 (eC (.str ("name" : PySem.Str))))
    sNext)) (sSeq (sIf (tAn (tEq true (eVar 3) (eC (.str ("sign" : PySem.Str)))) (tIn false (eVar 7) (eVar 1))) (sSeq (sSet 9 (eMc .list mIdx (eVar 1) (aCons (eVar 7) aNil)))
    (sSeq (sAsg (eOp dAdd (eOp dIx (eVar 2) (eVar 9)) (eOp dMul (eVar 4) (eVar 5))) (gIx (eVar 2) (eVar 9)))
    (sSeq (sAsg (eTup (aCons (eC (.int 1)) (aCons (eC (.int 1)) (aCons (eC (.str ("sign" : PySem.Str))) aNil)))) (gTp 3 (gsCons (gNm 4) (gsCons (gNm 5) (gsCons (gNm 3) gsNil)))))
    sNext))) (sSeq (sRet (eTup (aCons (eC (.str ("at" : PySem.Str))) (aCons (eVar 6) aNil))))
    sNext))
    sNext))
    sNext))
    sNext))) E [some (namD ws), some (namD ns), some (.ref p), some (.str wants), some (.int s), some (.int m), some (.int (i : Nat)), some (.str w), o8, o9] ((p, .lst ((sumT ns acc).map D.int)) :: S) := by
  have t3 : ∀ o8 : Option D, ¬ (wants = "begin" ∧ w = minusS ∨ wants = "sign" ∧ (w = minusS ∨ w = plusS)) → ¬ ((wants = "begin" ∨ wants = "term") ∧ (numIn w).isSome = true) →
      ((sSeq (sIf (tAn (tEq true (eVar 3) (eC (.str ("sign" : PySem.Str)))) (tIn false (eVar 7) (eVar 1))) (sSeq (sSet 9 (eMc .list mIdx (eVar 1) (aCons (eVar 7) aNil)))
    (sSeq (sAsg (eOp dAdd (eOp dIx (eVar 2) (eVar 9)) (eOp dMul (eVar 4) (eVar 5))) (gIx (eVar 2) (eVar 9)))
    (sSeq (sAsg (eTup (aCons (eC (.int 1)) (aCons (eC (.int 1)) (aCons (eC (.str ("sign" : PySem.Str))) aNil)))) (gTp 3 (gsCons (gNm 4) (gsCons (gNm 5) (gsCons (gNm 3) gsNil)))))
    sNext))) (sSeq (sRet (eTup (aCons (eC (.str ("at" : PySem.Str))) (aCons (eVar 6) aNil))))
    sNext))
    sNext)) E [some (namD ws), some (namD ns), some (.ref p), some (.str wants), some (.int s), some (.int m), some (.int (i : Nat)), some (.str w), o8, o9] ((p, .lst ((sumT ns acc).map D.int)) :: S) := fun o8 n1 n2 => by
    have yes : wants ≠ "sign" → w ∈ ns → WkI ns ws R (i + 1) "sign" 1 1 (acc ++ [(s * m, w)]) → ((sSeq (sSet 9 (eMc .list mIdx (eVar 1) (aCons (eVar 7) aNil)))
    (sSeq (sAsg (eOp dAdd (eOp dIx (eVar 2) (eVar 9)) (eOp dMul (eVar 4) (eVar 5))) (gIx (eVar 2) (eVar 9)))
    (sSeq (sAsg (eTup (aCons (eC (.int 1)) (aCons (eC (.int 1)) (aCons (eC (.str ("sign" : PySem.Str))) aNil)))) (gTp 3 (gsCons (gNm 4) (gsCons (gNm 5) (gsCons (gNm 3) gsNil)))))
    sNext)))) E [some (namD ws), some (namD ns), some (.ref p), some (.str wants), some (.int s), some (.int m), some (.int (i : Nat)), some (.str w), o8, o9] ((p, .lst ((sumT ns acc).map D.int)) :: S) := fun _ hm k => by
      have hj : ns.idxOf w < (sumT ns acc).length := by rw [sumT_len]; exact List.idxOf_lt_length_of_mem hm
      have hl : ((sumT ns acc).map D.int)[ns.idxOf w]? = some (.int ((sumT ns acc).getD (ns.idxOf w) 0)) := by
        rw [List.getElem?_map, List.getD_eq_getElem?_getD, List.getElem?_eq_getElem hj]
        rfl
      walk_at "ev"
      refine ⟨trivial, idx_name (fun z hz => (wd_name (nn z hz)).ok) hm ?_⟩
      refine ⟨0, _, rfl, _, atI_nat hl, ?_⟩
      refine ⟨mul_ok_l (by omega), ?_⟩
      refine ⟨p, 0, _, _, _, rfl, rfl, rfl, ixN_nat (by rw [List.length_map]; exact hj), ?_⟩
      refine fit_of (by show 3 ≤ 1000000; decide) ?_
      have := nx "sign" 1 1 _ o8 (some (.int (ns.idxOf w : Nat))) k (by decide)
      rw [sumT_snoc] at this
      unfold putT at this
      rw [List.map_set] at this
      exact this
    generalize ((sSeq (sSet 9 (eMc .list mIdx (eVar 1) (aCons (eVar 7) aNil)))
    (sSeq (sAsg (eOp dAdd (eOp dIx (eVar 2) (eVar 9)) (eOp dMul (eVar 4) (eVar 5))) (gIx (eVar 2) (eVar 9)))
    (sSeq (sAsg (eTup (aCons (eC (.int 1)) (aCons (eC (.int 1)) (aCons (eC (.str ("sign" : PySem.Str))) aNil)))) (gTp 3 (gsCons (gNm 4) (gsCons (gNm 5) (gsCons (gNm 3) gsNil)))))
    sNext)))) = Y at yes
    have no : ¬ (wants ≠ "sign" ∧ w ∈ ns) → E.rt (.tup [.str "at", .int (i : Nat)]) ((p, .lst ((sumT ns acc).map D.int)) :: S) := fun h => by
      cases H with
      | sgn h' _ => exact absurd h' n1
      | num _ h2 n e _ => exact absurd ⟨h2, by rw [e]; rfl⟩ n2
      | nam _ _ h3 hm _ => exact absurd ⟨h3, hm⟩ h
      | bad _ _ _ k => exact bad k
    have nam : wants ≠ "sign" → w ∈ ns → WkI ns ws R (i + 1) "sign" 1 1 (acc ++ [(s * m, w)]) := fun h hm => by
      cases H with
      | sgn h' _ => exact absurd h' n1
      | num _ h2 n e _ => exact absurd ⟨h2, by rw [e]; rfl⟩ n2
      | nam _ _ _ _ k => exact k
      | bad _ _ h' _ => exact absurd ⟨h, hm⟩ h'
    walk_at "ev"
    refine str_dec ?_
    rw [if_pos rfl]
    by_cases h : wants = "sign"
    · rw [decide_eq_true h]
      refine ⟨fun z => (by cases z), fun _ => ⟨fun z => (by cases z), fun _ => ?_⟩⟩
      exact fit_of (by show 2 ≤ 1000000; decide) (no fun z => z.1 h)
    · rw [decide_eq_false h]
      refine ⟨fun _ => ?_, fun z => (by cases z)⟩
      refine in_names (.inl rfl) ?_
      rw [if_neg Bool.false_ne_true]
      by_cases hm : w ∈ ns
      · rw [decide_eq_true hm]
        exact ⟨fun _ => yes h hm (nam h hm), fun z => (by cases z)⟩
      · rw [decide_eq_false hm]
        exact ⟨fun z => (by cases z), fun _ => fit_of (by show 2 ≤ 1000000; decide) (no fun z => hm z.2)⟩
  have t2 : ∀ o8 : Option D, ¬ (wants = "begin" ∧ w = minusS ∨ wants = "sign" ∧ (w = minusS ∨ w = plusS)) →
      ((sSeq (sIf (tAn (tIn false (eVar 3) (eTup (aCons (eC (.str ("begin" : PySem.Str))) (aCons (eC (.str ("term" : PySem.Str))) aNil)))) (tVal (eFn sp__law_figures (kX EX) [] (aCons (eVar 7) aNil)))) (sSeq (sSet 5 (eCall dIntS (aCons (eVar 7) aNil)))
    (sSeq (sSet 3 (eC (.str ("name" : PySem.Str))))
    sNext)) (sSeq (sIf (tAn (tEq true (eVar 3) (eC (.str ("sign" : PySem.Str)))) (tIn false (eVar 7) (eVar 1))) (sSeq (sSet 9 (eMc .list mIdx (eVar 1) (aCons (eVar 7) aNil)))
    (sSeq (sAsg (eOp dAdd (eOp dIx (eVar 2) (eVar 9)) (eOp dMul (eVar 4) (eVar 5))) (gIx (eVar 2) (eVar 9)))
    (sSeq (sAsg (eTup (aCons (eC (.int 1)) (aCons (eC (.int 1)) (aCons (eC (.str ("sign" : PySem.Str))) aNil)))) (gTp 3 (gsCons (gNm 4) (gsCons (gNm 5) (gsCons (gNm 3) gsNil)))))
    sNext))) (sSeq (sRet (eTup (aCons (eC (.str ("at" : PySem.Str))) (aCons (eVar 6) aNil))))
    sNext))
    sNext))
    sNext)) E [some (namD ws), some (namD ns), some (.ref p), some (.str wants), some (.int s), some (.int m), some (.int (i : Nat)), some (.str w), o8, o9] ((p, .lst ((sumT ns acc).map D.int)) :: S) := fun o8 n1 => by
    have t3 := t3 o8 n1
    generalize ((sSeq (sIf (tAn (tEq true (eVar 3) (eC (.str ("sign" : PySem.Str)))) (tIn false (eVar 7) (eVar 1))) (sSeq (sSet 9 (eMc .list mIdx (eVar 1) (aCons (eVar 7) aNil)))
    (sSeq (sAsg (eOp dAdd (eOp dIx (eVar 2) (eVar 9)) (eOp dMul (eVar 4) (eVar 5))) (gIx (eVar 2) (eVar 9)))
    (sSeq (sAsg (eTup (aCons (eC (.int 1)) (aCons (eC (.int 1)) (aCons (eC (.str ("sign" : PySem.Str))) aNil)))) (gTp 3 (gsCons (gNm 4) (gsCons (gNm 5) (gsCons (gNm 3) gsNil)))))
    sNext))) (sSeq (sRet (eTup (aCons (eC (.str ("at" : PySem.Str))) (aCons (eVar 6) aNil))))
    sNext))
    sNext)) = T at t3
    walk_at "ev"
    refine fit_of (by show 2 ≤ 1000000; decide) (two_in ?_)
    rw [if_neg Bool.false_ne_true]
    by_cases hb : wants = "begin" ∨ wants = "term"
    · rw [show decide (wants ∈ (["begin", "term"] : List PySem.Str)) = true from decide_eq_true (by simpa using hb)]
      refine ⟨fun _ => ?_, fun z => (by cases z)⟩
      refine ⟨w, rfl, Nat.le_trans hx.le (by decide), ?_⟩
      cases hn : numIn w with
      | some n =>
        refine ⟨fun _ => ?_, fun z => (by cases z)⟩
        obtain ⟨e1, e2⟩ := numIn_some hn
        refine ⟨n, e1, e2, ?_⟩
        have k : WkI ns ws R (i + 1) "name" s n acc := by
          cases H with
          | sgn h' _ => exact absurd h' n1
          | num _ _ n' e k =>
            rw [hn] at e
            obtain rfl := Option.some.inj e
            exact k
          | nam _ h2 _ _ _ => exact absurd ⟨hb, by rw [hn]; rfl⟩ h2
          | bad _ h2 _ _ => exact absurd ⟨hb, by rw [hn]; rfl⟩ h2
        exact nx "name" s n acc o8 o9 k hs
      | none => exact ⟨fun z => (by cases z), fun _ => t3 fun h => by rw [hn] at h; cases h.2⟩
    · rw [show decide (wants ∈ (["begin", "term"] : List PySem.Str)) = false from decide_eq_false (by simpa using hb)]
      exact ⟨fun z => (by cases z), fun _ => ⟨fun z => (by cases z), fun _ => t3 fun h => hb h.1⟩⟩
  have t1 : ∀ ah : List PySem.Str, (wants = "sign" → ah = [minusS, plusS]) → (wants ≠ "sign" → ah = [minusS]) → ((sSeq (sIf (tAn (tIn false (eVar 3) (eTup (aCons (eC (.str ("begin" : PySem.Str))) (aCons (eC (.str ("sign" : PySem.Str))) aNil)))) (tIn false (eVar 7) (eVar 8))) (sSeq (sSet 4 (eOp dIx (eLst (aCons (eC (.int 1)) (aCons (eUn dNeg (eC (.int 1))) aNil))) (eCall dInt (aCons (eEq false (eVar 7) (eC (.str ("-" : PySem.Str)))) aNil))))
    (sSeq (sSet 3 (eC (.str ("term" : PySem.Str))))
    sNext)) (sSeq (sIf (tAn (tIn false (eVar 3) (eTup (aCons (eC (.str ("begin" : PySem.Str))) (aCons (eC (.str ("term" : PySem.Str))) aNil)))) (tVal (eFn sp__law_figures (kX EX) [] (aCons (eVar 7) aNil)))) (sSeq (sSet 5 (eCall dIntS (aCons (eVar 7) aNil)))
    (sSeq (sSet 3 (eC (.str ("name" : PySem.Str))))
    sNext)) (sSeq (sIf (tAn (tEq true (eVar 3) (eC (.str ("sign" : PySem.Str)))) (tIn false (eVar 7) (eVar 1))) (sSeq (sSet 9 (eMc .list mIdx (eVar 1) (aCons (eVar 7) aNil)))
    (sSeq (sAsg (eOp dAdd (eOp dIx (eVar 2) (eVar 9)) (eOp dMul (eVar 4) (eVar 5))) (gIx (eVar 2) (eVar 9)))
    (sSeq (sAsg (eTup (aCons (eC (.int 1)) (aCons (eC (.int 1)) (aCons (eC (.str ("sign" : PySem.Str))) aNil)))) (gTp 3 (gsCons (gNm 4) (gsCons (gNm 5) (gsCons (gNm 3) gsNil)))))
    sNext))) (sSeq (sRet (eTup (aCons (eC (.str ("at" : PySem.Str))) (aCons (eVar 6) aNil))))
    sNext))
    sNext))
    sNext))
    sNext)) E [some (namD ws), some (namD ns), some (.ref p), some (.str wants), some (.int s), some (.int m), some (.int (i : Nat)), some (.str w), some (namD ah), o9] ((p, .lst ((sumT ns acc).map D.int)) :: S) := fun ah ha1 ha2 => by
    have t2 := t2 (some (namD ah))
    generalize ((sSeq (sIf (tAn (tIn false (eVar 3) (eTup (aCons (eC (.str ("begin" : PySem.Str))) (aCons (eC (.str ("term" : PySem.Str))) aNil)))) (tVal (eFn sp__law_figures (kX EX) [] (aCons (eVar 7) aNil)))) (sSeq (sSet 5 (eCall dIntS (aCons (eVar 7) aNil)))
    (sSeq (sSet 3 (eC (.str ("name" : PySem.Str))))
    sNext)) (sSeq (sIf (tAn (tEq true (eVar 3) (eC (.str ("sign" : PySem.Str)))) (tIn false (eVar 7) (eVar 1))) (sSeq (sSet 9 (eMc .list mIdx (eVar 1) (aCons (eVar 7) aNil)))
    (sSeq (sAsg (eOp dAdd (eOp dIx (eVar 2) (eVar 9)) (eOp dMul (eVar 4) (eVar 5))) (gIx (eVar 2) (eVar 9)))
    (sSeq (sAsg (eTup (aCons (eC (.int 1)) (aCons (eC (.int 1)) (aCons (eC (.str ("sign" : PySem.Str))) aNil)))) (gTp 3 (gsCons (gNm 4) (gsCons (gNm 5) (gsCons (gNm 3) gsNil)))))
    sNext))) (sSeq (sRet (eTup (aCons (eC (.str ("at" : PySem.Str))) (aCons (eVar 6) aNil))))
    sNext))
    sNext))
    sNext)) = T at t2
    walk_at "ev"
    refine fit_of (by show 2 ≤ 1000000; decide) (two_in ?_)
    rw [if_neg Bool.false_ne_true]
    by_cases hb : wants = "begin" ∨ wants = "sign"
    · rw [show decide (wants ∈ (["begin", "sign"] : List PySem.Str)) = true from decide_eq_true (by simpa using hb)]
      refine ⟨fun _ => ?_, fun z => (by cases z)⟩
      refine in_names (.inl rfl) ?_
      rw [if_neg Bool.false_ne_true]
      have iff : w ∈ ah ↔ (wants = "begin" ∧ w = minusS ∨ wants = "sign" ∧ (w = minusS ∨ w = plusS)) := by
        by_cases h : wants = "sign"
        · rw [ha1 h]
          constructor
          · intro z
            exact .inr ⟨h, by simpa using z⟩
          · rintro (⟨z, _⟩ | ⟨_, z⟩)
            · exact absurd (z.symm.trans h) bg_sg
            · simpa using z
        · rw [ha2 h]
          constructor
          · intro z
            exact .inl ⟨hb.resolve_right h, by simpa using z⟩
          · rintro (⟨_, z⟩ | ⟨z, _⟩)
            · simpa using z
            · exact absurd z h
      by_cases hm : w ∈ ah
      · rw [decide_eq_true hm]
        refine ⟨fun _ => ?_, fun z => (by cases z)⟩
        have k : WkI ns ws R (i + 1) "term" (if w = minusS then -1 else 1) m acc := by
          cases H with
          | sgn _ k => exact k
          | num h' _ _ _ _ => exact absurd (iff.mp hm) h'
          | nam h' _ _ _ _ => exact absurd (iff.mp hm) h'
          | bad h' _ _ _ => exact absurd (iff.mp hm) h'
        refine neg_int ?_
        refine fit_of (by show 2 ≤ 1000000; decide) (Or.inl ?_)
        refine str_dec ?_
        rw [if_neg Bool.false_ne_true]
        by_cases hw : w = minusS
        · rw [if_pos hw] at k
          rw [show decide (w = ("-" : PySem.Str)) = true from decide_eq_true hw]
          exact ⟨_, rfl, nx "term" (-1) m acc _ o9 k (by decide)⟩
        · rw [if_neg hw] at k
          rw [show decide (w = ("-" : PySem.Str)) = false from decide_eq_false hw]
          exact ⟨_, rfl, nx "term" 1 m acc _ o9 k (by decide)⟩
      · rw [decide_eq_false hm]
        exact ⟨fun z => (by cases z), fun _ => t2 fun h => hm (iff.mpr h)⟩
    · rw [show decide (wants ∈ (["begin", "sign"] : List PySem.Str)) = false from decide_eq_false (by simpa using hb)]
      refine ⟨fun z => (by cases z), fun _ => ⟨fun z => (by cases z), fun _ => t2 ?_⟩⟩
      rintro (⟨z, _⟩ | ⟨z, _⟩)
      · exact hb (.inl z)
      · exact hb (.inr z)
  generalize ((sSeq (sIf (tAn (tIn false (eVar 3) (eTup (aCons (eC (.str ("begin" : PySem.Str))) (aCons (eC (.str ("sign" : PySem.Str))) aNil)))) (tIn false (eVar 7) (eVar 8))) (sSeq (sSet 4 (eOp dIx (eLst (aCons (eC (.int 1)) (aCons (eUn dNeg (eC (.int 1))) aNil))) (eCall dInt (aCons (eEq false (eVar 7) (eC (.str ("-" : PySem.Str)))) aNil))))
    (sSeq (sSet 3 (eC (.str ("term" : PySem.Str))))
    sNext)) (sSeq (sIf (tAn (tIn false (eVar 3) (eTup (aCons (eC (.str ("begin" : PySem.Str))) (aCons (eC (.str ("term" : PySem.Str))) aNil)))) (tVal (eFn sp__law_figures (kX EX) [] (aCons (eVar 7) aNil)))) (sSeq (sSet 5 (eCall dIntS (aCons (eVar 7) aNil)))
    (sSeq (sSet 3 (eC (.str ("name" : PySem.Str))))
    sNext)) (sSeq (sIf (tAn (tEq true (eVar 3) (eC (.str ("sign" : PySem.Str)))) (tIn false (eVar 7) (eVar 1))) (sSeq (sSet 9 (eMc .list mIdx (eVar 1) (aCons (eVar 7) aNil)))
    (sSeq (sAsg (eOp dAdd (eOp dIx (eVar 2) (eVar 9)) (eOp dMul (eVar 4) (eVar 5))) (gIx (eVar 2) (eVar 9)))
    (sSeq (sAsg (eTup (aCons (eC (.int 1)) (aCons (eC (.int 1)) (aCons (eC (.str ("sign" : PySem.Str))) aNil)))) (gTp 3 (gsCons (gNm 4) (gsCons (gNm 5) (gsCons (gNm 3) gsNil)))))
    sNext))) (sSeq (sRet (eTup (aCons (eC (.str ("at" : PySem.Str))) (aCons (eVar 6) aNil))))
    sNext))
    sNext))
    sNext))
    sNext)) = T at t1
  walk_at "ev"
  refine fit_of (by show 2 ≤ 1000000; decide) (Or.inl ?_)
  refine str_dec ?_
  rw [if_neg Bool.false_ne_true]
  by_cases h : wants = "sign"
  · rw [show decide (wants = ("sign" : PySem.Str)) = true from decide_eq_true h]
    refine add_flag (isI_ofT (sl_lst ?_))
    exact t1 [minusS, plusS] (fun _ => rfl) fun z => absurd h z
  · rw [show decide (wants = ("sign" : PySem.Str)) = false from decide_eq_false h]
    refine add_flag (isI_ofT (sl_lst ?_))
    exact t1 [minusS] (fun z => absurd z h) fun _ => rfl
theorem okw {ws : List PySem.Str} {m : Nat} (W : AllW ws m) : okD 1 (namD ws) = true := by
  show (ws.map D.str).all (okD 0) = true
  rw [List.all_eq_true]
  intro d hd
  obtain ⟨z, hz, rfl⟩ := List.mem_map.mp hd
  exact (W.2 z hz).ok
theorem tmul_zero {n : Nat} {S : Sto} {Q : QD} (hn : n ≤ 1000) (q : Q (.tup (List.replicate n (D.int 0))) S) : dTmulA (.tup [.int 0]) (.int (n : Nat)) S Q := by
  refine ⟨by omega, by omega, by decide, ?_⟩
  rw [Int.toNat_natCast, rep_one]
  exact q
theorem pure__law_walk {ds : List D} {S : Sto} {Q : QD} {EX : EXT} (h : sp__law_walk ds S Q EX) : t__law_walk EX (endX Q) (startG ["_law_words", "_law_names_here", "_law_found", "_law_wants", "_law_sign", "_law_many", "_law_at", "_law_word", "_law_ahead", "_law_place"] ds) S := by
  obtain ⟨ws, ns, rfl, W, ⟨n4, nn⟩, q⟩ := h
  show t__law_walk EX (endX Q) [some (namD ws), some (namD ns), none, none, none, none, none, none, none, none] S
  have lw := W.1
  have turn := @walk_turn S EX
  have loop : ws ≠ [zeroS] → ∀ p, ((sSeq (sForX (iEnX (aCons (eVar 0) aNil)) (gTp 2 (gsCons (gNm 6) (gsCons (gNm 7) gsNil))) (sSeq (sSet 8 (eSl (eLst (aCons (eC (.str ("-" : PySem.Str))) (aCons (eC (.str ("+" : PySem.Str))) aNil))) oNo (oSome (eOp dAdd (eC (.int 1)) (eCall dInt (aCons (eEq false (eVar 3) (eC (.str ("sign" : PySem.Str)))) aNil))))))
    (sSeq (sIf (tAn (tIn false (eVar 3) (eTup (aCons (eC (.str ("begin" : PySem.Str))) (aCons (eC (.str ("sign" : PySem.Str))) aNil)))) (tIn false (eVar 7) (eVar 8))) (sSeq (sSet 4 (eOp dIx (eLst (aCons (eC (.int 1)) (aCons (eUn dNeg (eC (.int 1))) aNil))) (eCall dInt (aCons (eEq false (eVar 7) (eC (.str ("-" : PySem.Str)))) aNil))))
    (sSeq (sSet 3 (eC (.str ("term" : PySem.Str))))
    sNext)) (sSeq (sIf (tAn (tIn false (eVar 3) (eTup (aCons (eC (.str ("begin" : PySem.Str))) (aCons (eC (.str ("term" : PySem.Str))) aNil)))) (tVal (eFn sp__law_figures (kX EX) [] (aCons (eVar 7) aNil)))) (sSeq (sSet 5 (eCall dIntS (aCons (eVar 7) aNil)))
    (sSeq (sSet 3 (eC (.str ("name" : PySem.Str))))
    sNext)) (sSeq (sIf (tAn (tEq true (eVar 3) (eC (.str ("sign" : PySem.Str)))) (tIn false (eVar 7) (eVar 1))) (sSeq (sSet 9 (eMc .list mIdx (eVar 1) (aCons (eVar 7) aNil)))
    (sSeq (sAsg (eOp dAdd (eOp dIx (eVar 2) (eVar 9)) (eOp dMul (eVar 4) (eVar 5))) (gIx (eVar 2) (eVar 9)))
    (sSeq (sAsg (eTup (aCons (eC (.int 1)) (aCons (eC (.int 1)) (aCons (eC (.str ("sign" : PySem.Str))) aNil)))) (gTp 3 (gsCons (gNm 4) (gsCons (gNm 5) (gsCons (gNm 3) gsNil)))))
    sNext))) (sSeq (sRet (eTup (aCons (eC (.str ("at" : PySem.Str))) (aCons (eVar 6) aNil))))
    sNext))
    sNext))
    sNext))
    sNext)))
    (sSeq (sIf (tEq true (eVar 3) (eC (.str ("sign" : PySem.Str)))) (sSeq (sRet (eTup (aCons (eC (.str ("at" : PySem.Str))) (aCons (eCall dLen (aCons (eVar 0) aNil)) aNil))))
    sNext) sNext)
    (sSeq (sRet (eTup (aCons (eC (.str ("told" : PySem.Str))) (aCons (eCall dTuple (aCons (eVar 2) aNil)) aNil))))
    sNext)))) (endX Q) [some (namD ws), some (namD ns), some (.ref p), some (.str "begin"), some (.int 1), some (.int 1), none, none, none, none] ((p, .lst ((sumT ns []).map D.int)) :: S) := fun h0 p => by
    have turn := @turn
    generalize ((sSeq (sSet 8 (eSl (eLst (aCons (eC (.str ("-" : PySem.Str))) (aCons (eC (.str ("+" : PySem.Str))) aNil))) oNo (oSome (eOp dAdd (eC (.int 1)) (eCall dInt (aCons (eEq false (eVar 3) (eC (.str ("sign" : PySem.Str)))) aNil))))))
    (sSeq (sIf (tAn (tIn false (eVar 3) (eTup (aCons (eC (.str ("begin" : PySem.Str))) (aCons (eC (.str ("sign" : PySem.Str))) aNil)))) (tIn false (eVar 7) (eVar 8))) (sSeq (sSet 4 (eOp dIx (eLst (aCons (eC (.int 1)) (aCons (eUn dNeg (eC (.int 1))) aNil))) (eCall dInt (aCons (eEq false (eVar 7) (eC (.str ("-" : PySem.Str)))) aNil))))
    (sSeq (sSet 3 (eC (.str ("term" : PySem.Str))))
    sNext)) (sSeq (sIf (tAn (tIn false (eVar 3) (eTup (aCons (eC (.str ("begin" : PySem.Str))) (aCons (eC (.str ("term" : PySem.Str))) aNil)))) (tVal (eFn sp__law_figures (kX EX) [] (aCons (eVar 7) aNil)))) (sSeq (sSet 5 (eCall dIntS (aCons (eVar 7) aNil)))
    (sSeq (sSet 3 (eC (.str ("name" : PySem.Str))))
    sNext)) (sSeq (sIf (tAn (tEq true (eVar 3) (eC (.str ("sign" : PySem.Str)))) (tIn false (eVar 7) (eVar 1))) (sSeq (sSet 9 (eMc .list mIdx (eVar 1) (aCons (eVar 7) aNil)))
    (sSeq (sAsg (eOp dAdd (eOp dIx (eVar 2) (eVar 9)) (eOp dMul (eVar 4) (eVar 5))) (gIx (eVar 2) (eVar 9)))
    (sSeq (sAsg (eTup (aCons (eC (.int 1)) (aCons (eC (.int 1)) (aCons (eC (.str ("sign" : PySem.Str))) aNil)))) (gTp 3 (gsCons (gNm 4) (gsCons (gNm 5) (gsCons (gNm 3) gsNil)))))
    sNext))) (sSeq (sRet (eTup (aCons (eC (.str ("at" : PySem.Str))) (aCons (eVar 6) aNil))))
    sNext))
    sNext))
    sNext))
    sNext))) = L at turn
    have eR : termsW (some ns) ws = termsF (some ns) ws.length (ws.length + 1) true ws := if_neg h0
    walk_at "ev"
    refine itl_lst ?_
    refine ⟨fun i G S' => ∃ (wants : PySem.Str) (s m : Int) (acc : Tms) (o6 o7 o8 o9 : Option D), G = [some (namD ws), some (namD ns), some (.ref p), some (.str wants), some (.int s), some (.int m), o6, o7, o8, o9] ∧ S' = (p, .lst ((sumT ns acc).map D.int)) :: S ∧ WkI ns ws (termsW (some ns) ws) i wants s m acc ∧ s.natAbs ≤ 1, ⟨"begin", 1, 1, [], none, none, none, none, rfl, rfl, ⟨ws.length + 1, by omega, .inl ⟨rfl, rfl, rfl, rfl, rfl, eR⟩⟩, by decide⟩, fun _ _ _ _ => .nil, ?_, ?_⟩
    · rintro i d G S' hi ⟨wants, s, m, acc, o6, o7, o8, o9, rfl, rfl, k, hs⟩
      obtain ⟨x, hx, rfl⟩ := enum_at hi
      rw [List.getElem?_map] at hx
      cases hw : ws[i]? with
      | none => rw [hw] at hx; cases hx
      | some w =>
        rw [hw] at hx
        obtain rfl := Option.some.inj hx
        walk_at "ev"
        refine turn nn (k.step nn hw) hs (W.2 w (List.mem_of_getElem? hw)) ?_ fun e => ?_
        · intro wants' s' m' acc' o8 o9 k' hs'
          exact ⟨wants', s', m', acc', _, _, o8, o9, rfl, rfl, k', hs'⟩
        rw [e] at q
        exact ⟨S, List.sublist_cons_self .., q⟩
    · rintro G S' ⟨wants, s, m, acc, o6, o7, o8, o9, rfl, rfl, k, hs⟩
      have hi : (enumD (ws.map D.str)).length = ws.length := by rw [enum_len, List.length_map]
      rw [hi] at k
      walk_at "ev"
      refine str_dec ?_
      rw [if_pos rfl]
      rcases k.stop rfl with ⟨h1, h2⟩ | ⟨h1, h2⟩
      · rw [show decide (wants = ("sign" : PySem.Str)) = true from decide_eq_true h1]
        rw [h2] at q
        refine ⟨fun z => (by cases z), fun _ => ⟨0, _, rfl, ?_⟩⟩
        exact fit_of (by show 2 ≤ 1000000; decide) ⟨S, List.sublist_cons_self .., q⟩
      · rw [show decide (wants = ("sign" : PySem.Str)) = false from decide_eq_false h1]
        rw [h2] at q
        refine ⟨fun _ => ?_, fun z => (by cases z)⟩
        refine len_strs ?_
        exact fit_of (by show 2 ≤ 1000000; decide) ⟨S, List.sublist_cons_self .., q⟩
  generalize hT : ((sSeq (sForX (iEnX (aCons (eVar 0) aNil)) (gTp 2 (gsCons (gNm 6) (gsCons (gNm 7) gsNil))) (sSeq (sSet 8 (eSl (eLst (aCons (eC (.str ("-" : PySem.Str))) (aCons (eC (.str ("+" : PySem.Str))) aNil))) oNo (oSome (eOp dAdd (eC (.int 1)) (eCall dInt (aCons (eEq false (eVar 3) (eC (.str ("sign" : PySem.Str)))) aNil))))))
    (sSeq (sIf (tAn (tIn false (eVar 3) (eTup (aCons (eC (.str ("begin" : PySem.Str))) (aCons (eC (.str ("sign" : PySem.Str))) aNil)))) (tIn false (eVar 7) (eVar 8))) (sSeq (sSet 4 (eOp dIx (eLst (aCons (eC (.int 1)) (aCons (eUn dNeg (eC (.int 1))) aNil))) (eCall dInt (aCons (eEq false (eVar 7) (eC (.str ("-" : PySem.Str)))) aNil))))
    (sSeq (sSet 3 (eC (.str ("term" : PySem.Str))))
    sNext)) (sSeq (sIf (tAn (tIn false (eVar 3) (eTup (aCons (eC (.str ("begin" : PySem.Str))) (aCons (eC (.str ("term" : PySem.Str))) aNil)))) (tVal (eFn sp__law_figures (kX EX) [] (aCons (eVar 7) aNil)))) (sSeq (sSet 5 (eCall dIntS (aCons (eVar 7) aNil)))
    (sSeq (sSet 3 (eC (.str ("name" : PySem.Str))))
    sNext)) (sSeq (sIf (tAn (tEq true (eVar 3) (eC (.str ("sign" : PySem.Str)))) (tIn false (eVar 7) (eVar 1))) (sSeq (sSet 9 (eMc .list mIdx (eVar 1) (aCons (eVar 7) aNil)))
    (sSeq (sAsg (eOp dAdd (eOp dIx (eVar 2) (eVar 9)) (eOp dMul (eVar 4) (eVar 5))) (gIx (eVar 2) (eVar 9)))
    (sSeq (sAsg (eTup (aCons (eC (.int 1)) (aCons (eC (.int 1)) (aCons (eC (.str ("sign" : PySem.Str))) aNil)))) (gTp 3 (gsCons (gNm 4) (gsCons (gNm 5) (gsCons (gNm 3) gsNil)))))
    sNext))) (sSeq (sRet (eTup (aCons (eC (.str ("at" : PySem.Str))) (aCons (eVar 6) aNil))))
    sNext))
    sNext))
    sNext))
    sNext)))
    (sSeq (sIf (tEq true (eVar 3) (eC (.str ("sign" : PySem.Str)))) (sSeq (sRet (eTup (aCons (eC (.str ("at" : PySem.Str))) (aCons (eCall dLen (aCons (eVar 0) aNil)) aNil))))
    sNext) sNext)
    (sSeq (sRet (eTup (aCons (eC (.str ("told" : PySem.Str))) (aCons (eCall dTuple (aCons (eVar 2) aNil)) aNil))))
    sNext)))) = T at loop
  unfold t__law_walk
  rw [hT]
  walk_at "ev"
  refine fit_of (by show 1 ≤ 1000000; decide) (Or.inl ?_)
  refine eq_ok 1 (okw W) (by decide +kernel) (by decide) (fun e => ?_) (fun e => ?_)
  · have hw : ws = [zeroS] := by
      have e' : ws.map D.str = [zeroS].map D.str := D.lst.inj e
      exact (List.map_inj_right (fun a b h => D.str.inj h)).mp e'
    refine ⟨fun _ => ?_, fun z => (by cases z)⟩
    rw [show termsW (some ns) ws = .ok [] from if_pos hw] at q
    refine fit_of (by show 1 ≤ 1000000; decide) ?_
    refine len_strs ?_
    refine tmul_zero (by omega) ?_
    have e2 : intD (sumT ns []) = .tup (List.replicate ns.length (D.int 0)) := by
      show D.tup ((List.replicate ns.length (0 : Int)).map D.int) = _
      rw [List.map_replicate]
    have q' : Q (.tup [.str "told", intD (sumT ns [])]) S := q
    rw [e2] at q'
    exact fit_of (by show 2 ≤ 1000000; decide) ⟨S, .refl _, q'⟩
  · refine ⟨fun z => (by cases z), fun _ => ?_⟩
    have hne : ws ≠ [zeroS] := fun h => e (by rw [h]; rfl)
    refine fit_of (by show 1 ≤ 1000000; decide) (Or.inl ?_)
    refine len_strs ?_
    refine ⟨by omega, by omega, by show 1 * ns.length ≤ 16777216; omega, Or.inr fun p => ?_⟩
    rw [show ((ns.length : Int)).toNat = ns.length from Int.toNat_natCast _, rep_one]
    refine fit_of (by show 2 ≤ 1000000; decide) ?_
    have := loop hne p
    have e2 : (sumT ns []).map D.int = List.replicate ns.length (D.int 0) := by
      show ((List.replicate ns.length (0 : Int)).map D.int) = _
      rw [List.map_replicate]
    rw [e2] at this
    exact this
theorem said_key {t x : D} {ns : List PySem.Str} {S : Sto} {Q : QD} (hx : NmV x ns) (N : AllN ns) (h : (∃ z ws, t = .str z ∧ z.length ≤ 100000 ∧ Txt.split z spS = ws ∧ AllW ws 100 ∧ Q (ansD ns (termsW (some ns) ws)) S) ∨ (Pln t ∧ (∀ z, t ≠ .str z) ∧ Q (ansD ns (.error 0)) S))
    (QQ : QD) (EE : EXT) (h1 : ∀ ts, Q (.tup [.str "told", intD (sumT ns ts)]) S → QQ (intD (sumT ns ts)) S) (h2 : ∀ k : Nat, Q (.tup [.str "at", .int (k : Nat)]) S → EE .NoText [("at", .int (k : Nat))] S) : sp_read_handful [t, x] S QQ EE := by
  have okn : ∀ s ∈ ns, PyData.strOk s = true := fun s hs => (wd_name (N.2 s hs)).ok
  refine ⟨t, x, rfl, ?_⟩
  rcases h with ⟨z, ws, rfl, hz, e, W, q⟩ | ⟨p, no, q⟩
  · subst e
    refine .inl ⟨z, ns, rfl, Nat.le_trans hz (by decide), hx, Nat.le_trans N.1 (by decide), okn, Nat.le_trans W.1 (by decide), fun s hs => ⟨(W.2 s hs).ok, Nat.le_trans (W.2 s hs).le (by decide)⟩, ?_⟩
    cases e : termsW (some ns) (Txt.split z spS) with
    | ok ts =>
      rw [e] at q
      exact h1 ts q
    | error k =>
      rw [e] at q
      exact h2 k q
  · exact .inr ⟨p, no, h2 0 q⟩
theorem pure__law_said {ds : List D} {S : Sto} {Q : QD} {EX : EXT} (h : sp__law_said ds S Q EX) : t__law_said EX (endS Q) (startG ["_law_text", "_law_names_here", "_law_told", "e", "_law_others"] ds) S := by
  obtain ⟨t, x, ns, rfl, hx, N, h⟩ := h
  show t__law_said EX (endS Q) [some t, some x, none, none, none] S
  unfold t__law_said
  walk_at "ev"
  unfold sTryA
  walk_at "ev"
  refine fit_of (by show 2 ≤ 1000000; decide) ?_
  refine said_key hx N h _ _ (fun ts q => ?_) fun k q => ?_
  · exact fit_of (by show 2 ≤ 1000000; decide) q
  · refine ⟨rfl, fun _ => ⟨S, .refl _, fun a' dd => ?_⟩, fun z => by cases z⟩
    walk_at "ev"
    refine fit_of (by show 2 ≤ 1000000; decide) ?_
    refine ⟨rfl, rfl, ?_⟩
    refine ⟨rfl, rfl, ?_⟩
    refine ⟨fun _ => ?_, fun z => (by cases z)⟩
    refine ⟨rfl, rfl, ?_⟩
    refine ⟨fun _ => ?_, fun z => (by cases z)⟩
    refine ⟨fun _ => ?_, fun z => (by cases z)⟩
    refine ⟨rfl, rfl, _, rfl, ?_⟩
    refine fit_of (by show 2 ≤ 1000000; decide) ?_
    dsimp only [sufE1, dropH]
    exact q
theorem tup_nam91 {ns : List PySem.Str} {S : Sto} {Q : QD} (q : Q (.tup (ns.map D.str)) S) : dTuple [namD ns] S Q := q
theorem splitX {ws : List PySem.Str} (hn : ws ≠ []) (h : ∀ w ∈ ws, WdX w) : Txt.split (Txt.join spS ws) spS = ws :=
  split_join (s := 32) (S := []) tl_sp (by decide +kernel) hn fun w hw => (h w hw).sp
theorem ok_ansD (ns : List PySem.Str) (r : Except Nat Tms) : okD 2 (ansD ns r) = true := by
  cases r with
  | error k =>
    show (PyData.strOk "at" && (true && true)) = true
    decide +kernel
  | ok ts =>
    have h1 : okD 1 (intD (sumT ns ts)) = true := by
      show ((sumT ns ts).map D.int).all (okD 0) = true
      rw [List.all_eq_true]
      intro d hd
      obtain ⟨z, _, rfl⟩ := List.mem_map.mp hd
      rfl
    show (PyData.strOk "told" && (okD 1 (intD (sumT ns ts)) && true)) = true
    rw [h1]
    decide +kernel
theorem pure__law_right {ds : List D} {S : Sto} {Q : QD} {EX : EXT} (h : sp__law_right ds S Q EX) : t__law_right EX (endS Q) (startG ["_law_well", "_law_times_spoilt", "_law_names_here", "_law_words", "_law_k", "_law_due", "_law_text", "_law_odd_here", "_law_some"] ds) S := by
  obtain ⟨w, k, rfl, hw, q⟩ := h
  show t__law_right EX (endS Q) [some (.ref w), none, none, none, none, none, none, none, none] S
  have tail5 : ∀ (ns ws : List PySem.Str) (S1 : Sto) (o1 o4 : Option D), Wst S S1 k w → AllN ns → AllW ws 20 → ws ≠ [] → ((sSeq (sSet 5 (eFn sp__law_walk (kX EX) [] (aCons (eVar 3) (aCons (eVar 2) aNil))))
    (sSeq (sSet 6 (eMc .str mJoin (eC (.str (" " : PySem.Str))) (aCons (eVar 3) aNil)))
    (sSeq (sIf (tEq true (eLcX (iSqX (eLst (aCons (eVar 2) (aCons (eCall dTuple (aCons (eVar 2) aNil)) (aCons (eVar 2) aNil))))) [8] (bind1 8) tYs (eFn sp__law_said E0X [] (aCons (eVar 6) (aCons (eVar 8) aNil)))) (eOp dMul (eLst (aCons (eVar 5) aNil)) (eC (.int 3)))) (sSeq (sRet (eC (.bl false)))
    sNext) sNext)
    (sSeq (sSet 7 (eOp dIx (eLst (aCons (eC .non) (aCons (eC (.int 7)) (aCons (eVar 3) (aCons (eC (.bl true)) (aCons (eTup (aCons (eVar 6) aNil)) aNil)))))) (eFn sp__law_draw (kX EX) [] (aCons (eVar 0) (aCons (eC (.int 5)) aNil)))))
    (sSeq (sRet (eAn (eEq false (eFn sp__law_said (kX EX) [] (aCons (eVar 7) (aCons (eVar 2) aNil))) (eTup (aCons (eC (.str ("at" : PySem.Str))) (aCons (eC (.int 0)) aNil)))) (eNo (eCall dIsi (aCons (eOp dIx (eVar 5) (eC (.int 1))) (aCons (eC (.ty "bool")) aNil))))))
    sNext)))))) (endS Q) [some (.ref w), o1, some (namD ns), some (namD ws), o4, none, none, none, none] S1 := fun ns ws S1 o1 o4 t N W hne => by
    walk_at "ev"
    refine ⟨ws, ns, rfl, W, N, ?_⟩
    have okA := ok_ansD ns (termsW (some ns) ws)
    have nb : ∀ {S' : Sto} {P : QD}, (∀ d, Pln d → isBlD d = false → P d S') → dIx (ansD ns (termsW (some ns) ws)) (.int 1) S' P := fun {S' P} h => by
      cases termsW (some ns) ws with
      | error k => exact ⟨_, rfl, h _ ⟨_, rfl⟩ rfl⟩
      | ok ts => exact ⟨_, rfl, h _ ⟨_, rfl⟩ rfl⟩
    have lsp : spS.length = 1 := by decide +kernel
    have le : ∀ w ∈ ws, w.length ≤ 100 := fun w h => (W.2 w h).le
    have js := join_sz spS 100 ws le
    have jl := join_le spS 100 ws le
    have wl := W.1
    rw [lsp] at js jl
    refine ⟨trivial, ws, rfl, by show (ws.map (·.length)).sum + ws.length * spS.length ≤ 16777216; rw [lsp]; omega, ?_⟩
    have sp := splitX hne W.2
    rw [show PySem.Str.ofString " " = spS from rfl]
    generalize Txt.join spS ws = tx at js sp
    refine tup_nam91 ?_
    refine fit_of (by show 3 ≤ 1000000; decide) (Or.inl ?_)
    have said : ∀ (x : D) (S' : Sto) (P : QD) (EE : EXT), NmV x ns → P (ansD ns (termsW (some ns) ws)) S' → sp__law_said [.str tx, x] S' P EE := fun x S' P EE hx p =>
      ⟨.str tx, x, ns, rfl, hx, N, .inl ⟨tx, ws, rfl, by omega, sp, ⟨by omega, W.2⟩, p⟩⟩
    generalize ansD ns (termsW (some ns) ws) = A at okA nb said
    refine (lcx_M (xs := [namD ns, .tup (ns.map D.str), namD ns]) (src := fun d => d) (fun _ => A) .nil (by show 3 ≤ 1000000; decide) (fun d hd p acc K hK => ?_) bind1_mono (Or.inl ?_) : LcInX _ _ _ _ _ ([namD ns, .tup (ns.map D.str), namD ns].map fun d => d) _ _ _)
    · refine inG_of (by show 8 < 9; decide) ?_
      walk_at "ev"
      refine said d _ _ _ ?_ hK
      simp only [List.mem_cons, List.not_mem_nil, or_false] at hd
      rcases hd with e | e | e
      · exact .inl e
      · exact .inr e
      · exact .inl e
    refine fit_of (by show 1 ≤ 1000000; decide) (Or.inl ?_)
    refine ⟨by decide, by decide, by show 1 * 3 ≤ 16777216; decide, Or.inl ?_⟩
    have ok3 : okD 3 (.lst [A, A, A]) = true := by
      show (okD 2 A && (okD 2 A && (okD 2 A && true))) = true
      rw [okA]
      rfl
    refine eq_same 3 ok3 (by decide) rfl ⟨fun z => (by cases z), fun _ => ?_⟩
    refine fit_of (by show 1 ≤ 1000000; decide) ?_
    refine fit_of (by show 5 ≤ 1000000; decide) (Or.inl ?_)
    refine ⟨w, k, 5, rfl, hw.to t, by decide, by decide, fun y S2 a2 b2 t2 => ?_⟩
    refine ix_mem a2 (by show y < 5; exact b2) fun d hd => ?_
    have pd : Pln d ∧ ∀ z, d ≠ .str z := by
      simp only [List.mem_cons, List.not_mem_nil, or_false] at hd
      rcases hd with e | e | e | e | e <;> subst e <;> exact ⟨⟨_, rfl⟩, fun z h => by cases h⟩
    refine ⟨d, _, ns, rfl, .inl rfl, N, .inr ⟨pd.1, pd.2, ?_⟩⟩
    refine fit_of (by show 2 ≤ 1000000; decide) ?_
    refine eq_same 2 (ok_ansD ns (.error 0)) (by decide) rfl ?_
    refine ⟨fun _ => ?_, fun z => (by cases z)⟩
    refine nb fun d pl hb => ?_
    refine isi_bool pl ?_
    rw [hb]
    exact q S2
  generalize hT : ((sSeq (sSet 5 (eFn sp__law_walk (kX EX) [] (aCons (eVar 3) (aCons (eVar 2) aNil))))
    (sSeq (sSet 6 (eMc .str mJoin (eC (.str (" " : PySem.Str))) (aCons (eVar 3) aNil)))
    (sSeq (sIf (tEq true (eLcX (iSqX (eLst (aCons (eVar 2) (aCons (eCall dTuple (aCons (eVar 2) aNil)) (aCons (eVar 2) aNil))))) [8] (bind1 8) tYs (eFn sp__law_said E0X [] (aCons (eVar 6) (aCons (eVar 8) aNil)))) (eOp dMul (eLst (aCons (eVar 5) aNil)) (eC (.int 3)))) (sSeq (sRet (eC (.bl false)))
    sNext) sNext)
    (sSeq (sSet 7 (eOp dIx (eLst (aCons (eC .non) (aCons (eC (.int 7)) (aCons (eVar 3) (aCons (eC (.bl true)) (aCons (eTup (aCons (eVar 6) aNil)) aNil)))))) (eFn sp__law_draw (kX EX) [] (aCons (eVar 0) (aCons (eC (.int 5)) aNil)))))
    (sSeq (sRet (eAn (eEq false (eFn sp__law_said (kX EX) [] (aCons (eVar 7) (aCons (eVar 2) aNil))) (eTup (aCons (eC (.str ("at" : PySem.Str))) (aCons (eC (.int 0)) aNil)))) (eNo (eCall dIsi (aCons (eOp dIx (eVar 5) (eC (.int 1))) (aCons (eC (.ty "bool")) aNil))))))
    sNext)))))) = T at tail5
  unfold t__law_right
  rw [hT]
  walk_at "ev"
  refine ⟨w, k, 2, rfl, hw, by decide, by decide, fun v S1 a1 b1 t1 => ?_⟩
  refine ⟨w, k, 4, rfl, hw.to t1, by decide, by decide, fun u S2 a2 b2 t2 => ?_⟩
  have t2 := t1.trans t2
  obtain ⟨u, rfl⟩ : ∃ u' : Nat, u = u' := ⟨u.toNat, by omega⟩
  obtain ⟨v, rfl⟩ : ∃ v' : Nat, v = v' := ⟨v.toNat, by omega⟩
  refine add_ints ?_
  refine ⟨w, k, 1 + u, by congr 2, hw.to t2, by omega, fun ns S3 N hn t3 => ?_⟩
  have t3 := t2.trans t3
  refine ⟨w, k, ns, rfl, hw.to t3, N, by omega, fun ws S4 W t4 => ?_⟩
  have t4 := t3.trans t4
  refine (⟨⟨by omega, by omega⟩, ?_⟩ : smallI (1 + (v : Int)) ∧ _)
  rw [show ((1 : Int) + (v : Int)).toNat = 1 + v by omega]
  refine ⟨fun i G S' => ∃ (ws : List PySem.Str) (o4 : Option D), G = [some (.ref w), some (.int (1 + (v : Int))), some (namD ns), some (namD ws), o4, none, none, none, none] ∧ AllW ws (15 + i) ∧ Wst S S' k w, ⟨ws, none, rfl, W, t4⟩, ?_, ?_⟩
  · rintro i d G S' hi ⟨ws, o4, rfl, W, t⟩
    rw [span_map] at hi
    obtain ⟨hi, rfl⟩ := range_get hi
    walk_at "ev"
    refine ⟨w, k, 15 + i, ws, ns, rfl, hw.to t, N, by omega, by omega, W, fun ws' S5 W' t5 => ⟨ws', _, rfl, W', t.trans t5⟩⟩
  · rintro G S' ⟨ws, o4, rfl, W, t⟩
    rw [span_len] at W
    have W20 : AllW ws 20 := ⟨by have := W.1; omega, W.2⟩
    walk_at "ev"
    refine fit_of (by show 0 ≤ 1000000; decide) (Or.inl ?_)
    refine eq_ok 1 (okw W) (by decide) (by decide) (fun e => ?_) (fun e => ?_)
    · refine ⟨fun _ => ?_, fun z => (by cases z)⟩
      refine fit_of (by show 1 ≤ 1000000; decide) (Or.inl ?_)
      exact tail5 ns [""] S' _ _ t N ⟨by decide, fun s hs => by rw [List.mem_singleton.mp hs]; exact (wc_lit (by decide +kernel) 9 (by decide +kernel)).x (by decide)⟩ (by simp)
    · exact ⟨fun z => (by cases z), fun _ => tail5 ns ws S' _ _ t N W20 fun h => e (by rw [h]; rfl)⟩
theorem sl_slst {xs : List D} {lo hi : Option Int} {S : Sto} {Q : QD} (q : Q (.lst (DL.cutD xs lo hi)) S) : dSl (.slst xs) lo hi S Q := Or.inl q
theorem flag_mul {z c : Int} {S : Sto} {Q : QD} (q : ∀ y, Q (.int y) S) : dOrd .GtE (.int z) (.int c) S fun k S3 => dInt [.bl k] S3 fun y S2 => dMul (.int z) y S2 Q := by
  show dMul (.int z) (.int (if decide (c ≤ z) then 1 else 0)) S Q
  exact ⟨mul_ok_r (by split <;> decide), q _⟩
theorem pure_law {ds : List D} {S : Sto} {Q : QD} {EX : EXT} (h : sp_law ds S Q EX) : t_law EX (endS Q) (startG ["_law_script", "_law_k", "_law_cell"] ds) S := by
  obtain ⟨ns, rfl, hl, rfl, q⟩ := h
  obtain ⟨ms, em⟩ : ∃ ms : List Int, DL.cutD (ns.map D.int) none (some 10) = ms.map D.int := cut_ints ns none (some 10)
  show t_law EX (endS Q) [some (.slst (ns.map D.int)), none, none] _
  unfold t_law
  have last : ∀ (S' : Sto) (o1 o2 : Option D), ((sSeq (sRet (eAn (eEq false (eFn sp__law_said (kX EX) [] (aCons (eC (.str ("" : PySem.Str))) (aCons (eLst aNil) aNil))) (eTup (aCons (eC (.str ("at" : PySem.Str))) (aCons (eC (.int 0)) aNil)))) (eEq false (eFn sp__law_said (kX EX) [] (aCons (eC (.str ("0" : PySem.Str))) (aCons (eLst aNil) aNil))) (eTup (aCons (eC (.str ("told" : PySem.Str))) (aCons (eTup aNil) aNil))))))
    sNext)) (endS Q) [some (.slst (ns.map D.int)), o1, o2] S' := by
    intro S' o1 o2
    walk_at "ev"
    have nb : ∀ {S' : Sto} {P : Bool → Sto → Prop}, P true S' → dEq false (ansD [] (.error 0)) (.tup [.str "at", .int 0]) S' P := fun p => eq_same 2 (ok_ansD _ _) (by decide) rfl p
    have z0 : Txt.split zeroS spS = [zeroS] := by
      have := splitX (ws := [zeroS]) (by simp) fun w hw => by rw [List.mem_singleton.mp hw]; exact wx_of wd_zero
      have e2 : Txt.join spS [zeroS] = zeroS := by rw [join_eq]; rfl
      rw [e2] at this
      exact this
    have e0 : Txt.split ("" : PySem.Str) spS = [("" : PySem.Str)] := by
      have := splitX (ws := [("" : PySem.Str)]) (by simp) fun w hw => by rw [List.mem_singleton.mp hw]; exact (wc_lit (by decide +kernel) 9 (by decide +kernel)).x (by decide)
      have e2 : Txt.join spS [("" : PySem.Str)] = "" := by rw [join_eq]; rfl
      rw [e2] at this
      exact this
    refine fit_of (by show 0 ≤ 1000000; decide) (Or.inl ?_)
    refine ⟨.str "", .lst [], [], rfl, .inl rfl, ⟨by decide, (fun s hs => by cases hs)⟩, .inl ⟨"", [("" : PySem.Str)], rfl, by decide +kernel, e0, ⟨by decide, fun s hs => by rw [List.mem_singleton.mp hs]; exact (wc_lit (by decide +kernel) 9 (by decide +kernel)).x (by decide)⟩, ?_⟩⟩
    have t0 : termsW (some []) [("" : PySem.Str)] = .error 0 := by
      have h1 : ("" : PySem.Str) ≠ minusS := by decide +kernel
      have h2 : numIn ("" : PySem.Str) = none := by decide +kernel
      have h3 : ([("" : PySem.Str)] : List PySem.Str) ≠ [zeroS] := by decide +kernel
      unfold termsW
      rw [if_neg h3]
      show termsF (some []) 1 (1 + 1) true [("" : PySem.Str)] = _
      rw [terms_sgn (skipS_first h1 []), afterS_no h2, afterN_out (fun s hs => by cases hs) (by simp)]
      rfl
    rw [t0]
    refine fit_of (by show 2 ≤ 1000000; decide) (nb ⟨fun _ => ?_, fun z => (by cases z)⟩)
    refine fit_of (by show 0 ≤ 1000000; decide) (Or.inl ?_)
    refine ⟨.str zeroS, .lst [], [], rfl, .inl rfl, ⟨by decide, (fun s hs => by cases hs)⟩, .inl ⟨zeroS, [zeroS], rfl, by decide +kernel, z0, ⟨by decide, fun s hs => by rw [List.mem_singleton.mp hs]; exact wx_of wd_zero⟩, ?_⟩⟩
    have t1 : termsW (some []) [zeroS] = .ok [] := if_pos rfl
    rw [t1]
    refine fit_of (by show 0 ≤ 1000000; decide) (fit_of (by show 2 ≤ 1000000; decide) ?_)
    exact eq_same 2 (ok_ansD [] (.ok [])) (by decide) rfl (q S')
  generalize hT : ((sSeq (sRet (eAn (eEq false (eFn sp__law_said (kX EX) [] (aCons (eC (.str ("" : PySem.Str))) (aCons (eLst aNil) aNil))) (eTup (aCons (eC (.str ("at" : PySem.Str))) (aCons (eC (.int 0)) aNil)))) (eEq false (eFn sp__law_said (kX EX) [] (aCons (eC (.str ("0" : PySem.Str))) (aCons (eLst aNil) aNil))) (eTup (aCons (eC (.str ("told" : PySem.Str))) (aCons (eTup aNil) aNil))))))
    sNext)) = T at last
  walk_at "ev"
  refine fit_of (by show 1 ≤ 1000000; decide) (Or.inl ?_)
  refine isI_ofT ?_
  refine sl_slst ?_
  rw [em]
  have lm : ms.length ≤ 63 := by
    have := cut_le (ns.map D.int) none (some 10)
    rw [em, List.length_map, List.length_map] at this
    omega
  refine add_lst (by rw [List.length_map]; show 1 + ms.length ≤ 16777216; omega) ?_
  have e0 : [D.int 0] ++ ms.map D.int = (0 :: ms).map D.int := rfl
  rw [e0]
  generalize (0 :: ms) = us
  refine itl_lst ?_
  refine ⟨fun i Gl S' => ∃ o1 o2 : Option D, Gl = [some (.slst (ns.map D.int)), o1, o2], ⟨_, _, rfl⟩, fun _ _ _ _ => .nil, ?_, ?_⟩
  · rintro i d Gl S' hd ⟨o1, o2, rfl⟩
    obtain ⟨x, hx, rfl⟩ := enum_at hd
    obtain ⟨z, rfl⟩ : ∃ z : Int, x = .int z := by
      rw [List.getElem?_map] at hx
      cases e : us[i]? with
      | none => rw [e] at hx; cases hx
      | some z => rw [e] at hx; exact ⟨z, (Option.some.inj hx).symm⟩
    walk_at "ev"
    refine ⟨⟨by decide, by decide, by decide⟩, ?_⟩
    refine flag_mul fun y => ?_
    refine ⟨by decide, ?_⟩
    refine ⟨mul_ok_l (by decide), ?_⟩
    refine add_ints ?_
    refine fit_of (by show 3 ≤ 1000000; decide) (Or.inr fun p => ?_)
    refine ⟨p, 0, rfl, ⟨_, _, _, rfl⟩, fun S2 => ?_⟩
    exact ⟨fun z => (by cases z), fun _ => ⟨_, _, rfl⟩⟩
  · rintro Gl S' ⟨o1, o2, rfl⟩
    exact last S' o1 o2
end LK
end

set_option maxRecDepth 100000
set_option maxHeartbeats 4000000
namespace LK
open PySem PySem.Spec PyProof.Rows L2 DL
open PySem.W (Frag)
theorem knL_is : ∀ n, knL n = true → n = .NoText := by intro n h; cases n <;> first | (exact absurd h (by decide)) | simp
theorem knL_all {P : XN → Prop} (h0 : P .NoText) : ∀ n, knL n = true → P n := fun n hn => by
  rcases knL_is n hn with rfl
  · exact h0
theorem exc_cn {K : Frag} {n : Str} {C C2 : Addr} (a : CN K n C) (e : ExcC K C) (h : CN K n C2) : ExcC K C2 := CN.inj a h ▸ e
structure Txt (m : Mo) : Prop where
  seer : SeerM m
  g_FIGURES : ∃ t, m.mg "FIGURES" = some (.str ("0123456789" : PySem.Str) t)
  g_LETTERS : ∃ t, m.mg "LETTERS" = some (.str ("abcdefghijklmnopqrstuvwxyz" : PySem.Str) t)
  g_MOST_FIGURES : ∃ t, m.mg "MOST_FIGURES" = some (.int 40 t)
  n_ValueError : m.mg "ValueError" = none
  n_all : m.mg "all" = none
  n_bool : m.mg "bool" = none
  n_enumerate : m.mg "enumerate" = none
  n_int : m.mg "int" = none
  n_isinstance : m.mg "isinstance" = none
  n_len : m.mg "len" = none
  n_list : m.mg "list" = none
  n_range : m.mg "range" = none
  n_str : m.mg "str" = none
  n_tuple : m.mg "tuple" = none
  xt_NoughtError : TryF m knL .NoughtError
  xi_NoLine : IsXF m knL .NoLine
  xi_NoName : IsXF m knL .NoName
  xi_NoRow : IsXF m knL .NoRow
  xi_NoText : IsXF m knL .NoText
  xf_at : XfF m knL "at"
  xv : IsVF m knL
  xc : ∀ n Cn, knL n = true → CN m.K n.str Cn → ExcC m.K Cn
theorem sc_is_name : FnScope ["thing", "sign"] ["thing"] (defScope s_is_name) := ⟨rfl, rfl, rfl, by decide +kernel, rfl, by decide +kernel, by decide +kernel⟩
theorem sc_number_in : FnScope ["word", "sign"] ["word"] (defScope s_number_in) := ⟨rfl, rfl, rfl, by decide +kernel, rfl, by decide +kernel, by decide +kernel⟩
theorem sc_is_kind : FnScope ["word", "names"] ["word", "names"] (defScope s_is_kind) := ⟨rfl, rfl, rfl, by decide +kernel, rfl, by decide +kernel, by decide +kernel⟩
theorem sc_terms_in : FnScope ["words", "names", "found", "at", "sign", "many"] ["words", "names"] (defScope s_terms_in) := ⟨rfl, rfl, rfl, by decide +kernel, rfl, by decide +kernel, by decide +kernel⟩
theorem sc_sum_of_terms : FnScope ["terms", "names", "found", "many", "name", "at"] ["terms", "names"] (defScope s_sum_of_terms) := ⟨rfl, rfl, rfl, by decide +kernel, rfl, by decide +kernel, by decide +kernel⟩
theorem sc_read_handful : FnScope ["text", "names"] ["text", "names"] (defScope s_read_handful) := ⟨rfl, rfl, rfl, by decide +kernel, rfl, by decide +kernel, by decide +kernel⟩
theorem sc__law_draw : FnScope ["_law_well", "_law_many", "_law_found", "_law_number"] ["_law_well", "_law_many"] (defScope s__law_draw) := ⟨rfl, rfl, rfl, by decide +kernel, rfl, by decide +kernel, by decide +kernel⟩
theorem sc__law_names : FnScope ["_law_well", "_law_many", "_law_letters", "_law_first", "_law_base", "_law_k"] ["_law_well", "_law_many"] (defScope s__law_names) := ⟨rfl, rfl, rfl, by decide +kernel, rfl, by decide +kernel, by decide +kernel⟩
theorem sc__law_terms : FnScope ["_law_well", "_law_names_here", "_law_words", "_law_k", "_law_sign"] ["_law_well", "_law_names_here"] (defScope s__law_terms) := ⟨rfl, rfl, rfl, by decide +kernel, rfl, by decide +kernel, by decide +kernel⟩
theorem sc__law_odd : FnScope ["_law_well", "_law_names_here", "_law_name", "_law_figures_here", "_law_some"] ["_law_well", "_law_names_here"] (defScope s__law_odd) := ⟨rfl, rfl, rfl, by decide +kernel, rfl, by decide +kernel, by decide +kernel⟩
theorem sc__law_spoilt : FnScope ["_law_well", "_law_words", "_law_names_here", "_law_at", "_law_way"] ["_law_well", "_law_words", "_law_names_here"] (defScope s__law_spoilt) := ⟨rfl, rfl, rfl, by decide +kernel, rfl, by decide +kernel, by decide +kernel⟩
theorem sc__law_figures : FnScope ["_law_word", "_law_sign"] ["_law_word"] (defScope s__law_figures) := ⟨rfl, rfl, rfl, by decide +kernel, rfl, by decide +kernel, by decide +kernel⟩
theorem sc__law_walk : FnScope ["_law_words", "_law_names_here", "_law_found", "_law_wants", "_law_sign", "_law_many", "_law_at", "_law_word", "_law_ahead", "_law_place"] ["_law_words", "_law_names_here"] (defScope s__law_walk) := ⟨rfl, rfl, rfl, by decide +kernel, rfl, by decide +kernel, by decide +kernel⟩
theorem sc__law_said : FnScope ["_law_text", "_law_names_here", "_law_told", "e", "_law_others"] ["_law_text", "_law_names_here"] (defScope s__law_said) := ⟨rfl, rfl, rfl, by decide +kernel, rfl, by decide +kernel, by decide +kernel⟩
theorem sc__law_right : FnScope ["_law_well", "_law_times_spoilt", "_law_names_here", "_law_words", "_law_k", "_law_due", "_law_text", "_law_odd_here", "_law_some"] ["_law_well"] (defScope s__law_right) := ⟨rfl, rfl, rfl, by decide +kernel, rfl, by decide +kernel, by decide +kernel⟩
theorem sc_law : FnScope ["_law_script", "_law_k", "_law_cell"] ["_law_script"] (defScope s_law) := ⟨rfl, rfl, rfl, by decide +kernel, rfl, by decide +kernel, by decide +kernel⟩
theorem sc_NoText___init__ : FnScope ["self", "at"] ["self", "at"] (defScope s_NoText___init__) := ⟨rfl, rfl, rfl, by decide +kernel, rfl, by decide +kernel, by decide +kernel⟩
theorem fx_NoText___init__ : fxC ["self", "at"] (defScope s_NoText___init__) [some .local, some .local] ["NoughtError"] = true := by decide +kernel
theorem di_NoText {m : Mo} {N f : Addr} {cdv : Value} {A : Around} {outer : List Env} {s : Shared} {H : Hp} {E : XK} (NT : NtC m.K N) (hN : m.mg "NoughtError" = some (.ref N)) {sc : Scope} {body : List Stmt} (hsc : sc = defScope s_NoText___init__) (hb : body = defBody s_NoText___init__) :
    PSs (cxOf (L2.CX m.P m.w) m.P m.w m.K m.mg m.base ["self", "at"] "NoText.__init__" sc f cdv A outer s H E) body (tSeq (L2.tDrop (tVeI m.K (tCons (tVar 0) (tCons (tC (.str "no text of a handful")) tNil)))) (tOst m.K "at" (tVar 0) (tVar 1))) := by
  have φ : Fx (cxOf (L2.CX m.P m.w) m.P m.w m.K m.mg m.base ["self", "at"] "NoText.__init__" sc f cdv A outer s H E) [some .local, some .local] ["NoughtError"] := by rw [hsc]; exact fx_cx fx_NoText___init__
  conv at hsc => rhs; whnf
  conv at hb => rhs; whnf
  subst hsc; subst hb
  exact pss_cons (ps_expr (pe_ninit NT (φ.gl 0 _ rfl).1 hN (pa_cons (pv_of φ 0 rfl rfl) (pa_cons pe_str pa_nil)) (φ.gl 0 _ rfl).2.1) rfl) (pss_one (ps_ost (pv_of φ 0 rfl rfl) (pv_of φ 1 rfl rfl)))
section
variable {m : Mo} {f : Addr} {fd : FuncData} {cdv : Value} {A : Around} {outer : List Env} {s : Shared} {H B : Hp} {E : XK} {EX : EXT}
theorem fx_is_name : fxC ["thing", "sign"] (defScope s_is_name) [some .local, none] ["all", "str", "isinstance", "len"] = true := by decide +kernel
theorem d_is_name (T : Txt m)  {sc : Scope} {body : List Stmt} (hsc : sc = defScope s_is_name) (hb : body = defBody s_is_name) {hE hr nd} : PSsd (bodyC m ["thing", "sign"] "is_name" sc f cdv A outer s H B E EX 35 hE hr nd) body (t_is_name EX) := by
  have φ : Fx (bodyC m ["thing", "sign"] "is_name" sc f cdv A outer s H B E EX 35 hE hr nd).X [some .local, none] ["all", "str", "isinstance", "len"] := fx_body (by rw [hsc]; exact fx_is_name)
  conv at hsc => rhs; whnf
  conv at hb => rhs; whnf
  subst hsc; subst hb
  exact (ds_cons (ds_if (dt_of (dw_or (dt_not (dt_val (d_bi φ 2 call_isi b_isi T.n_isinstance bb_isinstance (da_cons (d_var φ 0) (da_cons (d_ty φ 1 T.n_str bb_str) da_nil))))) (dw_or1 (dt_not (dt_chn d_int (d_bi φ 3 call_len b_len T.n_len bb_len (da_cons (d_var φ 0) da_nil)) d_int))))) (ds_cons (ds_ret d_bl)
    ds_nil) ds_nil)
    (ds_cons (ds_ret (d_bi φ 0 (cr_all rfl) b_all T.n_all bb_all (da_cons (d_lcF [none, some .local] ["LETTERS"] [("sign", 1)] (by decide +kernel) (by decide +kernel) (fun h => bind_name h 1) (di_seq (d_var φ 0)) (fun _ => dts_nil) (fun _ _ _ _ _ ψ => (d_inS (d_var ψ 1) (d_gcS ψ 0 T.g_LETTERS)))) da_nil)))
    ds_nil))
theorem ok_is_name (T : Txt m)  (F : Fun m.K "is_name" "is_name" s_is_name f fd) : FnOk m.P m.w m.K m.mg m.base (L2.CX m.P m.w) 36 f fd ["thing"] (lift m.K sp_is_name) :=
  fn_ok T.seer F sc_is_name ln_is_name fun cdv A outer s H B E EX hE hr ds S Q h => d_is_name T  rfl rfl _ _ _ (pure_is_name h)
theorem fx_number_in : fxC ["word", "sign"] (defScope s_number_in) [some .local, none] ["int", "len", "MOST_FIGURES", "all"] = true := by decide +kernel
theorem d_number_in (T : Txt m)  {sc : Scope} {body : List Stmt} (hsc : sc = defScope s_number_in) (hb : body = defBody s_number_in) {hE hr nd} : PSsd (bodyC m ["word", "sign"] "number_in" sc f cdv A outer s H B E EX 35 hE hr nd) body (t_number_in EX) := by
  have φ : Fx (bodyC m ["word", "sign"] "number_in" sc f cdv A outer s H B E EX 35 hE hr nd).X [some .local, none] ["int", "len", "MOST_FIGURES", "all"] := fx_body (by rw [hsc]; exact fx_number_in)
  conv at hsc => rhs; whnf
  conv at hb => rhs; whnf
  subst hsc; subst hb
  exact (ds_cons (ds_if (dt_of (dw_or (dt_not (dt_chn d_int (d_bi φ 1 call_len b_len T.n_len bb_len (da_cons (d_var φ 0) da_nil)) (d_gcI φ 2 T.g_MOST_FIGURES))) (dw_or1 (dt_not (dt_val (d_bi φ 3 (cr_all rfl) b_all T.n_all bb_all (da_cons (d_lcF [none, some .local] ["FIGURES"] [("sign", 1)] (by decide +kernel) (by decide +kernel) (fun h => bind_name h 1) (di_seq (d_var φ 0)) (fun _ => dts_nil) (fun _ _ _ _ _ ψ => (d_inS (d_var ψ 1) (d_gcS ψ 0 T.g_FIGURES)))) da_nil))))))) (ds_cons (ds_ret d_non)
    ds_nil) ds_nil)
    (ds_cons (ds_if (dt_eq (d_ix (d_var φ 0) d_int) d_str) (ds_cons (ds_ret d_non)
    ds_nil) ds_nil)
    (ds_cons (ds_ret (d_bt φ 0 call_int_str b_intS T.n_int bb_int (da_cons (d_var φ 0) da_nil)))
    ds_nil)))
theorem ok_number_in (T : Txt m)  (F : Fun m.K "number_in" "number_in" s_number_in f fd) : FnOk m.P m.w m.K m.mg m.base (L2.CX m.P m.w) 36 f fd ["word"] (lift m.K sp_number_in) :=
  fn_ok T.seer F sc_number_in ln_number_in fun cdv A outer s H B E EX hE hr ds S Q h => d_number_in T  rfl rfl _ _ _ (pure_number_in h)
theorem fx_is_kind : fxC ["word", "names"] (defScope s_is_kind) [some .local, some .local] ["is_name"] = true := by decide +kernel
theorem d_is_kind (T : Txt m) (F_is_name : FnD m "is_name" 36 [] sp_is_name) {sc : Scope} {body : List Stmt} (hsc : sc = defScope s_is_kind) (hb : body = defBody s_is_kind) {hE hr nd} : PSsd (bodyC m ["word", "names"] "is_kind" sc f cdv A outer s H B E EX 36 hE hr nd) body (t_is_kind EX) := by
  have φ : Fx (bodyC m ["word", "names"] "is_kind" sc f cdv A outer s H B E EX 36 hE hr nd).X [some .local, some .local] ["is_name"] := fx_body (by rw [hsc]; exact fx_is_kind)
  conv at hsc => rhs; whnf
  conv at hb => rhs; whnf
  subst hsc; subst hb
  exact (ds_cons (ds_ret (d_and (d_fn φ 0 F_is_name (Nat.le_of_ble_eq_true rfl) (da_cons (d_var φ 0) da_nil)) (d_one (d_or (d_isN (d_var φ 1)) (d_one (d_in' (d_var φ 0) (d_var φ 1)))))))
    ds_nil)
theorem ok_is_kind (T : Txt m) (F_is_name : FnD m "is_name" 36 [] sp_is_name) (F : Fun m.K "is_kind" "is_kind" s_is_kind f fd) : FnOk m.P m.w m.K m.mg m.base (L2.CX m.P m.w) 37 f fd ["word", "names"] (lift m.K sp_is_kind) :=
  fn_ok T.seer F sc_is_kind ln_is_kind fun cdv A outer s H B E EX hE hr ds S Q h => d_is_kind T F_is_name rfl rfl _ _ _ (pure_is_kind h)
theorem fx_terms_in : fxC ["words", "names", "found", "at", "sign", "many"] (defScope s_terms_in) [some .local, some .local, some .local, some .local, some .local, some .local] ["len", "is_kind", "NoText", "number_in", "int"] = true := by decide +kernel
theorem d_terms_in (T : Txt m) (E_NoText : ExD m .NoText 1 ["at"]) (F_is_kind : FnD m "is_kind" 37 [] sp_is_kind) (F_number_in : FnD m "number_in" 36 [] sp_number_in) {sc : Scope} {body : List Stmt} (hsc : sc = defScope s_terms_in) (hb : body = defBody s_terms_in) {hE hr nd} : PSsd (bodyC m ["words", "names", "found", "at", "sign", "many"] "terms_in" sc f cdv A outer s H B E EX 37 hE hr nd) body (t_terms_in EX) := by
  have φ : Fx (bodyC m ["words", "names", "found", "at", "sign", "many"] "terms_in" sc f cdv A outer s H B E EX 37 hE hr nd).X [some .local, some .local, some .local, some .local, some .local, some .local] ["len", "is_kind", "NoText", "number_in", "int"] := fx_body (by rw [hsc]; exact fx_terms_in)
  conv at hsc => rhs; whnf
  conv at hb => rhs; whnf
  subst hsc; subst hb
  exact (ds_cons (ds_set φ 2 (d_lst da_nil))
    (ds_cons (ds_if (dt_eq (d_var φ 0) (d_lst (da_cons d_str da_nil))) (ds_fz 2 (ds_cons (ds_ret (d_var φ 2))
    ds_nil)) ds_nil)
    (ds_cons (ds_set φ 3 d_int)
    (ds_cons (ds_while body_passes (dt_of (dw_or (dt_eq (d_var φ 3) d_int) (dw_or1 (dt_ord (d_var φ 3) (d_bi φ 0 call_len b_len T.n_len bb_len (da_cons (d_var φ 0) da_nil)))))) (ds_cons (ds_set φ 4 d_int)
    (ds_cons (ds_if (dt_of (dw_and (dt_ord (d_var φ 3) d_int) (dw_and1 (dt_ni (d_ix (d_var φ 0) (d_var φ 3)) (d_tup (da_cons d_str (da_cons d_str da_nil))))))) (ds_dr (ds_cons (ds_raise φ 2 E_NoText (Nat.le_of_ble_eq_true rfl) (da_cons (d_var φ 3) da_nil))
    ds_nil)) ds_nil)
    (ds_cons (ds_if (dt_of (dw_or (dt_ord (d_var φ 3) d_int) (dw_or1 (dt_eq (d_sl (d_var φ 0) do_no (do_some d_int)) (d_lst (da_cons d_str da_nil)))))) (ds_cons (ds_set φ 4 (d_sub d_int (d_mul d_int (d_bt φ 4 call_int1 b_int T.n_int bb_int (da_cons (d_eq (d_ix (d_var φ 0) (d_var φ 3)) d_str) da_nil)))))
    (ds_cons (ds_set φ 3 (d_add (d_var φ 3) d_int))
    ds_nil)) ds_nil)
    (ds_cons (ds_set φ 5 d_int)
    (ds_cons (ds_if (dt_of (dw_and (dt_ord (d_var φ 3) (d_bi φ 0 call_len b_len T.n_len bb_len (da_cons (d_var φ 0) da_nil))) (dw_and1 (dt_notN (d_fn φ 3 F_number_in (Nat.le_of_ble_eq_true rfl) (da_cons (d_ix (d_var φ 0) (d_var φ 3)) da_nil)))))) (ds_cons (ds_set φ 5 (d_fn φ 3 F_number_in (Nat.le_of_ble_eq_true rfl) (da_cons (d_ix (d_var φ 0) (d_var φ 3)) da_nil)))
    (ds_cons (ds_set φ 3 (d_add (d_var φ 3) d_int))
    ds_nil)) ds_nil)
    (ds_cons (ds_if (dt_of (dw_or (dt_ord (d_var φ 3) (d_bi φ 0 call_len b_len T.n_len bb_len (da_cons (d_var φ 0) da_nil))) (dw_or1 (dt_not (dt_val (d_fn φ 1 F_is_kind (Nat.le_of_ble_eq_true rfl) (da_cons (d_ix (d_var φ 0) (d_var φ 3)) (da_cons (d_var φ 1) da_nil)))))))) (ds_dr (ds_cons (ds_raise φ 2 E_NoText (Nat.le_of_ble_eq_true rfl) (da_cons (d_var φ 3) da_nil))
    ds_nil)) ds_nil)
    (ds_cons (ds_ex (d_append (d_var φ 2) (da_cons (d_tup (da_cons (d_mul (d_var φ 4) (d_var φ 5)) (da_cons (d_ix (d_var φ 0) (d_var φ 3)) da_nil))) da_nil)))
    (ds_cons (ds_set φ 3 (d_add (d_var φ 3) d_int))
    ds_nil)))))))))
    (ds_fz 2 (ds_cons (ds_ret (d_var φ 2))
    ds_nil))))))
theorem ok_terms_in (T : Txt m) (E_NoText : ExD m .NoText 1 ["at"]) (F_is_kind : FnD m "is_kind" 37 [] sp_is_kind) (F_number_in : FnD m "number_in" 36 [] sp_number_in) (F : FunD m.K "terms_in" "terms_in" (defArgs s_terms_in) (defBody s_terms_in) (defScope s_terms_in) [.non] [] f fd) : FnOk m.P m.w m.K m.mg m.base (L2.CX m.P m.w) 38 f fd ["words", "names"] (lift m.K sp_terms_in) :=
  fn_okD T.seer F sc_terms_in ln_terms_in fun cdv A outer s H B E EX hE hr ds S Q h => d_terms_in T E_NoText F_is_kind F_number_in rfl rfl _ _ _ (pure_terms_in h)
theorem fx_sum_of_terms : fxC ["terms", "names", "found", "many", "name", "at"] (defScope s_sum_of_terms) [some .local, some .local, some .local, some .local, some .local, some .local] ["tuple", "list", "len"] = true := by decide +kernel
theorem d_sum_of_terms (T : Txt m)  {sc : Scope} {body : List Stmt} (hsc : sc = defScope s_sum_of_terms) (hb : body = defBody s_sum_of_terms) {hE hr nd} : PSsd (bodyC m ["terms", "names", "found", "many", "name", "at"] "sum_of_terms" sc f cdv A outer s H B E EX 35 hE hr nd) body (t_sum_of_terms EX) := by
  have φ : Fx (bodyC m ["terms", "names", "found", "many", "name", "at"] "sum_of_terms" sc f cdv A outer s H B E EX 35 hE hr nd).X [some .local, some .local, some .local, some .local, some .local, some .local] ["tuple", "list", "len"] := fx_body (by rw [hsc]; exact fx_sum_of_terms)
  conv at hsc => rhs; whnf
  conv at hb => rhs; whnf
  subst hsc; subst hb
  exact (ds_cons (ds_set φ 2 (d_mul (d_lst (da_cons d_int da_nil)) (d_bi φ 2 call_len b_len T.n_len bb_len (da_cons (d_var φ 1) da_nil))))
    (ds_cons (ds_for body_passes (di_seq (d_var φ 0)) (dg_tp 2 (dgs_cons (dg_nm φ 3) (dgs_cons (dg_nm φ 4) dgs_nil))) (ds_cons (ds_set φ 5 (d_index (d_bt φ 1 call_list_of b_list T.n_list bb_list (da_cons (d_var φ 1) da_nil)) (da_cons (d_var φ 4) da_nil)))
    (ds_cons (ds_asg (d_add (d_ix (d_var φ 2) (d_var φ 5)) (d_var φ 3)) (dg_ix (d_var φ 2) (d_var φ 5)))
    ds_nil)))
    (ds_cons (ds_ret (d_bt φ 0 call_tuple_of b_tuple T.n_tuple bb_tuple (da_cons (d_var φ 2) da_nil)))
    ds_nil)))
theorem ok_sum_of_terms (T : Txt m)  (F : Fun m.K "sum_of_terms" "sum_of_terms" s_sum_of_terms f fd) : FnOk m.P m.w m.K m.mg m.base (L2.CX m.P m.w) 36 f fd ["terms", "names"] (lift m.K sp_sum_of_terms) :=
  fn_okX T.seer F sc_sum_of_terms ln_sum_of_terms fun cdv A outer s H B E EX hE hr ds S Q h => d_sum_of_terms T  rfl rfl _ _ _ (pure_sum_of_terms h)
theorem fx_read_handful : fxC ["text", "names"] (defScope s_read_handful) [some .local, some .local] ["terms_in", "sum_of_terms", "str", "isinstance", "NoText"] = true := by decide +kernel
theorem d_read_handful (T : Txt m) (E_NoText : ExD m .NoText 1 ["at"]) (F_sum_of_terms : FnD m "sum_of_terms" 36 [] sp_sum_of_terms) (F_terms_in : FnD m "terms_in" 38 [] sp_terms_in) {sc : Scope} {body : List Stmt} (hsc : sc = defScope s_read_handful) (hb : body = defBody s_read_handful) {hE hr nd} : PSsd (bodyC m ["text", "names"] "read_handful" sc f cdv A outer s H B E EX 38 hE hr nd) body (t_read_handful EX) := by
  have φ : Fx (bodyC m ["text", "names"] "read_handful" sc f cdv A outer s H B E EX 38 hE hr nd).X [some .local, some .local] ["terms_in", "sum_of_terms", "str", "isinstance", "NoText"] := fx_body (by rw [hsc]; exact fx_read_handful)
  conv at hsc => rhs; whnf
  conv at hb => rhs; whnf
  subst hsc; subst hb
  exact (ds_cons (ds_if (dt_not (dt_val (d_bi φ 3 call_isi b_isi T.n_isinstance bb_isinstance (da_cons (d_var φ 0) (da_cons (d_ty φ 2 T.n_str bb_str) da_nil))))) (ds_cons (ds_raise φ 4 E_NoText (Nat.le_of_ble_eq_true rfl) (da_cons d_int da_nil))
    ds_nil) ds_nil)
    (ds_cons (ds_ret (d_fn φ 1 F_sum_of_terms (Nat.le_of_ble_eq_true rfl) (da_cons (d_fn φ 0 F_terms_in (Nat.le_of_ble_eq_true rfl) (da_cons (d_split (d_var φ 0) (da_cons d_str da_nil)) (da_cons (d_var φ 1) da_nil))) (da_cons (d_var φ 1) da_nil))))
    ds_nil))
theorem ok_read_handful (T : Txt m) (E_NoText : ExD m .NoText 1 ["at"]) (F_sum_of_terms : FnD m "sum_of_terms" 36 [] sp_sum_of_terms) (F_terms_in : FnD m "terms_in" 38 [] sp_terms_in) (F : Fun m.K "read_handful" "read_handful" s_read_handful f fd) : FnOk m.P m.w m.K m.mg m.base (L2.CX m.P m.w) 39 f fd ["text", "names"] (lift m.K sp_read_handful) :=
  fn_ok T.seer F sc_read_handful ln_read_handful fun cdv A outer s H B E EX hE hr ds S Q h => d_read_handful T E_NoText F_sum_of_terms F_terms_in rfl rfl _ _ _ (pure_read_handful h)
theorem fx__law_draw : fxC ["_law_well", "_law_many", "_law_found", "_law_number"] (defScope s__law_draw) [some .local, some .local, some .local, some .local] [] = true := by decide +kernel
theorem d__law_draw (T : Txt m)  {sc : Scope} {body : List Stmt} (hsc : sc = defScope s__law_draw) (hb : body = defBody s__law_draw) {hE hr nd} : PSsd (bodyC m ["_law_well", "_law_many", "_law_found", "_law_number"] "_law_draw" sc f cdv A outer s H B E EX 35 hE hr nd) body (t__law_draw EX) := by
  have φ : Fx (bodyC m ["_law_well", "_law_many", "_law_found", "_law_number"] "_law_draw" sc f cdv A outer s H B E EX 35 hE hr nd).X [some .local, some .local, some .local, some .local] [] := fx_body (by rw [hsc]; exact fx__law_draw)
  conv at hsc => rhs; whnf
  conv at hb => rhs; whnf
  subst hsc; subst hb
  exact (ds_cons (ds_if (dt_ord (d_ix (d_var φ 0) d_int) d_int) (ds_cons (ds_set φ 2 (d_mod (d_ix (d_var φ 0) d_int) (d_var φ 1)))
    (ds_cons (ds_asg (d_div (d_ix (d_var φ 0) d_int) (d_var φ 1)) (dg_ix (d_var φ 0) d_int))
    (ds_cons (ds_ret (d_var φ 2))
    ds_nil))) ds_nil)
    (ds_cons (ds_asg (d_add (d_ix (d_var φ 0) d_int) d_int) (dg_ix (d_var φ 0) d_int))
    (ds_cons (ds_set φ 3 (d_mod (d_mul (d_add (d_add (d_ix (d_var φ 0) d_int) (d_mul d_int (d_ix (d_var φ 0) d_int))) d_int) d_int) d_int))
    (ds_cons (ds_set φ 3 (d_mod (d_mul (d_var φ 3) (d_add (d_div (d_var φ 3) d_int) d_int)) d_int))
    (ds_cons (ds_ret (d_mod (d_mod (d_mul (d_var φ 3) (d_add (d_div (d_var φ 3) d_int) d_int)) d_int) (d_var φ 1)))
    ds_nil)))))
theorem ok__law_draw (T : Txt m)  (F : Fun m.K "_law_draw" "_law_draw" s__law_draw f fd) : FnOk m.P m.w m.K m.mg m.base (L2.CX m.P m.w) 36 f fd ["_law_well", "_law_many"] (lift m.K sp__law_draw) :=
  fn_ok T.seer F sc__law_draw ln__law_draw fun cdv A outer s H B E EX hE hr ds S Q h => d__law_draw T  rfl rfl _ _ _ (pure__law_draw h)
theorem fx__law_names : fxC ["_law_well", "_law_many", "_law_letters", "_law_first", "_law_base", "_law_k"] (defScope s__law_names) [some .cell, some .local, some .cell, some .cell, some .cell, none] ["range", "_law_draw"] = true := by decide +kernel
theorem d__law_names (T : Txt m) (F__law_draw : FnD m "_law_draw" 36 [] sp__law_draw) {sc : Scope} {body : List Stmt} (hsc : sc = defScope s__law_names) (hb : body = defBody s__law_names) {hE hr nd} : PSsd (bodyC m ["_law_well", "_law_many", "_law_letters", "_law_first", "_law_base", "_law_k"] "_law_names" sc f cdv A outer s H B E EX 36 hE hr nd) body (t__law_names EX) := by
  have φ : Fx (bodyC m ["_law_well", "_law_many", "_law_letters", "_law_first", "_law_base", "_law_k"] "_law_names" sc f cdv A outer s H B E EX 36 hE hr nd).X [some .cell, some .local, some .cell, some .cell, some .cell, none] ["range", "_law_draw"] := fx_body (by rw [hsc]; exact fx__law_names)
  conv at hsc => rhs; whnf
  conv at hb => rhs; whnf
  subst hsc; subst hb
  exact (ds_cons (ds_set φ 2 d_str)
    (ds_cons (ds_set φ 3 (d_fn φ 1 F__law_draw (Nat.le_of_ble_eq_true rfl) (da_cons (d_var φ 0) (da_cons d_int da_nil))))
    (ds_cons (ds_set φ 4 (d_join d_str (da_cons (d_lcF [some .cell, none, some .cell, none, none, some .local] ["_law_draw"] [("_law_k", 5)] (by decide +kernel) (by decide +kernel) (fun h => bind_name h 5) (di_r1 φ 0 T.n_range (da_cons d_int da_nil)) (fun _ => dts_nil) (fun _ _ _ _ _ ψ => (d_ix (d_var ψ 2) (d_fn ψ 0 F__law_draw (Nat.le_of_ble_eq_true rfl) (da_cons (d_var ψ 0) (da_cons d_int da_nil)))))) da_nil)))
    (ds_cons (ds_ret (d_lcF [some .cell, none, some .cell, some .cell, some .cell, some .local] ["_law_draw"] [("_law_k", 5)] (by decide +kernel) (by decide +kernel) (fun h => bind_name h 5) (di_r1 φ 0 T.n_range (da_cons (d_var φ 1) da_nil)) (fun _ => dts_nil) (fun _ _ _ _ _ ψ => (d_add (d_ix (d_var ψ 2) (d_mod (d_add (d_var ψ 3) (d_mul d_int (d_var ψ 5))) d_int)) (d_slS (d_var ψ 4) do_no (do_some (d_fn ψ 0 F__law_draw (Nat.le_of_ble_eq_true rfl) (da_cons (d_var ψ 0) (da_cons d_int da_nil)))))))))
    ds_nil))))
theorem ok__law_names (T : Txt m) (F__law_draw : FnD m "_law_draw" 36 [] sp__law_draw) (F : Fun m.K "_law_names" "_law_names" s__law_names f fd) : FnOk m.P m.w m.K m.mg m.base (L2.CX m.P m.w) 37 f fd ["_law_well", "_law_many"] (lift m.K sp__law_names) :=
  fn_ok T.seer F sc__law_names ln__law_names fun cdv A outer s H B E EX hE hr ds S Q h => d__law_names T F__law_draw rfl rfl _ _ _ (pure__law_names h)
theorem fx__law_terms : fxC ["_law_well", "_law_names_here", "_law_words", "_law_k", "_law_sign"] (defScope s__law_terms) [some .local, some .local, some .local, some .local, some .local] ["_law_draw", "range", "len", "str"] = true := by decide +kernel
theorem d__law_terms (T : Txt m) (F__law_draw : FnD m "_law_draw" 36 [] sp__law_draw) {sc : Scope} {body : List Stmt} (hsc : sc = defScope s__law_terms) (hb : body = defBody s__law_terms) {hE hr nd} : PSsd (bodyC m ["_law_well", "_law_names_here", "_law_words", "_law_k", "_law_sign"] "_law_terms" sc f cdv A outer s H B E EX 36 hE hr nd) body (t__law_terms EX) := by
  have φ : Fx (bodyC m ["_law_well", "_law_names_here", "_law_words", "_law_k", "_law_sign"] "_law_terms" sc f cdv A outer s H B E EX 36 hE hr nd).X [some .local, some .local, some .local, some .local, some .local] ["_law_draw", "range", "len", "str"] := fx_body (by rw [hsc]; exact fx__law_terms)
  conv at hsc => rhs; whnf
  conv at hb => rhs; whnf
  subst hsc; subst hb
  exact (ds_cons (ds_set φ 2 (d_lst da_nil))
    (ds_cons (ds_for body_passes (di_r1 φ 1 T.n_range (da_cons (d_add d_int (d_fn φ 0 F__law_draw (Nat.le_of_ble_eq_true rfl) (da_cons (d_var φ 0) (da_cons d_int da_nil)))) da_nil)) (dg_nm φ 3) (ds_cons (ds_set φ 4 (d_ix (d_lst (da_cons d_str (da_cons d_str da_nil))) (d_fn φ 0 F__law_draw (Nat.le_of_ble_eq_true rfl) (da_cons (d_var φ 0) (da_cons d_int da_nil)))))
    (ds_cons (ds_if (dt_of (dw_or (dt_ord (d_var φ 3) d_int) (dw_or1 (dt_eq (d_var φ 4) d_str)))) (ds_cons (ds_ex (d_append (d_var φ 2) (da_cons (d_var φ 4) da_nil)))
    ds_nil) ds_nil)
    (ds_cons (ds_if (dt_eq (d_fn φ 0 F__law_draw (Nat.le_of_ble_eq_true rfl) (da_cons (d_var φ 0) (da_cons d_int da_nil))) d_int) (ds_cons (ds_ex (d_append (d_var φ 2) (da_cons (d_bt φ 3 call_str_int b_strI T.n_str bb_str (da_cons (d_add d_int (d_fn φ 0 F__law_draw (Nat.le_of_ble_eq_true rfl) (da_cons (d_var φ 0) (da_cons (d_ix (d_lst (da_cons d_int (da_cons (d_pow d_int d_int) da_nil))) (d_fn φ 0 F__law_draw (Nat.le_of_ble_eq_true rfl) (da_cons (d_var φ 0) (da_cons d_int da_nil)))) da_nil)))) da_nil)) da_nil)))
    ds_nil) ds_nil)
    (ds_cons (ds_ex (d_append (d_var φ 2) (da_cons (d_ix (d_var φ 1) (d_fn φ 0 F__law_draw (Nat.le_of_ble_eq_true rfl) (da_cons (d_var φ 0) (da_cons (d_bi φ 2 call_len b_len T.n_len bb_len (da_cons (d_var φ 1) da_nil)) da_nil)))) da_nil)))
    ds_nil)))))
    (ds_fz 2 (ds_cons (ds_ret (d_var φ 2))
    ds_nil))))
theorem ok__law_terms (T : Txt m) (F__law_draw : FnD m "_law_draw" 36 [] sp__law_draw) (F : Fun m.K "_law_terms" "_law_terms" s__law_terms f fd) : FnOk m.P m.w m.K m.mg m.base (L2.CX m.P m.w) 37 f fd ["_law_well", "_law_names_here"] (lift m.K sp__law_terms) :=
  fn_ok T.seer F sc__law_terms ln__law_terms fun cdv A outer s H B E EX hE hr ds S Q h => d__law_terms T F__law_draw rfl rfl _ _ _ (pure__law_terms h)
theorem fx__law_odd : fxC ["_law_well", "_law_names_here", "_law_name", "_law_figures_here", "_law_some"] (defScope s__law_odd) [some .local, some .local, some .local, some .local, some .local] ["len", "_law_draw", "str"] = true := by decide +kernel
theorem d__law_odd (T : Txt m) (F__law_draw : FnD m "_law_draw" 36 [] sp__law_draw) {sc : Scope} {body : List Stmt} (hsc : sc = defScope s__law_odd) (hb : body = defBody s__law_odd) {hE hr nd} : PSsd (bodyC m ["_law_well", "_law_names_here", "_law_name", "_law_figures_here", "_law_some"] "_law_odd" sc f cdv A outer s H B E EX 36 hE hr nd) body (t__law_odd EX) := by
  have φ : Fx (bodyC m ["_law_well", "_law_names_here", "_law_name", "_law_figures_here", "_law_some"] "_law_odd" sc f cdv A outer s H B E EX 36 hE hr nd).X [some .local, some .local, some .local, some .local, some .local] ["len", "_law_draw", "str"] := fx_body (by rw [hsc]; exact fx__law_odd)
  conv at hsc => rhs; whnf
  conv at hb => rhs; whnf
  subst hsc; subst hb
  exact (ds_cons (ds_set φ 2 (d_ix (d_var φ 1) (d_fn φ 1 F__law_draw (Nat.le_of_ble_eq_true rfl) (da_cons (d_var φ 0) (da_cons (d_bi φ 0 call_len b_len T.n_len bb_len (da_cons (d_var φ 1) da_nil)) da_nil)))))
    (ds_cons (ds_set φ 3 (d_add d_str (d_mulS (d_ix d_str (d_fn φ 1 F__law_draw (Nat.le_of_ble_eq_true rfl) (da_cons (d_var φ 0) (da_cons d_int da_nil)))) d_int)))
    (ds_cons (ds_set φ 4 (d_lst (da_cons (d_add (d_var φ 2) d_str) (da_cons (d_add d_str (d_var φ 2)) (da_cons (d_upper (d_var φ 2)) (da_cons (d_add d_str (d_bt φ 2 call_str_int b_strI T.n_str bb_str (da_cons (d_fn φ 1 F__law_draw (Nat.le_of_ble_eq_true rfl) (da_cons (d_var φ 0) (da_cons d_int da_nil))) da_nil))) (da_cons d_str (da_cons (d_var φ 3) (da_cons (d_add (d_var φ 3) d_str) da_nil)))))))))
    (ds_cons (ds_set φ 4 (d_add (d_var φ 4) (d_lst (da_cons d_str (da_cons d_str (da_cons d_str (da_cons d_str (da_cons d_str (da_cons (d_add d_str (d_var φ 2)) (da_cons (d_add (d_var φ 2) d_str) (da_cons d_str (da_cons d_str (da_cons d_str (da_cons d_str (da_cons (d_var φ 2) (da_cons d_str (da_cons d_str da_nil)))))))))))))))))
    (ds_cons (ds_set φ 4 (d_add (d_var φ 4) (d_lst (da_cons (d_add (d_var φ 2) d_str) (da_cons (d_add d_str (d_var φ 2)) (da_cons d_str (da_cons d_str (da_cons (d_add (d_var φ 2) d_str) (da_cons d_str da_nil)))))))))
    (ds_cons (ds_ret (d_ix (d_var φ 4) (d_fn φ 1 F__law_draw (Nat.le_of_ble_eq_true rfl) (da_cons (d_var φ 0) (da_cons (d_bi φ 0 call_len b_len T.n_len bb_len (da_cons (d_var φ 4) da_nil)) da_nil)))))
    ds_nil))))))
theorem ok__law_odd (T : Txt m) (F__law_draw : FnD m "_law_draw" 36 [] sp__law_draw) (F : Fun m.K "_law_odd" "_law_odd" s__law_odd f fd) : FnOk m.P m.w m.K m.mg m.base (L2.CX m.P m.w) 37 f fd ["_law_well", "_law_names_here"] (lift m.K sp__law_odd) :=
  fn_ok T.seer F sc__law_odd ln__law_odd fun cdv A outer s H B E EX hE hr ds S Q h => d__law_odd T F__law_draw rfl rfl _ _ _ (pure__law_odd h)
theorem fx__law_spoilt : fxC ["_law_well", "_law_words", "_law_names_here", "_law_at", "_law_way"] (defScope s__law_spoilt) [some .local, some .local, some .local, some .local, some .local] ["_law_odd", "_law_draw", "len"] = true := by decide +kernel
theorem d__law_spoilt (T : Txt m) (F__law_draw : FnD m "_law_draw" 36 [] sp__law_draw) (F__law_odd : FnD m "_law_odd" 37 [] sp__law_odd) {sc : Scope} {body : List Stmt} (hsc : sc = defScope s__law_spoilt) (hb : body = defBody s__law_spoilt) {hE hr nd} : PSsd (bodyC m ["_law_well", "_law_words", "_law_names_here", "_law_at", "_law_way"] "_law_spoilt" sc f cdv A outer s H B E EX 37 hE hr nd) body (t__law_spoilt EX) := by
  have φ : Fx (bodyC m ["_law_well", "_law_words", "_law_names_here", "_law_at", "_law_way"] "_law_spoilt" sc f cdv A outer s H B E EX 37 hE hr nd).X [some .local, some .local, some .local, some .local, some .local] ["_law_odd", "_law_draw", "len"] := fx_body (by rw [hsc]; exact fx__law_spoilt)
  conv at hsc => rhs; whnf
  conv at hb => rhs; whnf
  subst hsc; subst hb
  exact (ds_cons (ds_set φ 3 (d_fn φ 1 F__law_draw (Nat.le_of_ble_eq_true rfl) (da_cons (d_var φ 0) (da_cons (d_add (d_bi φ 2 call_len b_len T.n_len bb_len (da_cons (d_var φ 1) da_nil)) d_int) da_nil))))
    (ds_cons (ds_set φ 4 (d_fn φ 1 F__law_draw (Nat.le_of_ble_eq_true rfl) (da_cons (d_var φ 0) (da_cons d_int da_nil))))
    (ds_cons (ds_if (dt_eq (d_var φ 4) d_int) (ds_cons (ds_ret (d_add (d_sl (d_var φ 1) do_no (do_some (d_var φ 3))) (d_sl (d_var φ 1) (do_some (d_add (d_var φ 3) d_int)) do_no)))
    ds_nil) ds_nil)
    (ds_cons (ds_if (dt_eq (d_var φ 4) d_int) (ds_cons (ds_ret (d_add (d_add (d_sl (d_var φ 1) do_no (do_some (d_var φ 3))) (d_lst (da_cons (d_fn φ 0 F__law_odd (Nat.le_of_ble_eq_true rfl) (da_cons (d_var φ 0) (da_cons (d_var φ 2) da_nil))) da_nil))) (d_sl (d_var φ 1) (do_some (d_var φ 3)) do_no)))
    ds_nil) ds_nil)
    (ds_cons (ds_if (dt_eq (d_var φ 4) d_int) (ds_cons (ds_ret (d_add (d_add (d_sl (d_var φ 1) do_no (do_some (d_var φ 3))) (d_sl (d_var φ 1) (do_some (d_var φ 3)) (do_some (d_add (d_var φ 3) d_int)))) (d_sl (d_var φ 1) (do_some (d_var φ 3)) do_no)))
    ds_nil) ds_nil)
    (ds_cons (ds_ret (d_add (d_add (d_sl (d_var φ 1) do_no (do_some (d_var φ 3))) (d_lst (da_cons (d_fn φ 0 F__law_odd (Nat.le_of_ble_eq_true rfl) (da_cons (d_var φ 0) (da_cons (d_var φ 2) da_nil))) da_nil))) (d_sl (d_var φ 1) (do_some (d_add (d_var φ 3) d_int)) do_no)))
    ds_nil))))))
theorem ok__law_spoilt (T : Txt m) (F__law_draw : FnD m "_law_draw" 36 [] sp__law_draw) (F__law_odd : FnD m "_law_odd" 37 [] sp__law_odd) (F : Fun m.K "_law_spoilt" "_law_spoilt" s__law_spoilt f fd) : FnOk m.P m.w m.K m.mg m.base (L2.CX m.P m.w) 38 f fd ["_law_well", "_law_words", "_law_names_here"] (lift m.K sp__law_spoilt) :=
  fn_ok T.seer F sc__law_spoilt ln__law_spoilt fun cdv A outer s H B E EX hE hr ds S Q h => d__law_spoilt T F__law_draw F__law_odd rfl rfl _ _ _ (pure__law_spoilt h)
theorem fx__law_figures : fxC ["_law_word", "_law_sign"] (defScope s__law_figures) [some .local, none] ["all", "len"] = true := by decide +kernel
theorem d__law_figures (T : Txt m)  {sc : Scope} {body : List Stmt} (hsc : sc = defScope s__law_figures) (hb : body = defBody s__law_figures) {hE hr nd} : PSsd (bodyC m ["_law_word", "_law_sign"] "_law_figures" sc f cdv A outer s H B E EX 35 hE hr nd) body (t__law_figures EX) := by
  have φ : Fx (bodyC m ["_law_word", "_law_sign"] "_law_figures" sc f cdv A outer s H B E EX 35 hE hr nd).X [some .local, none] ["all", "len"] := fx_body (by rw [hsc]; exact fx__law_figures)
  conv at hsc => rhs; whnf
  conv at hb => rhs; whnf
  subst hsc; subst hb
  exact (ds_cons (ds_if (dt_of (dw_or (dt_eq (d_var φ 0) d_str) (dw_or (dt_ord (d_bi φ 1 call_len b_len T.n_len bb_len (da_cons (d_var φ 0) da_nil)) d_int) (dw_or1 (dt_eq (d_ix (d_var φ 0) d_int) d_str))))) (ds_cons (ds_ret d_bl)
    ds_nil) ds_nil)
    (ds_cons (ds_ret (d_bi φ 0 (cr_all rfl) b_all T.n_all bb_all (da_cons (d_lcFX [none, some .local] [] [("_law_sign", 1)] (by decide +kernel) (by decide +kernel) (fun h => bind_name h 1) (dx_seq (d_var φ 0)) (fun _ => dts_nil) (fun _ _ _ _ _ ψ => (d_inS (d_var ψ 1) d_str))) da_nil)))
    ds_nil))
theorem ok__law_figures (T : Txt m)  (F : Fun m.K "_law_figures" "_law_figures" s__law_figures f fd) : FnOk m.P m.w m.K m.mg m.base (L2.CX m.P m.w) 36 f fd ["_law_word"] (lift m.K sp__law_figures) :=
  fn_ok T.seer F sc__law_figures ln__law_figures fun cdv A outer s H B E EX hE hr ds S Q h => d__law_figures T  rfl rfl _ _ _ (pure__law_figures h)
theorem fx__law_walk : fxC ["_law_words", "_law_names_here", "_law_found", "_law_wants", "_law_sign", "_law_many", "_law_at", "_law_word", "_law_ahead", "_law_place"] (defScope s__law_walk) [some .local, some .local, some .local, some .local, some .local, some .local, some .local, some .local, some .local, some .local] ["tuple", "len", "enumerate", "int", "_law_figures"] = true := by decide +kernel
theorem d__law_walk (T : Txt m) (F__law_figures : FnD m "_law_figures" 36 [] sp__law_figures) {sc : Scope} {body : List Stmt} (hsc : sc = defScope s__law_walk) (hb : body = defBody s__law_walk) {hE hr nd} : PSsd (bodyC m ["_law_words", "_law_names_here", "_law_found", "_law_wants", "_law_sign", "_law_many", "_law_at", "_law_word", "_law_ahead", "_law_place"] "_law_walk" sc f cdv A outer s H B E EX 36 hE hr nd) body (t__law_walk EX) := by
  have φ : Fx (bodyC m ["_law_words", "_law_names_here", "_law_found", "_law_wants", "_law_sign", "_law_many", "_law_at", "_law_word", "_law_ahead", "_law_place"] "_law_walk" sc f cdv A outer s H B E EX 36 hE hr nd).X [some .local, some .local, some .local, some .local, some .local, some .local, some .local, some .local, some .local, some .local] ["tuple", "len", "enumerate", "int", "_law_figures"] := fx_body (by rw [hsc]; exact fx__law_walk)
  conv at hsc => rhs; whnf
  conv at hb => rhs; whnf
  subst hsc; subst hb
  exact (ds_cons (ds_if (dt_eq (d_var φ 0) (d_lst (da_cons d_str da_nil))) (ds_cons (ds_ret (d_tup (da_cons d_str (da_cons (d_tmulA (d_tup (da_cons d_int da_nil)) (d_bi φ 1 call_len b_len T.n_len bb_len (da_cons (d_var φ 1) da_nil))) da_nil))))
    ds_nil) ds_nil)
    (ds_cons (ds_set φ 2 (d_mul (d_lst (da_cons d_int da_nil)) (d_bi φ 1 call_len b_len T.n_len bb_len (da_cons (d_var φ 1) da_nil))))
    (ds_cons (ds_set φ 3 d_str)
    (ds_cons (ds_asg (d_tup (da_cons d_int (da_cons d_int da_nil))) (dg_tp 2 (dgs_cons (dg_nm φ 4) (dgs_cons (dg_nm φ 5) dgs_nil))))
    (ds_cons (ds_forX body_passes (dx_en φ 2 T.n_enumerate (da_cons (d_var φ 0) da_nil)) (dg_tp 2 (dgs_cons (dg_nm φ 6) (dgs_cons (dg_nm φ 7) dgs_nil))) (ds_cons (ds_set φ 8 (d_sl (d_lst (da_cons d_str (da_cons d_str da_nil))) do_no (do_some (d_add d_int (d_bt φ 3 call_int1 b_int T.n_int bb_int (da_cons (d_eq (d_var φ 3) d_str) da_nil))))))
    (ds_cons (ds_if (dt_of (dw_and (dt_in' (d_var φ 3) (d_tup (da_cons d_str (da_cons d_str da_nil)))) (dw_and1 (dt_in' (d_var φ 7) (d_var φ 8))))) (ds_cons (ds_set φ 4 (d_ix (d_lst (da_cons d_int (da_cons (d_neg d_int) da_nil))) (d_bt φ 3 call_int1 b_int T.n_int bb_int (da_cons (d_eq (d_var φ 7) d_str) da_nil))))
    (ds_cons (ds_set φ 3 d_str)
    ds_nil)) (ds_cons (ds_if (dt_of (dw_and (dt_in' (d_var φ 3) (d_tup (da_cons d_str (da_cons d_str da_nil)))) (dw_and1 (dt_val (d_fn φ 4 F__law_figures (Nat.le_of_ble_eq_true rfl) (da_cons (d_var φ 7) da_nil)))))) (ds_cons (ds_set φ 5 (d_bt φ 3 call_int_str b_intS T.n_int bb_int (da_cons (d_var φ 7) da_nil)))
    (ds_cons (ds_set φ 3 d_str)
    ds_nil)) (ds_cons (ds_if (dt_of (dw_and (dt_ne (d_var φ 3) d_str) (dw_and1 (dt_in' (d_var φ 7) (d_var φ 1))))) (ds_cons (ds_set φ 9 (d_index (d_var φ 1) (da_cons (d_var φ 7) da_nil)))
    (ds_cons (ds_asg (d_add (d_ix (d_var φ 2) (d_var φ 9)) (d_mul (d_var φ 4) (d_var φ 5))) (dg_ix (d_var φ 2) (d_var φ 9)))
    (ds_cons (ds_asg (d_tup (da_cons d_int (da_cons d_int (da_cons d_str da_nil)))) (dg_tp 3 (dgs_cons (dg_nm φ 4) (dgs_cons (dg_nm φ 5) (dgs_cons (dg_nm φ 3) dgs_nil)))))
    ds_nil))) (ds_cons (ds_ret (d_tup (da_cons d_str (da_cons (d_var φ 6) da_nil))))
    ds_nil))
    ds_nil))
    ds_nil))
    ds_nil)))
    (ds_cons (ds_if (dt_ne (d_var φ 3) d_str) (ds_cons (ds_ret (d_tup (da_cons d_str (da_cons (d_bi φ 1 call_len b_len T.n_len bb_len (da_cons (d_var φ 0) da_nil)) da_nil))))
    ds_nil) ds_nil)
    (ds_cons (ds_ret (d_tup (da_cons d_str (da_cons (d_bt φ 0 call_tuple_of b_tuple T.n_tuple bb_tuple (da_cons (d_var φ 2) da_nil)) da_nil))))
    ds_nil)))))))
theorem ok__law_walk (T : Txt m) (F__law_figures : FnD m "_law_figures" 36 [] sp__law_figures) (F : Fun m.K "_law_walk" "_law_walk" s__law_walk f fd) : FnOk m.P m.w m.K m.mg m.base (L2.CX m.P m.w) 37 f fd ["_law_words", "_law_names_here"] (lift m.K sp__law_walk) :=
  fn_okX T.seer F sc__law_walk ln__law_walk fun cdv A outer s H B E EX hE hr ds S Q h => d__law_walk T F__law_figures rfl rfl _ _ _ (pure__law_walk h)
theorem fx__law_said : fxC ["_law_text", "_law_names_here", "_law_told", "e", "_law_others"] (defScope s__law_said) [some .local, some .local, some .local, some .local, some .local] ["NoughtError", "read_handful", "isinstance", "NoText", "ValueError", "NoRow", "NoName", "NoLine"] = true := by decide +kernel
theorem d__law_said (T : Txt m) (F_read_handful : FnD m "read_handful" 39 [] sp_read_handful) {sc : Scope} {body : List Stmt} (hsc : sc = defScope s__law_said) (hb : body = defBody s__law_said) {hE hr nd} : PSsd (bodyC m ["_law_text", "_law_names_here", "_law_told", "e", "_law_others"] "_law_said" sc f cdv A outer s H B E EX 39 hE hr nd) body (t__law_said EX) := by
  have φ : Fx (bodyC m ["_law_text", "_law_names_here", "_law_told", "e", "_law_others"] "_law_said" sc f cdv A outer s H B E EX 39 hE hr nd).X [some .local, some .local, some .local, some .local, some .local] ["NoughtError", "read_handful", "isinstance", "NoText", "ValueError", "NoRow", "NoName", "NoLine"] := fx_body (by rw [hsc]; exact fx__law_said)
  conv at hsc => rhs; whnf
  conv at hb => rhs; whnf
  subst hsc; subst hb
  exact (ds_cons (ds_set φ 2 (d_tup (da_cons d_str (da_cons d_non da_nil))))
    (ds_cons (ds_tryA φ 0 3 T.xt_NoughtError (fun _ _ _ _ _ => (ds_cons (ds_set (fx_tr φ) 2 (d_tup (da_cons d_str (da_cons (d_fn (fx_tr φ) 1 F_read_handful (Nat.le_of_ble_eq_true rfl) (da_cons (d_var (fx_tr φ) 0) (da_cons (d_var (fx_tr φ) 1) da_nil))) da_nil))))
    ds_nil)) (fun a oe pn B n Cn d kf cn hz hf => (ds_cons (ds_set (fx_su φ) 2 (d_tup (da_cons d_str (da_cons d_non da_nil))))
    (ds_cons (ds_set (fx_su φ) 4 (d_isXs (fx_su φ) 2 3 kf cn hz hf (T.xc _ _ kf cn) (rf_cons (fx_su φ) 7 T.xi_NoLine (rf_cons (fx_su φ) 6 T.xi_NoName (rf_cons (fx_su φ) 5 T.xi_NoRow rf_nil))) T.n_isinstance bb_isinstance))
    (ds_cons (ds_if (dt_of (dw_and (dt_val (d_isX (fx_su φ) 2 3 3 kf cn hz hf T.xi_NoText T.n_isinstance bb_isinstance)) (dw_and (dt_val (d_isV (fx_su φ) 2 4 3 kf cn hz hf T.xv T.n_isinstance bb_isinstance T.n_ValueError bb_ValueError)) (dw_and1 (dt_not (dt_val (d_var (fx_su φ) 4))))))) (ds_cons (ds_set (fx_su φ) 2 (d_tup (da_cons d_str (da_cons (d_xf (fx_su φ) 3 kf cn hz hf T.xf_at) da_nil))))
    ds_nil) ds_nil)
    ds_nil)))))
    (ds_cons (ds_ret (d_var φ 2))
    ds_nil)))
theorem ok__law_said (T : Txt m) (F_read_handful : FnD m "read_handful" 39 [] sp_read_handful) (F : Fun m.K "_law_said" "_law_said" s__law_said f fd) : FnOk m.P m.w m.K m.mg m.base (L2.CX m.P m.w) 40 f fd ["_law_text", "_law_names_here"] (lift m.K sp__law_said) :=
  fn_ok T.seer F sc__law_said ln__law_said fun cdv A outer s H B E EX hE hr ds S Q h => d__law_said T F_read_handful rfl rfl _ _ _ (pure__law_said h)
theorem fx__law_right : fxC ["_law_well", "_law_times_spoilt", "_law_names_here", "_law_words", "_law_k", "_law_due", "_law_text", "_law_odd_here", "_law_some"] (defScope s__law_right) [some .local, some .local, some .local, some .local, some .local, some .local, some .cell, some .local, none] ["_law_said", "bool", "isinstance", "_law_draw", "tuple", "_law_walk", "range", "_law_spoilt", "_law_terms", "_law_names"] = true := by decide +kernel
theorem d__law_right (T : Txt m) (F__law_draw : FnD m "_law_draw" 36 [] sp__law_draw) (F__law_names : FnD m "_law_names" 37 [] sp__law_names) (F__law_said : FnD m "_law_said" 40 [] sp__law_said) (F__law_spoilt : FnD m "_law_spoilt" 38 [] sp__law_spoilt) (F__law_terms : FnD m "_law_terms" 37 [] sp__law_terms) (F__law_walk : FnD m "_law_walk" 37 [] sp__law_walk) {sc : Scope} {body : List Stmt} (hsc : sc = defScope s__law_right) (hb : body = defBody s__law_right) {hE hr nd} : PSsd (bodyC m ["_law_well", "_law_times_spoilt", "_law_names_here", "_law_words", "_law_k", "_law_due", "_law_text", "_law_odd_here", "_law_some"] "_law_right" sc f cdv A outer s H B E EX 40 hE hr nd) body (t__law_right EX) := by
  have φ : Fx (bodyC m ["_law_well", "_law_times_spoilt", "_law_names_here", "_law_words", "_law_k", "_law_due", "_law_text", "_law_odd_here", "_law_some"] "_law_right" sc f cdv A outer s H B E EX 40 hE hr nd).X [some .local, some .local, some .local, some .local, some .local, some .local, some .cell, some .local, none] ["_law_said", "bool", "isinstance", "_law_draw", "tuple", "_law_walk", "range", "_law_spoilt", "_law_terms", "_law_names"] := fx_body (by rw [hsc]; exact fx__law_right)
  conv at hsc => rhs; whnf
  conv at hb => rhs; whnf
  subst hsc; subst hb
  exact (ds_cons (ds_set φ 1 (d_add d_int (d_fn φ 3 F__law_draw (Nat.le_of_ble_eq_true rfl) (da_cons (d_var φ 0) (da_cons d_int da_nil)))))
    (ds_cons (ds_set φ 2 (d_fn φ 9 F__law_names (Nat.le_of_ble_eq_true rfl) (da_cons (d_var φ 0) (da_cons (d_add d_int (d_fn φ 3 F__law_draw (Nat.le_of_ble_eq_true rfl) (da_cons (d_var φ 0) (da_cons d_int da_nil)))) da_nil))))
    (ds_cons (ds_set φ 3 (d_fn φ 8 F__law_terms (Nat.le_of_ble_eq_true rfl) (da_cons (d_var φ 0) (da_cons (d_var φ 2) da_nil))))
    (ds_cons (ds_for body_passes (di_r1 φ 6 T.n_range (da_cons (d_var φ 1) da_nil)) (dg_nm φ 4) (ds_cons (ds_set φ 3 (d_fn φ 7 F__law_spoilt (Nat.le_of_ble_eq_true rfl) (da_cons (d_var φ 0) (da_cons (d_var φ 3) (da_cons (d_var φ 2) da_nil)))))
    ds_nil))
    (ds_cons (ds_if (dt_eq (d_var φ 3) (d_lst da_nil)) (ds_cons (ds_set φ 3 (d_lst (da_cons d_str da_nil)))
    ds_nil) ds_nil)
    (ds_cons (ds_set φ 5 (d_fn φ 5 F__law_walk (Nat.le_of_ble_eq_true rfl) (da_cons (d_var φ 3) (da_cons (d_var φ 2) da_nil))))
    (ds_cons (ds_set φ 6 (d_join d_str (da_cons (d_var φ 3) da_nil)))
    (ds_cons (ds_if (dt_ne (d_lcFX [none, none, none, none, none, none, some .cell, none, some .local] ["_law_said"] [("_law_some", 8)] (by decide +kernel) (by decide +kernel) (fun h => bind_name h 8) (dx_seq (d_lst (da_cons (d_var φ 2) (da_cons (d_bt φ 4 call_tuple_of b_tuple T.n_tuple bb_tuple (da_cons (d_var φ 2) da_nil)) (da_cons (d_var φ 2) da_nil))))) (fun _ => dts_nil) (fun _ _ _ _ _ ψ => (d_fn ψ 0 F__law_said (Nat.le_of_ble_eq_true rfl) (da_cons (d_var ψ 6) (da_cons (d_var ψ 8) da_nil))))) (d_mul (d_lst (da_cons (d_var φ 5) da_nil)) d_int)) (ds_cons (ds_ret d_bl)
    ds_nil) ds_nil)
    (ds_cons (ds_set φ 7 (d_ix (d_lst (da_cons d_non (da_cons d_int (da_cons (d_var φ 3) (da_cons d_bl (da_cons (d_tup (da_cons (d_var φ 6) da_nil)) da_nil)))))) (d_fn φ 3 F__law_draw (Nat.le_of_ble_eq_true rfl) (da_cons (d_var φ 0) (da_cons d_int da_nil)))))
    (ds_cons (ds_ret (d_and (d_eq (d_fn φ 0 F__law_said (Nat.le_of_ble_eq_true rfl) (da_cons (d_var φ 7) (da_cons (d_var φ 2) da_nil))) (d_tup (da_cons d_str (da_cons d_int da_nil)))) (d_one (d_not (d_bi φ 2 call_isi b_isi T.n_isinstance bb_isinstance (da_cons (d_ix (d_var φ 5) d_int) (da_cons (d_ty φ 1 T.n_bool bb_bool) da_nil)))))))
    ds_nil))))))))))
theorem ok__law_right (T : Txt m) (F__law_draw : FnD m "_law_draw" 36 [] sp__law_draw) (F__law_names : FnD m "_law_names" 37 [] sp__law_names) (F__law_said : FnD m "_law_said" 40 [] sp__law_said) (F__law_spoilt : FnD m "_law_spoilt" 38 [] sp__law_spoilt) (F__law_terms : FnD m "_law_terms" 37 [] sp__law_terms) (F__law_walk : FnD m "_law_walk" 37 [] sp__law_walk) (F : Fun m.K "_law_right" "_law_right" s__law_right f fd) : FnOk m.P m.w m.K m.mg m.base (L2.CX m.P m.w) 41 f fd ["_law_well"] (lift m.K sp__law_right) :=
  fn_ok T.seer F sc__law_right ln__law_right fun cdv A outer s H B E EX hE hr ds S Q h => d__law_right T F__law_draw F__law_names F__law_said F__law_spoilt F__law_terms F__law_walk rfl rfl _ _ _ (pure__law_right h)
theorem fx_law : fxC ["_law_script", "_law_k", "_law_cell"] (defScope s_law) [some .local, some .local, some .local] ["_law_said", "enumerate", "int", "_law_right"] = true := by decide +kernel
theorem d_law (T : Txt m) (F__law_right : FnD m "_law_right" 41 [] sp__law_right) (F__law_said : FnD m "_law_said" 40 [] sp__law_said) {sc : Scope} {body : List Stmt} (hsc : sc = defScope s_law) (hb : body = defBody s_law) {hE hr nd} : PSsd (bodyC m ["_law_script", "_law_k", "_law_cell"] "law" sc f cdv A outer s H B E EX 41 hE hr nd) body (t_law EX) := by
  have φ : Fx (bodyC m ["_law_script", "_law_k", "_law_cell"] "law" sc f cdv A outer s H B E EX 41 hE hr nd).X [some .local, some .local, some .local] ["_law_said", "enumerate", "int", "_law_right"] := fx_body (by rw [hsc]; exact fx_law)
  conv at hsc => rhs; whnf
  conv at hb => rhs; whnf
  subst hsc; subst hb
  exact (ds_cons (ds_forX body_passes (dx_en φ 1 T.n_enumerate (da_cons (d_add (d_lst (da_cons d_int da_nil)) (d_sl (d_var φ 0) do_no (do_some d_int))) da_nil)) (dg_tp 2 (dgs_cons (dg_nm φ 1) (dgs_cons (dg_nm φ 2) dgs_nil))) (ds_cons (ds_if (dt_not (dt_val (d_fn φ 3 F__law_right (Nat.le_of_ble_eq_true rfl) (da_cons (d_lst (da_cons (d_mul (d_var φ 2) (d_bt φ 2 call_int1 b_int T.n_int bb_int (da_cons (d_ord (d_var φ 2) (d_pow d_int d_int)) da_nil))) (da_cons (d_add (d_mod (d_var φ 2) d_int) (d_mul d_int (d_var φ 1))) (da_cons d_int da_nil)))) da_nil)))) (ds_cons (ds_ret d_bl)
    ds_nil) ds_nil)
    ds_nil))
    (ds_cons (ds_ret (d_and (d_eq (d_fn φ 0 F__law_said (Nat.le_of_ble_eq_true rfl) (da_cons d_str (da_cons (d_lst da_nil) da_nil))) (d_tup (da_cons d_str (da_cons d_int da_nil)))) (d_one (d_eq (d_fn φ 0 F__law_said (Nat.le_of_ble_eq_true rfl) (da_cons d_str (da_cons (d_lst da_nil) da_nil))) (d_tup (da_cons d_str (da_cons (d_tup da_nil) da_nil)))))))
    ds_nil))
theorem ok_law (T : Txt m) (F__law_right : FnD m "_law_right" 41 [] sp__law_right) (F__law_said : FnD m "_law_said" 40 [] sp__law_said) (F : Fun m.K "law" "law" s_law f fd) : FnOk m.P m.w m.K m.mg m.base (L2.CX m.P m.w) 42 f fd ["_law_script"] (lift m.K sp_law) :=
  fn_ok T.seer F sc_law ln_law fun cdv A outer s H B E EX hE hr ds S Q h => d_law T F__law_right F__law_said rfl rfl _ _ _ (pure_law h)
end
theorem all_mk : AllMk := by
  intro l w K h mg fa f1 f2 f3 f4 f5 f6 f7 f8 f9 f10 f11 f12 f13 f14 f15 f16 hTree X G hfa od1 od2 od3 od4 od5 od6 od7 od8 od9 od10 od11 od12 od13 od14 od15 od16 an1 an2 an3 an4 an5 an6 an7 an8 an9 an10 an11 an12 an13 an14 an15 an16 sl1 sl2 sl3 sl4 sl5 sl6 sl7 sl8 sl9 sl10 sl11 sl12 sl13 sl14 sl15 sl16 oc1 oc2 oc3 oc4 oc5 oc6 oc7 oc8 oc9 oc10 oc11 oc12 oc13 oc14 oc15 oc16 kV1 kV2 kV3 kV4 kV5 kV6 kV7 kV8 kV9 kV10 kV11 kV12 kV13 kV14 kV15 kV16 dc1 dc2 dc3 dc4 dc5 dc6 dc7 dc8 dc9 dc10 dc11 dc12 dc13 dc14 dc15 dc16 pm1 pm2 pm3 pm4 pm5 pm6 pm7 pm8 pm9 pm10 pm11 pm12 pm13 pm14 pm15 pm16 cd1 cd2 cd3 cd4 cd5 cd6 cd7 cd8 cd9 cd10 cd11 cd12 cd13 cd14 cd15 cd16 ct1 ct2 ct3 ct4 ct5 ct6 ct7 ct8 ct9 ct10 ct11 ct12 ct13 ct14 ct15 ct16 xC1 xC2 xC3 xC4 xC5 xI3 xN3 xnm3 xq3 xbs3 xsub3 xsn3 xab3 xcol3 xdd3 xma3 xmb3 xmc3 xmd3 xmf3 xod3 xan3 xsl3 xoc3 xkV3 xdc3 xpm3 xcd3 xct3 dT4 to4 td4 tn4 tl4 gt_FIGURES gt_LETTERS gt_MOST_FIGURES xa1 xe1 xt1 xo1 xz1 xn1 xn2 xn3 xa2 xe2 xt2 xo2 xz2 xa3 xe3 xt3 xo3 xz3 xa4 xe4 xt4 xo4 xz4 xa5 xe5 xt5 xo5 xz5 xk3 xl3 xs3 xi3 xg3 xf3_at yl3 yc3 yk3 va3 vb3 vc3 vd3 ve3 vp3_4 vp3_5 vp3_2 vp3_1 vv3 ih ik a1 l1 c1 k1 a2 l2 c2 k2 a3 l3 c3 k3 a4 l4 t4 c4 k4 a5 l5 c5 k5 a6 l6 c6 k6 a7 l7 c7 k7 a8 l8 c8 k8 a9 l9 c9 k9 a10 l10 c10 k10 a11 l11 c11 k11 a12 l12 c12 k12 a13 l13 c13 k13 a14 l14 c14 k14 a15 l15 c15 k15 a16 l16 c16 k16 gc_FIGURES gc_LETTERS gc_MOST_FIGURES z1 z2 z3 z4 z5 z6 z7 z8 z9 z10 z11
  have e := hfa.symm.trans (PySem.W.mg_of X G a16)
  cases e
  have U1 := fun_mk (st := s_is_name) l1 c1 k1
  have U2 := fun_mk (st := s_number_in) l2 c2 k2
  have U3 := fun_mk (st := s_is_kind) l3 c3 k3
  have U4 : FunD K "terms_in" "terms_in" (defArgs s_terms_in) (defBody s_terms_in) (defScope s_terms_in) [.non] [] f4 _ := ⟨⟨_, _, _, _, _, _, _, _, _, _, rfl, l4, c4, .inr ⟨by simp, _, _, [.none], _, rfl, t4, rfl, .cons rfl (.nil)⟩, .inl rfl⟩, k4⟩
  have U5 := fun_mk (st := s_sum_of_terms) l5 c5 k5
  have U6 := fun_mk (st := s_read_handful) l6 c6 k6
  have U7 := fun_mk (st := s__law_draw) l7 c7 k7
  have U8 := fun_mk (st := s__law_names) l8 c8 k8
  have U9 := fun_mk (st := s__law_terms) l9 c9 k9
  have U10 := fun_mk (st := s__law_odd) l10 c10 k10
  have U11 := fun_mk (st := s__law_spoilt) l11 c11 k11
  have U12 := fun_mk (st := s__law_figures) l12 c12 k12
  have U13 := fun_mk (st := s__law_walk) l13 c13 k13
  have U14 := fun_mk (st := s__law_said) l14 c14 k14
  have U15 := fun_mk (st := s__law_right) l15 c15 k15
  have U16 := fun_mk (st := s_law) l16 c16 k16
  have b1 := U1.binds (ps := ["thing"]) fun _ _ _ _ _ _ us hl => match us, hl with | [_], _ => rfl
  have b2 := U2.binds (ps := ["word"]) fun _ _ _ _ _ _ us hl => match us, hl with | [_], _ => rfl
  have b3 := U3.binds (ps := ["word", "names"]) fun _ _ _ _ _ _ us hl => match us, hl with | [_, _], _ => rfl
  have b5 := U5.binds (ps := ["terms", "names"]) fun _ _ _ _ _ _ us hl => match us, hl with | [_, _], _ => rfl
  have b6 := U6.binds (ps := ["text", "names"]) fun _ _ _ _ _ _ us hl => match us, hl with | [_, _], _ => rfl
  have b7 := U7.binds (ps := ["_law_well", "_law_many"]) fun _ _ _ _ _ _ us hl => match us, hl with | [_, _], _ => rfl
  have b8 := U8.binds (ps := ["_law_well", "_law_many"]) fun _ _ _ _ _ _ us hl => match us, hl with | [_, _], _ => rfl
  have b9 := U9.binds (ps := ["_law_well", "_law_names_here"]) fun _ _ _ _ _ _ us hl => match us, hl with | [_, _], _ => rfl
  have b10 := U10.binds (ps := ["_law_well", "_law_names_here"]) fun _ _ _ _ _ _ us hl => match us, hl with | [_, _], _ => rfl
  have b11 := U11.binds (ps := ["_law_well", "_law_words", "_law_names_here"]) fun _ _ _ _ _ _ us hl => match us, hl with | [_, _, _], _ => rfl
  have b12 := U12.binds (ps := ["_law_word"]) fun _ _ _ _ _ _ us hl => match us, hl with | [_], _ => rfl
  have b13 := U13.binds (ps := ["_law_words", "_law_names_here"]) fun _ _ _ _ _ _ us hl => match us, hl with | [_, _], _ => rfl
  have b14 := U14.binds (ps := ["_law_text", "_law_names_here"]) fun _ _ _ _ _ _ us hl => match us, hl with | [_, _], _ => rfl
  have b15 := U15.binds (ps := ["_law_well"]) fun _ _ _ _ _ _ us hl => match us, hl with | [_], _ => rfl
  refine ⟨PySem.W.fnOf "law" "law" (defArgs s_law) (defBody s_law) (defScope s_law) .none kV16 dc16 pm16 an16 cd16 ct16, fun s v => .of_eq rfl, fun base sn _ _ => ?_⟩
  have xt_NoughtError : TryF ⟨l.prog, w, K, mg, base⟩ knL .NoughtError := ⟨xC1, xa1, PySem.W.mg_of X G xa1, knL_all ⟨xC3, xa3, exm_of xe1 xo1 xt1 vp3_1⟩⟩
  have xi_NoLine : IsXF ⟨l.prog, w, K, mg, base⟩ knL .NoLine := ⟨xC4, PySem.W.mg_of X G xa4, knL_all ⟨xC3, xa3, ⟨va3, vb3, xe3, vc3, vd3, ih, ik, ve3⟩, kit_of xo4 xt4 vp3_4 xz4⟩⟩
  have xi_NoName : IsXF ⟨l.prog, w, K, mg, base⟩ knL .NoName := ⟨xC5, PySem.W.mg_of X G xa5, knL_all ⟨xC3, xa3, ⟨va3, vb3, xe3, vc3, vd3, ih, ik, ve3⟩, kit_of xo5 xt5 vp3_5 xz5⟩⟩
  have xi_NoRow : IsXF ⟨l.prog, w, K, mg, base⟩ knL .NoRow := ⟨xC2, PySem.W.mg_of X G xa2, knL_all ⟨xC3, xa3, ⟨va3, vb3, xe3, vc3, vd3, ih, ik, ve3⟩, kit_of xo2 xt2 vp3_2 xz2⟩⟩
  have xi_NoText : IsXF ⟨l.prog, w, K, mg, base⟩ knL .NoText := ⟨xC3, PySem.W.mg_of X G xa3, knL_all ⟨xC3, xa3, ⟨va3, vb3, xe3, vc3, vd3, ih, ik, ve3⟩, kit_of xo3 xt3 xz3 xz3⟩⟩
  have xf_at : XfF ⟨l.prog, w, K, mg, base⟩ knL "at" := knL_all ⟨xC3, xa3, ⟨va3, vb3, xe3, vc3⟩, xf3_at⟩
  have xv : IsVF ⟨l.prog, w, K, mg, base⟩ knL := knL_all ⟨xC3, xa3, ⟨va3, vb3, xe3, vc3, vd3, ih, ik, ve3⟩, kit_ve vv3⟩
  have xc : ∀ n Cn, knL n = true → CN K n.str Cn → ExcC K Cn := fun n Cn hn hc => knL_all (P := fun n => ∀ Cn, CN K n.str Cn → ExcC K Cn) (fun _ hc => exc_cn (n := "NoText") xa3 ⟨va3, vb3, xe3, vc3, vd3, ih, ik, ve3⟩ hc) n hn Cn hc
  have NT : NtC K xC1 := ⟨xn1, xn2, xn3⟩
  have XO3 : OexC K xC3 := ⟨⟨_, _, _, _, _, _, _, _, _, _, _, _, _, _, _, xl3, (show PySem.HandSPX.refsVE [.type "ValueError", .type "Exception", .type "BaseException", .type "object"] = true by decide +kernel)⟩, xs3, xe3, xt3, xk3⟩
  have YU3 := fun_mk (st := s_NoText___init__) yl3 yc3 yk3
  have yb3 := YU3.binds (ps := ["self", "at"]) fun _ _ _ _ _ _ us hl => match us, hl with | [_, _], _ => rfl
  have E_NoText : ExD ⟨l.prog, w, K, mg, base⟩ .NoText 1 ["at"] := ⟨xC3, xI3, _, ["self", "at"], xa3, PySem.W.mg_of X G xa3, XO3, xi3, xg3, init1_ok (m := ⟨l.prog, w, K, mg, base⟩) YU3 sc_NoText___init__ xf3_at XO3 (fun cdv A outer s H E => di_NoText (m := ⟨l.prog, w, K, mg, base⟩) NT (PySem.W.mg_of X G xa1) rfl rfl), yb3⟩
  have T : Txt ⟨l.prog, w, K, mg, base⟩ := ⟨⟨sn, hTree⟩, ⟨_, PySem.W.mg_of X G gc_FIGURES⟩, ⟨_, PySem.W.mg_of X G gc_LETTERS⟩, ⟨_, PySem.W.mg_of X G gc_MOST_FIGURES⟩, PySem.W.mg_none_of X G z1, PySem.W.mg_none_of X G z2, PySem.W.mg_none_of X G z3, PySem.W.mg_none_of X G z4, PySem.W.mg_none_of X G z5, PySem.W.mg_none_of X G z6, PySem.W.mg_none_of X G z7, PySem.W.mg_none_of X G z8, PySem.W.mg_none_of X G z9, PySem.W.mg_none_of X G z10, PySem.W.mg_none_of X G z11, xt_NoughtError, xi_NoLine, xi_NoName, xi_NoRow, xi_NoText, xf_at, xv, xc⟩
  have O__law_draw := ok__law_draw (m := ⟨l.prog, w, K, mg, base⟩) T  U7
  have F__law_draw := fnD_of (m := ⟨l.prog, w, K, mg, base⟩) O__law_draw (PySem.W.mg_of X G a7) k7 b7
  have O__law_names := ok__law_names (m := ⟨l.prog, w, K, mg, base⟩) T F__law_draw U8
  have F__law_names := fnD_of (m := ⟨l.prog, w, K, mg, base⟩) O__law_names (PySem.W.mg_of X G a8) k8 b8
  have O_sum_of_terms := ok_sum_of_terms (m := ⟨l.prog, w, K, mg, base⟩) T  U5
  have F_sum_of_terms := fnD_of (m := ⟨l.prog, w, K, mg, base⟩) O_sum_of_terms (PySem.W.mg_of X G a5) k5 b5
  have O_is_name := ok_is_name (m := ⟨l.prog, w, K, mg, base⟩) T  U1
  have F_is_name := fnD_of (m := ⟨l.prog, w, K, mg, base⟩) O_is_name (PySem.W.mg_of X G a1) k1 b1
  have O_is_kind := ok_is_kind (m := ⟨l.prog, w, K, mg, base⟩) T F_is_name U3
  have F_is_kind := fnD_of (m := ⟨l.prog, w, K, mg, base⟩) O_is_kind (PySem.W.mg_of X G a3) k3 b3
  have O_number_in := ok_number_in (m := ⟨l.prog, w, K, mg, base⟩) T  U2
  have F_number_in := fnD_of (m := ⟨l.prog, w, K, mg, base⟩) O_number_in (PySem.W.mg_of X G a2) k2 b2
  have O_terms_in := ok_terms_in (m := ⟨l.prog, w, K, mg, base⟩) T E_NoText F_is_kind F_number_in U4
  obtain ⟨dd4_, dv4_, db4_⟩ := U4.binds1 (ps := ["words", "names"]) 2 1 (by simp) rfl fun T kV doc pm an cdv ct us its h1 h2 => match us, its, h1, h2 with | [_, _], [_], _, _ => ⟨_, rfl, rfl⟩
  have F_terms_in : FnD ⟨l.prog, w, K, mg, base⟩ "terms_in" 38 [] sp_terms_in := fnD_ofD (m := ⟨l.prog, w, K, mg, base⟩) O_terms_in (PySem.W.mg_of X G a4) k4 db4_ dv4_ fun _ => rfl
  have O_read_handful := ok_read_handful (m := ⟨l.prog, w, K, mg, base⟩) T E_NoText F_sum_of_terms F_terms_in U6
  have F_read_handful := fnD_of (m := ⟨l.prog, w, K, mg, base⟩) O_read_handful (PySem.W.mg_of X G a6) k6 b6
  have O__law_said := ok__law_said (m := ⟨l.prog, w, K, mg, base⟩) T F_read_handful U14
  have F__law_said := fnD_of (m := ⟨l.prog, w, K, mg, base⟩) O__law_said (PySem.W.mg_of X G a14) k14 b14
  have O__law_odd := ok__law_odd (m := ⟨l.prog, w, K, mg, base⟩) T F__law_draw U10
  have F__law_odd := fnD_of (m := ⟨l.prog, w, K, mg, base⟩) O__law_odd (PySem.W.mg_of X G a10) k10 b10
  have O__law_spoilt := ok__law_spoilt (m := ⟨l.prog, w, K, mg, base⟩) T F__law_draw F__law_odd U11
  have F__law_spoilt := fnD_of (m := ⟨l.prog, w, K, mg, base⟩) O__law_spoilt (PySem.W.mg_of X G a11) k11 b11
  have O__law_terms := ok__law_terms (m := ⟨l.prog, w, K, mg, base⟩) T F__law_draw U9
  have F__law_terms := fnD_of (m := ⟨l.prog, w, K, mg, base⟩) O__law_terms (PySem.W.mg_of X G a9) k9 b9
  have O__law_figures := ok__law_figures (m := ⟨l.prog, w, K, mg, base⟩) T  U12
  have F__law_figures := fnD_of (m := ⟨l.prog, w, K, mg, base⟩) O__law_figures (PySem.W.mg_of X G a12) k12 b12
  have O__law_walk := ok__law_walk (m := ⟨l.prog, w, K, mg, base⟩) T F__law_figures U13
  have F__law_walk := fnD_of (m := ⟨l.prog, w, K, mg, base⟩) O__law_walk (PySem.W.mg_of X G a13) k13 b13
  have O__law_right := ok__law_right (m := ⟨l.prog, w, K, mg, base⟩) T F__law_draw F__law_names F__law_said F__law_spoilt F__law_terms F__law_walk U15
  have F__law_right := fnD_of (m := ⟨l.prog, w, K, mg, base⟩) O__law_right (PySem.W.mg_of X G a15) k15 b15
  exact ok_law (m := ⟨l.prog, w, K, mg, base⟩) T F__law_right F__law_said U16

end LK
theorem PySem.Challenge.cw_noughtrules_k91_texts_of_no_handful_holds : PySem.Challenge.rw_noughtrules_k91_texts_of_no_handful.Holds :=
  LK.head_done LK.all_mk
