import PyProof.Rows.All
import Wide.All
import OpenK.AllK
import Wide.FinOn
import HandS.ForMost
import HandS.Exc
import HandS.TryOnly
import HandS.ExcOwn
import HandS.WordsExc
import HandS.Style
import HandS.IsInst
import HandS.Wide
import HandS.TupAny
import HandS.ExcInit
import HandS.ExcIs
import HandS.ExcField
import HandS.CallSlots
import HandS.Flow
import HandS.Conv
import HandS.Ends
import KE.GoesMore
import HandS.TupMul
import HandS.Defaults
import HandS.OwnEq
import HandS.Dict
import HandS.RevRange
import PySem.Challenge.RW_noughtrules_k21_least_ones
set_option Elab.async false
set_option linter.all false
section
set_option autoImplicit false
set_option maxRecDepth 100000
set_option maxHeartbeats 4000000
/-! Calls whose exceptions know the slots of the caller. -/
namespace DL
open PySem PySem.Spec PyProof.Rows L2
open PySem.W (Frag)
section
variable {X : Cx} {CX : CXT} {k : Nat} {f C : Addr} {fd : FuncData} {ps : List Str} {sp : Sp} {dvs : List V} {ds : List Value} {E : L2.St → XK} {x m : Str} {p pos apos : Pos} {e o : Expr} {es : List Expr} {ta : TE} {t : TA}
theorem pe_call0S (F : FnOk X.prog X.w X.K X.mg X.base CX k f fd ps sp) (hr : Room k X.A) (hg : Gl X x) (hm : X.mg x = some (.ref f)) (hk : PySem.W.keepIn X.K (.ref f) = true) (hb : Binds X.K fd ps ds) (hd : Vals dvs ds) (hx : ∀ σ, PassesAt CX X σ (E σ))
    (hdb : (x == ("__debug__" : Str)) = false := by decide) : PE X (.Call (.Name x p) [] [] pos) (tCallSD sp dvs E tNil) := by
  refine ⟨fun pins s σ H Q I h => ?_⟩
  refine wpAny_Call_Name_kw (ld_glob I hg hm ?_ hdb)
  exact PySem.W.callWith_K0 I.kIn hk (run_fnSD (us := []) F hr hb hd (hx σ) I .nil h)
def tMethS (C : Addr) (m : Str) (sp : Sp) (dvs : List V) (E : L2.St → XK) (ta : TE) (t : TA) : TE := fun σ H Q => ta σ H fun x H1 => ∃ a dx fs, x = .ref a ∧ H1 a = some (.ins C dx fs) ∧ fs.lookup m = none ∧ t σ H1 fun vs H2 => sp (.ref a :: (vs ++ dvs)) H2 Q (E σ)
theorem pe_methS {pl : Sem Bool} (he : PE X o ta) (c : Cls X.K C) (hm : Meth X.K C m f) (F : FnOk X.prog X.w X.K X.mg X.base CX k f fd ps sp) (hr : Room k X.A) (hb : Binds X.K fd ps ds) (hd : Vals dvs ds) (hx : ∀ σ, PassesAt CX X σ (E σ)) (ha : PA X (e :: es) t)
    (hst : starEach (e :: es) X.env = (false, eval e X.env) :: starEach es X.env := by rfl) (hpl : (backTo pos (starEach es X.env)).any (·.1) = false := by rfl)
    (ht : eval (.Call (.Attribute o m apos) (e :: es) [] pos) X.env = (do
      let ov ← eval o X.env
      standAt apos.atName
      let (f, first) ← holding [ov] (getMethod ov m pl)
      callWith pos f first (backTo pos (starEach (e :: es) X.env)) (backToKw pos (keywordEach [] X.env))) := by rfl) :
    PE X (.Call (.Attribute o m apos) (e :: es) [] pos) (tMethS C m sp dvs E ta t) := by
  refine ⟨fun pins s σ H Q I h => ?_⟩
  refine PySem.W.methodCall_KW (pl := pl) (thn (he.run pins s σ H _ I h) fun u s1 ⟨x, H1, I1, rx, a, dx, fs, ex, ea, l, q⟩ => ?_) ht
  subst ex
  obtain rfl : u = Value.ref a := rx
  refine getmeth_ok I1 ea c hm l ?_
  refine PySem.W.callWith_K (first := [.ref a]) (h₀ := X.base) I.ok.mod.kin hm.kp (thn (ha.run pos pins s1 σ H1 _ I1 q) fun us s2 ⟨vs, H2, I2, r, q2⟩ => ⟨I2.kIn, ?_⟩) hst hpl
  exact run_fnSD (us := .ref a :: us) (vs := .ref a :: vs) F hr hb hd (hx σ) I2 (.cons rfl r) q2
theorem pe_meth0S {pl : Sem Bool} (he : PE X o ta) (c : Cls X.K C) (hm : Meth X.K C m f) (F : FnOk X.prog X.w X.K X.mg X.base CX k f fd ps sp) (hr : Room k X.A) (hb : Binds X.K fd ps ds) (hd : Vals dvs ds) (hx : ∀ σ, PassesAt CX X σ (E σ))
    (ht : eval (.Call (.Attribute o m apos) [] [] pos) X.env = (do
      let ov ← eval o X.env
      standAt apos.atName
      let (f, first) ← holding [ov] (getMethod ov m pl)
      callWith pos f first (backTo pos (starEach [] X.env)) (backToKw pos (keywordEach [] X.env))) := by rfl) :
    PE X (.Call (.Attribute o m apos) [] [] pos) (tMethS C m sp dvs E ta tNil) := by
  refine ⟨fun pins s σ H Q I h => ?_⟩
  refine PySem.W.methodCall_KW (pl := pl) (thn (he.run pins s σ H _ I h) fun u s1 ⟨x, H1, I1, rx, a, dx, fs, ex, ea, l, q⟩ => ?_) ht
  subst ex
  obtain rfl : u = Value.ref a := rx
  refine getmeth_ok I1 ea c hm l ?_
  exact PySem.W.callWith_K0 (first := [.ref a]) I1.kIn hm.kp (run_fnSD (us := [.ref a]) (vs := [.ref a]) F hr hb hd (hx σ) I1 (.cons rfl .nil) q)
def tMakeS (C : Addr) (sp : Sp) (dvs : List V) (E : L2.St → XK) (t : TA) : TE := fun σ H Q => t σ H fun vs H1 => ∀ x dx, H1 x = none → H1 dx = none → dx ≠ x →
  sp (.ref x :: (vs ++ dvs)) (upd (upd H1 dx (.own x)) x (.ins C dx [])) (fun v H2 => v = .non ∧ Q (.ref x) H2) (E σ)
theorem run_makeS {pins : List (Addr × Obj)} {σ : L2.St} {H : Hp} {s : Shared} {Q : VK} {us : List Value} {vs : List V} (M : Mk X.K C f) (F : FnOk X.prog X.w X.K X.mg X.base CX k f fd ps sp) (hr : Room (k + 1) X.A) (hb : Binds X.K fd ps ds) (hd : Vals dvs ds)
    (hx : PassesAt CX X σ (E σ)) (I : Inv X pins σ H s) (r : Vals vs us)
    (h : ∀ x dx, H x = none → H dx = none → dx ≠ x → sp (.ref x :: (vs ++ dvs)) (upd (upd H dx (.own x)) x (.ins C dx [])) (fun v H2 => v = .non ∧ Q (.ref x) H2) (E σ)) :
    wpAny (model X.prog X.w) X.A (call (.ref C) us) (EP X pins σ Q) X.xe s := by
  have hq := h (s.heap.objs.size + 1) s.heap.objs.size (I.hok.fresh (Nat.le_succ _)) (I.hok.fresh (Nat.le_refl _)) (Nat.ne_of_lt (Nat.lt_succ_self _))
  have I2 := Inv.made (C := C) I
  have r2 : Vals (V.ref (s.heap.objs.size + 1) :: (vs ++ dvs)) (Value.ref (s.heap.objs.size + 1) :: (us ++ ds)) := .cons rfl (r.append hd)
  have hl : (Value.ref (s.heap.objs.size + 1) :: us ++ ds).length = ps.length := by
    have e := r2.length
    rw [F.len _ _ _ _ hq] at e
    exact e.symm
  refine wpAny_call (make_map (f := f) I.kIn M.makes M.init (beq_iff_eq.mp M.fn) (codeAny_mono (F.run _ X.stack _ _ ⟨Value.ref (s.heap.objs.size + 1) :: us, []⟩ (Value.ref (s.heap.objs.size + 1) :: (us ++ ds)) _ _ (E σ) (hr.make C us [])
    (I2.env0.make C us []) (hb _ (Value.ref (s.heap.objs.size + 1) :: us) I2.kIn hl) r2 hq) fun r s' hq' => ?_))
  cases r with
  | error e => exact hx pins _ _ e s' I2 hq'
  | ok fl =>
    cases fl with
    | ret u =>
      obtain ⟨v, H', I3, rv, ev, q3⟩ := I2.after hq'
      subst ev
      exact ⟨rv, ⟨V.ref (s.heap.objs.size + 1), H', I3, rfl, q3⟩⟩
    | next => exact False.elim hq'
    | brk => exact False.elim hq'
    | cont => exact False.elim hq'
theorem pe_makeS (M : Mk X.K C f) (F : FnOk X.prog X.w X.K X.mg X.base CX k f fd ps sp) (hr : Room (k + 1) X.A) (hg : Gl X x) (hm : X.mg x = some (.ref C)) (hb : Binds X.K fd ps ds) (hd : Vals dvs ds) (hx : ∀ σ, PassesAt CX X σ (E σ))
    (ha : PA X (e :: es) t) (hdb : (x == ("__debug__" : Str)) = false := by decide) (he : starEach (e :: es) X.env = (false, eval e X.env) :: starEach es X.env := by rfl) (hpl : (backTo pos (starEach es X.env)).any (·.1) = false := by rfl) :
    PE X (.Call (.Name x p) (e :: es) [] pos) (tMakeS C sp dvs E t) := by
  refine ⟨fun pins s σ H Q I h => ?_⟩
  refine wpAny_Call_Name_kw (ld_glob I hg hm ?_ hdb)
  refine PySem.W.callWith_K (h₀ := X.base) I.ok.mod.kin M.kp (thn (ha.run pos pins s σ H _ I h) fun us s1 ⟨vs, H1, I1, r, q⟩ => ⟨I1.kIn, ?_⟩) he hpl
  exact run_makeS M F hr hb hd (hx σ) I1 r q
/-- N.__init__(self, ..), N an own class that has ValueError's -/
structure NtC (K : Frag) (N : Addr) : Prop where
  sp : PySem.W.specialIn K (.ref N) "__getattribute__" = some (some (.builtin "type.__getattribute__"))
  rd : PySem.W.readsIn K N (.type "type") = true
  fi : PySem.W.findCls K (.ref N) (.type "type") "__init__" = some (.val (.builtin "ValueError.__init__"))
theorem pe_ninit {N : Addr} {p1 p2 : Pos} {pl : Sem Bool} (T : NtC X.K N) (hg : Gl X x) (hm : X.mg x = some (.ref N)) (ha : PA X (e :: es) t) (hdb : (x == ("__debug__" : Str)) = false)
    (hc : eval (.Call (.Attribute (.Name x p1) "__init__" p2) (e :: es) [] pos) X.env = (do
      let ov ← eval (.Name x p1) X.env
      standAt p2.atName
      let (f, first) ← holding [ov] (getMethod ov "__init__" pl)
      callWith pos f first (backTo pos (starEach (e :: es) X.env)) (backToKw pos (keywordEach [] X.env))) := by rfl)
    (he : starEach (e :: es) X.env = (false, eval e X.env) :: starEach es X.env := by rfl) (hpl : (backTo pos (starEach es X.env)).any (·.1) = false := by rfl) :
    PE X (.Call (.Attribute (.Name x p1) "__init__" p2) (e :: es) [] pos) (tVeI X.K t) := by
  refine ⟨fun pins s σ H Q I h => ?_⟩
  refine PySem.W.methodCall_KW (ld_glob I hg hm ?_ hdb) hc
  refine PySem.W.method_cls I.kIn T.sp (PySem.W.cls_value I.kIn T.rd T.fi rfl ?_)
  show wpAny _ _ (callWith pos (Value.builtin "ValueError.__init__") [] (backTo pos (starEach (e :: es) X.env)) []) _ _ _
  refine PyProof.Rows.callWith_method1 (thn (ha.run pos pins _ σ H _ (I.tok _) h) fun us s1 ⟨vs, H1, I1, r1, a, C, ws, ev, hl, T', ea, q⟩ => ?_) he hpl
  subst ev
  cases r1 with
  | @cons _ u0 _ ur ra rw' =>
    obtain rfl : u0 = Value.ref a := ra
    have hlen : ur.length ≤ sizeLine := by
      rw [← Paired.length rw', sizeLine_eq]
      omega
    exact oinit_ok T' I1 ea hlen fun s' J => ⟨.non, H1, J, rfl, q⟩
end
end DL
end

section
set_option autoImplicit false
set_option maxRecDepth 100000
set_option maxHeartbeats 4000000
/-! Data layer: immutable data as trees, mutable cells apart, over the hand layer. -/
namespace DL
open PySem PySem.Spec PyProof.Rows L2
open PySem.W (Frag)

/-- the class that the program binds to this name -/
def CN (K : Frag) (n : Str) (C : Addr) : Prop := PySem.W.nsIn K mainGlobals n = some (some (.ref C))
/-- a datum: what a value is, all the way down -/
inductive D where
  | non | bl (b : Bool) | int (i : Int) | str (x : Str) | ty (n : String) | ref (a : Addr)
  | tup (xs : List D) | lst (xs : List D) | slst (xs : List D)
  | ins (C : Str) (fs : List (Str × D))
  | dct (kvs : List (Key × D))

mutual
def Rep (K : Frag) (B : Hp) : D → V → Prop
  | .non, v => v = .non
  | .bl b, v => v = .bl b
  | .int i, v => v = .int i
  | .str x, v => v = .str x
  | .ty n, v => v = .ty n
  | .ref a, v => v = .ref a
  | .tup ds, v => ∃ a vs, v = .ref a ∧ SqT K B a vs ∧ Reps K B ds vs
  | .lst ds, v => ∃ a vs, v = .ref a ∧ B a = some (.lst vs) ∧ Reps K B ds vs
  | .slst ds, v => ∃ a vs, v = .ref a ∧ SqL K B a vs ∧ Reps K B ds vs
  | .ins n fs, v => ∃ C a dx vs, CN K n C ∧ v = .ref a ∧ B a = some (.ins C dx vs) ∧ RepF K B fs vs
  | .dct kvs, v => ∃ a vs, v = .ref a ∧ B a = some (.dK vs) ∧ RepK K B kvs vs
def Reps (K : Frag) (B : Hp) : List D → List V → Prop
  | [], vs => vs = []
  | d :: ds, vs => ∃ v r, vs = v :: r ∧ Rep K B d v ∧ Reps K B ds r
def RepF (K : Frag) (B : Hp) : List (Str × D) → List (Str × V) → Prop
  | [], vs => vs = []
  | (f, d) :: ds, vs => ∃ v r, vs = (f, v) :: r ∧ Rep K B d v ∧ RepF K B ds r
def RepK (K : Frag) (B : Hp) : List (Key × D) → List (Key × V) → Prop
  | [], vs => vs = []
  | (f, d) :: ds, vs => ∃ v r, vs = (f, v) :: r ∧ Rep K B d v ∧ RepK K B ds r
end

theorem sameT {K : Frag} {B B' : Hp} {a : Addr} {xs : List V} (s : Same B B') (h : SqT K B a xs) : SqT K B' a xs := by
  rcases h with (h | ⟨o, h⟩) | h
  · exact .inl (.inl (s _ _ h))
  · exact .inl (.inr ⟨o, s _ _ h⟩)
  · exact .inr h

section
variable {K : Frag} {B B' : Hp}
mutual
theorem Rep.mono (s : Same B B') : ∀ (d : D) (v : V), Rep K B d v → Rep K B' d v
  | .non, _, h => h
  | .bl _, _, h => h
  | .int _, _, h => h
  | .str _, _, h => h
  | .ty _, _, h => h
  | .ref _, _, h => h
  | .tup ds, v, h => by
    obtain ⟨a, vs, e, q, r⟩ := h
    exact ⟨a, vs, e, sameT s q, Reps.mono s ds vs r⟩
  | .lst ds, v, h => by
    obtain ⟨a, vs, e, q, r⟩ := h
    exact ⟨a, vs, e, s _ _ q, Reps.mono s ds vs r⟩
  | .slst ds, v, h => by
    obtain ⟨a, vs, e, q, r⟩ := h
    exact ⟨a, vs, e, s.seq q, Reps.mono s ds vs r⟩
  | .ins C fs, v, h => by
    obtain ⟨C, a, dx, vs, cn, e, q, r⟩ := h
    exact ⟨C, a, dx, vs, cn, e, s _ _ q, RepF.mono s fs vs r⟩
  | .dct kvs, v, h => by
    obtain ⟨a, vs, e, q, r⟩ := h
    exact ⟨a, vs, e, s _ _ q, RepK.mono s kvs vs r⟩
theorem Reps.mono (s : Same B B') : ∀ (ds : List D) (vs : List V), Reps K B ds vs → Reps K B' ds vs
  | [], _, h => h
  | d :: ds, vs, h => by
    obtain ⟨v, r, e, h1, h2⟩ := h
    exact ⟨v, r, e, Rep.mono s d v h1, Reps.mono s ds r h2⟩
theorem RepF.mono (s : Same B B') : ∀ (ds : List (Str × D)) (vs : List (Str × V)), RepF K B ds vs → RepF K B' ds vs
  | [], _, h => h
  | (f, d) :: ds, vs, h => by
    obtain ⟨v, r, e, h1, h2⟩ := h
    exact ⟨v, r, e, Rep.mono s d v h1, RepF.mono s ds r h2⟩
theorem RepK.mono (s : Same B B') : ∀ (ds : List (Key × D)) (vs : List (Key × V)), RepK K B ds vs → RepK K B' ds vs
  | [], _, h => h
  | (f, d) :: ds, vs, h => by
    obtain ⟨v, r, e, h1, h2⟩ := h
    exact ⟨v, r, e, Rep.mono s d v h1, RepK.mono s ds r h2⟩
end
end

theorem Reps.length {K : Frag} {B : Hp} : ∀ {ds : List D} {vs : List V}, Reps K B ds vs → vs.length = ds.length
  | [], _, h => by
    cases h
    rfl
  | d :: ds, vs, h => by
    obtain ⟨v, r, e, _, h2⟩ := h
    subst e
    rw [List.length_cons, List.length_cons, Reps.length h2]
theorem Reps.get {K : Frag} {B : Hp} : ∀ {ds : List D} {vs : List V} {i : Nat} {d : D}, Reps K B ds vs → ds[i]? = some d → ∃ v, vs[i]? = some v ∧ Rep K B d v
  | [], _, _, _, _, e => by simp at e
  | d :: ds, vs, 0, d', h, e => by
    obtain ⟨v, r, ev, h1, h2⟩ := h
    subst ev
    have e' : d = d' := by simpa using e
    subst e'
    exact ⟨v, rfl, h1⟩
  | d :: ds, vs, i + 1, d', h, e => by
    obtain ⟨v, r, ev, h1, h2⟩ := h
    subst ev
    obtain ⟨u, h3, h4⟩ := Reps.get (i := i) (d := d') h2 (by simpa using e)
    exact ⟨u, by simpa using h3, h4⟩
theorem Reps.get' {K : Frag} {B : Hp} {ds : List D} {vs : List V} {i : Nat} {v : V} (h : Reps K B ds vs) (e : vs[i]? = some v) : ∃ d, ds[i]? = some d ∧ Rep K B d v := by
  have hl := h.length
  have hi : i < ds.length := by
    have := (List.getElem?_eq_some_iff.mp e).1
    omega
  obtain ⟨u, h1, h2⟩ := h.get (List.getElem?_eq_getElem hi)
  rw [e] at h1
  cases h1
  exact ⟨_, List.getElem?_eq_getElem hi, h2⟩
theorem Reps.append {K : Frag} {B : Hp} : ∀ {ds es : List D} {vs us : List V}, Reps K B ds vs → Reps K B es us → Reps K B (ds ++ es) (vs ++ us)
  | [], _, _, _, h, g => by
    cases h
    exact g
  | d :: ds, es, vs, us, h, g => by
    obtain ⟨v, r, ev, h1, h2⟩ := h
    subst ev
    exact ⟨v, r ++ us, rfl, h1, Reps.append h2 g⟩
theorem Reps.take {K : Frag} {B : Hp} : ∀ {ds : List D} {vs : List V} (n : Nat), Reps K B ds vs → Reps K B (ds.take n) (vs.take n)
  | _, _, 0, _ => rfl
  | [], _, n + 1, h => by
    cases h
    rfl
  | d :: ds, vs, n + 1, h => by
    obtain ⟨v, r, ev, h1, h2⟩ := h
    subst ev
    exact ⟨v, r.take n, rfl, h1, Reps.take n h2⟩
theorem Reps.drop {K : Frag} {B : Hp} : ∀ {ds : List D} {vs : List V} (n : Nat), Reps K B ds vs → Reps K B (ds.drop n) (vs.drop n)
  | _, _, 0, h => h
  | [], _, n + 1, h => by
    cases h
    rfl
  | d :: ds, vs, n + 1, h => by
    obtain ⟨v, r, ev, h1, h2⟩ := h
    subst ev
    exact Reps.drop (ds := ds) (vs := r) n h2
theorem Reps.set {K : Frag} {B : Hp} {d : D} {v : V} (q : Rep K B d v) : ∀ {ds : List D} {vs : List V} (n : Nat), Reps K B ds vs → Reps K B (ds.set n d) (vs.set n v)
  | [], _, n, h => by
    cases h
    rfl
  | e :: ds, vs, 0, h => by
    obtain ⟨u, r, ev, h1, h2⟩ := h
    subst ev
    exact ⟨v, r, rfl, q, h2⟩
  | e :: ds, vs, n + 1, h => by
    obtain ⟨u, r, ev, h1, h2⟩ := h
    subst ev
    exact ⟨u, r.set n v, rfl, h1, Reps.set q n h2⟩
theorem Reps.reverse {K : Frag} {B : Hp} : ∀ {ds : List D} {vs : List V}, Reps K B ds vs → Reps K B ds.reverse vs.reverse
  | [], _, h => by
    cases h
    rfl
  | d :: ds, vs, h => by
    obtain ⟨v, r, ev, h1, h2⟩ := h
    subst ev
    rw [List.reverse_cons, List.reverse_cons]
    exact (Reps.reverse h2).append ⟨v, [], rfl, h1, rfl⟩
theorem Reps.ints {K : Frag} {B : Hp} : ∀ {ns : List Int} {vs : List V}, Reps K B (ns.map D.int) vs → vs = ns.map V.int
  | [], _, h => h
  | n :: ns, vs, h => by
    obtain ⟨v, r, ev, h1, h2⟩ := h
    subst ev
    cases h1
    rw [Reps.ints h2]
    rfl
theorem Reps.ofInts {K : Frag} {B : Hp} : ∀ (ns : List Int), Reps K B (ns.map D.int) (ns.map V.int)
  | [] => rfl
  | n :: ns => ⟨_, _, rfl, rfl, Reps.ofInts ns⟩
theorem Reps.bls {K : Frag} {B : Hp} : ∀ {ns : List Bool} {vs : List V}, Reps K B (ns.map D.bl) vs → vs = ns.map V.bl
  | [], _, h => h
  | n :: ns, vs, h => by
    obtain ⟨v, r, ev, h1, h2⟩ := h
    subst ev
    cases h1
    rw [Reps.bls h2]
    rfl

/-! ### cells -/
inductive Cel where
  | lst (ds : List D)
  | ins (C : Str) (fs : List (Str × D))
  | dct (kvs : List (Key × D))
  | xd (fs : List (Str × D))
def CelOk (K : Frag) (B H : Hp) (a : Addr) : Cel → Prop
  | .lst ds => ∃ vs, H a = some (.lst vs) ∧ Reps K B ds vs
  | .ins n fs => ∃ C dx vs, CN K n C ∧ H a = some (.ins C dx vs) ∧ RepF K B fs vs
  | .dct kvs => ∃ vs, H a = some (.dK vs) ∧ RepK K B kvs vs
  | .xd fs => ∃ vs, H a = some (.xd vs) ∧ RepF K B fs vs
abbrev Sto := List (Addr × Cel)
/-- the heap: what is frozen at B, the cells S -/
structure RelH (K : Frag) (B0 B : Hp) (S : Sto) (H : Hp) : Prop where
  lo : Same B0 B
  sub : Same B H
  cel : ∀ p ∈ S, B p.1 = none ∧ CelOk K B H p.1 p.2
  nd : (S.map (·.1)).Nodup
abbrev Loc := List (Option D)
structure Rel (K : Frag) (B0 B : Hp) (G : Loc) (S : Sto) (σ : L2.St) (H : Hp) : Prop extends RelH K B0 B S H where
  len : σ.length = G.length
  loc : ∀ (i : Nat) (d : D), G[i]? = some (some d) → ∃ v, σ[i]? = some (some v) ∧ Rep K B d v

theorem CelOk.mono {K : Frag} {B B' H : Hp} {a : Addr} {c : Cel} (s : Same B B') (h : CelOk K B H a c) : CelOk K B' H a c := by
  cases c with
  | lst ds =>
    obtain ⟨vs, e, r⟩ := h
    exact ⟨vs, e, Reps.mono s _ _ r⟩
  | ins C fs =>
    obtain ⟨C, dx, vs, cn, e, r⟩ := h
    exact ⟨C, dx, vs, cn, e, RepF.mono s _ _ r⟩
  | dct kvs =>
    obtain ⟨vs, e, r⟩ := h
    exact ⟨vs, e, RepK.mono s _ _ r⟩
  | xd fs =>
    obtain ⟨vs, e, r⟩ := h
    exact ⟨vs, e, RepF.mono s _ _ r⟩
theorem CelOk.heap {K : Frag} {B H H' : Hp} {a : Addr} {c : Cel} (e : H' a = H a) (h : CelOk K B H a c) : CelOk K B H' a c := by
  cases c with
  | lst ds =>
    obtain ⟨vs, q, r⟩ := h
    exact ⟨vs, e.trans q, r⟩
  | ins C fs =>
    obtain ⟨C, dx, vs, cn, q, r⟩ := h
    exact ⟨C, dx, vs, cn, e.trans q, r⟩
  | dct kvs =>
    obtain ⟨vs, q, r⟩ := h
    exact ⟨vs, e.trans q, r⟩
  | xd fs =>
    obtain ⟨vs, q, r⟩ := h
    exact ⟨vs, e.trans q, r⟩
theorem CelOk.there {K : Frag} {B H : Hp} {a : Addr} {c : Cel} (h : CelOk K B H a c) : H a ≠ none := by
  cases c with
  | lst ds =>
    obtain ⟨vs, q, r⟩ := h
    rw [q]
    exact fun z => by cases z
  | ins C fs =>
    obtain ⟨C, dx, vs, cn, q, r⟩ := h
    rw [q]
    exact fun z => by cases z
  | dct kvs =>
    obtain ⟨vs, q, r⟩ := h
    rw [q]
    exact fun z => by cases z
  | xd kvs =>
    obtain ⟨vs, q, r⟩ := h
    rw [q]
    exact fun z => by cases z

section
variable {K : Frag} {B0 B : Hp} {G : Loc} {S : Sto} {σ : L2.St} {H : Hp}
theorem same_upd {H : Hp} {p : Addr} {o : HO} (h : H p = none) : Same H (upd H p o) := fun b x e => by
  rw [upd_ne (ne_of_none e h)]
  exact e
theorem same_upd2 {B H : Hp} {p : Addr} {o : HO} (s : Same B H) (h : B p = none) : Same (upd B p o) (upd H p o) := fun b x e => by
  by_cases hb : b = p
  · subst hb
    rw [upd_same] at e ⊢
    exact e
  · rw [upd_ne hb] at e ⊢
    exact s b x e
theorem RelH.bnone (R : RelH K B0 B S H) {p : Addr} (h : H p = none) : B p = none := R.sub.free h
theorem RelH.ne (R : RelH K B0 B S H) {p : Addr} (h : H p = none) : ∀ q ∈ S, q.1 ≠ p := fun q hq e => by
  have := (R.cel q hq).2.there
  rw [e] at this
  exact this h
/-- a frozen object is laid -/
theorem RelH.laid (R : RelH K B0 B S H) {p : Addr} {o : HO} (h : H p = none) : RelH K B0 (upd B p o) S (upd H p o) :=
  ⟨R.lo.trans (same_upd (R.bnone h)), same_upd2 R.sub (R.bnone h), fun q hq => by
    have ne := R.ne h q hq
    obtain ⟨h1, h2⟩ := R.cel q hq
    refine ⟨by rw [upd_ne ne]; exact h1, (h2.mono (same_upd (R.bnone h))).heap (by rw [upd_ne ne])⟩, R.nd⟩
theorem Rel.laid (R : Rel K B0 B G S σ H) {p : Addr} {o : HO} (h : H p = none) : Rel K B0 (upd B p o) G S σ (upd H p o) :=
  ⟨R.toRelH.laid h, R.len, fun i d e => by
    obtain ⟨v, h1, h2⟩ := R.loc i d e
    exact ⟨v, h1, Rep.mono (same_upd (R.bnone h)) d v h2⟩⟩
/-- a new cell -/
theorem RelH.cell (R : RelH K B0 B S H) {p : Addr} {o : HO} {c : Cel} (h : H p = none) (hc : CelOk K B (upd H p o) p c) : RelH K B0 B ((p, c) :: S) (upd H p o) :=
  ⟨R.lo, R.sub.trans (same_upd h), fun q hq => by
    rcases List.mem_cons.mp hq with e | hq
    · subst e
      exact ⟨R.bnone h, hc⟩
    · have ne := R.ne h q hq
      obtain ⟨h1, h2⟩ := R.cel q hq
      exact ⟨h1, h2.heap (by rw [upd_ne ne])⟩, by
    rw [List.map_cons, List.nodup_cons]
    refine ⟨fun hm => ?_, R.nd⟩
    obtain ⟨q, hq, e⟩ := List.mem_map.mp hm
    exact R.ne h q hq e⟩
theorem Rel.cell (R : Rel K B0 B G S σ H) {p : Addr} {o : HO} {c : Cel} (h : H p = none) (hc : CelOk K B (upd H p o) p c) : Rel K B0 B G ((p, c) :: S) σ (upd H p o) :=
  ⟨R.toRelH.cell h hc, R.len, R.loc⟩
theorem nodup_at {S : Sto} {k : Nat} {a : Addr} {c : Cel} (nd : (S.map (·.1)).Nodup) (h : S[k]? = some (a, c)) {q : Addr × Cel} (hq : q ∈ S.set k (a, c)) : True := trivial
/-- the cells but the k-th -/
theorem RelH.others (R : RelH K B0 B S H) {k : Nat} {a : Addr} {c : Cel} (h : S[k]? = some (a, c)) : ∀ (j : Nat) (q : Addr × Cel), S[j]? = some q → j ≠ k → q.1 ≠ a := fun j q hj ne e => by
  have h1 : (S.map (·.1))[k]? = some a := by rw [List.getElem?_map, h]; rfl
  have h2 : (S.map (·.1))[j]? = some a := by rw [List.getElem?_map, hj, ← e]; rfl
  exact ne (nodup_ix' R.nd h2 h1)
where
  nodup_ix' {α : Type} {l : List α} (hN : l.Nodup) {i j : Nat} {x : α} (a : l[i]? = some x) (b : l[j]? = some x) : i = j := by
    obtain ⟨h1, e1⟩ := List.getElem?_eq_some_iff.mp a
    obtain ⟨h2, e2⟩ := List.getElem?_eq_some_iff.mp b
    exact (List.getElem_inj hN).mp (e1.trans e2.symm)
/-- a cell is written -/
theorem RelH.write (R : RelH K B0 B S H) {k : Nat} {a : Addr} {c c' : Cel} {o : HO} (h : S[k]? = some (a, c)) (hc : CelOk K B (upd H a o) a c') : RelH K B0 B (S.set k (a, c')) (upd H a o) := by
  have hk : k < S.length := (List.getElem?_eq_some_iff.mp h).1
  have ha := (R.cel (a, c) (List.mem_of_getElem? h)).1
  refine ⟨R.lo, fun b x e => ?_, fun q hq => ?_, ?_⟩
  · rw [upd_ne (ne_of_none e ha)]
    exact R.sub b x e
  · obtain ⟨j, hj⟩ := List.mem_iff_getElem?.mp hq
    by_cases ej : j = k
    · subst ej
      rw [List.getElem?_set_self hk] at hj
      cases hj
      exact ⟨ha, hc⟩
    · rw [List.getElem?_set_ne (Ne.symm ej)] at hj
      have ne := R.others h j q hj ej
      obtain ⟨h1, h2⟩ := R.cel q (List.mem_of_getElem? hj)
      exact ⟨h1, h2.heap (by rw [upd_ne ne])⟩
  · have e : (S.set k (a, c')).map (·.1) = S.map (·.1) := by
      apply List.ext_getElem?
      intro j
      rw [List.getElem?_map, List.getElem?_map]
      by_cases ej : j = k
      · subst ej
        rw [List.getElem?_set_self hk, h]
        rfl
      · rw [List.getElem?_set_ne (Ne.symm ej)]
    rw [e]
    exact R.nd
theorem Rel.write (R : Rel K B0 B G S σ H) {k : Nat} {a : Addr} {c c' : Cel} {o : HO} (h : S[k]? = some (a, c)) (hc : CelOk K B (upd H a o) a c') : Rel K B0 B G (S.set k (a, c')) σ (upd H a o) :=
  ⟨R.toRelH.write h hc, R.len, R.loc⟩
/-- cells are forgotten -/
theorem RelH.drop (R : RelH K B0 B S H) {S' : Sto} (h : S'.Sublist S) : RelH K B0 B S' H :=
  ⟨R.lo, R.sub, fun q hq => R.cel q (h.subset hq), R.nd.sublist (h.map _)⟩
theorem Rel.drop (R : Rel K B0 B G S σ H) {S' : Sto} (h : S'.Sublist S) : Rel K B0 B G S' σ H := ⟨R.toRelH.drop h, R.len, R.loc⟩
/-- a list cell is frozen -/
theorem RelH.freeze (R : RelH K B0 B S H) {k : Nat} {a : Addr} {ds : List D} (h : S[k]? = some (a, .lst ds)) : ∃ B', Same B B' ∧ RelH K B0 B' (S.eraseIdx k) H ∧ Rep K B' (.lst ds) (.ref a) := by
  obtain ⟨ha, vs, hv, hr⟩ := R.cel (a, .lst ds) (List.mem_of_getElem? h)
  have s := same_upd (o := HO.lst vs) ha
  refine ⟨upd B a (.lst vs), s, ⟨R.lo.trans s, fun b x e => ?_, fun q hq => ?_, R.nd.sublist ((List.eraseIdx_sublist S k).map _)⟩, a, vs, rfl, upd_same, Reps.mono s _ _ hr⟩
  · by_cases hb : b = a
    · subst hb
      rw [upd_same] at e
      cases e
      exact hv
    · rw [upd_ne hb] at e
      exact R.sub b x e
  · obtain ⟨j, hj, hne⟩ : ∃ j, S[j]? = some q ∧ j ≠ k := by
      obtain ⟨i, hi⟩ := List.mem_iff_getElem?.mp hq
      rw [List.getElem?_eraseIdx] at hi
      split at hi
      · exact ⟨i, hi, by omega⟩
      · exact ⟨i + 1, hi, by omega⟩
    have ne := R.others h j q hj hne
    obtain ⟨h1, h2⟩ := R.cel q (List.mem_of_getElem? hj)
    exact ⟨by rw [upd_ne ne]; exact h1, h2.mono s⟩
theorem RelH.freezeI (R : RelH K B0 B S H) {k : Nat} {a : Addr} {n : Str} {fs : List (Str × D)} (h : S[k]? = some (a, .ins n fs)) : ∃ B', Same B B' ∧ RelH K B0 B' (S.eraseIdx k) H ∧ Rep K B' (.ins n fs) (.ref a) := by
  obtain ⟨ha, C, dx, vs, cn, hv, hr⟩ := R.cel (a, .ins n fs) (List.mem_of_getElem? h)
  have s := same_upd (o := HO.ins C dx vs) ha
  refine ⟨upd B a (.ins C dx vs), s, ⟨R.lo.trans s, fun b x e => ?_, fun q hq => ?_, R.nd.sublist ((List.eraseIdx_sublist S k).map _)⟩, C, a, dx, vs, cn, rfl, upd_same, RepF.mono s _ _ hr⟩
  · by_cases hb : b = a
    · subst hb
      rw [upd_same] at e
      cases e
      exact hv
    · rw [upd_ne hb] at e
      exact R.sub b x e
  · obtain ⟨j, hj, hne⟩ : ∃ j, S[j]? = some q ∧ j ≠ k := by
      obtain ⟨i, hi⟩ := List.mem_iff_getElem?.mp hq
      rw [List.getElem?_eraseIdx] at hi
      split at hi
      · exact ⟨i, hi, by omega⟩
      · exact ⟨i + 1, hi, by omega⟩
    have ne := R.others h j q hj hne
    obtain ⟨h1, h2⟩ := R.cel q (List.mem_of_getElem? hj)
    exact ⟨by rw [upd_ne ne]; exact h1, h2.mono s⟩
theorem Rel.up (R : Rel K B0 B G S σ H) {B' : Hp} {S' : Sto} {H' : Hp} (s : Same B B') (h : RelH K B0 B' S' H') : Rel K B0 B' G S' σ H' :=
  ⟨h, R.len, fun i d e => by
    obtain ⟨v, h1, h2⟩ := R.loc i d e
    exact ⟨v, h1, Rep.mono s d v h2⟩⟩
theorem Rel.set (R : Rel K B0 B G S σ H) {i : Nat} {d : D} {v : V} (hi : i < G.length) (r : Rep K B d v) : Rel K B0 B (G.set i (some d)) S (σ.set i (some v)) H :=
  ⟨R.toRelH, by rw [List.length_set, List.length_set]; exact R.len, fun j e h => by
    by_cases ej : j = i
    · subst ej
      rw [List.getElem?_set_self hi] at h
      cases h
      exact ⟨v, by rw [List.getElem?_set_self (by rw [R.len]; exact hi)], r⟩
    · rw [List.getElem?_set_ne (Ne.symm ej)] at h
      obtain ⟨u, h1, h2⟩ := R.loc j e h
      exact ⟨u, by rw [List.getElem?_set_ne (Ne.symm ej)]; exact h1, h2⟩⟩
/-- slots are forgotten -/
def Less (G G' : Loc) : Prop := G.length = G'.length ∧ ∀ (i : Nat) (d : D), G'[i]? = some (some d) → G[i]? = some (some d)
theorem Less.refl (G : Loc) : Less G G := ⟨rfl, fun _ _ h => h⟩
theorem Rel.less (R : Rel K B0 B G S σ H) {G' : Loc} (h : Less G G') : Rel K B0 B G' S σ H := ⟨R.toRelH, R.len.trans h.1, fun i d e => R.loc i d (h.2 i d e)⟩
end
end DL
end

section
set_option autoImplicit false
set_option maxRecDepth 100000
set_option maxHeartbeats 4000000
namespace DL
open PySem PySem.Spec PyProof.Rows L2
open PySem.W (Frag)

/-! ### the best readings -/
def tE (X : Cx) (e : Expr) : TE := fun σ H Q => ∀ pins s, Inv X pins σ H s → wpAny (model X.prog X.w) X.A (eval e X.env) (EP X pins σ Q) X.xe s
def tT (X : Cx) (e : Expr) : TT := fun σ H Q => ∀ pins s, Inv X pins σ H s → wpAny (model X.prog X.w) X.A (isTrue e X.env (eval e X.env)) (TP X pins σ Q) X.xe s
def tW (X : Cx) (e : Expr) : TT := fun σ H Q => ∀ whole pins s, Inv X pins σ H s → wpAny (model X.prog X.w) X.A (isTrue e X.env whole) (TP X pins σ Q) X.xe s
def tA (X : Cx) (es : List Expr) : TA := fun σ H Q => ∀ pos pins s, Inv X pins σ H s → wpAny (model X.prog X.w) X.A (spliced (backTo pos (starEach es X.env))) (AP X pins σ Q) X.xe s
def tS (X : Cx) (st : Stmt) : TS := fun D σ H => ∀ pins s, Inv X pins σ H s → wpAny (model X.prog X.w) X.A (exec st X.env) (SP X pins D) X.xe s
def tSs (X : Cx) (st : List Stmt) : TS := fun D σ H => ∀ pins s, Inv X pins σ H s → wpAny (model X.prog X.w) X.A (execs st X.env) (SP X pins D) X.xe s
def tG (X : Cx) (tg : Expr) : TG := fun v σ H Q => ∀ pins s u, Inv X pins σ H s → RelV v u → wpAny (model X.prog X.w) X.A (assign tg X.env u) (fun _ s' => ∃ σ' H', Inv X pins σ' H' s' ∧ Q σ' H') X.xe s
def tGs (X : Cx) (ts : List Expr) : TGs := fun vs σ H Q => ∀ pins s us, Inv X pins σ H s → Vals vs us → wpAny (model X.prog X.w) X.A (assignInOrder ((assignEach ts X.env).map (·.2)) us) (fun _ s' => ∃ σ' H', Inv X pins σ' H' s' ∧ Q σ' H') X.xe s
def tI (X : Cx) (tg iter : Expr) : TI := fun σ H R => ∀ pins s, Inv X pins σ H s → wpAny (model X.prog X.w) X.A (eval iter X.env) (fun v s1 => wpAny (model X.prog X.w) X.A (pyIter v) (PIE X pins σ tg R) X.xe s1) X.xe s
section
variable {X : Cx}
theorem pe_self (e : Expr) : PE X e (tE X e) := ⟨fun pins s σ H Q I h => h pins s I⟩
theorem pt_self (e : Expr) : PT X e (tT X e) := ⟨fun pins s σ H Q I h => h pins s I⟩
theorem pw_self (e : Expr) : PW X e (tW X e) := ⟨fun wh pins s σ H Q I h => h wh pins s I⟩
theorem pa_self (es : List Expr) : PA X es (tA X es) := ⟨fun pos pins s σ H Q I h => h pos pins s I⟩
theorem ps_self (st : Stmt) : PS X st (tS X st) := ⟨fun pins s σ H D I h => h pins s I⟩
theorem pss_self (st : List Stmt) : PSs X st (tSs X st) := ⟨fun pins s σ H D I h => h pins s I⟩
theorem pg_self (tg : Expr) : PG X tg (tG X tg) := ⟨fun pins s σ H v u Q I r h => h pins s u I r⟩
theorem pgs_self (ts : List Expr) : PGs X ts (tGs X ts) := ⟨fun pins s σ H v u Q I r h => h pins s u I r⟩
theorem pi_self (tg iter : Expr) : PI X tg iter (tI X tg iter) := ⟨fun pins s σ H R I h => h pins s I⟩
theorem tE_of {e : Expr} {t : TE} {σ : L2.St} {H : Hp} {Q : VK} (p : PE X e t) (h : t σ H Q) : tE X e σ H Q := fun pins s I => p.run pins s σ H Q I h
theorem tT_of {e : Expr} {t : TT} {σ : L2.St} {H : Hp} {Q : Bool → Hp → Prop} (p : PT X e t) (h : t σ H Q) : tT X e σ H Q := fun pins s I => p.run pins s σ H Q I h
theorem tW_of {e : Expr} {t : TT} {σ : L2.St} {H : Hp} {Q : Bool → Hp → Prop} (p : PW X e t) (h : t σ H Q) : tW X e σ H Q := fun wh pins s I => p.run wh pins s σ H Q I h
theorem tA_of {es : List Expr} {t : TA} {σ : L2.St} {H : Hp} {Q : List V → Hp → Prop} (p : PA X es t) (h : t σ H Q) : tA X es σ H Q := fun pos pins s I => p.run pos pins s σ H Q I h
theorem tS_of {st : Stmt} {t : TS} {σ : L2.St} {H : Hp} {D : Ends} (p : PS X st t) (h : t D σ H) : tS X st D σ H := fun pins s I => p.run pins s σ H D I h
theorem tSs_of {st : List Stmt} {t : TS} {σ : L2.St} {H : Hp} {D : Ends} (p : PSs X st t) (h : t D σ H) : tSs X st D σ H := fun pins s I => p.run pins s σ H D I h
theorem tG_of {tg : Expr} {t : TG} {σ : L2.St} {H : Hp} {v : V} {Q : L2.St → Hp → Prop} (p : PG X tg t) (h : t v σ H Q) : tG X tg v σ H Q := fun pins s u I r => p.run pins s σ H v u Q I r h
theorem tGs_of {ts : List Expr} {t : TGs} {σ : L2.St} {H : Hp} {vs : List V} {Q : L2.St → Hp → Prop} (p : PGs X ts t) (h : t vs σ H Q) : tGs X ts vs σ H Q := fun pins s u I r => p.run pins s σ H vs u Q I r h
theorem tI_of {tg iter : Expr} {t : TI} {σ : L2.St} {H : Hp} {R : It → Hp → Prop} (p : PI X tg iter t) (h : t σ H R) : tI X tg iter σ H R := fun pins s I => p.run pins s σ H R I h
theorem tE_mono {e : Expr} {σ : L2.St} {H : Hp} {Q Q' : VK} (h : tE X e σ H Q) (k : ∀ v H', Q v H' → Q' v H') : tE X e σ H Q' := fun pins s I =>
  thn (h pins s I) fun u s' ⟨v, H', I', r, q⟩ => ⟨v, H', I', r, k v H' q⟩
theorem tT_mono {e : Expr} {σ : L2.St} {H : Hp} {Q Q' : Bool → Hp → Prop} (h : tT X e σ H Q) (k : ∀ b H', Q b H' → Q' b H') : tT X e σ H Q' := fun pins s I =>
  thn (h pins s I) fun u s' ⟨H', I', q⟩ => ⟨H', I', k _ H' q⟩
theorem tW_mono {e : Expr} {σ : L2.St} {H : Hp} {Q Q' : Bool → Hp → Prop} (h : tW X e σ H Q) (k : ∀ b H', Q b H' → Q' b H') : tW X e σ H Q' := fun wh pins s I =>
  thn (h wh pins s I) fun u s' ⟨H', I', q⟩ => ⟨H', I', k _ H' q⟩
theorem tA_mono {es : List Expr} {σ : L2.St} {H : Hp} {Q Q' : List V → Hp → Prop} (h : tA X es σ H Q) (k : ∀ v H', Q v H' → Q' v H') : tA X es σ H Q' := fun pos pins s I =>
  thn (h pos pins s I) fun u s' ⟨v, H', I', r, q⟩ => ⟨v, H', I', r, k v H' q⟩
theorem tG_mono {tg : Expr} {v : V} {σ : L2.St} {H : Hp} {Q Q' : L2.St → Hp → Prop} (h : tG X tg v σ H Q) (k : ∀ σ' H', Q σ' H' → Q' σ' H') : tG X tg v σ H Q' := fun pins s u I r =>
  thn (h pins s u I r) fun _ s' ⟨σ', H', I', q⟩ => ⟨σ', H', I', k _ _ q⟩
theorem tGs_mono {ts : List Expr} {v : List V} {σ : L2.St} {H : Hp} {Q Q' : L2.St → Hp → Prop} (h : tGs X ts v σ H Q) (k : ∀ σ' H', Q σ' H' → Q' σ' H') : tGs X ts v σ H Q' := fun pins s u I r =>
  thn (h pins s u I r) fun _ s' ⟨σ', H', I', q⟩ => ⟨σ', H', I', k _ _ q⟩
theorem tI_mono {tg iter : Expr} {σ : L2.St} {H : Hp} {R R' : It → Hp → Prop} (h : tI X tg iter σ H R) (k : ∀ J H', R J H' → R' J H') : tI X tg iter σ H R' := fun pins s I =>
  thn (h pins s I) fun v s1 h1 => thn h1 fun itv s2 ⟨it, fp, tn, J, H', e, I', T, t0, f, q⟩ => ⟨it, fp, tn, J, H', e, I', T, t0, f, k J H' q⟩
/-- the ends weakened -/
structure EndsLe (D D' : Ends) : Prop where
  nx : ∀ σ H, D.nx σ H → D'.nx σ H
  rt : ∀ v H, D.rt v H → D'.rt v H
  bk : ∀ σ H, D.bk σ H → D'.bk σ H
  ct : ∀ σ H, D.ct σ H → D'.ct σ H
theorem sp_le {pins : List (Addr × Obj)} {D D' : Ends} {f : Flow} {s' : Shared} (h : SP X pins D f s') (k : EndsLe D D') : SP X pins D' f s' := by
  cases f with
  | next => obtain ⟨σ', H', I, q⟩ := h; exact ⟨σ', H', I, k.nx _ _ q⟩
  | brk => obtain ⟨σ', H', I, q⟩ := h; exact ⟨σ', H', I, k.bk _ _ q⟩
  | cont => obtain ⟨σ', H', I, q⟩ := h; exact ⟨σ', H', I, k.ct _ _ q⟩
  | ret u => obtain ⟨v, σ', H', I, r, q⟩ := h; exact ⟨v, σ', H', I, r, k.rt _ _ q⟩
theorem tS_mono {st : Stmt} {σ : L2.St} {H : Hp} {D D' : Ends} (h : tS X st D σ H) (k : EndsLe D D') : tS X st D' σ H := fun pins s I => thn (h pins s I) fun f s' q => sp_le q k
theorem tSs_mono {st : List Stmt} {σ : L2.St} {H : Hp} {D D' : Ends} (h : tSs X st D σ H) (k : EndsLe D D') : tSs X st D' σ H := fun pins s I => thn (h pins s I) fun f s' q => sp_le q k
end

/-! ### the context, the judgements -/
abbrev QD := D → Sto → Prop
/-- the program's refusals -/
inductive XN where
  | NoughtError | NoRow | NoBack | NothingPut | NoMeasure | NoPaper | TooMany | NoNumbers | NoLead | NoFit | NoInverse | NoShort | NoLadder | NoText | NoLine | NoName | Held | NoDrop
def XN.str : XN → Str
  | .NoughtError => "NoughtError" | .NoRow => "NoRow" | .NoBack => "NoBack" | .NothingPut => "NothingPut" | .NoMeasure => "NoMeasure" | .NoPaper => "NoPaper" | .TooMany => "TooMany" | .NoNumbers => "NoNumbers" | .NoLead => "NoLead"
  | .NoFit => "NoFit" | .NoInverse => "NoInverse" | .NoShort => "NoShort" | .NoLadder => "NoLadder" | .NoText => "NoText" | .NoLine => "NoLine" | .NoName => "NoName" | .Held => "Held" | .NoDrop => "NoDrop"
/-- what is wanted of an exception: its class, its fields, the cells -/
abbrev EXT := XN → List (Str × D) → Sto → Prop
def XD (K : Frag) (B0 : Hp) (EX : EXT) (cls : Value) (d : Option Addr) (H : Hp) : Prop := ∃ (n : XN) (C : Addr) (fs : List (Str × D)) (S : Sto) (B : Hp), CN K n.str C ∧ cls = .ref C ∧
  ((d = none ∧ fs = [] ∧ RelH K B0 B S H) ∨ ∃ dd, d = some dd ∧ fs ≠ [] ∧ RelH K B0 B ((dd, .xd fs) :: S) H) ∧ EX n fs S
/-- .. with the locals where it leaves -/
abbrev EXG := Loc → EXT
def XW (K : Frag) (B0 : Hp) (EX : EXG) : WX := fun cls d σ H => ∃ (n : XN) (C : Addr) (fs : List (Str × D)) (S : Sto) (B : Hp) (G : Loc), CN K n.str C ∧ cls = .ref C ∧
  ((d = none ∧ fs = [] ∧ Rel K B0 B G S σ H) ∨ ∃ dd, d = some dd ∧ fs ≠ [] ∧ Rel K B0 B G ((dd, .xd fs) :: S) σ H) ∧ EX G n fs S
/-- room for calls, handler or not -/
structure RoomC (k : Nat) (A : Around) : Prop where
  dp : A.depth + 3 * k + 5 < recursionLimit
  un : A.units + 16 * k + 200 < cLine
theorem RoomC.mono {j k : Nat} {A : Around} (r : RoomC k A) (h : j ≤ k) : RoomC j A := ⟨by have := r.dp; omega, by have := r.un; omega⟩
theorem RoomC.units {k : Nat} {A : Around} (r : RoomC k A) : A.units + 64 < cLine := by have := r.un; omega
structure CD where
  X : Cx
  B0 : Hp
  EX : EXG
  k : Nat
  tk : Takes X (XW X.K B0 EX)
  hr : RoomC k X.A
  nd : X.N.Nodup
/-- outside every handler -/
class Calm (c : CD) : Prop where
  calm : c.X.calm = true
  hd : c.X.A.handled = none
theorem CD.room {c : CD} [q : Calm c] {k : Nat} (hk : k ≤ c.k) : Room k c.X.A := ⟨q.hd, (c.hr.mono hk).dp, (c.hr.mono hk).un⟩
/-- the relation in a context -/
abbrev CD.R (c : CD) (B : Hp) (G : Loc) (S : Sto) (σ : L2.St) (H : Hp) : Prop := Rel c.X.K c.B0 B G S σ H
def Post (c : CD) (B : Hp) (G : Loc) (σ : L2.St) (Q : QD) : VK := fun v H' => ∃ B' d S', Same B B' ∧ c.R B' G S' σ H' ∧ Rep c.X.K B' d v ∧ Q d S'
def PostB (c : CD) (B : Hp) (G : Loc) (σ : L2.St) (Q : Bool → Sto → Prop) : Bool → Hp → Prop := fun b H' => ∃ B' S', Same B B' ∧ c.R B' G S' σ H' ∧ Q b S'
def PostA (c : CD) (B : Hp) (G : Loc) (σ : L2.St) (Q : List D → Sto → Prop) : List V → Hp → Prop := fun vs H' => ∃ B' ds S', Same B B' ∧ c.R B' G S' σ H' ∧ Reps c.X.K B' ds vs ∧ Q ds S'
def W (c : CD) (e : Expr) (G : Loc) (S : Sto) (Q : QD) : Prop := ∀ B σ H, c.R B G S σ H → tE c.X e σ H (Post c B G σ Q)
def WT (c : CD) (e : Expr) (G : Loc) (S : Sto) (Q : Bool → Sto → Prop) : Prop := ∀ B σ H, c.R B G S σ H → tT c.X e σ H (PostB c B G σ Q)
def WW (c : CD) (e : Expr) (G : Loc) (S : Sto) (Q : Bool → Sto → Prop) : Prop := ∀ B σ H, c.R B G S σ H → tW c.X e σ H (PostB c B G σ Q)
def WA (c : CD) (es : List Expr) (G : Loc) (S : Sto) (Q : List D → Sto → Prop) : Prop := ∀ B σ H, c.R B G S σ H → tA c.X es σ H (PostA c B G σ Q)
/-- the ends of statements -/
structure DE where
  nx : Loc → Sto → Prop
  rt : QD
  bk : Loc → Sto → Prop := fun _ _ => False
  ct : Loc → Sto → Prop := fun _ _ => False
def PostS (c : CD) (B : Hp) (E : Loc → Sto → Prop) : L2.St → Hp → Prop := fun σ' H' => ∃ B' G' S', Same B B' ∧ c.R B' G' S' σ' H' ∧ E G' S'
def endsOf (c : CD) (B : Hp) (E : DE) : Ends where
  nx := PostS c B E.nx
  rt := fun v H' => ∃ B' d S', Same B B' ∧ RelH c.X.K c.B0 B' S' H' ∧ Rep c.X.K B' d v ∧ E.rt d S'
  bk := PostS c B E.bk
  ct := PostS c B E.ct
def WS (c : CD) (st : Stmt) (G : Loc) (S : Sto) (E : DE) : Prop := ∀ B σ H, c.R B G S σ H → tS c.X st (endsOf c B E) σ H
def WSs (c : CD) (st : List Stmt) (G : Loc) (S : Sto) (E : DE) : Prop := ∀ B σ H, c.R B G S σ H → tSs c.X st (endsOf c B E) σ H
def WG (c : CD) (tg : Expr) (d : D) (G : Loc) (S : Sto) (Q : Loc → Sto → Prop) : Prop := ∀ B σ H v, c.R B G S σ H → Rep c.X.K B d v → tG c.X tg v σ H (PostS c B Q)
def WGs (c : CD) (ts : List Expr) (ds : List D) (G : Loc) (S : Sto) (Q : Loc → Sto → Prop) : Prop := ∀ B σ H vs, c.R B G S σ H → Reps c.X.K B ds vs → tGs c.X ts vs σ H (PostS c B Q)
/-- J yields the data ds, one after the other -/
def Yields (c : CD) (B0 : Hp) (J : It) (ds : List D) : Prop := ∀ (K0 B : Hp) (G : Loc) (S : Sto) (σ : L2.St) (H : Hp), Same B0 B → Rel c.X.K K0 B G S σ H → ∀ i,
  (i < ds.length → J.go i H) ∧ (∀ x H', J.yld i H x H' → ∀ d, ds[i]? = some d → ∃ B', Same B B' ∧ Rel c.X.K K0 B' G S σ H' ∧ Rep c.X.K B' d x) ∧ (i = ds.length → J.stop i H)
def WI (c : CD) (tg iter : Expr) (G : Loc) (S : Sto) (Q : List D → Sto → Prop) : Prop := ∀ B σ H, c.R B G S σ H → tI c.X tg iter σ H fun J H1 => ∃ B1 ds S1, Same B B1 ∧ c.R B1 G S1 σ H1 ∧ Yields c B1 J ds ∧ Q ds S1

theorem PostS.le {c : CD} {B B' : Hp} {E E' : Loc → Sto → Prop} (s : Same B B') (k : ∀ G S, E G S → E' G S) {σ : L2.St} {H : Hp} (h : PostS c B' E σ H) : PostS c B E' σ H := by
  obtain ⟨B2, G, S, s2, R, q⟩ := h
  exact ⟨B2, G, S, s.trans s2, R, k G S q⟩
theorem endsLe {c : CD} {B B' : Hp} {E E' : DE} (s : Same B B') (k1 : ∀ G S, E.nx G S → E'.nx G S) (k2 : ∀ d S, E.rt d S → E'.rt d S) (k3 : ∀ G S, E.bk G S → E'.bk G S) (k4 : ∀ G S, E.ct G S → E'.ct G S) : EndsLe (endsOf c B' E) (endsOf c B E') :=
  ⟨fun _ _ h => h.le s k1, fun v H ⟨B2, d, S, s2, R, r, q⟩ => ⟨B2, d, S, s.trans s2, R, r, k2 d S q⟩, fun _ _ h => h.le s k3, fun _ _ h => h.le s k4⟩

/-! ### consequence, forgetting -/
section
variable {c : CD} {G : Loc} {S : Sto} {e a b : Expr} {pos : Pos}
theorem W.mono {Q Q' : QD} (h : W c e G S Q) (k : ∀ d S, Q d S → Q' d S) : W c e G S Q' := fun B σ H R => tE_mono (h B σ H R) fun v H' ⟨B', d, S', s, R', r, q⟩ => ⟨B', d, S', s, R', r, k d S' q⟩
theorem WSs.mono {st : List Stmt} {E E' : DE} (h : WSs c st G S E) (k1 : ∀ G S, E.nx G S → E'.nx G S) (k2 : ∀ d S, E.rt d S → E'.rt d S) (k3 : ∀ G S, E.bk G S → E'.bk G S) (k4 : ∀ G S, E.ct G S → E'.ct G S) : WSs c st G S E' :=
  fun B σ H R => tSs_mono (h B σ H R) (endsLe (Same.refl _) k1 k2 k3 k4)
theorem WSs.less {st : List Stmt} {E : DE} {G' : Loc} {S' : Sto} (h : WSs c st G' S' E) (l : Less G G') (d : S'.Sublist S) : WSs c st G S E := fun B σ H R => h B σ H ((R.less l).drop d)

/-! ### expressions -/
theorem w_pure {d : D} {Q : QD} {t : TE} (p : PE c.X e t) (h : ∀ B σ H Q', Rel c.X.K c.B0 B G S σ H → (∀ v, Rep c.X.K B d v → Q' v H) → t σ H Q') (q : Q d S) : W c e G S Q := fun B σ H R =>
  tE_of p (h B σ H _ R fun v r => ⟨B, d, S, Same.refl _, R, r, q⟩)
theorem w_var {x : Str} {d : D} {Q : QD} (i : Nat) (hN : c.X.N[i]? = some x) (hv : Vis c.X.env.scope x) (hd : (x == ("__debug__" : Str)) = false) (hcd : (x == ("__classdict__" : Str)) = false) (hG : G[i]? = some (some d)) (q : Q d S) : W c (.Name x pos) G S Q := fun B σ H R => by
  obtain ⟨v, e1, r⟩ := R.loc i d hG
  exact tE_of (pe_var hN hv hd hcd) ⟨v, e1, B, d, S, Same.refl _, R, r, q⟩
theorem w_int {i : Int} {j : Nat} {Q : QD} (q : Q (.int i) S) : W c (.Constant (.int i) j pos) G S Q := fun B σ H R => tE_of pe_int ⟨B, .int i, S, Same.refl _, R, rfl, q⟩
theorem w_bl {i : Bool} {j : Nat} {Q : QD} (q : Q (.bl i) S) : W c (.Constant (.bool i) j pos) G S Q := fun B σ H R => tE_of pe_bl ⟨B, .bl i, S, Same.refl _, R, rfl, q⟩
theorem w_non {j : Nat} {Q : QD} (q : Q .non S) : W c (.Constant .none j pos) G S Q := fun B σ H R => tE_of pe_non ⟨B, .non, S, Same.refl _, R, rfl, q⟩
theorem w_str {i : Str} {j : Nat} {Q : QD} (q : Q (.str i) S) : W c (.Constant (.str i) j pos) G S Q := fun B σ H R => tE_of pe_str ⟨B, .str i, S, Same.refl _, R, rfl, q⟩
/-- a two-place operation: P says by data what is asked -/
theorem w_op {op : Operator} {r : R2} {P : D → D → Sto → QD → Prop} (ho : OpR c.X (binaryOp op) r)
    (hP : ∀ Bl B σ H x y vx vy S Q, Same Bl B → c.R B G S σ H → Rep c.X.K B x vx → Rep c.X.K B y vy → P x y S Q → r vx vy H (Post c Bl G σ Q)) {Q : QD}
    (h : W c a G S fun x S1 => W c b G S1 fun y S2 => P x y S2 Q) : W c (.BinOp a op b pos) G S Q := fun B σ H R => by
  refine tE_of (pe_op ho (pe_self a) (pe_self b)) ?_
  refine tE_mono (h B σ H R) fun vx H1 ⟨B1, x, S1, s1, R1, r1, h1⟩ => ?_
  refine tE_mono (h1 B1 σ H1 R1) fun vy H2 ⟨B2, y, S2, s2, R2, r2, h2⟩ => ?_
  exact hP B B2 σ H2 x y vx vy S2 Q (s1.trans s2) R2 (Rep.mono s2 x vx r1) r2 h2
theorem w_cmp {op : CmpOp} {r : R2} {P : D → D → Sto → QD → Prop} (ho : OpR c.X (compareOp op) r) (hm : behindInMarks op b = false)
    (hP : ∀ Bl B σ H x y vx vy S Q, Same Bl B → c.R B G S σ H → Rep c.X.K B x vx → Rep c.X.K B y vy → P x y S Q → r vx vy H (Post c Bl G σ Q)) {Q : QD}
    (h : W c a G S fun x S1 => W c b G S1 fun y S2 => P x y S2 Q) : W c (.Compare a [op] [b] pos) G S Q := fun B σ H R => by
  refine tE_of (pe_cmpR ho (pe_self a) (pe_self b) hm) ?_
  refine tE_mono (h B σ H R) fun vx H1 ⟨B1, x, S1, s1, R1, r1, h1⟩ => ?_
  refine tE_mono (h1 B1 σ H1 R1) fun vy H2 ⟨B2, y, S2, s2, R2, r2, h2⟩ => ?_
  exact hP B B2 σ H2 x y vx vy S2 Q (s1.trans s2) R2 (Rep.mono s2 x vx r1) r2 h2
theorem wt_cmp {op : CmpOp} {r : R2} {P : D → D → Sto → (Bool → Sto → Prop) → Prop} (ho : OpR c.X (compareOp op) r) (hm : behindInMarks op b = false)
    (hP : ∀ Bl B σ H x y vx vy S Q, Same Bl B → c.R B G S σ H → Rep c.X.K B x vx → Rep c.X.K B y vy → P x y S Q → r vx vy H (fun v H' => ∃ k, v = .bl k ∧ PostB c Bl G σ Q k H')) {Q : Bool → Sto → Prop}
    (h : W c a G S fun x S1 => W c b G S1 fun y S2 => P x y S2 Q) : WT c (.Compare a [op] [b] pos) G S Q := fun B σ H R => by
  refine tT_of (pt_cmpR ho (pe_self a) (pe_self b) hm) ?_
  refine tE_mono (h B σ H R) fun vx H1 ⟨B1, x, S1, s1, R1, r1, h1⟩ => ?_
  refine tE_mono (h1 B1 σ H1 R1) fun vy H2 ⟨B2, y, S2, s2, R2, r2, h2⟩ => ?_
  exact hP B B2 σ H2 x y vx vy S2 Q (s1.trans s2) R2 (Rep.mono s2 x vx r1) r2 h2

/-! ### lists by data -/
/-- a new list: frozen at once, or a cell -/
def mk (ds : List D) (S : Sto) (Q : QD) : Prop := Q (.lst ds) S ∨ ∀ p, Q (.ref p) ((p, .lst ds) :: S)
theorem mk_ok {Bl B H : Hp} {σ : L2.St} {ds : List D} {vs : List V} {S : Sto} {Q : QD} (s : Same Bl B) (R : c.R B G S σ H) (r : Reps c.X.K B ds vs) (h : mk ds S Q) (p : Addr) (hp : H p = none) : Post c Bl G σ Q (.ref p) (upd H p (.lst vs)) := by
  have hb := R.bnone hp
  rcases h with h | h
  · exact ⟨_, .lst ds, S, s.trans (same_upd hb), R.laid hp, ⟨p, vs, rfl, upd_same, Reps.mono (same_upd hb) _ _ r⟩, h⟩
  · exact ⟨B, .ref p, _, s, R.cell hp (c := Cel.lst ds) ⟨vs, upd_same, r⟩, rfl, h p⟩
theorem tup_ok {Bl B H : Hp} {σ : L2.St} {ds : List D} {vs : List V} {S : Sto} {Q : QD} (s : Same Bl B) (R : c.R B G S σ H) (r : Reps c.X.K B ds vs) (h : Q (.tup ds) S) (p : Addr) (hp : H p = none) : Post c Bl G σ Q (.ref p) (upd H p (.tup vs)) := by
  have hb := R.bnone hp
  exact ⟨_, .tup ds, S, s.trans (same_upd hb), R.laid hp, ⟨p, vs, rfl, .of upd_same, Reps.mono (same_upd hb) _ _ r⟩, h⟩
/-- a list that may be written or is frozen -/
def asL (x : D) (S : Sto) (P : List D → Prop) : Prop := match x with
  | .lst ds => P ds
  | .ref a => ∃ (k : Nat) (ds : List D), S[k]? = some (a, Cel.lst ds) ∧ P ds
  | _ => False
theorem asL_get {B H : Hp} {σ : L2.St} {x : D} {v : V} {P : List D → Prop} (R : c.R B G S σ H) (r : Rep c.X.K B x v) (h : asL x S P) : ∃ a vs ds, v = .ref a ∧ H a = some (.lst vs) ∧ Reps c.X.K B ds vs ∧ P ds := by
  cases x <;> first | exact False.elim h | skip
  case ref a =>
    obtain ⟨k, ds, e, p⟩ := h
    obtain ⟨_, vs, e1, r1⟩ := R.cel (a, .lst ds) (List.mem_of_getElem? e)
    exact ⟨a, vs, ds, r, e1, r1, p⟩
  case lst ds =>
    obtain ⟨a, vs, e, q, r1⟩ := r
    exact ⟨a, vs, ds, e, R.sub _ _ q, r1, h⟩
/-- any list that is read -/
def asQ (x : D) (S : Sto) (P : List D → Prop) : Prop := match x with
  | .lst ds => P ds
  | .slst ds => P ds
  | .ref a => ∃ (k : Nat) (ds : List D), S[k]? = some (a, Cel.lst ds) ∧ P ds
  | _ => False
theorem sqL_sub {K : Frag} {B H : Hp} (s : Same B H) {a : Addr} {vs : List V} (h : SqL K B a vs) : SqL K H a vs := s.seq h
theorem asQ_get {B H : Hp} {σ : L2.St} {x : D} {v : V} {P : List D → Prop} (R : c.R B G S σ H) (r : Rep c.X.K B x v) (h : asQ x S P) : ∃ a vs ds, v = .ref a ∧ SqL c.X.K H a vs ∧ Reps c.X.K B ds vs ∧ P ds := by
  cases x <;> first | exact False.elim h | skip
  case ref a =>
    obtain ⟨k, ds, e, p⟩ := h
    obtain ⟨_, vs, e1, r1⟩ := R.cel (a, .lst ds) (List.mem_of_getElem? e)
    exact ⟨a, vs, ds, r, .of e1, r1, p⟩
  case lst ds =>
    obtain ⟨a, vs, e, q, r1⟩ := r
    exact ⟨a, vs, ds, e, .of (R.sub _ _ q), r1, h⟩
  case slst ds =>
    obtain ⟨a, vs, e, q, r1⟩ := r
    exact ⟨a, vs, ds, e, sqL_sub R.sub q, r1, h⟩

/-! ### + - * // % ** -/
def dAdd (x y : D) (S : Sto) (Q : QD) : Prop := match x, y with
  | .int i, .int j => Q (.int (i + j)) S
  | .int i, .bl k => Q (.int (i + b2i k)) S
  | .str x, .str y => x.length + y.length ≤ sizeLine ∧ Q (.str (x ++ y)) S
  | .tup xs, .tup ys => xs.length + ys.length ≤ sizeLine ∧ Q (.tup (xs ++ ys)) S
  | x, y => asL x S fun xs => asL y S fun ys => xs.length + ys.length ≤ sizeLine ∧ mk (xs ++ ys) S Q
def rAddR (K : Frag) : R2 := fun x y H Q => (rI0 (fun i j => .int (i + j)) x y H Q ∨ ((∃ i k, x = .int i ∧ y = .bl k ∧ Q (.int (i + b2i k)) H) ∨ ((∃ i j, x = .str i ∧ y = .str j ∧ i.length + j.length ≤ sizeLine ∧ Q (.str (i ++ j)) H) ∨ (rCatA K x y H Q ∨ rCat x y H Q))))
theorem op_addR {X : Cx} : OpR X (binaryOp .Add) (rAddR X.K) := op_add.or (op_add_ib.or (op_add_str.or (op_catA.or op_cat)))
theorem w_add {Q : QD} (h : W c a G S fun x S1 => W c b G S1 fun y S2 => dAdd x y S2 Q) : W c (.BinOp a .Add b pos) G S Q := by
  refine w_op op_addR (fun Bl B σ H x y vx vy S Q s R rx ry h => ?_) h
  have lists : (asL x S fun xs => asL y S fun ys => xs.length + ys.length ≤ sizeLine ∧ mk (xs ++ ys) S Q) → rAddR c.X.K vx vy H (Post c Bl G σ Q) := fun h => by
    obtain ⟨a1, vs1, ds1, e1, h1, r1, h⟩ := asL_get R rx h
    obtain ⟨a2, vs2, ds2, e2, h2, r2, hz, h⟩ := asL_get R ry h
    refine .inr (.inr (.inr (.inr ⟨a1, a2, vs1, vs2, e1, e2, h1, h2, by rw [r1.length, r2.length]; exact hz, fun p hp => mk_ok s R (r1.append r2) h p hp⟩)))
  cases x <;> cases y <;> first | exact lists h | skip
  case int.int i j =>
    cases rx
    cases ry
    exact .inl ⟨i, j, rfl, rfl, B, .int (i + j), S, s, R, rfl, h⟩
  case int.bl i j =>
    cases rx
    cases ry
    exact .inr (.inl ⟨i, j, rfl, rfl, B, .int (i + b2i j), S, s, R, rfl, h⟩)
  case str.str i j =>
    cases rx
    cases ry
    exact .inr (.inr (.inl ⟨i, j, rfl, rfl, h.1, B, .str (i ++ j), S, s, R, rfl, h.2⟩))
  case tup.tup i j =>
    obtain ⟨a1, vs1, e1, q1, r1⟩ := rx
    obtain ⟨a2, vs2, e2, q2, r2⟩ := ry
    have hz : vs1.length + vs2.length ≤ sizeLine := by rw [r1.length, r2.length]; exact h.1
    have ha := r1.append r2
    refine .inr (.inr (.inr (.inl ⟨a1, a2, vs1, vs2, e1, e2, sameT R.sub q1, sameT R.sub q2, hz, fun z => ?_, fun _ z => ?_, fun _ _ p hp => tup_ok s R ha h.2 p hp⟩)))
    · have z2 : i = [] := List.length_eq_zero_iff.mp (by rw [← r1.length, z]; rfl)
      have h2 := h.2
      rw [z2, List.nil_append] at h2
      exact ⟨B, .tup j, S, s, R, ⟨a2, vs2, rfl, q2, r2⟩, h2⟩
    · have z2 : j = [] := List.length_eq_zero_iff.mp (by rw [← r2.length, z]; rfl)
      have h2 := h.2
      rw [z2, List.append_nil] at h2
      exact ⟨B, .tup i, S, s, R, ⟨a1, vs1, rfl, q1, r1⟩, h2⟩
def dSub (x y : D) (S : Sto) (Q : QD) : Prop := match x, y with
  | .int i, .int j => Q (.int (i - j)) S
  | _, _ => False
theorem w_sub {Q : QD} (h : W c a G S fun x S1 => W c b G S1 fun y S2 => dSub x y S2 Q) : W c (.BinOp a .Sub b pos) G S Q := by
  refine w_op op_sub (fun Bl B σ H x y vx vy S Q s R rx ry h => ?_) h
  cases x <;> first | exact False.elim h | (cases y <;> first | exact False.elim h | skip)
  case int.int i j =>
    cases rx
    cases ry
    exact ⟨i, j, rfl, rfl, B, .int (i - j), S, s, R, rfl, h⟩
/-- * : factors of together less than 2^27 bits -/
def MulB (i j : Int) : Prop := IntMulOk i j
theorem op_mulI {X : Cx} : OpR X (binaryOp .Mult) (rI MulB fun i j => .int (i * j)) := opI fun _ _ _ _ _ _ _ hc q => mul_int q hc
def dMul (x y : D) (S : Sto) (Q : QD) : Prop := match x, y with
  | .int i, .int j => MulB i j ∧ Q (.int (i * j)) S
  | x, .int k => asL x S fun xs => -(2 ^ 63) ≤ k ∧ k < 2 ^ 63 ∧ xs.length * k.toNat ≤ sizeLine ∧ mk (List.replicate k.toNat xs).flatten S Q
  | _, _ => False
theorem reps_rep {K : Frag} {B : Hp} {ds : List D} {vs : List V} (r : Reps K B ds vs) : ∀ n, Reps K B (List.replicate n ds).flatten (List.replicate n vs).flatten
  | 0 => rfl
  | n + 1 => by
    rw [List.replicate_succ, List.replicate_succ, List.flatten_cons, List.flatten_cons]
    exact r.append (reps_rep r n)
theorem w_mul {Q : QD} (h : W c a G S fun x S1 => W c b G S1 fun y S2 => dMul x y S2 Q) : W c (.BinOp a .Mult b pos) G S Q := by
  refine w_op (op_mulI.or op_rep) (fun Bl B σ H x y vx vy S Q s R rx ry h => ?_) h
  cases y <;> first | (cases x <;> exact False.elim h) | skip
  case int j =>
    cases ry
    have lists : (asL x S fun xs => -(2 ^ 63) ≤ j ∧ j < 2 ^ 63 ∧ xs.length * j.toNat ≤ sizeLine ∧ mk (List.replicate j.toNat xs).flatten S Q) → (rI MulB (fun i j => .int (i * j)) vx (.int j) H (Post c Bl G σ Q) ∨ rRep vx (.int j) H (Post c Bl G σ Q)) := fun h => by
      obtain ⟨a1, vs1, ds1, e1, h1, r1, b1, b2, hz, h⟩ := asL_get R rx h
      exact Or.inr ⟨a1, j, vs1, e1, rfl, h1, b1, b2, by rw [r1.length]; exact hz, fun p hp => mk_ok s R (reps_rep r1 _) h p hp⟩
    cases x <;> first | exact lists h | skip
    case int i =>
      cases rx
      exact .inl ⟨i, j, rfl, rfl, h.1, B, .int (i * j), S, s, R, rfl, h.2⟩
def dDiv (x y : D) (S : Sto) (Q : QD) : Prop := match x, y with
  | .int i, .int j => CDivW i j ∧ Q (.int (i / j)) S
  | _, _ => False
theorem w_div {Q : QD} (h : W c a G S fun x S1 => W c b G S1 fun y S2 => dDiv x y S2 Q) : W c (.BinOp a .FloorDiv b pos) G S Q := by
  refine w_op op_fdivW (fun Bl B σ H x y vx vy S Q s R rx ry h => ?_) h
  cases x <;> first | exact False.elim h | (cases y <;> first | exact False.elim h | skip)
  case int.int i j =>
    cases rx
    cases ry
    exact ⟨i, j, rfl, rfl, h.1, B, .int (i / j), S, s, R, rfl, h.2⟩
/-- % with a positive or a negative divisor -/
def dMod (x y : D) (S : Sto) (Q : QD) : Prop := match x, y with
  | .int i, .int j => j ≠ 0 ∧ Q (.int (i.fmod j)) S
  | _, _ => False
theorem w_mod {Q : QD} (h : W c a G S fun x S1 => W c b G S1 fun y S2 => dMod x y S2 Q) : W c (.BinOp a .Mod b pos) G S Q := by
  refine w_op op_modN (fun Bl B σ H x y vx vy S Q s R rx ry h => ?_) h
  cases x <;> first | exact False.elim h | (cases y <;> first | exact False.elim h | skip)
  case int.int i j =>
    cases rx
    cases ry
    exact ⟨i, j, rfl, rfl, h.1, B, .int (i.fmod j), S, s, R, rfl, h.2⟩
def dPow (x y : D) (S : Sto) (Q : QD) : Prop := match x, y with
  | .int i, .int j => CPow i j ∧ Q (.int (i ^ j.toNat)) S
  | _, _ => False
theorem w_pow {Q : QD} (h : W c a G S fun x S1 => W c b G S1 fun y S2 => dPow x y S2 Q) : W c (.BinOp a .Pow b pos) G S Q := by
  refine w_op op_pow (fun Bl B σ H x y vx vy S Q s R rx ry h => ?_) h
  cases x <;> first | exact False.elim h | (cases y <;> first | exact False.elim h | skip)
  case int.int i j =>
    cases rx
    cases ry
    exact ⟨i, j, rfl, rfl, h.1, B, .int (i ^ j.toNat), S, s, R, rfl, h.2⟩
def dNeg (x : D) (S : Sto) (Q : QD) : Prop := match x with
  | .int i => Q (.int (-i)) S
  | _ => False
theorem w_neg {Q : QD} (h : W c a G S fun x S1 => dNeg x S1 Q) : W c (.UnaryOp .USub a pos) G S Q := fun B σ H R => by
  refine tE_of (pe_un un_neg (pe_self a)) ?_
  refine tE_mono (h B σ H R) fun vx H1 ⟨B1, x, S1, s1, R1, r1, h1⟩ => ?_
  cases x <;> first | exact False.elim h1 | skip
  case int i =>
    cases r1
    exact ⟨i, rfl, B1, .int (-i), S1, s1, R1, rfl, h1⟩
end
end DL
end

section
set_option autoImplicit false
set_option maxRecDepth 100000
set_option maxHeartbeats 4000000
namespace DL
open PySem PySem.Spec PyProof.Rows L2
open PySem.W (Frag)

/-! ### data compared: none, truths, whole numbers, texts, tuples, lists, at any depth -/
mutual
def pd : D → Option PyData
  | .non => some .none
  | .bl b => some (.bool b)
  | .int i => some (.int i)
  | .str x => some (.str x)
  | .tup ds => (pds ds).map .tuple
  | .lst ds => (pds ds).map .list
  | .slst ds => (pds ds).map .list
  | _ => none
def pds : List D → Option (List PyData)
  | [] => some []
  | d :: ds => match pd d, pds ds with
    | some p, some ps => some (p :: ps)
    | _, _ => none
end
mutual
theorem pd_ok {K : Frag} {B : Hp} : ∀ (d : D) (v : V) (p : PyData), Rep K B d v → pd d = some p → Dp K B v p
  | .non, v, p, r, e => by cases r; cases e; exact .non
  | .bl _, v, p, r, e => by cases r; cases e; exact .bl _
  | .int _, v, p, r, e => by cases r; cases e; exact .int _
  | .str _, v, p, r, e => by cases r; cases e; exact .str _
  | .ty _, _, _, _, e => by cases e
  | .ref _, _, _, _, e => by cases e
  | .ins _ _, _, _, _, e => by cases e
  | .dct _, _, _, _, e => by cases e
  | .tup ds, v, p, r, e => by
    obtain ⟨a, vs, e1, q, r1⟩ := r
    subst e1
    cases h : pds ds with
    | none => simp [pd, h] at e
    | some ps =>
      have e' : p = .tuple ps := by simpa [pd, h] using e.symm
      subst e'
      exact .tup q (pds_ok ds vs ps r1 h)
  | .lst ds, v, p, r, e => by
    obtain ⟨a, vs, e1, q, r1⟩ := r
    subst e1
    cases h : pds ds with
    | none => simp [pd, h] at e
    | some ps =>
      have e' : p = .list ps := by simpa [pd, h] using e.symm
      subst e'
      exact .lst (.of q) (pds_ok ds vs ps r1 h)
  | .slst ds, v, p, r, e => by
    obtain ⟨a, vs, e1, q, r1⟩ := r
    subst e1
    cases h : pds ds with
    | none => simp [pd, h] at e
    | some ps =>
      have e' : p = .list ps := by simpa [pd, h] using e.symm
      subst e'
      exact .lst q (pds_ok ds vs ps r1 h)
theorem pds_ok {K : Frag} {B : Hp} : ∀ (ds : List D) (vs : List V) (ps : List PyData), Reps K B ds vs → pds ds = some ps → DpAll K B vs ps
  | [], vs, ps, r, e => by cases r; cases e; exact .nil
  | d :: ds, vs, ps, r, e => by
    obtain ⟨v, t, e1, h1, h2⟩ := r
    subst e1
    cases hd : pd d with
    | none => simp [pds, hd] at e
    | some p =>
      cases hs : pds ds with
      | none => simp [pds, hd, hs] at e
      | some qs =>
        have e' : ps = p :: qs := by simpa [pds, hd, hs] using e.symm
        subst e'
        exact .cons (pd_ok d v p h1 hd) (pds_ok ds t qs h2 hs)
end
mutual
theorem Dp.up {K : Frag} {B B' : Hp} (s : Same B B') : ∀ (v : V) (p : PyData), Dp K B v p → Dp K B' v p
  | _, _, .non => .non
  | _, _, .bl b => .bl b
  | _, _, .int i => .int i
  | _, _, .str x => .str x
  | _, _, .lst h a => .lst (s.seq h) (DpAll.up s _ _ a)
  | _, _, .tup h a => .tup (sameT s h) (DpAll.up s _ _ a)
theorem DpAll.up {K : Frag} {B B' : Hp} (s : Same B B') : ∀ (vs : List V) (ps : List PyData), DpAll K B vs ps → DpAll K B' vs ps
  | _, _, .nil => .nil
  | _, _, .cons h t => .cons (Dp.up s _ _ h) (DpAll.up s _ _ t)
end
/-- a datum to be compared: a cell is read -/
def asP (x : D) (S : Sto) (P : PyData → Prop) : Prop := match x with
  | .ref a => ∃ (k : Nat) (ds : List D) (ps : List PyData), S[k]? = some (a, Cel.lst ds) ∧ pds ds = some ps ∧ P (.list ps)
  | x => ∃ p, pd x = some p ∧ P p
section
variable {c : CD} {G : Loc} {S : Sto} {e a b : Expr} {pos : Pos}
theorem asP_get {B H : Hp} {σ : L2.St} {x : D} {v : V} {P : PyData → Prop} (R : c.R B G S σ H) (r : Rep c.X.K B x v) (h : asP x S P) : ∃ p, Dp c.X.K H v p ∧ P p := by
  have gen : (∃ p, pd x = some p ∧ P p) → ∃ p, Dp c.X.K H v p ∧ P p := fun ⟨p, e, q⟩ => ⟨p, Dp.up R.sub _ _ (pd_ok x v p r e), q⟩
  cases x <;> first | exact gen h | skip
  case ref a =>
    obtain ⟨k, ds, ps, e, ep, q⟩ := h
    obtain ⟨_, vs, e1, r1⟩ := R.cel (a, .lst ds) (List.mem_of_getElem? e)
    obtain rfl : v = V.ref a := r
    exact ⟨_, .lst (.of e1) (DpAll.up R.sub _ _ (pds_ok ds vs ps r1 ep)), q⟩
def dEqP (neg : Bool) (x y : D) (S : Sto) (Q : Bool → Sto → Prop) : Prop := asP x S fun p => asP y S fun q => SeqAt.shaped p = true ∧ SeqAt.shaped q = true ∧ Q (if neg then !PyData.eqv p q else PyData.eqv p q) S
/-- == by kinds: whole numbers at once -/
def dEq (neg : Bool) (x y : D) (S : Sto) (Q : Bool → Sto → Prop) : Prop := match x, y with
  | .int i, .int j => Q (if neg then !decide (i = j) else decide (i = j)) S
  | .bl i, .bl j => Q (if neg then !decide (i = j) else decide (i = j)) S
  | .str i, .str j => Q (if neg then !decide (i = j) else decide (i = j)) S
  | x, y => dEqP neg x y S Q
def opEq (neg : Bool) : CmpOp := if neg then .NotEq else .Eq
def rEqs (K : Frag) (neg : Bool) : R2 := fun x y H Q => (scal x y = true ∧ Q (.bl (if neg then !decide (x = y) else decide (x = y))) H) ∨
  ∃ d e, Dp K H x d ∧ Dp K H y e ∧ SeqAt.shaped d = true ∧ SeqAt.shaped e = true ∧ Q (.bl (if neg then !PyData.eqv d e else PyData.eqv d e)) H
theorem op_eqs {X : Cx} (neg : Bool) (hu : X.A.units + 64 < cLine) : OpR X (compareOp (opEq neg)) (rEqs X.K neg) := by
  cases neg with
  | true => exact (op_ne.or (op_neD hu))
  | false => exact (op_eq.or (op_eqD hu))
theorem eq_core {neg : Bool} {B H : Hp} {σ : L2.St} {x y : D} {vx vy : V} {Q : Bool → Sto → Prop} {Q' : VK} (R : c.R B G S σ H) (rx : Rep c.X.K B x vx) (ry : Rep c.X.K B y vy) (h : dEq neg x y S Q)
    (k : ∀ b, Q b S → Q' (.bl b) H) : rEqs c.X.K neg vx vy H Q' := by
  have gen : dEqP neg x y S Q → rEqs c.X.K neg vx vy H Q' := fun h => by
    obtain ⟨p, hp, h⟩ := asP_get R rx h
    obtain ⟨q, hq, s1, s2, h⟩ := asP_get R ry h
    exact .inr ⟨p, q, hp, hq, s1, s2, k _ h⟩
  cases x <;> cases y <;> first | exact gen h | skip
  case int.int i j =>
    cases rx; cases ry
    refine .inl ⟨rfl, k _ ?_⟩
    rw [dec_int, Bool.beq_eq_decide_eq]
    exact h
  case bl.bl i j =>
    cases rx; cases ry
    refine .inl ⟨rfl, k _ ?_⟩
    rw [dec_bl, Bool.beq_eq_decide_eq]
    exact h
  case str.str i j =>
    cases rx; cases ry
    refine .inl ⟨rfl, k _ ?_⟩
    rw [dec_str, Bool.beq_eq_decide_eq]
    exact h
theorem w_eqs {op : CmpOp} (neg : Bool) {Q : QD} (ho : op = opEq neg) (h : W c a G S fun x S1 => W c b G S1 fun y S2 => dEq neg x y S2 fun k S3 => Q (.bl k) S3) : W c (.Compare a [op] [b] pos) G S Q := by
  subst ho
  refine w_cmp (P := fun x y S Q => dEq neg x y S fun k S3 => Q (.bl k) S3) (op_eqs neg c.hr.units) (nomark b (by cases neg <;> decide) (by cases neg <;> decide)) (fun Bl B σ H x y vx vy S Q s R rx ry h => ?_) h
  exact eq_core R rx ry h fun k q => ⟨B, .bl k, S, s, R, rfl, q⟩
theorem wt_eqs {op : CmpOp} (neg : Bool) {Q : Bool → Sto → Prop} (ho : op = opEq neg) (h : W c a G S fun x S1 => W c b G S1 fun y S2 => dEq neg x y S2 Q) : WT c (.Compare a [op] [b] pos) G S Q := by
  subst ho
  refine wt_cmp (op_eqs neg c.hr.units) (nomark b (by cases neg <;> decide) (by cases neg <;> decide)) (fun Bl B σ H x y vx vy S Q s R rx ry h => ?_) h
  exact eq_core R rx ry h fun k q => ⟨k, rfl, B, S, s, R, q⟩

/-! ### < <= > >= of whole numbers -/
def cmpI : CmpOp → Int → Int → Bool
  | .Lt, i, j => decide (i < j)
  | .LtE, i, j => decide (i ≤ j)
  | .Gt, i, j => decide (j < i)
  | .GtE, i, j => decide (j ≤ i)
  | _, _, _ => false
def isOrd : CmpOp → Bool
  | .Lt => true
  | .LtE => true
  | .Gt => true
  | .GtE => true
  | _ => false
def dOrd (op : CmpOp) (x y : D) (S : Sto) (Q : Bool → Sto → Prop) : Prop := match x, y with
  | .int i, .int j => Q (cmpI op i j) S
  | _, _ => False
theorem op_ord {X : Cx} (op : CmpOp) (h : isOrd op = true) : OpR X (compareOp op) (rI0 fun i j => .bl (cmpI op i j)) := by
  cases op <;> first | exact op_lt | exact op_le | exact op_gt | exact op_ge | cases h
theorem ord_core {op : CmpOp} {B H : Hp} {x y : D} {vx vy : V} {Q : Bool → Sto → Prop} {Q' : VK} (rx : Rep c.X.K B x vx) (ry : Rep c.X.K B y vy) (h : dOrd op x y S Q) (k : ∀ b, Q b S → Q' (.bl b) H) : rI0 (fun i j => .bl (cmpI op i j)) vx vy H Q' := by
  cases x <;> first | exact False.elim h | (cases y <;> first | exact False.elim h | skip)
  case int.int i j =>
    cases rx; cases ry
    exact ⟨i, j, rfl, rfl, k _ h⟩
theorem ord_mark {op : CmpOp} (h : isOrd op = true) : behindInMarks op b = false := nomark b (fun z => by subst z; cases h) (fun z => by subst z; cases h)
theorem w_ord {op : CmpOp} {Q : QD} (ho : isOrd op = true) (h : W c a G S fun x S1 => W c b G S1 fun y S2 => dOrd op x y S2 fun k S3 => Q (.bl k) S3) : W c (.Compare a [op] [b] pos) G S Q :=
  w_cmp (P := fun x y S Q => dOrd op x y S fun k S3 => Q (.bl k) S3) (op_ord op ho) (ord_mark ho) (fun Bl B σ H x y vx vy S Q s R rx ry h => ord_core rx ry h fun k q => ⟨B, .bl k, S, s, R, rfl, q⟩) h
theorem wt_ord {op : CmpOp} {Q : Bool → Sto → Prop} (ho : isOrd op = true) (h : W c a G S fun x S1 => W c b G S1 fun y S2 => dOrd op x y S2 Q) : WT c (.Compare a [op] [b] pos) G S Q :=
  wt_cmp (op_ord op ho) (ord_mark ho) (fun Bl B σ H x y vx vy S Q s R rx ry h => ord_core rx ry h fun k q => ⟨k, rfl, B, S, s, R, q⟩) h
/-- a < b < d -/
theorem w_chain {op op' : CmpOp} {d : Expr} {Q : QD} (ho : isOrd op = true) (ho' : isOrd op' = true) (hm : lastMarks [op, op'] [b, d] = false)
    (h : W c a G S fun x S1 => W c b G S1 fun y S2 => dOrd op x y S2 fun k S3 => (k = false → Q (.bl false) S3) ∧ (k = true → W c d G S3 fun z S4 => dOrd op' y z S4 fun k' S5 => Q (.bl k') S5)) : W c (.Compare a [op, op'] [b, d] pos) G S Q := fun B σ H R => by
  refine tE_of (pe_chain (op_ord op ho) (op_ord op' ho') (pe_self a) (pe_self b) (pe_self d) hm) ?_
  refine tE_mono (h B σ H R) fun vx H1 ⟨B1, x, S1, s1, R1, r1, h1⟩ => ?_
  refine tE_mono (h1 B1 σ H1 R1) fun vy H2 ⟨B2, y, S2, s2, R2, r2, h2⟩ => ?_
  refine ord_core (Rep.mono s2 x vx r1) r2 h2 fun k h3 => ⟨k, rfl, ?_⟩
  cases k with
  | false =>
    rw [if_neg Bool.false_ne_true]
    exact ⟨B2, .bl false, S2, s1.trans s2, R2, rfl, h3.1 rfl⟩
  | true =>
    rw [if_pos rfl]
    refine tE_mono (h3.2 rfl B2 σ H2 R2) fun vz H4 ⟨B4, z, S4, s4, R4, r4, h4⟩ => ?_
    exact ord_core (Rep.mono s4 y vy r2) r4 h4 fun k' q => ⟨B4, .bl k', S4, (s1.trans s2).trans s4, R4, rfl, q⟩
theorem wt_chain {op op' : CmpOp} {d : Expr} {Q : Bool → Sto → Prop} (ho : isOrd op = true) (ho' : isOrd op' = true) (hm : lastMarks [op, op'] [b, d] = false)
    (h : W c a G S fun x S1 => W c b G S1 fun y S2 => dOrd op x y S2 fun k S3 => (k = false → Q false S3) ∧ (k = true → W c d G S3 fun z S4 => dOrd op' y z S4 Q)) : WT c (.Compare a [op, op'] [b, d] pos) G S Q := fun B σ H R => by
  refine tT_of (pt_chain (op_ord op ho) (op_ord op' ho') (pe_self a) (pe_self b) (pe_self d) hm) ?_
  refine tE_mono (h B σ H R) fun vx H1 ⟨B1, x, S1, s1, R1, r1, h1⟩ => ?_
  refine tE_mono (h1 B1 σ H1 R1) fun vy H2 ⟨B2, y, S2, s2, R2, r2, h2⟩ => ?_
  refine ord_core (Rep.mono s2 x vx r1) r2 h2 fun k h3 => ⟨k, rfl, ?_⟩
  cases k with
  | false =>
    rw [if_neg Bool.false_ne_true]
    exact ⟨false, rfl, B2, S2, s1.trans s2, R2, h3.1 rfl⟩
  | true =>
    rw [if_pos rfl]
    refine tE_mono (h3.2 rfl B2 σ H2 R2) fun vz H4 ⟨B4, z, S4, s4, R4, r4, h4⟩ => ?_
    exact ord_core (Rep.mono s4 y vy r2) r4 h4 fun k' q => ⟨k', rfl, B4, S4, (s1.trans s2).trans s4, R4, q⟩
/-! ### is None -/
def dNone (neg : Bool) (x : D) (S : Sto) (Q : Bool → Sto → Prop) : Prop := match x with
  | .non => Q (!neg) S
  | _ => Q neg S
def opIs (neg : Bool) : CmpOp := if neg then .IsNot else .Is
theorem rep_non {B : Hp} {x : D} {v : V} (r : Rep c.X.K B x v) : (v = .non) ↔ (x = .non) := by
  cases x <;> first
    | (cases r; simp; done)
    | (obtain ⟨_, _, e, _⟩ := r; subst e; simp; done)
    | (obtain ⟨_, _, _, _, _, e, _⟩ := r; subst e; simp)
theorem none_core {neg : Bool} {B H : Hp} {x : D} {v : V} {Q : Bool → Sto → Prop} {Q' : VK} (r : Rep c.X.K B x v) (h : dNone neg x S Q) (k : ∀ b, Q b S → Q' (.bl b) H) : Q' (.bl (if neg then !decide (v = .non) else decide (v = .non))) H := by
  have e := rep_non (c := c) r
  by_cases hx : x = .non
  · have hv := e.mpr hx
    subst hx; subst hv
    cases neg <;> exact k _ h
  · have hv : ¬ v = .non := fun z => hx (e.mp z)
    rw [decide_eq_false hv]
    cases x <;> first | exact absurd rfl hx | (cases neg <;> exact k _ h)
theorem w_isNone {op : CmpOp} {j : Nat} {p2 : Pos} (neg : Bool) {Q : QD} (ho : op = opIs neg) (h : W c a G S fun x S1 => dNone neg x S1 fun k S2 => Q (.bl k) S2) : W c (.Compare a [op] [.Constant .none j p2] pos) G S Q := fun B σ H R => by
  subst ho
  cases neg with
  | false =>
    show tE c.X (.Compare a [.Is] _ pos) σ H _
    refine tE_of (pe_cmpR op_isN (pe_self a) pe_non (nomark _)) ?_
    refine tE_mono (h B σ H R) fun vx H1 ⟨B1, x, S1, s1, R1, r1, h1⟩ => ?_
    exact ⟨rfl, none_core (neg := false) r1 h1 fun k q => ⟨B1, .bl k, S1, s1, R1, rfl, q⟩⟩
  | true =>
    show tE c.X (.Compare a [.IsNot] _ pos) σ H _
    refine tE_of (pe_cmpR op_notN (pe_self a) pe_non (nomark _)) ?_
    refine tE_mono (h B σ H R) fun vx H1 ⟨B1, x, S1, s1, R1, r1, h1⟩ => ?_
    exact ⟨rfl, none_core (neg := true) r1 h1 fun k q => ⟨B1, .bl k, S1, s1, R1, rfl, q⟩⟩
theorem wt_isNone {op : CmpOp} {j : Nat} {p2 : Pos} (neg : Bool) {Q : Bool → Sto → Prop} (ho : op = opIs neg) (h : W c a G S fun x S1 => dNone neg x S1 Q) : WT c (.Compare a [op] [.Constant .none j p2] pos) G S Q := fun B σ H R => by
  subst ho
  cases neg with
  | false =>
    show tT c.X (.Compare a [.Is] _ pos) σ H _
    refine tT_of (pt_cmpR op_isN (pe_self a) pe_non (nomark _)) ?_
    refine tE_mono (h B σ H R) fun vx H1 ⟨B1, x, S1, s1, R1, r1, h1⟩ => ?_
    exact ⟨rfl, none_core (neg := false) (Q' := fun v H' => ∃ k, v = .bl k ∧ PostB c B G σ Q k H') r1 h1 fun k q => ⟨k, rfl, B1, S1, s1, R1, q⟩⟩
  | true =>
    show tT c.X (.Compare a [.IsNot] _ pos) σ H _
    refine tT_of (pt_cmpR op_notN (pe_self a) pe_non (nomark _)) ?_
    refine tE_mono (h B σ H R) fun vx H1 ⟨B1, x, S1, s1, R1, r1, h1⟩ => ?_
    exact ⟨rfl, none_core (neg := true) (Q' := fun v H' => ∃ k, v = .bl k ∧ PostB c B G σ Q k H') r1 h1 fun k q => ⟨k, rfl, B1, S1, s1, R1, q⟩⟩

/-! ### truth -/
/-- the truth of a datum -/
def dTru (x : D) (S : Sto) (Q : Bool → Sto → Prop) : Prop := match x with
  | .non => Q false S
  | .bl b => Q b S
  | .int i => Q (i != 0) S
  | .tup ds => Q (!ds.isEmpty) S
  | x => asQ x S fun ds => Q (!ds.isEmpty) S
theorem reps_emp {K : Frag} {B : Hp} {ds : List D} {vs : List V} (r : Reps K B ds vs) : vs.isEmpty = ds.isEmpty := by
  cases ds with
  | nil => cases r; rfl
  | cons d t => obtain ⟨_, _, e, _⟩ := r; subst e; rfl
theorem tru_core {B H : Hp} {σ : L2.St} {x : D} {v : V} {Q : Bool → Sto → Prop} (R : c.R B G S σ H) (r : Rep c.X.K B x v) (h : dTru x S Q) : ∃ k, TruV c.X.K v H k ∧ Q k S := by
  have gen : (asQ x S fun ds => Q (!ds.isEmpty) S) → ∃ k, TruV c.X.K v H k ∧ Q k S := fun h => by
    obtain ⟨a, vs, ds, e, h1, r1, q⟩ := asQ_get R r h
    subst e
    exact ⟨!ds.isEmpty, .inl ⟨vs, h1, by rw [reps_emp r1]⟩, q⟩
  cases x <;> first | exact gen h | skip
  case non => cases r; exact ⟨false, rfl, h⟩
  case bl b => cases r; exact ⟨b, rfl, h⟩
  case int i => cases r; exact ⟨_, rfl, h⟩
  case tup ds =>
    obtain ⟨a, vs, e, h1, r1⟩ := r
    subst e
    exact ⟨!ds.isEmpty, .inr (.inl ⟨vs, sameT R.sub h1, by rw [reps_emp r1]⟩), h⟩
theorem wt_val {Q : Bool → Sto → Prop} (he : ∀ whole, isTrue a c.X.env whole = (do let v ← whole; standAt a.pos; holding [v] (truthy v))) (h : W c a G S fun x S1 => dTru x S1 Q) : WT c a G S Q := fun B σ H R => by
  refine tT_of (pt_truth (pe_self a) he) ?_
  refine tE_mono (h B σ H R) fun vx H1 ⟨B1, x, S1, s1, R1, r1, h1⟩ => ?_
  obtain ⟨k, h2, q⟩ := tru_core R1 r1 h1
  exact ⟨k, h2, B1, S1, s1, R1, q⟩
theorem wt_not {Q : Bool → Sto → Prop} (h : WT c a G S fun k S1 => Q (!k) S1) : WT c (.UnaryOp .Not a pos) G S Q := fun B σ H R => tT_of (pt_not (pt_self a)) (h B σ H R)
theorem wt_ofW {Q : Bool → Sto → Prop} (h : WW c a G S Q) : WT c a G S Q := fun B σ H R => tT_of (pw_self a).pt (h B σ H R)
theorem ww_and1 {Q : Bool → Sto → Prop} (h : WT c a G S Q) : WW c (.BoolOp .And [a] pos) G S Q := fun B σ H R => tW_of (pw_and1 (pt_self a)) (h B σ H R)
theorem ww_or1 {Q : Bool → Sto → Prop} (h : WT c a G S Q) : WW c (.BoolOp .Or [a] pos) G S Q := fun B σ H R => tW_of (pw_or1 (pt_self a)) (h B σ H R)
theorem ww_and {rest : List Expr} {Q : Bool → Sto → Prop} (h : WT c a G S fun k S1 => (k = true → WW c (.BoolOp .And (b :: rest) pos) G S1 Q) ∧ (k = false → Q false S1)) : WW c (.BoolOp .And (a :: b :: rest) pos) G S Q := fun B σ H R => by
  refine tW_of (pw_and (pt_self a) (pw_self _)) ?_
  refine tT_mono (h B σ H R) fun k H1 ⟨B1, S1, s1, R1, h1⟩ => ?_
  cases k with
  | true =>
    rw [if_pos rfl]
    exact tW_mono (h1.1 rfl B1 σ H1 R1) fun k H2 ⟨B2, S2, s2, R2, h2⟩ => ⟨B2, S2, s1.trans s2, R2, h2⟩
  | false =>
    rw [if_neg Bool.false_ne_true]
    exact ⟨B1, S1, s1, R1, h1.2 rfl⟩
theorem ww_or {rest : List Expr} {Q : Bool → Sto → Prop} (h : WT c a G S fun k S1 => (k = true → Q true S1) ∧ (k = false → WW c (.BoolOp .Or (b :: rest) pos) G S1 Q)) : WW c (.BoolOp .Or (a :: b :: rest) pos) G S Q := fun B σ H R => by
  refine tW_of (pw_or (pt_self a) (pw_self _)) ?_
  refine tT_mono (h B σ H R) fun k H1 ⟨B1, S1, s1, R1, h1⟩ => ?_
  cases k with
  | true =>
    rw [if_pos rfl]
    exact ⟨B1, S1, s1, R1, h1.1 rfl⟩
  | false =>
    rw [if_neg Bool.false_ne_true]
    exact tW_mono (h1.2 rfl B1 σ H1 R1) fun k H2 ⟨B2, S2, s2, R2, h2⟩ => ⟨B2, S2, s1.trans s2, R2, h2⟩
/-- and, or, not as values of truths -/
def isBl (x : D) (P : Bool → Prop) : Prop := match x with
  | .bl b => P b
  | _ => False
theorem isBl_get {B : Hp} {x : D} {v : V} {P : Bool → Prop} (r : Rep c.X.K B x v) (h : isBl x P) : ∃ k, v = .bl k ∧ x = .bl k ∧ P k := by
  cases x <;> first | exact False.elim h | skip
  case bl b => cases r; exact ⟨b, rfl, rfl, h⟩
theorem w_one {op : BoolOp} {Q : QD} (h : W c a G S Q) : W c (.BoolOp op [a] pos) G S Q := fun B σ H R => tE_of (pe_one (pe_self a)) (h B σ H R)
theorem w_and {rest : List Expr} {Q : QD} (h : W c a G S fun x S1 => isBl x fun k => (k = true → W c (.BoolOp .And (b :: rest) pos) G S1 Q) ∧ (k = false → Q (.bl false) S1)) : W c (.BoolOp .And (a :: b :: rest) pos) G S Q := fun B σ H R => by
  refine tE_of (pe_and (pe_self a) (pe_self _)) ?_
  refine tE_mono (h B σ H R) fun vx H1 ⟨B1, x, S1, s1, R1, r1, h1⟩ => ?_
  obtain ⟨k, e1, e2, h1⟩ := isBl_get r1 h1
  refine ⟨k, e1, ?_⟩
  cases k with
  | true =>
    rw [if_pos rfl]
    exact tE_mono (h1.1 rfl B1 σ H1 R1) fun v H2 ⟨B2, d, S2, s2, R2, r2, h2⟩ => ⟨B2, d, S2, s1.trans s2, R2, r2, h2⟩
  | false =>
    rw [if_neg Bool.false_ne_true]
    exact ⟨B1, .bl false, S1, s1, R1, rfl, h1.2 rfl⟩
theorem w_or {rest : List Expr} {Q : QD} (h : W c a G S fun x S1 => isBl x fun k => (k = true → Q (.bl true) S1) ∧ (k = false → W c (.BoolOp .Or (b :: rest) pos) G S1 Q)) : W c (.BoolOp .Or (a :: b :: rest) pos) G S Q := fun B σ H R => by
  refine tE_of (pe_or (pe_self a) (pe_self _)) ?_
  refine tE_mono (h B σ H R) fun vx H1 ⟨B1, x, S1, s1, R1, r1, h1⟩ => ?_
  obtain ⟨k, e1, e2, h1⟩ := isBl_get r1 h1
  refine ⟨k, e1, ?_⟩
  cases k with
  | true =>
    rw [if_pos rfl]
    exact ⟨B1, .bl true, S1, s1, R1, rfl, h1.1 rfl⟩
  | false =>
    rw [if_neg Bool.false_ne_true]
    exact tE_mono (h1.2 rfl B1 σ H1 R1) fun v H2 ⟨B2, d, S2, s2, R2, r2, h2⟩ => ⟨B2, d, S2, s1.trans s2, R2, r2, h2⟩
theorem w_not {Q : QD} (h : W c a G S fun x S1 => dTru x S1 fun k S2 => Q (.bl (!k)) S2) : W c (.UnaryOp .Not a pos) G S Q := fun B σ H R => by
  refine tE_of (pe_notT (pe_self a)) ?_
  refine tE_mono (h B σ H R) fun vx H1 ⟨B1, x, S1, s1, R1, r1, h1⟩ => ?_
  obtain ⟨k, h2, q⟩ := tru_core R1 r1 h1
  exact ⟨k, h2, B1, .bl (!k), S1, s1, R1, rfl, q⟩
theorem w_if {d : Expr} {Q : QD} (h : WT c d G S fun k S1 => (k = true → W c a G S1 Q) ∧ (k = false → W c b G S1 Q)) : W c (.IfExp d a b pos) G S Q := fun B σ H R => by
  refine tE_of (pe_ifExp (pt_self d) (pe_self a) (pe_self b)) ?_
  refine tT_mono (h B σ H R) fun k H1 ⟨B1, S1, s1, R1, h1⟩ => ?_
  cases k with
  | true =>
    rw [if_pos rfl]
    exact tE_mono (h1.1 rfl B1 σ H1 R1) fun v H2 ⟨B2, d, S2, s2, R2, r2, h2⟩ => ⟨B2, d, S2, s1.trans s2, R2, r2, h2⟩
  | false =>
    rw [if_neg Bool.false_ne_true]
    exact tE_mono (h1.2 rfl B1 σ H1 R1) fun v H2 ⟨B2, d, S2, s2, R2, r2, h2⟩ => ⟨B2, d, S2, s1.trans s2, R2, r2, h2⟩

/-! ### displays, arguments -/
theorem wa_nil {Q : List D → Sto → Prop} (q : Q [] S) : WA c [] G S Q := fun B σ H R => tA_of pa_nil ⟨B, [], S, Same.refl _, R, rfl, q⟩
theorem wa_cons {es : List Expr} {Q : List D → Sto → Prop} (hs : starEach (e :: es) c.X.env = (false, eval e c.X.env) :: starEach es c.X.env) (h : W c e G S fun x S1 => WA c es G S1 fun ds S2 => Q (x :: ds) S2) : WA c (e :: es) G S Q := fun B σ H R => by
  refine tA_of (pa_cons (pe_self e) (pa_self es) hs) ?_
  refine tE_mono (h B σ H R) fun vx H1 ⟨B1, x, S1, s1, R1, r1, h1⟩ => ?_
  exact tA_mono (h1 B1 σ H1 R1) fun vs H2 ⟨B2, ds, S2, s2, R2, r2, h2⟩ => ⟨B2, x :: ds, S2, s1.trans s2, R2, ⟨vx, vs, rfl, Rep.mono s2 x vx r1, r2⟩, h2⟩
theorem w_tup {es : List Expr} {j : Nat} {Q : QD} (h : WA c es G S fun ds S1 => ds.length ≤ sizeLine ∧ Q (.tup ds) S1) : W c (.Tuple es j pos) G S Q := fun B σ H R => by
  refine tE_of (pe_tup (pa_self es)) ?_
  refine tA_mono (h B σ H R) fun vs H1 ⟨B1, ds, S1, s1, R1, r1, h1⟩ => ⟨by rw [r1.length]; exact h1.1, fun p hp => tup_ok s1 R1 r1 h1.2 p hp⟩
theorem w_lst {es : List Expr} {Q : QD} (h : WA c es G S fun ds S1 => ds.length ≤ sizeLine ∧ mk ds S1 Q) : W c (.List es pos) G S Q := fun B σ H R => by
  refine tE_of (pe_lst (pa_self es)) ?_
  refine tA_mono (h B σ H R) fun vs H1 ⟨B1, ds, S1, s1, R1, r1, h1⟩ => ⟨by rw [r1.length]; exact h1.1, fun p hp => mk_ok s1 R1 r1 h1.2 p hp⟩

/-! ### x[i] -/
theorem reps_at {K : Frag} {B : Hp} {ds : List D} {vs : List V} {i : Int} {d : D} (r : Reps K B ds vs) (h : atI ds i = some d) : ∃ v, atI vs i = some v ∧ Rep K B d v := by
  unfold atI at h ⊢
  rw [r.length]
  cases e : ixN ds.length i with
  | none =>
    rw [e] at h
    cases h
  | some j =>
    rw [e] at h
    exact r.get h
def dIx (x y : D) (S : Sto) (Q : QD) : Prop := match y with
  | .int i => (match x with
    | .tup ds => ∃ d, atI ds i = some d ∧ Q d S
    | .str z => ∃ k, z.length ≤ sizeLine ∧ atI z.cps.toList i = some k ∧ Q (.str ⟨#[k]⟩) S
    | x => asQ x S fun ds => ∃ d, atI ds i = some d ∧ Q d S)
  | _ => False
theorem w_ix {Q : QD} (hs : PlainIx b) (h : W c a G S fun x S1 => W c b G S1 fun y S2 => dIx x y S2 Q) : W c (.Subscript a b pos) G S Q := fun B σ H R => by
  refine tE_of (pe_ix ix_seq (pe_self a) (pe_self b) hs) ?_
  refine tE_mono (h B σ H R) fun vx H1 ⟨B1, x, S1, s1, R1, r1, h1⟩ => ?_
  refine tE_mono (h1 B1 σ H1 R1) fun vy H2 ⟨B2, y, S2, s2, R2, ry, h2⟩ => ?_
  have rx := Rep.mono s2 x vx r1
  have s := s1.trans s2
  cases y <;> first | exact False.elim h2 | skip
  case int i =>
    cases ry
    have gen : (asQ x S2 fun ds => ∃ d, atI ds i = some d ∧ Q d S2) → rIx c.X.K vx (.int i) H2 (Post c B G σ Q) := fun h => by
      obtain ⟨p, vs, ds, e, hq, r, d, hd, q⟩ := asQ_get R2 rx h
      obtain ⟨v, hv, rv⟩ := reps_at r hd
      -- the item is what stands in the list: frozen data or a cell's
      exact .inl ⟨p, vs, i, v, e, rfl, hq, hv, B2, d, S2, s, R2, rv, q⟩
    cases x <;> first | exact gen h2 | skip
    case tup ds =>
      obtain ⟨p, vs, e, hq, r⟩ := rx
      obtain ⟨d, hd, q⟩ := h2
      obtain ⟨v, hv, rv⟩ := reps_at r hd
      exact .inr (.inl ⟨p, vs, i, v, e, rfl, sameT R2.sub hq, hv, B2, d, S2, s, R2, rv, q⟩)
    case str =>
      obtain ⟨k, hz, hk, q⟩ := h2
      cases rx
      exact .inr (.inr ⟨_, i, k, rfl, rfl, hz, hk, B2, .str ⟨#[k]⟩, S2, s, R2, rfl, q⟩)
/-! ### x[i:j] -/
def WO (c : CD) (o : Option Expr) (G : Loc) (S : Sto) (Q : Option Int → Sto → Prop) : Prop := match o with
  | none => Q none S
  | some e => W c e G S fun x S1 => ∃ i, x = .int i ∧ Q (some i) S1
def cutD (xs : List D) (lo hi : Option Int) : List D := (xs.drop (HT.sIx xs.length 0 lo)).take (HT.sIx xs.length xs.length hi - HT.sIx xs.length 0 lo)
theorem reps_cut {K : Frag} {B : Hp} {ds : List D} {vs : List V} (r : Reps K B ds vs) (lo hi : Option Int) : Reps K B (cutD ds lo hi) (cutV vs lo hi) := by
  unfold cutD cutV
  rw [r.length]
  exact (r.drop _).take _
def dSl (x : D) (lo hi : Option Int) (S : Sto) (Q : QD) : Prop := match x with
  | .tup ds => Q (.tup (cutD ds lo hi)) S
  | x => asQ x S fun ds => mk (cutD ds lo hi) S Q
theorem cut_whole {ds : List D} {lo hi : Option Int} (h : HT.sIx ds.length 0 lo = 0 ∧ HT.sIx ds.length ds.length hi = ds.length) : cutD ds lo hi = ds := by
  unfold cutD
  rw [h.1, h.2, List.drop_zero, Nat.sub_zero, List.take_length]
theorem po_of {X : Cx} (o : Option Expr) : ∃ t : TO, PO X o t ∧ ∀ σ H Q, (match o with | none => Q none H | some e => tE X e σ H fun v H1 => ∃ i, v = .int i ∧ Q (some i) H1) → t σ H Q := by
  cases o with
  | none => exact ⟨_, po_none, fun _ _ _ h => h⟩
  | some e => exact ⟨_, po_some (pe_self e), fun _ _ _ h => h⟩
theorem w_sl {lo hi : Option Expr} {p2 : Pos} {Q : QD} (h : W c a G S fun x S1 => WO c lo G S1 fun l S2 => WO c hi G S2 fun u S3 => dSl x l u S3 Q) : W c (.Subscript a (.Slice lo hi none p2) pos) G S Q := fun B σ H R => by
  obtain ⟨tl, pl, kl⟩ := po_of (X := c.X) lo
  obtain ⟨th, ph, kh⟩ := po_of (X := c.X) hi
  refine tE_of (pe_slice (SlR.or sl_list sl_tupA) (pe_self a) pl ph) ?_
  refine tE_mono (h B σ H R) fun vx H1 ⟨B1, x, S1, s1, R1, r1, h1⟩ => ?_
  have fin : ∀ {l u B3 S3 H3}, Same B1 B3 → c.R B3 G S3 σ H3 → dSl x l u S3 Q → rSlL c.X.K vx l u H3 (Post c B G σ Q) ∨ rSlA c.X.K vx l u H3 (Post c B G σ Q) := fun {l u B3 S3 H3} s3 R3 h3 => by
    have rx := Rep.mono s3 x vx r1
    have s := s1.trans s3
    have gen : (asQ x S3 fun ds => mk (cutD ds l u) S3 Q) → rSlL c.X.K vx l u H3 (Post c B G σ Q) ∨ rSlA c.X.K vx l u H3 (Post c B G σ Q) := fun h => by
      obtain ⟨p, vs, ds, e, hq, r, q⟩ := asQ_get R3 rx h
      exact .inl ⟨p, vs, e, hq, fun p hp => mk_ok s R3 (reps_cut r l u) q p hp⟩
    cases x <;> first | exact gen h3 | skip
    case tup ds =>
      obtain ⟨p, vs, e, hq, r⟩ := rx
      refine .inr ⟨p, vs, e, sameT R3.sub hq, fun hw => ?_, fun _ p hp => tup_ok s R3 (reps_cut r l u) h3 p hp⟩
      rw [r.length] at hw
      have h4 : Q (.tup (cutD ds l u)) S3 := h3
      rw [cut_whole hw] at h4
      exact ⟨B3, .tup ds, S3, s, R3, ⟨p, vs, rfl, hq, r⟩, h4⟩
  refine kl σ H1 _ ?_
  have step2 : ∀ {l B2 S2 H2}, Same B1 B2 → c.R B2 G S2 σ H2 → (WO c hi G S2 fun u S3 => dSl x l u S3 Q) → th σ H2 fun u H3 => rSlL c.X.K vx l u H3 (Post c B G σ Q) ∨ rSlA c.X.K vx l u H3 (Post c B G σ Q) := fun {l B2 S2 H2} s2 R2 h2 => by
    refine kh σ H2 _ ?_
    cases hi with
    | none => exact fin s2 R2 h2
    | some e =>
      refine tE_mono (h2 B2 σ H2 R2) fun v H3 ⟨B3, d, S3, s3, R3, r3, i, ei, h3⟩ => ?_
      subst ei
      cases r3
      exact ⟨i, rfl, fin (s2.trans s3) R3 h3⟩
  cases lo with
  | none => exact step2 (Same.refl _) R1 h1
  | some e =>
    refine tE_mono (h1 B1 σ H1 R1) fun v H2 ⟨B2, d, S2, s2, R2, r2, i, ei, h2⟩ => ?_
    subst ei
    cases r2
    exact ⟨i, rfl, step2 s2 R2 h2⟩
end
end DL
end

section
set_option autoImplicit false
set_option maxRecDepth 100000
set_option maxHeartbeats 4000000
namespace DL
open PySem PySem.Spec PyProof.Rows L2
open PySem.W (Frag)
section
variable {c : CD} {G : Loc} {S : Sto} {e a b : Expr} {es : List Expr} {pos p : Pos} {x : Str}

/-! ### built-in functions -/
/-- a call's data: what is asked of the arguments -/
abbrev DCall := List D → Sto → QD → Prop
def BOk (c : CD) (r : List V → Hp → VK → Prop) (P : DCall) : Prop := ∀ (Bl B : Hp) (G : Loc) (σ : L2.St) (H : Hp) (ds : List D) (vs : List V) (S : Sto) (Q : QD), Same Bl B → c.R B G S σ H → Reps c.X.K B ds vs → P ds S Q → r vs H (Post c Bl G σ Q)
theorem w_bi {id : String} {r : List V → Hp → VK → Prop} {P : DCall} {Q : QD} (hc : CallR c.X (.builtin id) r) (hP : BOk c r P) (hg : Gl c.X x) (hm : c.X.mg x = none) (hv : bootBuiltins x = some (.builtin id)) (hn : x ≠ "__name__") (hdb : (x == ("__debug__" : Str)) = false)
    (he : starEach (e :: es) c.X.env = (false, eval e c.X.env) :: starEach es c.X.env) (hpl : (backTo pos (starEach es c.X.env)).any (·.1) = false) (h : WA c (e :: es) G S fun ds S1 => P ds S1 Q) : W c (.Call (.Name x p) (e :: es) [] pos) G S Q := fun B σ H R => by
  refine tE_of (pe_callB hc hg hm hv (pa_self (e :: es)) hn hdb he hpl) ?_
  exact tA_mono (h B σ H R) fun vs H1 ⟨B1, ds, S1, s1, R1, r1, h1⟩ => hP B B1 G σ H1 ds vs S1 Q s1 R1 r1 h1
theorem w_bt {T : String} {r : List V → Hp → VK → Prop} {P : DCall} {Q : QD} (hc : CallR c.X (.type T) r) (hP : BOk c r P) (hg : Gl c.X x) (hm : c.X.mg x = none) (hv : bootBuiltins x = some (.type T)) (hn : x ≠ "__name__") (hdb : (x == ("__debug__" : Str)) = false)
    (he : starEach (e :: es) c.X.env = (false, eval e c.X.env) :: starEach es c.X.env) (hpl : (backTo pos (starEach es c.X.env)).any (·.1) = false) (h : WA c (e :: es) G S fun ds S1 => P ds S1 Q) : W c (.Call (.Name x p) (e :: es) [] pos) G S Q := fun B σ H R => by
  refine tE_of (pe_callTy hc hg hm hv (pa_self (e :: es)) hn hdb he hpl) ?_
  exact tA_mono (h B σ H R) fun vs H1 ⟨B1, ds, S1, s1, R1, r1, h1⟩ => hP B B1 G σ H1 ds vs S1 Q s1 R1 r1 h1
/-- a built-in's name as a value -/
theorem w_ty {n : String} {Q : QD} (hg : Gl c.X x) (hm : c.X.mg x = none) (hv : bootBuiltins x = some (.type n)) (hn : x ≠ "__name__") (hdb : (x == ("__debug__" : Str)) = false) (q : Q (.ty n) S) : W c (.Name x pos) G S Q := fun B σ H R =>
  tE_of (pe_bltn (v := .ty n) hg hm hv rfl hn hdb) ⟨B, .ty n, S, Same.refl _, R, rfl, q⟩
/-- a global name: a def, a class -/
theorem w_glob {a : Addr} {Q : QD} (hg : Gl c.X x) (hm : c.X.mg x = some (.ref a)) (hdb : (x == ("__debug__" : Str)) = false) (q : Q (.ref a) S) : W c (.Name x pos) G S Q := fun B σ H R =>
  tE_of (pe_glob (v := .ref a) hg hm rfl hdb) ⟨B, .ref a, S, Same.refl _, R, rfl, q⟩

def one (ds : List D) (P : D → Prop) : Prop := match ds with
  | [d] => P d
  | _ => False
def two (ds : List D) (P : D → D → Prop) : Prop := match ds with
  | [d, e] => P d e
  | _ => False
theorem one_get {K : Frag} {B : Hp} {ds : List D} {vs : List V} {P : D → Prop} (r : Reps K B ds vs) (h : one ds P) : ∃ v d, vs = [v] ∧ Rep K B d v ∧ P d := by
  cases ds with
  | nil => exact False.elim h
  | cons d t =>
    cases t with
    | nil =>
      obtain ⟨v, r2, e, h1, h2⟩ := r
      cases h2
      exact ⟨v, d, e, h1, h⟩
    | cons _ _ => exact False.elim h
theorem two_get {K : Frag} {B : Hp} {ds : List D} {vs : List V} {P : D → D → Prop} (r : Reps K B ds vs) (h : two ds P) : ∃ v d u e, vs = [v, u] ∧ Rep K B d v ∧ Rep K B e u ∧ P d e := by
  cases ds with
  | nil => exact False.elim h
  | cons d t =>
    cases t with
    | nil => exact False.elim h
    | cons e t =>
      cases t with
      | nil =>
        obtain ⟨v, r2, e1, h1, u, r3, e2, h2, h3⟩ := r
        cases h3
        subst e2
        exact ⟨v, d, u, e, e1, h1, h2, h⟩
      | cons _ _ => exact False.elim h
/-- len -/
def dLen : DCall := fun ds S Q => one ds fun x => match x with
  | .tup ds => Q (.int ds.length) S
  | .str z => z.length ≤ sizeLine ∧ Q (.int z.length) S
  | x => asQ x S fun ds => Q (.int ds.length) S
theorem b_len : BOk c (fun xs H Q => ∃ x n, xs = [x] ∧ LenV c.X.K x H n ∧ Q (.int n) H) dLen := fun Bl B G σ H ds vs S Q s R r h => by
  obtain ⟨v, d, e, r1, h⟩ := one_get r h
  subst e
  have gen : (asQ d S fun ds => Q (.int ds.length) S) → ∃ x n, [v] = [x] ∧ LenV c.X.K x H n ∧ Post c Bl G σ Q (.int n) H := fun h => by
    obtain ⟨a, vs, ds, e, h1, r2, q⟩ := asQ_get R r1 h
    subst e
    exact ⟨_, _, rfl, .inl ⟨vs, h1, rfl⟩, B, .int vs.length, S, s, R, rfl, by rw [r2.length]; exact q⟩
  cases d <;> first | exact gen h | skip
  case tup ds =>
    obtain ⟨a, vs, e, h1, r2⟩ := r1
    subst e
    exact ⟨_, _, rfl, .inr ⟨vs, sameT R.sub h1, rfl⟩, B, .int vs.length, S, s, R, rfl, by rw [r2.length]; exact h⟩
  case str z =>
    cases r1
    exact ⟨_, _, rfl, ⟨h.1, rfl⟩, B, .int z.length, S, s, R, rfl, h.2⟩
/-- abs, max, min of two -/
def dAbs : DCall := fun ds S Q => one ds fun x => match x with
  | .int i => Q (.int (i.natAbs : Int)) S
  | _ => False
theorem abs_eq (i : Int) : (if i < 0 then -i else i) = (i.natAbs : Int) := by
  split <;> omega
theorem b_abs : BOk c (fun xs H Q => ∃ i, xs = [.int i] ∧ Q (.int (if i < 0 then -i else i)) H) dAbs := fun Bl B G σ H ds vs S Q s R r h => by
  obtain ⟨v, d, e, r1, h⟩ := one_get r h
  cases d <;> first | exact False.elim h | skip
  case int i =>
    cases r1
    exact ⟨i, e, B, .int _, S, s, R, rfl, by rw [abs_eq]; exact h⟩
def dMax2 : DCall := fun ds S Q => two ds fun x y => match x, y with
  | .int i, .int j => Q (.int (if j > i then j else i)) S
  | _, _ => False
theorem b_max2 : BOk c (fun xs H Q => ∃ i j, xs = [.int i, .int j] ∧ Q (.int (if j > i then j else i)) H) dMax2 := fun Bl B G σ H ds vs S Q s R r h => by
  obtain ⟨v, d, u, d2, e, r1, r2, h⟩ := two_get r h
  cases d <;> first | exact False.elim h | (cases d2 <;> first | exact False.elim h | skip)
  case int.int i j =>
    cases r1; cases r2
    exact ⟨i, j, e, B, .int _, S, s, R, rfl, h⟩
def dMin2 : DCall := fun ds S Q => two ds fun x y => match x, y with
  | .int i, .int j => Q (.int (if j < i then j else i)) S
  | _, _ => False
theorem b_min2 : BOk c (fun xs H Q => ∃ i j, xs = [.int i, .int j] ∧ Q (.int (if j < i then j else i)) H) dMin2 := fun Bl B G σ H ds vs S Q s R r h => by
  obtain ⟨v, d, u, d2, e, r1, r2, h⟩ := two_get r h
  cases d <;> first | exact False.elim h | (cases d2 <;> first | exact False.elim h | skip)
  case int.int i j =>
    cases r1; cases r2
    exact ⟨i, j, e, B, .int _, S, s, R, rfl, h⟩
/-- int of a whole number, of a truth -/
def dInt : DCall := fun ds S Q => one ds fun x => match x with
  | .int i => Q (.int i) S
  | .bl k => Q (.int (if k then 1 else 0)) S
  | _ => False
theorem b_int : BOk c (fun xs H Q => (∃ i, xs = [.int i] ∧ Q (.int i) H) ∨ ∃ k, xs = [.bl k] ∧ Q (.int (if k then 1 else 0)) H) dInt := fun Bl B G σ H ds vs S Q s R r h => by
  obtain ⟨v, d, e, r1, h⟩ := one_get r h
  cases d <;> first | exact False.elim h | skip
  case int i =>
    cases r1
    exact .inl ⟨i, e, B, .int _, S, s, R, rfl, h⟩
  case bl i =>
    cases r1
    exact .inr ⟨i, e, B, .int _, S, s, R, rfl, h⟩
/-- tuple(x), list(x) -/
def dTuple : DCall := fun ds S Q => one ds fun x => match x with
  | .tup ds => Q (.tup ds) S
  | x => asQ x S fun ds => Q (.tup ds) S
theorem b_tuple : BOk c (fun xs H Q => ∃ p ys, xs = [.ref p] ∧ ((SqL c.X.K H p ys ∧ ∀ l, H l = none → Q (.ref l) (upd H l (.tup ys))) ∨ (SqT c.X.K H p ys ∧ Q (.ref p) H))) dTuple := fun Bl B G σ H ds vs S Q s R r h => by
  obtain ⟨v, d, e, r1, h⟩ := one_get r h
  subst e
  have gen : (asQ d S fun ds => Q (.tup ds) S) → ∃ p ys, [v] = [.ref p] ∧ ((SqL c.X.K H p ys ∧ ∀ l, H l = none → Post c Bl G σ Q (.ref l) (upd H l (.tup ys))) ∨ (SqT c.X.K H p ys ∧ Post c Bl G σ Q (.ref p) H)) := fun h => by
    obtain ⟨a, vs, ds, e, h1, r2, q⟩ := asQ_get R r1 h
    subst e
    exact ⟨a, vs, rfl, .inl ⟨h1, fun p hp => tup_ok s R r2 q p hp⟩⟩
  cases d <;> first | exact gen h | skip
  case tup ds =>
    obtain ⟨a, vs, e, h1, r2⟩ := r1
    subst e
    exact ⟨a, vs, rfl, .inr ⟨sameT R.sub h1, B, .tup ds, S, s, R, ⟨a, vs, rfl, h1, r2⟩, h⟩⟩
def dList : DCall := fun ds S Q => one ds fun x => match x with
  | .tup ds => mk ds S Q
  | x => asQ x S fun ds => mk ds S Q
theorem b_list : BOk c (fun xs H Q => ∃ p ys, xs = [.ref p] ∧ (SqL c.X.K H p ys ∨ SqT c.X.K H p ys) ∧ ∀ l, H l = none → Q (.ref l) (upd H l (.lst ys))) dList := fun Bl B G σ H ds vs S Q s R r h => by
  obtain ⟨v, d, e, r1, h⟩ := one_get r h
  subst e
  have gen : (asQ d S fun ds => mk ds S Q) → ∃ p ys, [v] = [.ref p] ∧ (SqL c.X.K H p ys ∨ SqT c.X.K H p ys) ∧ ∀ l, H l = none → Post c Bl G σ Q (.ref l) (upd H l (.lst ys)) := fun h => by
    obtain ⟨a, vs, ds, e, h1, r2, q⟩ := asQ_get R r1 h
    subst e
    exact ⟨a, vs, rfl, .inl h1, fun p hp => mk_ok s R r2 q p hp⟩
  cases d <;> first | exact gen h | skip
  case tup ds =>
    obtain ⟨a, vs, e, h1, r2⟩ := r1
    subst e
    exact ⟨a, vs, rfl, .inr (sameT R.sub h1), fun p hp => mk_ok s R r2 h p hp⟩
/-- sum, all, any -/
def dSum : DCall := fun ds S Q => one ds fun x => asQ x S fun ds => ∃ ns : List Int, ds = ns.map D.int ∧ Q (.int ns.sum) S
theorem b_sum : BOk c (rSum c.X.K) dSum := fun Bl B G σ H ds vs S Q s R r h => by
  obtain ⟨v, d, e, r1, h⟩ := one_get r h
  subst e
  obtain ⟨a, vs, ds, e, h1, r2, ns, e2, q⟩ := asQ_get R r1 h
  subst e; subst e2
  rw [Reps.ints r2] at h1
  exact ⟨a, ns, rfl, h1, B, .int _, S, s, R, rfl, q⟩
def dAll : DCall := fun ds S Q => one ds fun x => asQ x S fun ds => ∃ ns : List Bool, ds = ns.map D.bl ∧ Q (.bl (ns.all id)) S
theorem b_all : BOk c (rAll c.X.K) dAll := fun Bl B G σ H ds vs S Q s R r h => by
  obtain ⟨v, d, e, r1, h⟩ := one_get r h
  subst e
  obtain ⟨a, vs, ds, e, h1, r2, ns, e2, q⟩ := asQ_get R r1 h
  subst e; subst e2
  rw [Reps.bls r2] at h1
  exact ⟨a, ns, rfl, h1, B, .bl _, S, s, R, rfl, q⟩
def dAny : DCall := fun ds S Q => one ds fun x => asQ x S fun ds => ∃ ns : List Bool, ds = ns.map D.bl ∧ Q (.bl (ns.any id)) S
theorem b_any : BOk c (rAny c.X.K) dAny := fun Bl B G σ H ds vs S Q s R r h => by
  obtain ⟨v, d, e, r1, h⟩ := one_get r h
  subst e
  obtain ⟨a, vs, ds, e, h1, r2, ns, e2, q⟩ := asQ_get R r1 h
  subst e; subst e2
  rw [Reps.bls r2] at h1
  exact ⟨a, ns, rfl, h1, B, .bl _, S, s, R, rfl, q⟩
/-- isinstance of plain data against a built-in class -/
def tyN : D → Option String
  | .non => some "NoneType"
  | .bl _ => some "bool"
  | .int _ => some "int"
  | .str _ => some "str"
  | .tup _ => some "tuple"
  | .lst _ => some "list"
  | .slst _ => some "list"
  | .dct _ => some "dict"
  | _ => none
theorem tyN_ok {B H : Hp} (s : Same B H) {d : D} {v : V} {n : String} (r : Rep c.X.K B d v) (h : tyN d = some n) : TyX c.X.K H v (.type n) := by
  cases d <;> first | (cases h; done) | skip
  case non => cases h; cases r; exact .base .non
  case bl => cases h; cases r; exact .base (.bl _)
  case int => cases h; cases r; exact .base (.int _)
  case str => cases h; cases r; exact .base (.str _)
  case tup ds =>
    cases h
    obtain ⟨a, vs, e, h1, _⟩ := r
    subst e
    rcases h1 with (h1 | ⟨o, h1⟩) | ⟨o, _, _, h1, h2, _⟩
    · exact .base (.tup (s _ _ h1))
    · exact .fTuple (s _ _ h1)
    · exact .kTuple h1 h2
  case lst ds =>
    cases h
    obtain ⟨a, vs, e, h1, _⟩ := r
    subst e
    exact .base (.lst (s _ _ h1))
  case slst ds =>
    cases h
    obtain ⟨a, vs, e, h1, _⟩ := r
    subst e
    rcases h1 with (h1 | ⟨o, h1⟩) | ⟨o, _, _, h1, h2, _⟩
    · exact .base (.lst (s _ _ h1))
    · exact .base (.frz (s _ _ h1))
    · exact .kList h1 h2
  case dct =>
    cases h
    obtain ⟨a, vs, e, h1, _⟩ := r
    subst e
    exact .base (.dK (s _ _ h1))
/-- whether a datum of built-in kind is of a built-in class: of these, only a truth is of another one's, a whole number's -/
def isaT (d : D) (n : String) : Option Bool := match d with
  | .ref _ => none
  | d => (tyN d).bind fun m => kitB m n
def dIsi : DCall := fun ds S Q => two ds fun x t => match t with
  | .ty n => (match x with
    | .ref a => ∃ (k : Nat) (ds : List D) (r : Bool), S[k]? = some (a, Cel.lst ds) ∧ kitB "list" n = some r ∧ Q (.bl r) S
    | x => ∃ m r, tyN x = some m ∧ kitB m n = some r ∧ Q (.bl r) S)
  | _ => False
theorem b_isi : BOk c (rIsi c.X.K) dIsi := fun Bl B G σ H ds vs S Q s R r h => by
  obtain ⟨v, d, u, t, e, r1, r2, h⟩ := two_get r h
  subst e
  cases t <;> first | exact False.elim h | skip
  case ty n =>
    cases r2
    have gen : (∃ m r, tyN d = some m ∧ kitB m n = some r ∧ Q (.bl r) S) → rIsi c.X.K [v, .ty n] H (Post c Bl G σ Q) := fun ⟨m, r, h1, h2, q⟩ =>
      ⟨v, .ty n, .type m, .type n, r, rfl, .ty n, tyN_ok R.sub r1 h1, kit_ty h2, B, .bl r, S, s, R, rfl, q⟩
    cases d <;> first | exact gen h | skip
    case ref a =>
      obtain ⟨k, ds, kr, e, h2, q⟩ := h
      obtain ⟨_, vs, e1, _⟩ := R.cel (a, .lst ds) (List.mem_of_getElem? e)
      cases r1
      exact ⟨_, .ty n, .type "list", .type n, kr, rfl, .ty n, .base (.lst e1), kit_ty h2, B, .bl kr, S, s, R, rfl, q⟩

/-! ### defs -/
/-- a def's promise by data: arguments, cells, what is wanted back, what is wanted of a refusal -/
abbrev FSp := List D → Sto → QD → EXT → Prop
def lift (K : Frag) (fs : FSp) : Sp := fun vs H Q E => ∃ (B : Hp) (ds : List D) (S : Sto) (Q' : QD) (EX : EXT), RelH K B B S H ∧ Reps K B ds vs ∧ fs ds S Q' EX ∧
  (∀ (v : V) (H' B' : Hp) (d : D) (S' : Sto), RelH K B B' S' H' → Rep K B' d v → Q' d S' → Q v H') ∧ ∀ cls d H', XD K B EX cls d H' → E cls d H'
/-- the module as it stands -/
structure Mo where
  P : Program
  w : World
  K : Frag
  mg : Str → Option Value
  base : Heap
abbrev _root_.L2.Cx.mo (X : Cx) : Mo := ⟨X.prog, X.w, X.K, X.mg, X.base⟩
/-- a def that stands by a name, its promise, with room to call it -/
def FnD (m : Mo) (x : Str) (k : Nat) (dvs : List D) (fs : FSp) : Prop := ∃ (f : Addr) (fd : FuncData) (ps : List Str) (ds : List Value) (vs : List V), FnOk m.P m.w m.K m.mg m.base (L2.CX m.P m.w) k f fd ps (lift m.K fs) ∧ m.mg x = some (.ref f) ∧ PySem.W.keepIn m.K (.ref f) = true ∧ Binds m.K fd ps ds ∧ Vals vs ds ∧ ∀ B, Reps m.K B dvs vs
theorem xw_up {c : CD} {B H H' : Hp} {G : Loc} {S : Sto} {σ : L2.St} {EX : EXT} {cls : Value} {d : Option Addr} (R : c.R B G S σ H) (k : ∀ n fs S', EX n fs S' → c.EX G n fs S') (h : XD c.X.K B EX cls d H') : XW c.X.K c.B0 c.EX cls d σ H' := by
  obtain ⟨n, C, fs, S', B', cn, e, h1, q⟩ := h
  refine ⟨n, C, fs, S', B', G, cn, e, ?_, k _ _ _ q⟩
  rcases h1 with ⟨e1, e2, R'⟩ | ⟨dd, e1, ne, R'⟩
  · exact .inl ⟨e1, e2, R.up R'.lo ⟨R.lo.trans R'.lo, R'.sub, R'.cel, R'.nd⟩⟩
  · exact .inr ⟨dd, e1, ne, R.up R'.lo ⟨R.lo.trans R'.lo, R'.sub, R'.cel, R'.nd⟩⟩
/-- f(e, ..) -/
theorem w_call [Calm c] {k : Nat} {dvs : List D} {fs : FSp} {Q : QD} (F : FnD c.X.mo x k dvs fs) (hk : k ≤ c.k) (hg : Gl c.X x) (hdb : (x == ("__debug__" : Str)) = false) (he : starEach (e :: es) c.X.env = (false, eval e c.X.env) :: starEach es c.X.env) (hpl : (backTo pos (starEach es c.X.env)).any (·.1) = false)
    (h : WA c (e :: es) G S fun ds S1 => fs (ds ++ dvs) S1 Q (c.EX G)) : W c (.Call (.Name x p) (e :: es) [] pos) G S Q := fun B σ H R => by
  obtain ⟨f, fd, ps, dd, vs0, hf, hm, hkp, hb, hd, hr⟩ := F
  refine tE_of (pe_callSD hf (CD.room hk) hg hm hkp hb hd (passAt c.tk) (pa_self (e :: es)) hdb he hpl) ?_
  refine tA_mono (h B σ H R) fun vs H1 ⟨B1, ds, S1, s1, R1, r1, h1⟩ => ?_
  exact ⟨B1, ds ++ dvs, S1, Q, c.EX G, ⟨Same.refl _, R1.sub, R1.cel, R1.nd⟩, r1.append (hr B1), h1, fun v H' B' d S' R' r' q => ⟨B', d, S', s1.trans R'.lo, R1.up R'.lo ⟨R1.lo.trans R'.lo, R'.sub, R'.cel, R'.nd⟩, r', q⟩, fun cls d H' q => xw_up R1 (fun _ _ _ z => z) q⟩
/-- f() -/
theorem w_call0 [Calm c] {k : Nat} {dvs : List D} {fs : FSp} {Q : QD} (F : FnD c.X.mo x k dvs fs) (hk : k ≤ c.k) (hg : Gl c.X x) (hdb : (x == ("__debug__" : Str)) = false) (h : fs dvs S Q (c.EX G)) : W c (.Call (.Name x p) [] [] pos) G S Q := fun B σ H R => by
  obtain ⟨f, fd, ps, dd, vs0, hf, hm, hkp, hb, hd, hr⟩ := F
  refine tE_of (pe_call0S hf (CD.room hk) hg hm hkp hb hd (passAt c.tk) hdb) ?_
  exact ⟨B, dvs, S, Q, c.EX G, ⟨Same.refl _, R.sub, R.cel, R.nd⟩, hr B, h, fun v H' B' d S' R' r' q => ⟨B', d, S', R'.lo, R.up R'.lo ⟨R.lo.trans R'.lo, R'.sub, R'.cel, R'.nd⟩, r', q⟩, fun cls d H' q => xw_up R (fun _ _ _ z => z) q⟩

/-! ### statements -/
variable {st : Stmt} {rest : List Stmt} {E : DE}
theorem ws_nil (h : E.nx G S) : WSs c [] G S E := fun B σ H R => tSs_of pss_nil ⟨B, G, S, Same.refl _, R, h⟩
theorem ws_cons (h : WS c st G S { E with nx := fun G' S' => WSs c rest G' S' E }) : WSs c (st :: rest) G S E := fun B σ H R => by
  refine tSs_of (pss_cons (ps_self st) (pss_self rest)) ?_
  refine tS_mono (h B σ H R) ⟨fun σ' H' ⟨B1, G1, S1, s1, R1, h1⟩ => ?_, fun _ _ q => q, fun _ _ q => q, fun _ _ q => q⟩
  exact tSs_mono (h1 B1 σ' H' R1) (endsLe s1 (fun _ _ q => q) (fun _ _ q => q) (fun _ _ q => q) fun _ _ q => q)
theorem ws_expr (hs : swapsWith e none pos.line c.X.env = pure false) (h : W c e G S fun _ S1 => E.nx G S1) : WS c (.Expr e pos) G S E := fun B σ H R => by
  refine tS_of (ps_expr (pe_self e) hs) ?_
  exact tE_mono (h B σ H R) fun v H1 ⟨B1, d, S1, s1, R1, _, q⟩ => ⟨B1, G, S1, s1, R1, q⟩
theorem ws_ret (h : W c e G S E.rt) : WS c (.Return (some e) pos) G S E := fun B σ H R => by
  refine tS_of (ps_ret (pe_self e)) ?_
  exact tE_mono (h B σ H R) fun v H1 ⟨B1, d, S1, s1, R1, r1, q⟩ => ⟨B1, d, S1, s1, R1.toRelH, r1, q⟩
theorem ws_retN (h : E.rt .non S) : WS c (.Return none pos) G S E := fun B σ H R => tS_of ps_retN ⟨B, .non, S, Same.refl _, R.toRelH, rfl, h⟩
theorem ws_pass (h : E.nx G S) : WS c (.Pass pos) G S E := fun B σ H R => tS_of ps_pass ⟨B, G, S, Same.refl _, R, h⟩
theorem ws_doc {x : Str} {j : Nat} {p2 : Pos} (h : E.nx G S) : WS c (.Expr (.Constant (.str x) j pos) p2) G S E := fun B σ H R => tS_of ps_doc ⟨B, G, S, Same.refl _, R, h⟩
theorem ws_if {t : Expr} {as bs : List Stmt} (h : WT c t G S fun k S1 => (k = true → WSs c as G S1 E) ∧ (k = false → WSs c bs G S1 E)) : WS c (.If t as bs pos) G S E := fun B σ H R => by
  refine tS_of (ps_if (pt_self t) (pss_self as) (pss_self bs)) ?_
  refine tT_mono (h B σ H R) fun k H1 ⟨B1, S1, s1, R1, h1⟩ => ?_
  cases k with
  | true =>
    rw [if_pos rfl]
    exact tSs_mono (h1.1 rfl B1 σ H1 R1) (endsLe s1 (fun _ _ q => q) (fun _ _ q => q) (fun _ _ q => q) fun _ _ q => q)
  | false =>
    rw [if_neg Bool.false_ne_true]
    exact tSs_mono (h1.2 rfl B1 σ H1 R1) (endsLe s1 (fun _ _ q => q) (fun _ _ q => q) (fun _ _ q => q) fun _ _ q => q)
/-! ### targets -/
theorem wg_name {d : D} {Q : Loc → Sto → Prop} (i : Nat) (hi : c.X.N[i]? = some x) (hx : L2.Loc c.X.env.scope x) (hf : c.X.fn x = true ∨ c.X.env.scope.names.lookup x = some .local) (hG : i < G.length) (q : Q (G.set i (some d)) S) : WG c (.Name x pos) d G S Q := fun B σ H v R r =>
  tG_of (pg_name c.nd hi hx hf) ⟨B, _, S, Same.refl _, R.set hG r, q⟩
theorem wgs_nil {Q : Loc → Sto → Prop} (q : Q G S) : WGs c [] [] G S Q := fun B σ H vs R r => by
  cases r
  exact tGs_of pgs_nil ⟨rfl, B, G, S, Same.refl _, R, q⟩
theorem wgs_cons {t : Expr} {ts : List Expr} {d : D} {ds : List D} {Q : Loc → Sto → Prop} (hs : (assignEach (t :: ts) c.X.env).map (·.2) = assign t c.X.env :: (assignEach ts c.X.env).map (·.2)) (h : WG c t d G S fun G1 S1 => WGs c ts ds G1 S1 Q) : WGs c (t :: ts) (d :: ds) G S Q := fun B σ H vs R r => by
  obtain ⟨v, r2, e, h1, h2⟩ := r
  subst e
  refine tGs_of (pgs_cons (pg_self t) (pgs_self ts) hs) ?_
  refine ⟨v, r2, rfl, tG_mono (h B σ H v R h1) fun σ' H' ⟨B1, G1, S1, s1, R1, h3⟩ => ?_⟩
  exact tGs_mono (h3 B1 σ' H' r2 R1 (Reps.mono s1 _ _ h2)) fun _ _ q => q.le s1 fun _ _ q => q
theorem wg_tup [Calm c] {ts : List Expr} {j : Nat} {ds : List D} {Q : Loc → Sto → Prop} (hn : (assignEach ts c.X.env).length = ds.length) (hst : (assignEach ts c.X.env).findIdx? (·.1) = none) (h : WGs c ts ds G S Q) : WG c (.Tuple ts j pos) (.tup ds) G S Q := fun B σ H v R r => by
  obtain ⟨a, vs, e, h1, r1⟩ := r
  subst e
  refine tG_of (pg_tup (Calm.calm (c := c)) (pgs_self ts) hn hst) ⟨a, vs, rfl, sameT R.sub h1, r1.length, ?_⟩
  exact h B σ H vs R r1
/-- name = e -/
theorem ws_set {p2 : Pos} (i : Nat) (hi : c.X.N[i]? = some x) (hx : L2.Loc c.X.env.scope x) (hf : c.X.fn x = true ∨ c.X.env.scope.names.lookup x = some .local) (hG : i < G.length) (hs : swapsWith e (some (.Name x p2)) pos.line c.X.env = pure false)
    (h : W c e G S fun d S1 => E.nx (G.set i (some d)) S1) : WS c (.Assign [.Name x p2] e pos) G S E := fun B σ H R => by
  refine tS_of (ps_set c.nd hi hx (pe_self e) hs hf) ?_
  exact tE_mono (h B σ H R) fun v H1 ⟨B1, d, S1, s1, R1, r1, q⟩ => ⟨B1, _, S1, s1, R1.set hG r1, q⟩
/-- target = e -/
theorem ws_asg {tg : Expr} (hs : swapsWithSole [tg] e pos.line c.X.env = pure false) (hw : swappedStores [tg] e c.X.env = pure none) (h1 : (assignEach [tg] c.X.env).map (·.2) = [assign tg c.X.env])
    (h : W c e G S fun d S1 => WG c tg d G S1 E.nx) : WS c (.Assign [tg] e pos) G S E := fun B σ H R => by
  refine tS_of (ps_asg (pe_self e) (pg_self tg) hs hw h1) ?_
  refine tE_mono (h B σ H R) fun v H1 ⟨B1, d, S1, s1, R1, r1, h2⟩ => ?_
  exact tG_mono (h2 B1 σ H1 v R1 r1) fun _ _ q => q.le s1 fun _ _ q => q
/-- a, b = e1, e2 -/
theorem ws_par [Calm c] {y : Str} {px py pt : Pos} {kt k2 : Nat} {pt2 : Pos} (i j : Nat) (hi : c.X.N[i]? = some x) (hj : c.X.N[j]? = some y) (hij : i ≠ j) (hx : c.X.env.scope.names.lookup x = some .local) (hy : c.X.env.scope.names.lookup y = some .local) (hiG : i < G.length) (hjG : j < G.length)
    (hw : swappedStores [.Tuple [.Name x px, .Name y py] kt pt] (.Tuple [a, b] k2 pt2) c.X.env = pure (some [x, y])) (hs : swapsWithSole [.Tuple [.Name x px, .Name y py] kt pt] (.Tuple [a, b] k2 pt2) pos.line c.X.env = pure false)
    (h : WA c [a, b] G S fun ds S1 => two ds fun d e => E.nx ((G.set i (some d)).set j (some e)) S1) : WS c (.Assign [.Tuple [.Name x px, .Name y py] kt pt] (.Tuple [a, b] k2 pt2) pos) G S E := fun B σ H R => by
  refine tS_of (ps_par (Calm.calm (c := c)) c.nd hi hj hij hx hy (pa_self _) hw hs) ?_
  refine tA_mono (h B σ H R) fun vs H1 ⟨B1, ds, S1, s1, R1, r1, h1⟩ => ?_
  obtain ⟨v, d, u, e, e1, q1, q2, q⟩ := two_get r1 h1
  exact ⟨v, u, e1, B1, _, S1, s1, (R1.set hiG q1).set (by rw [List.length_set]; exact hjG) q2, q⟩
def three (ds : List D) (P : D → D → D → Prop) : Prop := match ds with
  | [d, e, f] => P d e f
  | _ => False
theorem three_get {K : Frag} {B : Hp} {ds : List D} {vs : List V} {P : D → D → D → Prop} (r : Reps K B ds vs) (h : three ds P) : ∃ v d u e w f, vs = [v, u, w] ∧ Rep K B d v ∧ Rep K B e u ∧ Rep K B f w ∧ P d e f := by
  match ds, h with
  | [d, e, f], h =>
    obtain ⟨v, r2, e1, h1, u, r3, e2, h2, w, r4, e3, h3, h4⟩ := r
    cases h4
    subst e3; subst e2
    exact ⟨v, d, u, e, w, f, e1, h1, h2, h3, h⟩
theorem ws_par3 [Calm c] {y z : Str} {d : Expr} {px py pz pt : Pos} {kt k2 : Nat} {pt2 : Pos} (i j l : Nat) (hi : c.X.N[i]? = some x) (hj : c.X.N[j]? = some y) (hl : c.X.N[l]? = some z) (hij : i ≠ j) (hil : i ≠ l) (hjl : j ≠ l)
    (hx : c.X.env.scope.names.lookup x = some .local) (hy : c.X.env.scope.names.lookup y = some .local) (hz : c.X.env.scope.names.lookup z = some .local) (hiG : i < G.length) (hjG : j < G.length) (hlG : l < G.length)
    (hw : swappedStores [.Tuple [.Name x px, .Name y py, .Name z pz] kt pt] (.Tuple [a, b, d] k2 pt2) c.X.env = pure (some [x, y, z])) (hs : swapsWithSole [.Tuple [.Name x px, .Name y py, .Name z pz] kt pt] (.Tuple [a, b, d] k2 pt2) pos.line c.X.env = pure false)
    (h : WA c [a, b, d] G S fun ds S1 => three ds fun d e f => E.nx (((G.set i (some d)).set j (some e)).set l (some f)) S1) : WS c (.Assign [.Tuple [.Name x px, .Name y py, .Name z pz] kt pt] (.Tuple [a, b, d] k2 pt2) pos) G S E := fun B σ H R => by
  refine tS_of (ps_par3 (Calm.calm (c := c)) c.nd hi hj hl hij hil hjl hx hy hz (pa_self _) hw hs) ?_
  refine tA_mono (h B σ H R) fun vs H1 ⟨B1, ds, S1, s1, R1, r1, h1⟩ => ?_
  obtain ⟨v, d, u, e, w, f, e1, q1, q2, q3, q⟩ := three_get r1 h1
  exact ⟨v, u, w, e1, B1, _, S1, s1, ((R1.set hiG q1).set (by rw [List.length_set]; exact hjG) q2).set (by rw [List.length_set, List.length_set]; exact hlG) q3, q⟩
/-- xs[i] = e, xs a list that is written -/
theorem wg_sub {o i : Expr} {d : D} {Q : Loc → Sto → Prop} (ha : ∀ v, assign (.Subscript o i pos) c.X.env v = (do
      let ov ← holding [v] (eval o c.X.env)
      let iv ← holding [v, ov] (eval i c.X.env)
      standAt pos
      holding [v, ov, iv] (setItem ov iv v)
      release [v, ov, iv] []))
    (h : W c o G S fun x S1 => W c i G S1 fun y S2 => ∃ (a : Addr) (k : Nat) (ds : List D) (z : Int) (j : Nat), x = .ref a ∧ y = .int z ∧ S2[k]? = some (a, Cel.lst ds) ∧ ixN ds.length z = some j ∧ Q G (S2.set k (a, Cel.lst (ds.set j d)))) : WG c (.Subscript o i pos) d G S Q := fun B σ H v R r => by
  refine tG_of (pg_sub (pe_self o) (pe_self i) set_list ha) ?_
  refine tE_mono (h B σ H R) fun vx H1 ⟨B1, x, S1, s1, R1, r1, h1⟩ => ?_
  refine tE_mono (h1 B1 σ H1 R1) fun vy H2 ⟨B2, y, S2, s2, R2, r2, a, k, ds, z, j, e1, e2, hk, hj, q⟩ => ?_
  subst e1; subst e2
  cases r1; cases r2
  obtain ⟨_, vs, hv, rv⟩ := R2.cel (a, .lst ds) (List.mem_of_getElem? hk)
  refine ⟨a, vs, z, j, rfl, rfl, hv, by rw [rv.length]; exact hj, B2, G, _, s1.trans s2, R2.write (c' := Cel.lst (ds.set j d)) hk ⟨_, upd_same, ?_⟩, q⟩
  exact Reps.set (Rep.mono (s1.trans s2) d v r) j rv
/-! ### while -/
theorem ws_while {t : Expr} {body : List Stmt} (hp : PassesOwn (model c.X.prog c.X.w) c.X.A c.X.env c.X.xe) (Iv : Nat → Loc → Sto → Prop) (m0 : Nat) (h0 : Iv m0 G S)
    (h : ∀ m G S, Iv m G S → WT c t G S fun k S1 => (k = true → WSs c body G S1 { E with nx := fun G' S' => ∃ m', m' < m ∧ Iv m' G' S', ct := fun G' S' => ∃ m', m' < m ∧ Iv m' G' S', bk := E.nx }) ∧ (k = false → E.nx G S1)) : WS c (.While t body [] pos) G S E := fun B σ H R => by
  refine tS_of (ps_while hp (pt_self t) (pss_self body)) ?_
  refine ⟨fun m σ H => ∃ B' G S, Same B B' ∧ c.R B' G S σ H ∧ Iv m G S, ⟨m0, B, G, S, Same.refl _, R, h0⟩, fun m σ H ⟨B', G, S, s, R, hi⟩ => ?_⟩
  refine tT_mono (h m G S hi B' σ H R) fun k H1 ⟨B1, S1, s1, R1, h1⟩ => ?_
  cases k with
  | true =>
    rw [if_pos rfl]
    refine ⟨PostS c B fun G' S' => ∃ m', m' < m ∧ Iv m' G' S', fun σ' H' ⟨B2, G2, S2, s2, R2, m', hm, hi2⟩ => ⟨m', hm, B2, G2, S2, s2, R2, hi2⟩, ?_⟩
    exact tSs_mono (h1.1 rfl B1 σ H1 R1) (endsLe (s.trans s1) (fun _ _ q => q) (fun _ _ q => q) (fun _ _ q => q) fun _ _ q => q)
  | false =>
    rw [if_neg Bool.false_ne_true]
    exact ⟨B1, G, S1, s.trans s1, R1, h1.2 rfl⟩
/-! ### for -/
theorem ws_for [Calm c] {tg iter : Expr} {body : List Stmt} (hp : PassesOwn (model c.X.prog c.X.w) c.X.A c.X.env c.X.xe) (hs : ∀ x, foldedSetIterable iter c.X.env x = pure x)
    (h : WI c tg iter G S fun ds S1 => ∃ Iv : Nat → Loc → Sto → Prop, Iv 0 G S1 ∧ (∀ i d G S, ds[i]? = some d → Iv i G S → WG c tg d G S fun G2 S2 => WSs c body G2 S2 { E with nx := Iv (i + 1), ct := Iv (i + 1), bk := E.nx }) ∧ ∀ G S, Iv ds.length G S → E.nx G S) : WS c (.For tg iter body [] pos) G S E := fun B σ H R => by
  refine tS_of (ps_for hp (Calm.calm (c := c)) (pi_self tg iter) (pg_self tg) (pss_self body) hs) ?_
  refine tI_mono (h B σ H R) fun J H1 ⟨B1, ds, S1, s1, R1, y, Iv, h0, hb, he⟩ => ?_
  refine ⟨fun i m σ H => m = ds.length - i ∧ i ≤ ds.length ∧ ∃ B' G S, Same B1 B' ∧ c.R B' G S σ H ∧ Iv i G S, ⟨ds.length, by simp, Nat.zero_le _, B1, G, S1, Same.refl _, R1, h0⟩, ?_⟩
  rintro i m σ H ⟨rfl, hi, B', G', S', s', R', hI⟩
  obtain ⟨y1, y2, y3⟩ := y c.B0 B' G' S' σ H s' R' i
  by_cases hlt : i < ds.length
  · refine .inr ⟨y1 hlt, PostS c B1 (Iv (i + 1)), fun σ2 H2 ⟨B2, G2, S2, s2, R2, h2⟩ => ⟨ds.length - (i + 1), by omega, rfl, hlt, B2, G2, S2, s2, R2, h2⟩, fun x H2 hx => ?_⟩
    obtain ⟨B2, s2, R2, r2⟩ := y2 x H2 hx _ (List.getElem?_eq_getElem hlt)
    refine tG_mono (hb i _ G' S' (List.getElem?_eq_getElem hlt) hI B2 σ H2 x R2 r2) fun σ3 H3 ⟨B3, G3, S3, s3, R3, h3⟩ => ?_
    have sB : Same B1 B3 := (s'.trans s2).trans s3
    refine tSs_mono (h3 B3 σ3 H3 R3) ⟨fun _ _ q => q.le sB fun _ _ q => q, fun v H ⟨B4, d, S, s4, R4, r4, q⟩ => ⟨B4, d, S, (s1.trans sB).trans s4, R4, r4, q⟩, fun _ _ q => q.le (s1.trans sB) fun _ _ q => q, fun _ _ q => q.le sB fun _ _ q => q⟩
  · have e : i = ds.length := by omega
    subst e
    exact .inl ⟨y3 rfl, B', G', S', s1.trans s', R', he G' S' hI⟩
end
end DL
end

section
set_option autoImplicit false
set_option maxRecDepth 100000
set_option maxHeartbeats 4000000
namespace DL
open PySem PySem.Spec PyProof.Rows L2
open PySem.W (Frag)
/-! ### what is walked -/
/-- a list, a tuple, a text: by its value -/
def iSeq (K : Frag) (tl : TE) : TI := fun σ H R => tl σ H fun x H1 => (∃ a, x = .ref a ∧ (∃ xs, SqL K H1 a xs) ∧ R (Itl K a) H1) ∨ (∃ a, x = .ref a ∧ (∃ xs, SqT K H1 a xs) ∧ R (Itt K a) H1) ∨ ∃ z, x = .str z ∧ R (Its z) H1
theorem pi_seq {X : Cx} {tg l : Expr} {tl : TE} (hl : PE X l tl) : PI X tg l (iSeq X.K tl) := by
  refine ⟨fun pins s σ H R I h => ?_⟩
  refine thn (hl.run pins s σ H _ I h) fun v s1 ⟨x, H1, I1, r1, q1⟩ => ?_
  rcases q1 with ⟨a, e, hq, q⟩ | ⟨a, e, hq, q⟩ | ⟨z, e, q⟩
  · exact seq_list I1 r1 e hq q
  · exact seq_tup I1 r1 e hq q
  · exact seq_str I1 r1 e q
where
  seq_list {X : Cx} {tg : Expr} {pins : List (Addr × Obj)} {σ : L2.St} {H : Hp} {s : Shared} {R : It → Hp → Prop} {x : V} {v : Value} {a : Addr} (I : L2.Inv X pins σ H s) (r : RelV x v) (e : x = .ref a) (hq : ∃ xs, SqL X.K H a xs) (q : R (Itl X.K a) H) :
      wpAny (model X.prog X.w) X.A (pyIter v) (PIE X pins σ tg R) X.xe s := by
    subst e
    cases r
    obtain ⟨xs, hq⟩ := hq
    obtain ⟨its, rv, p, hz⟩ := I.list hq
    have hN := Nat.le_refl s.heap.objs.size
    refine wpAny_pyIter_list p.isList ⟨_, [s.heap.objs.size], _, _, H, rfl, I.kept (t' := s.toks) (fun b o e => Heap.get?_push_of_some _ e), turn_list a _, ⟨_, Heap.get?_push_size _ rfl, rfl, rfl⟩, fun b hb => ?_, q⟩
    rw [List.mem_singleton] at hb
    subst hb
    exact I.fpOk hN (I.hok.fresh hN)
  seq_tup {X : Cx} {tg : Expr} {pins : List (Addr × Obj)} {σ : L2.St} {H : Hp} {s : Shared} {R : It → Hp → Prop} {x : V} {v : Value} {a : Addr} (I : L2.Inv X pins σ H s) (r : RelV x v) (e : x = .ref a) (hq : ∃ xs, SqT X.K H a xs) (q : R (Itt X.K a) H) :
      wpAny (model X.prog X.w) X.A (pyIter v) (PIE X pins σ tg R) X.xe s := by
    subst e
    cases r
    obtain ⟨xs, hq⟩ := hq
    obtain ⟨its, rv, p, hz⟩ := I.tuple hq
    have hN := Nat.le_refl s.heap.objs.size
    refine wpAny_pyIter_tuple (show s.heap.IsTuple a its.toArray from p) ⟨_, [s.heap.objs.size], _, _, H, rfl, I.kept (t' := s.toks) (fun b o e => Heap.get?_push_of_some _ e), turn_tuple a _, ⟨_, Heap.get?_push_size _ rfl, rfl, rfl⟩, fun b hb => ?_, q⟩
    rw [List.mem_singleton] at hb
    subst hb
    exact I.fpOk hN (I.hok.fresh hN)
  seq_str {X : Cx} {tg : Expr} {pins : List (Addr × Obj)} {σ : L2.St} {H : Hp} {s : Shared} {R : It → Hp → Prop} {x : V} {v : Value} {z : Str} (I : L2.Inv X pins σ H s) (r : RelV x v) (e : x = .str z) (q : R (Its z) H) :
      wpAny (model X.prog X.w) X.A (pyIter v) (PIE X pins σ tg R) X.xe s := by
    subst e
    obtain ⟨t, rfl⟩ := r
    cases ha : z.cps.all (· < 128) with
    | false => exact wpAny_pyIter_wide ha (pi_one (tk := s.toks) I _ (turn_str _ z t "str_iterator" (.inr rfl)) ⟨_, Heap.get?_push_size _ rfl, rfl, rfl⟩ q)
    | true => exact wpAny_pyIter_ascii ha (pi_one (tk := s.toks) I _ (turn_str _ z t "str_ascii_iterator" (.inl rfl)) ⟨_, Heap.get?_push_size _ rfl, rfl, rfl⟩ q)
section
variable {c : CD} {G : Loc} {S : Sto} {e a b : Expr} {es : List Expr} {pos p : Pos} {x : Str} {tg : Expr}
/-- the signs of a text, each a text -/
def signs (z : Str) : List D := z.cps.toList.map fun k => D.str ⟨#[k]⟩
/-- what a datum gives when it is walked: it must not be written meanwhile -/
def dIter (x : D) (P : List D → Prop) : Prop := match x with
  | .lst ds => P ds
  | .slst ds => P ds
  | .tup ds => P ds
  | .str z => P (signs z)
  | _ => False
theorem yields_list {B0 : Hp} {a : Addr} {ds : List D} {vs : List V} (h : SqL c.X.K B0 a vs) (r : Reps c.X.K B0 ds vs) : Yields c B0 (Itl c.X.K a) ds := fun K0 B G S σ H s R i => by
  have hH : SqL c.X.K H a vs := R.sub.seq (s.seq h)
  refine ⟨fun hi => ?_, fun x H' y d hd => ?_, fun hi => ⟨vs, hH, by rw [r.length]; exact Nat.le_of_eq hi.symm⟩⟩
  · obtain ⟨v, hv, _⟩ := r.get (List.getElem?_eq_getElem hi)
    exact ⟨vs, v, hH, hv⟩
  · obtain ⟨e1, hy⟩ := y
    subst e1
    obtain ⟨v, hv, rv⟩ := r.get hd
    have hx := hy vs hH
    rw [hv] at hx
    cases hx
    exact ⟨B, Same.refl _, R, Rep.mono s _ _ rv⟩
theorem yields_tup {B0 : Hp} {a : Addr} {ds : List D} {vs : List V} (h : SqT c.X.K B0 a vs) (r : Reps c.X.K B0 ds vs) : Yields c B0 (Itt c.X.K a) ds := fun K0 B G S σ H s R i => by
  have hH : SqT c.X.K H a vs := sameT R.sub (sameT s h)
  refine ⟨fun hi => ?_, fun x H' y d hd => ?_, fun hi => ⟨vs, hH, by rw [r.length]; exact Nat.le_of_eq hi.symm⟩⟩
  · obtain ⟨v, hv, _⟩ := r.get (List.getElem?_eq_getElem hi)
    exact ⟨vs, v, hH, hv⟩
  · obtain ⟨e1, hy⟩ := y
    subst e1
    obtain ⟨v, hv, rv⟩ := r.get hd
    have hx := hy vs hH
    rw [hv] at hx
    cases hx
    exact ⟨B, Same.refl _, R, Rep.mono s _ _ rv⟩
theorem yields_str {B0 : Hp} {z : Str} : Yields c B0 (Its z) (signs z) := fun K0 B G S σ H s R i => by
  have hl : (signs z).length = z.cps.size := by unfold signs; rw [List.length_map, Array.length_toList]
  refine ⟨fun hi => by rw [hl] at hi; exact hi, fun x H' y d hd => ?_, fun hi => by rw [hl] at hi; exact Nat.le_of_eq hi.symm⟩
  obtain ⟨e1, k, hk, e2⟩ := y
  subst e1; subst e2
  have hd' : (signs z)[i]? = some (D.str ⟨#[k]⟩) := by
    unfold signs
    rw [List.getElem?_map, Array.getElem?_toList, hk]
    rfl
  rw [hd] at hd'
  cases hd'
  exact ⟨B, Same.refl _, R, rfl⟩
theorem wi_seq {Q : List D → Sto → Prop} (h : W c e G S fun x S1 => dIter x fun ds => Q ds S1) : WI c tg e G S Q := fun B σ H R => by
  refine tI_of (pi_seq (pe_self e)) ?_
  refine tE_mono (h B σ H R) fun v H1 ⟨B1, x, S1, s1, R1, r1, h1⟩ => ?_
  cases x <;> first | exact False.elim h1 | skip
  case lst ds =>
    obtain ⟨a, vs, e1, h2, r2⟩ := r1
    exact .inl ⟨a, e1, ⟨vs, .of (R1.sub _ _ h2)⟩, B1, ds, S1, s1, R1, yields_list (.of h2) r2, h1⟩
  case slst ds =>
    obtain ⟨a, vs, e1, h2, r2⟩ := r1
    exact .inl ⟨a, e1, ⟨vs, R1.sub.seq h2⟩, B1, ds, S1, s1, R1, yields_list h2 r2, h1⟩
  case tup ds =>
    obtain ⟨a, vs, e1, h2, r2⟩ := r1
    exact .inr (.inl ⟨a, e1, ⟨vs, sameT R1.sub h2⟩, B1, ds, S1, s1, R1, yields_tup h2 r2, h1⟩)
  case str z =>
    cases r1
    exact .inr (.inr ⟨z, rfl, B1, signs z, S1, s1, R1, yields_str, h1⟩)
/-- lo, lo + 1, .. -/
def span (lo : Int) (n : Nat) : List D := (List.range n).map fun (k : Nat) => D.int (lo + (k : Int))
theorem span_len (lo : Int) (n : Nat) : (span lo n).length = n := by unfold span; rw [List.length_map, List.length_range]
theorem span_get {lo : Int} {n i : Nat} (h : i < n) : (span lo n)[i]? = some (D.int (lo + (i : Int))) := by
  unfold span
  rw [List.getElem?_map, List.getElem?_range h]
  rfl
theorem yields_range {B0 : Hp} {lo : Int} {n : Nat} : Yields c B0 (Itr lo n) (span lo n) := fun K0 B G S σ H s R i => by
  refine ⟨fun hi => by rw [span_len] at hi; exact hi, fun x H' y d hd => ?_, fun hi => by rw [span_len] at hi; exact Nat.le_of_eq hi.symm⟩
  obtain ⟨e1, e2⟩ := y
  subst e1; subst e2
  have hi : i < n := by
    have := (List.getElem?_eq_some_iff.mp hd).1
    rw [span_len] at this
    exact this
  rw [span_get hi] at hd
  cases hd
  exact ⟨B, Same.refl _, R, rfl⟩
def smallI (i : Int) : Prop := -(2 ^ 62) ≤ i ∧ i < 2 ^ 62
theorem wi_range1 {Q : List D → Sto → Prop} (hg : Gl c.X "range") (hm : c.X.mg "range" = none) (hs : starEach [a] c.X.env = [(false, eval a c.X.env)]) (h : WA c [a] G S fun ds S1 => one ds fun x => ∃ j, x = .int j ∧ smallI j ∧ Q (span 0 j.toNat) S1) : WI c tg (.Call (.Name "range" p) [a] [] pos) G S Q := fun B σ H R => by
  refine tI_of (pi_range1 hg hm (pa_self _) hs) ?_
  refine tA_mono (h B σ H R) fun vs H1 ⟨B1, ds, S1, s1, R1, r1, h1⟩ => ?_
  obtain ⟨v, d, e1, r2, j, e2, hj, q⟩ := one_get r1 h1
  subst e2
  cases r2
  exact ⟨j, e1, hj.1, hj.2, B1, _, S1, s1, R1, yields_range, q⟩
theorem wi_range2 {Q : List D → Sto → Prop} (hg : Gl c.X "range") (hm : c.X.mg "range" = none) (hs : starEach [a, b] c.X.env = [(false, eval a c.X.env), (false, eval b c.X.env)]) (hs2 : starEach [b] c.X.env = [(false, eval b c.X.env)])
    (h : WA c [a, b] G S fun ds S1 => two ds fun x y => ∃ i j, x = .int i ∧ y = .int j ∧ smallI i ∧ smallI j ∧ Q (span i (j - i).toNat) S1) : WI c tg (.Call (.Name "range" p) [a, b] [] pos) G S Q := fun B σ H R => by
  refine tI_of (pi_range2 hg hm (pa_self _) hs hs2) ?_
  refine tA_mono (h B σ H R) fun vs H1 ⟨B1, ds, S1, s1, R1, r1, h1⟩ => ?_
  obtain ⟨v, d, u, d2, e1, r2, r3, i, j, e2, e3, hi, hj, q⟩ := two_get r1 h1
  subst e2; subst e3
  cases r2; cases r3
  exact ⟨i, j, e1, ⟨hi.1, hi.2, hj.1, hj.2⟩, B1, _, S1, s1, R1, yields_range, q⟩
/-- pairs of a place and what stands there -/
def enumD (ds : List D) : List D := (List.range ds.length).map fun (k : Nat) => D.tup [.int (k : Int), ds.getD k .non]
theorem enum_len (ds : List D) : (enumD ds).length = ds.length := by unfold enumD; rw [List.length_map, List.length_range]
theorem enum_get {ds : List D} {i : Nat} {d : D} (h : ds[i]? = some d) : (enumD ds)[i]? = some (D.tup [.int (i : Int), d]) := by
  have hi : i < ds.length := (List.getElem?_eq_some_iff.mp h).1
  unfold enumD
  rw [List.getElem?_map, List.getElem?_range hi]
  show some (D.tup [.int (i : Int), ds.getD i .non]) = _
  rw [List.getD_eq_getElem?_getD, h]
  rfl
/-- a new pair at T -/
theorem pair_ok {K0 B : Hp} {G : Loc} {S : Sto} {σ : L2.St} {H : Hp} {T : Addr} {u w : V} {d e : D} (R : Rel c.X.K K0 B G S σ H) (hT : H T = none) (ru : Rep c.X.K B d u) (rw' : Rep c.X.K B e w) :
    ∃ B', Same B B' ∧ Rel c.X.K K0 B' G S σ (upd H T (.tup [u, w])) ∧ Rep c.X.K B' (.tup [d, e]) (.ref T) := by
  have hb := R.bnone hT
  have s := same_upd (o := HO.tup [u, w]) hb
  exact ⟨_, s, R.laid hT, T, [u, w], rfl, .of upd_same, u, [w], rfl, Rep.mono s _ _ ru, w, [], rfl, Rep.mono s _ _ rw', rfl⟩
theorem yields_enum {B0 : Hp} {a : Addr} {ds : List D} {vs : List V} (h : SqL c.X.K B0 a vs) (r : Reps c.X.K B0 ds vs) : Yields c B0 (Ite c.X.K a) (enumD ds) := fun K0 B G S σ H s R i => by
  have hH : SqL c.X.K H a vs := R.sub.seq (s.seq h)
  refine ⟨fun hi => ?_, fun x H' y d hd => ?_, fun hi => ⟨vs, hH, by rw [r.length]; rw [enum_len] at hi; exact Nat.le_of_eq hi.symm⟩⟩
  · rw [enum_len] at hi
    obtain ⟨v, hv, _⟩ := r.get (List.getElem?_eq_getElem hi)
    exact ⟨vs, v, hH, hv⟩
  · obtain ⟨T, z, e1, hT, e2, hy⟩ := y
    subst e1; subst e2
    have hz := hy vs hH
    obtain ⟨d0, hd0, rz⟩ := r.get' hz
    rw [enum_get hd0] at hd
    cases hd
    exact pair_ok R hT rfl (Rep.mono s _ _ rz)
theorem wi_enum {ts : List Expr} {j : Nat} {p2 : Pos} {Q : List D → Sto → Prop} (hg : Gl c.X "enumerate") (hm : c.X.mg "enumerate" = none) (hs : starEach [a] c.X.env = [(false, eval a c.X.env)])
    (h : WA c [a] G S fun ds S1 => one ds fun x => match x with | .lst ds => Q (enumD ds) S1 | .slst ds => Q (enumD ds) S1 | _ => False) : WI c (.Tuple ts j p2) (.Call (.Name "enumerate" p) [a] [] pos) G S Q := fun B σ H R => by
  refine tI_of (pi_enum hg hm (pa_self _) hs) ?_
  refine tA_mono (h B σ H R) fun vs H1 ⟨B1, ds, S1, s1, R1, r1, h1⟩ => ?_
  obtain ⟨v, x, e1, r2, h1⟩ := one_get r1 h1
  subst e1
  cases x <;> first | exact False.elim h1 | skip
  case lst ds =>
    obtain ⟨a, vs, e1, h2, r3⟩ := r2
    subst e1
    exact ⟨a, vs, rfl, .of (R1.sub _ _ h2), B1, _, S1, s1, R1, yields_enum (.of h2) r3, h1⟩
  case slst ds =>
    obtain ⟨a, vs, e1, h2, r3⟩ := r2
    subst e1
    exact ⟨a, vs, rfl, R1.sub.seq h2, B1, _, S1, s1, R1, yields_enum h2 r3, h1⟩

/-! ### comprehensions -/
/-- the block of a comprehension as a context -/
def blkC (c : CD) (scope : Scope) (s : Shared) (H : Hp) (C : Addr) (cl : List (Str × Addr)) (fp : List Addr) : CD where
  X := c.X.blk s H scope (compEnvC scope cl C c.X.env) fp
  B0 := c.B0
  EX := fun _ _ _ _ => False
  k := c.k
  tk := fun u s' x => by
    obtain ⟨_, _, _, _, _, _, _, _, _, _, _, _, _, _, _, _, z⟩ := x
    obtain ⟨_, _, _, _, _, _, _, _, _, z⟩ := z
    exact z
  hr := c.hr
  nd := c.nd
instance calm_blk {c : CD} [q : Calm c] {scope : Scope} {s : Shared} {H : Hp} {C : Addr} {cl : List (Str × Addr)} {fp : List Addr} : Calm (blkC c scope s H C cl fp) := ⟨q.calm, q.hd⟩
def wipeG (G : Loc) : List Nat → Loc
  | [] => G
  | v :: vs => (wipeG G vs).set v none
theorem wipeG_len (G : Loc) : ∀ vs, (wipeG G vs).length = G.length
  | [] => rfl
  | v :: vs => by unfold wipeG; rw [List.length_set, wipeG_len G vs]
theorem wipeG_some {G : Loc} {i : Nat} {d : D} : ∀ {vs : List Nat}, (wipeG G vs)[i]? = some (some d) → G[i]? = some (some d) ∧ i ∉ vs
  | [], h => ⟨h, by simp⟩
  | v :: vs, h => by
    unfold wipeG at h
    by_cases hi : v = i
    · subst hi
      by_cases hv : v < (wipeG G vs).length
      · rw [List.getElem?_set_self hv] at h; cases h
      · rw [List.getElem?_eq_none (by simpa using hv)] at h; cases h
    · rw [List.getElem?_set_ne hi] at h
      obtain ⟨h1, h2⟩ := wipeG_some h
      exact ⟨h1, by simp only [List.mem_cons, not_or]; exact ⟨fun e => hi e.symm, h2⟩⟩
theorem wipe_keep {σ : L2.St} {i : Nat} : ∀ {vs : List Nat}, i ∉ vs → (wipe σ vs)[i]? = σ[i]?
  | [], _ => rfl
  | v :: vs, h => by
    unfold wipe
    have h1 : v ≠ i := fun e => h (by rw [e]; exact List.mem_cons_self)
    rw [List.getElem?_set_ne h1]
    exact wipe_keep fun z => h (List.mem_cons_of_mem _ z)
theorem Rel.wiped {K : Frag} {B0 B : Hp} {G : Loc} {S : Sto} {σ : L2.St} {H : Hp} (R : Rel K B0 B G S σ H) (vs : List Nat) : Rel K B0 B (wipeG G vs) S (wipe σ vs) H :=
  ⟨R.toRelH, by rw [wipe_length, wipeG_len]; exact R.len, fun i d h => by
    obtain ⟨h1, h2⟩ := wipeG_some h
    rw [wipe_keep h2]
    exact R.loc i d h1⟩
theorem wipe_set {σ : L2.St} {i : Nat} {x : Option V} : ∀ {vs : List Nat}, i ∈ vs → wipe (σ.set i x) vs = wipe σ vs
  | [], h => by simp at h
  | v :: vs, h => by
    unfold wipe
    by_cases hm : i ∈ vs
    · rw [wipe_set hm]
    · have e : i = v := by
        rcases List.mem_cons.mp h with e | e
        · exact e
        · exact absurd e hm
      subst e
      apply List.ext_getElem?
      intro j
      by_cases hj : i = j
      · subst hj
        by_cases hl : i < σ.length
        · rw [List.getElem?_set_self (by rw [wipe_length, List.length_set]; exact hl), List.getElem?_set_self (by rw [wipe_length]; exact hl)]
        · rw [List.getElem?_eq_none (by rw [List.length_set, wipe_length, List.length_set]; omega), List.getElem?_eq_none (by rw [List.length_set, wipe_length]; omega)]
      · rw [List.getElem?_set_ne hj, List.getElem?_set_ne hj]
        exact wipe_other hj hm
where
  wipe_other {σ : L2.St} {i j : Nat} {x : Option V} (hj : i ≠ j) : ∀ {vs : List Nat}, i ∉ vs → (wipe (σ.set i x) vs)[j]? = (wipe σ vs)[j]?
    | [], _ => by
      unfold wipe
      rw [List.getElem?_set_ne hj]
    | v :: vs, h => by
      unfold wipe
      by_cases hv : v = j
      · subst hv
        by_cases hl : v < σ.length
        · rw [List.getElem?_set_self (by rw [wipe_length, List.length_set]; exact hl), List.getElem?_set_self (by rw [wipe_length]; exact hl)]
        · rw [List.getElem?_eq_none (by rw [List.length_set, wipe_length, List.length_set]; omega), List.getElem?_eq_none (by rw [List.length_set, wipe_length]; omega)]
      · rw [List.getElem?_set_ne hv, List.getElem?_set_ne hv]
        exact wipe_other hj fun z => h (List.mem_cons_of_mem _ z)
/-- the block's tests, elements: whatever block it is -/
def tEB (c : CD) (scope : Scope) (e : Expr) : TE := fun σ H Q => ∀ s H0 C cl fp, tE (blkC c scope s H0 C cl fp).X e σ H Q
def tTB (c : CD) (scope : Scope) (e : Expr) : TT := fun σ H Q => ∀ s H0 C cl fp, tT (blkC c scope s H0 C cl fp).X e σ H Q
def tTsB (c : CD) (scope : Scope) (ifs : List Expr) : TT := match ifs with
  | [] => tYes
  | [t] => tTB c scope t
  | _ => fun _ _ _ => False
theorem pts_all {scope : Scope} {s : Shared} {H0 : Hp} {C : Addr} {cl : List (Str × Addr)} {fp : List Addr} : ∀ ifs, PTs (blkC c scope s H0 C cl fp).X ifs (tTsB c scope ifs)
  | [] => pts_nil
  | [t] => pts_one ⟨fun pins s' σ H Q I h => h s H0 C cl fp pins s' I⟩
  | _ :: _ :: _ => ⟨fun _ _ _ _ _ _ h => False.elim h⟩
def WTsB (c : CD) (scope : Scope) (ifs : List Expr) (G : Loc) (S : Sto) (Q : Bool → Sto → Prop) : Prop := match ifs with
  | [] => Q true S
  | [t] => ∀ s H0 C cl fp, WT (blkC c scope s H0 C cl fp) t G S Q
  | _ => False
/-- a target of a comprehension: how it stores -/
def BindOk (c : CD) (scope : Scope) (tg : Expr) (own : List (Str × Nat)) (bind : D → Loc → (Loc → Prop) → Prop) : Prop := (∀ d G P P', bind d G P → (∀ G2, P G2 → P' G2) → bind d G P') ∧ ∃ g : TG, (∀ s H0 C cl fp, PG (blkC c scope s H0 C cl fp).X tg g) ∧
  ∀ (B : Hp) (d : D) (v : V) (G : Loc) (S : Sto) (σ : L2.St) (H : Hp) (Q : L2.St → Hp → Prop) (P : Loc → Prop), Rel c.X.K c.B0 B G S σ H → Rep c.X.K B d v → bind d G P → (∀ G2 σ2, Rel c.X.K c.B0 B G2 S σ2 H → wipe σ2 (own.map (·.2)) = wipe σ (own.map (·.2)) → P G2 → Q σ2 H) → g v σ H Q
/-- a slot that is there -/
def inG (G : Loc) (i : Nat) (P : Prop) : Prop := match G[i]? with
  | some _ => P
  | none => False
theorem inG_get {G : Loc} {i : Nat} {P : Prop} (h : inG G i P) : i < G.length ∧ P := by
  unfold inG at h
  split at h
  · rename_i e
    exact ⟨(List.getElem?_eq_some_iff.mp e).1, h⟩
  · exact False.elim h
theorem inG_of {G : Loc} {i : Nat} {P : Prop} (hi : i < G.length) (h : P) : inG G i P := by
  unfold inG
  rw [List.getElem?_eq_getElem hi]
  exact h
theorem inG_mono {G : Loc} {i : Nat} {P P' : Prop} (h : inG G i P) (k : P → P') : inG G i P' := by
  obtain ⟨h1, h2⟩ := inG_get h
  exact inG_of h1 (k h2)
@[reducible] def bind1 (i : Nat) (d : D) (G : Loc) (P : Loc → Prop) : Prop := inG G i (P (G.set i (some d)))
@[reducible] def bind2 (i j : Nat) (d : D) (G : Loc) (P : Loc → Prop) : Prop := match d with
  | .tup [x, y] => inG G i (inG G j (P ((G.set i (some x)).set j (some y))))
  | _ => False
theorem bind2_mono {i j : Nat} {d : D} {G : Loc} {P P' : Loc → Prop} (h : bind2 i j d G P) (k : ∀ G2, P G2 → P' G2) : bind2 i j d G P' := by
  unfold bind2 at h ⊢
  split at h
  · exact inG_mono h fun h => inG_mono h (k _)
  · exact False.elim h
theorem bind_name' {scope : Scope} {own : List (Str × Nat)} (i : Nat) (hi : c.X.N[i]? = some x) (hx : L2.Loc (relS scope c.X.env.scope) x) (hf : (scope.names.lookup x == some .cell) = true ∨ (relS scope c.X.env.scope).names.lookup x = some .local) (ho : i ∈ own.map (·.2)) : BindOk c scope (.Name x pos) own (bind1 i) := by
  refine ⟨fun d G P P' h k => inG_mono h (k _), gName i, fun s H0 C cl fp => pg_name c.nd hi hx hf, fun B d v G S σ H Q P R r h k => ?_⟩
  obtain ⟨h1, h2⟩ := inG_get h
  exact k _ _ (R.set h1 r) (wipe_set ho) h2
theorem bind_pair' [Calm c] {scope : Scope} {own : List (Str × Nat)} {y : Str} {p1 p2 : Pos} {k : Nat} (i j : Nat) (hi : c.X.N[i]? = some x) (hj : c.X.N[j]? = some y) (hx : L2.Loc (relS scope c.X.env.scope) x) (hy : L2.Loc (relS scope c.X.env.scope) y)
    (hf : (scope.names.lookup x == some .cell) = true ∨ (relS scope c.X.env.scope).names.lookup x = some .local) (hf2 : (scope.names.lookup y == some .cell) = true ∨ (relS scope c.X.env.scope).names.lookup y = some .local)
    (ho : i ∈ own.map (·.2)) (ho2 : j ∈ own.map (·.2)) : BindOk c scope (.Tuple [.Name x p1, .Name y p2] k pos) own (bind2 i j) := by
  refine ⟨fun d G P P' h k => bind2_mono h k, gTup c.X.K 2 (gCons (gName i) (gCons (gName j) gNil)), fun s H0 C cl fp => pg_tup (X := (blkC c scope s H0 C cl fp).X) (Calm.calm (c := c)) (pgs_cons (pg_name c.nd hi hx hf) (pgs_cons (pg_name c.nd hj hy hf2) pgs_nil)), fun B d v G S σ H Q P R r h k => ?_⟩
  match d, h with
  | .tup [d1, d2], h =>
    obtain ⟨h1, h⟩ := inG_get h
    obtain ⟨h2, h⟩ := inG_get h
    obtain ⟨a, vs, e1, hq, v1, r2, e2, r1, v2, r3, e3, r4, e4⟩ := r
    subst e4; subst e3; subst e2; subst e1
    exact ⟨a, _, rfl, sameT R.sub hq, rfl, v1, _, rfl, v2, _, rfl, rfl, k _ _ ((R.set h1 r1).set (by rw [List.length_set]; exact h2) r4) (by rw [wipe_set ho2, wipe_set ho]) h⟩
/-- the reading of a comprehension -/
theorem lc_read {elt iter : Expr} {ifs : List Expr} {scope : Scope} {own : List (Str × Nat)} {bind : D → Loc → (Loc → Prop) → Prop} {g : TG} {Q : QD} {B : Hp} {σ : L2.St} {H : Hp} (R : c.R B G S σ H)
    (hg : ∀ (B : Hp) (d : D) (v : V) (G : Loc) (S : Sto) (σ : L2.St) (H : Hp) (Q : L2.St → Hp → Prop) (P : Loc → Prop), Rel c.X.K c.B0 B G S σ H → Rep c.X.K B d v → bind d G P → (∀ G2 σ2, Rel c.X.K c.B0 B G2 S σ2 H → wipe σ2 (own.map (·.2)) = wipe σ (own.map (·.2)) → P G2 → Q σ2 H) → g v σ H Q)
    (h : WI c tg iter G S fun ds S1 => ∃ Iv : Nat → List D → Sto → Prop, Iv 0 [] S1 ∧
      (∀ i d acc S p, ds[i]? = some d → Iv i acc S → bind d (wipeG G (own.map (·.2))) fun G2 => WTsB c scope ifs G2 ((p, .lst acc) :: S) fun k S2 => ∃ S3, S2 = (p, .lst acc) :: S3 ∧ (k = true → ∀ s H0 C cl fp, W (blkC c scope s H0 C cl fp) elt G2 S2 fun y S4 => ∃ S5, S4 = (p, .lst acc) :: S5 ∧ acc.length < sizeLine ∧ Iv (i + 1) (acc ++ [y]) S5) ∧ (k = false → Iv (i + 1) acc S3)) ∧
      ∀ acc S, Iv ds.length acc S → mk acc S Q) :
    tLc (tI c.X tg iter) g (tTsB c scope ifs) (tEB c scope elt) (own.map (·.2)) σ H (Post c B G σ Q) := by
  refine tI_mono (h B σ H R) fun J H1 ⟨B1, ds, S1, s1, R1, y, Iv, h0, hb, he⟩ => ?_
  intro Dd hD
  -- the state between turns
  let Wd : Nat → Hp → Prop := fun i H => ∃ B' acc S, Same B1 B' ∧ c.R B' G ((Dd, .lst acc) :: S) σ H ∧ Iv i acc S
  have w0 : Wd 0 (upd H1 Dd (.lst [])) := ⟨B1, [], S1, Same.refl _, R1.cell (c := Cel.lst []) hD ⟨[], upd_same, rfl⟩, h0⟩
  refine ⟨fun i m H => m = ds.length - i ∧ i ≤ ds.length ∧ Wd i H, ⟨ds.length, by simp, Nat.zero_le _, w0⟩, ?_⟩
  rintro i m H ⟨rfl, hi, B', acc, S', s', R', hI⟩
  obtain ⟨y1, y2, y3⟩ := y c.B0 B' G ((Dd, .lst acc) :: S') σ H s' R' i
  by_cases hlt : i < ds.length
  · refine .inr ⟨y1 hlt, Wd (i + 1), fun H2 h2 => ⟨ds.length - (i + 1), by omega, rfl, hlt, h2⟩, fun x H2 hx => ?_⟩
    obtain ⟨B2, s2, R2, r2⟩ := y2 x H2 hx _ (List.getElem?_eq_getElem hlt)
    refine hg B2 _ x (wipeG G (own.map (·.2))) _ (wipe σ (own.map (·.2))) H2 _ _ (R2.wiped _) r2 (hb i _ acc S' Dd (List.getElem?_eq_getElem hlt) hI) fun G2 σ2 R3 hw h3 => ?_
    have hww : wipe (wipe σ (own.map (·.2))) (own.map (·.2)) = wipe σ (own.map (·.2)) := wipe_wipe _ _
    refine ⟨hw.trans hww, ?_⟩
    -- back to the frame as it is
    have back : ∀ {B4 : Hp} {S4 : Sto} {H4 : Hp}, Same B2 B4 → RelH c.X.K c.B0 B4 S4 H4 → c.R B4 G S4 σ H4 := fun {B4 S4 H4} s4 R4 => R2.up s4 R4
    have fin : ∀ {B4 : Hp} {H4 : Hp} {acc' : List D} {S5 : Sto}, Same B2 B4 → RelH c.X.K c.B0 B4 ((Dd, .lst acc') :: S5) H4 → Iv (i + 1) acc' S5 → Wd (i + 1) H4 := fun {B4 H4 acc' S5} s4 R4 hI => ⟨B4, acc', S5, (s'.trans s2).trans s4, back s4 R4, hI⟩
    have elem : ∀ {B4 : Hp} {S4 : Sto} {H4 : Hp}, Same B2 B4 → Rel c.X.K c.B0 B4 G2 S4 σ2 H4 → (∀ s H0 C cl fp, W (blkC c scope s H0 C cl fp) elt G2 S4 fun y S4 => ∃ S5, S4 = (Dd, .lst acc) :: S5 ∧ acc.length < sizeLine ∧ Iv (i + 1) (acc ++ [y]) S5) →
        tEB c scope elt σ2 H4 fun y H5 => ∃ acc, H5 Dd = some (.lst acc) ∧ acc.length < sizeLine ∧ Wd (i + 1) (upd H5 Dd (.lst (acc ++ [y]))) := fun {B4 S4 H4} s4 R4 hW s H0 C cl fp => by
      refine tE_mono (hW s H0 C cl fp B4 σ2 H4 R4) fun v H5 ⟨B5, d5, S5, s5, R5, r5, S6, e6, hz, hI5⟩ => ?_
      subst e6
      obtain ⟨_, vs, hv, rv⟩ := R5.cel (Dd, .lst acc) List.mem_cons_self
      have R6 : RelH c.X.K c.B0 B5 ((Dd, .lst acc) :: S6) H5 := R5.toRelH
      refine ⟨vs, hv, by rw [Reps.length rv]; exact hz, fin (s4.trans s5) (R6.write (k := 0) (c' := Cel.lst (acc ++ [d5])) rfl ⟨_, upd_same, Reps.append rv ⟨v, [], rfl, r5, rfl⟩⟩) hI5⟩
    have go : ∀ {B4 : Hp} {S4 : Sto} {H4 : Hp} (k : Bool), Same B2 B4 → Rel c.X.K c.B0 B4 G2 S4 σ2 H4 → (∃ S3, S4 = (Dd, .lst acc) :: S3 ∧ (k = true → ∀ s H0 C cl fp, W (blkC c scope s H0 C cl fp) elt G2 S4 fun y S4 => ∃ S5, S4 = (Dd, .lst acc) :: S5 ∧ acc.length < sizeLine ∧ Iv (i + 1) (acc ++ [y]) S5) ∧ (k = false → Iv (i + 1) acc S3)) →
        if k = true then tEB c scope elt σ2 H4 (fun y H5 => ∃ acc, H5 Dd = some (.lst acc) ∧ acc.length < sizeLine ∧ Wd (i + 1) (upd H5 Dd (.lst (acc ++ [y])))) else Wd (i + 1) H4 := fun {B4 S4 H4} k s4 R4 ⟨S3, e3, h1, h2⟩ => by
      cases k with
      | true =>
        rw [if_pos rfl]
        exact elem s4 R4 (h1 rfl)
      | false =>
        rw [if_neg Bool.false_ne_true]
        subst e3
        exact fin s4 R4.toRelH (h2 rfl)
    match ifs, h3 with
    | [], h3 => exact go true (Same.refl _) R3 h3
    | [t], h3 =>
      intro s H0 C cl fp
      refine tT_mono (h3 s H0 C cl fp B2 σ2 H2 R3) fun k H4 ⟨B4, S4, s4, R4, h4⟩ => go k s4 R4 h4
  · have e : i = ds.length := by omega
    subst e
    refine .inl ⟨y3 rfl, ?_⟩
    have hmk := he acc S' hI
    rcases hmk with hq | hq
    · obtain ⟨B6, s6, R6, r6⟩ := R'.toRelH.freeze (k := 0) (a := Dd) (ds := acc) rfl
      exact ⟨B6, .lst acc, S', (s1.trans s').trans s6, R'.up s6 R6, r6, hq⟩
    · exact ⟨B', .ref Dd, _, s1.trans s', R', rfl, hq Dd⟩
where
  wipe_wipe (σ : L2.St) : ∀ vs : List Nat, wipe (wipe σ vs) vs = wipe σ vs := fun vs => by
    apply List.ext_getElem?
    intro j
    by_cases hj : j ∈ vs
    · exact none_both σ hj
    · rw [wipe_keep hj]
  none_both (σ : L2.St) {j : Nat} : ∀ {vs : List Nat}, j ∈ vs → (wipe (wipe σ vs) vs)[j]? = (wipe σ vs)[j]? := fun {vs} hj => by
    rw [wiped_at (wipe σ vs) hj, wiped_at σ hj, wipe_length]
  wiped_at (σ : L2.St) {j : Nat} : ∀ {vs : List Nat}, j ∈ vs → (wipe σ vs)[j]? = if j < σ.length then some none else none
    | [], h => by simp at h
    | v :: vs, h => by
      unfold wipe
      by_cases hv : v = j
      · subst hv
        by_cases hl : v < σ.length
        · rw [List.getElem?_set_self (by rw [wipe_length]; exact hl), if_pos hl]
        · rw [List.getElem?_eq_none (by rw [List.length_set, wipe_length]; omega), if_neg hl]
      · rw [List.getElem?_set_ne hv]
        rcases List.mem_cons.mp h with e | e
        · exact absurd e.symm hv
        · exact wiped_at σ e
/-- what a comprehension asks -/
def LcAsk (c : CD) (G : Loc) (scope : Scope) (own : List (Str × Nat)) (ifs : List Expr) (elt : Expr) (bind : D → Loc → (Loc → Prop) → Prop) (Q : QD) (ds : List D) (S1 : Sto) : Prop := ∃ Iv : Nat → List D → Sto → Prop, Iv 0 [] S1 ∧
      (∀ i d acc S p, ds[i]? = some d → Iv i acc S → bind d (wipeG G (own.map (·.2))) fun G2 => WTsB c scope ifs G2 ((p, .lst acc) :: S) fun k S2 => ∃ S3, S2 = (p, .lst acc) :: S3 ∧ (k = true → ∀ s H0 C cl fp, W (blkC c scope s H0 C cl fp) elt G2 S2 fun y S4 => ∃ S5, S4 = (p, .lst acc) :: S5 ∧ acc.length < sizeLine ∧ Iv (i + 1) (acc ++ [y]) S5) ∧ (k = false → Iv (i + 1) acc S3)) ∧
      ∀ acc S, Iv ds.length acc S → mk acc S Q
theorem w_lc [Calm c] {elt iter : Expr} {ifs : List Expr} {scope : Scope} {bind : D → Loc → (Loc → Prop) → Prop} {Q : QD} (own : List (Str × Nat)) (ok : BlkOk c.X.N c.X.env.scope scope own) (hb : BindOk c scope tg own bind) (hs : ∀ x, foldedSetIterable iter c.X.env x = pure x)
    (h : WI c tg iter G S fun ds S1 => LcAsk c G scope own ifs elt bind Q ds S1) : W c (.ListComp elt [⟨tg, iter, ifs, 0⟩] scope pos) G S Q := fun B σ H R => by
  obtain ⟨_, g, pg, hg⟩ := hb
  exact tE_of (pe_lc (Calm.calm (c := c)) c.nd (pi_self tg iter) ok pg (fun s H0 C cl fp => pts_all (c := c) (s := s) (H0 := H0) (C := C) (cl := cl) (fp := fp) ifs) (fun s H0 C cl fp => (⟨fun pins s' σ H Q I h => h s H0 C cl fp pins s' I⟩ : PE _ elt (tEB c scope elt))) hs) (lc_read R hg h)
theorem lc_mono {g : TG} {tt : TT} {te : TE} {vs : List Nat} {iter : Expr} {σ : L2.St} {H : Hp} {Q Q' : VK} (h : tLc (tI c.X tg iter) g tt te vs σ H Q) (k : ∀ v H1, Q v H1 → Q' v H1) : tLc (tI c.X tg iter) g tt te vs σ H Q' :=
  tI_mono h fun J H1 h1 Dd hD => by
    obtain ⟨Wd, w0, f⟩ := h1 Dd hD
    exact ⟨Wd, w0, fun i m H w => (f i m H w).imp (fun ⟨p1, p2⟩ => ⟨p1, k _ _ p2⟩) id⟩
theorem ws_setLc [Calm c] {elt iter : Expr} {ifs : List Expr} {scope : Scope} {bind : D → Loc → (Loc → Prop) → Prop} {E : DE} {py spos : Pos} (i : Nat) (own : List (Str × Nat)) (hi : c.X.N[i]? = some x) (hx : c.X.env.scope.names.lookup x = some .local) (hG : i < G.length)
    (hsw : swapsWith (.ListComp elt [⟨tg, iter, ifs, 0⟩] scope pos) (some (.Name x py)) spos.line c.X.env = pure true) (ok : BlkOk c.X.N c.X.env.scope scope own) (hb : BindOk c scope tg own bind) (hs : ∀ x, foldedSetIterable iter c.X.env x = pure x)
    (h : WI c tg iter G S fun ds S1 => LcAsk c G scope own ifs elt bind (fun d S2 => E.nx (G.set i (some d)) S2) ds S1) : WS c (.Assign [.Name x py] (.ListComp elt [⟨tg, iter, ifs, 0⟩] scope pos) spos) G S E := fun B σ H R => by
  obtain ⟨_, g, pg, hg⟩ := hb
  refine tS_of (ps_setLc (Calm.calm (c := c)) c.nd hi hx hsw (pi_self tg iter) ok pg (fun s H0 C cl fp => pts_all (c := c) (s := s) (H0 := H0) (C := C) (cl := cl) (fp := fp) ifs) (fun s H0 C cl fp => (⟨fun pins s' σ H Q I h => h s H0 C cl fp pins s' I⟩ : PE _ elt (tEB c scope elt))) hs) ?_
  refine lc_mono (lc_read R hg h) fun v H1 ⟨B1, d, S1, s1, R1, r1, q⟩ => ⟨B1, _, S1, s1, R1.set hG r1, q⟩
end
end DL
end

section
set_option autoImplicit false
set_option maxRecDepth 100000
set_option maxHeartbeats 4000000
namespace DL
open PySem PySem.Spec PyProof.Rows L2
open PySem.W (Frag)
/-- a def's body as a context -/
def bodyC (m : Mo) (N : List Str) (qual : Str) (scope : Scope) (f : Addr) (cdv : Value) (A : Around) (outer : List Env) (s : Shared) (H B : Hp) (E : XK) (EX : EXT) (k : Nat) (hE : ∀ cls d H', XD m.K B EX cls d H' → E cls d H')
    (hr : Room k (A.deeper (envOfC qual scope s.heap.objs.size f cdv))) (nd : N.Nodup) : CD where
  X := cxOf (L2.CX m.P m.w) m.P m.w m.K m.mg m.base N qual scope f cdv A outer s H E
  B0 := B
  EX := fun _ => EX
  k := k
  tk := (takes_of (X := cxOf (L2.CX m.P m.w) m.P m.w m.K m.mg m.base N qual scope f cdv A outer s H E) rfl rfl rfl rfl).imp fun cls d σ H' h => hE cls d H' (by
    obtain ⟨n, C, fs, S, B', G, cn, e, h1, q⟩ := h
    refine ⟨n, C, fs, S, B', cn, e, ?_, q⟩
    rcases h1 with ⟨e1, e2, R⟩ | ⟨dd, e1, ne, R⟩
    · exact .inl ⟨e1, e2, R.toRelH⟩
    · exact .inr ⟨dd, e1, ne, R.toRelH⟩)
  hr := ⟨hr.dp, hr.un⟩
  nd := nd
instance calm_body {m : Mo} {N : List Str} {qual : Str} {scope : Scope} {f : Addr} {cdv : Value} {A : Around} {outer : List Env} {s : Shared} {H B : Hp} {E : XK} {EX : EXT} {k : Nat} {hE} {hr} {nd} : Calm (bodyC m N qual scope f cdv A outer s H B E EX k hE hr nd) := ⟨rfl, hr.hd⟩
def startG (N : List Str) (ds : List D) : Loc := ds.map some ++ List.replicate (N.length - ds.length) none
theorem start_rel {K : Frag} {B H : Hp} {S : Sto} {N : List Str} {ds : List D} {vs : List V} (R : RelH K B B S H) (r : Reps K B ds vs) : Rel K B B (startG N ds) S (L2.start N vs) H := by
  have hl := r.length
  refine ⟨R, ?_, fun i d h => ?_⟩
  · unfold L2.start startG
    rw [List.length_append, List.length_append, List.length_map, List.length_map, List.length_replicate, List.length_replicate, hl]
  · unfold startG at h
    by_cases hi : i < ds.length
    · rw [List.getElem?_append_left (by rw [List.length_map]; exact hi), List.getElem?_map] at h
      cases e : ds[i]? with
      | none => rw [e] at h; cases h
      | some d' =>
        rw [e] at h
        have e' : d' = d := Option.some.inj (Option.some.inj h)
        subst e'
        obtain ⟨v, hv, rv⟩ := r.get e
        refine ⟨v, ?_, rv⟩
        unfold L2.start
        rw [List.getElem?_append_left (by rw [List.length_map, hl]; exact hi), List.getElem?_map, hv]
        rfl
    · rw [List.getElem?_append_right (by rw [List.length_map]; omega), List.getElem?_replicate] at h
      split at h <;> cases h
/-- THE RULE for a def: its promise by data, shown of its body -/
theorem fn_ok {m : Mo} {x qual : Str} {st : Stmt} {f : Addr} {fd : FuncData} {N ps : List Str} {k : Nat} {fs : FSp} (F : Fun m.K x qual st f fd) (Sc : FnScope N ps (defScope st)) (len : ∀ ds S Q EX, fs ds S Q EX → ds.length = ps.length)
    (body : ∀ (cdv : Value) (A : Around) (outer : List Env) (s : Shared) (H B : Hp) (E : XK) (EX : EXT) (hE) (hr) (ds : List D) (S : Sto) (Q : QD), fs ds S Q EX →
      WSs (bodyC m N qual (defScope st) f cdv A outer s H B E EX k hE hr Sc.nd) (defBody st) (startG N ds) S { nx := fun _ S' => Q .non S', rt := Q }) : FnOk m.P m.w m.K m.mg m.base (L2.CX m.P m.w) (k + 1) f fd ps (lift m.K fs) := by
  refine F.okX Sc (fun vs H Q E h => ?_) (fun cdv A outer s H vs Q E hr h => ?_)
  · obtain ⟨B, ds, S, Q', EX, R, r, h, _⟩ := h
    rw [r.length]
    exact len _ _ _ _ h
  · obtain ⟨B, ds, S, Q', EX, R, r, h, hQ, hE⟩ := h
    refine ⟨_, pss_self _, ?_⟩
    have hb := body cdv A outer s H B E EX hE hr ds S Q' h B (L2.start N vs) H (start_rel R r)
    refine tSs_mono hb ⟨fun σ' H' ⟨B', G', S', s', R', q⟩ => ?_, fun v H' ⟨B', d, S', s', R', r', q⟩ => hQ v H' B' d S' R' r' q, fun σ' H' ⟨_, _, _, _, _, q⟩ => q, fun σ' H' ⟨_, _, _, _, _, q⟩ => q⟩
    exact hQ .non H' B' .non S' R'.toRelH rfl q
theorem fnD_of {m : Mo} {x : Str} {f : Addr} {fd : FuncData} {ps : List Str} {k : Nat} {fs : FSp} (F : FnOk m.P m.w m.K m.mg m.base (L2.CX m.P m.w) k f fd ps (lift m.K fs)) (hm : m.mg x = some (.ref f)) (hk : PySem.W.keepIn m.K (.ref f) = true) (hb : Binds m.K fd ps []) : FnD m x k [] fs :=
  ⟨f, fd, ps, [], [], F, hm, hk, hb, .nil, fun _ => rfl⟩
/-- loops: what leaves a def's body passes -/
theorem body_passes {m : Mo} {N : List Str} {qual : Str} {scope : Scope} {f : Addr} {cdv : Value} {A : Around} {outer : List Env} {s : Shared} {H B : Hp} {E : XK} {EX : EXT} {k : Nat} {hE} {hr} {nd : N.Nodup} :
    PassesOwn (model (bodyC m N qual scope f cdv A outer s H B E EX k hE hr nd).X.prog (bodyC m N qual scope f cdv A outer s H B E EX k hE hr nd).X.w) (bodyC m N qual scope f cdv A outer s H B E EX k hE hr nd).X.A (bodyC m N qual scope f cdv A outer s H B E EX k hE hr nd).X.env (bodyC m N qual scope f cdv A outer s H B E EX k hE hr nd).X.xe :=
  passes_of (X := (bodyC m N qual scope f cdv A outer s H B E EX k hE hr nd).X) rfl
/-- the law's promise -/
def spLaw : FSp := fun ds S Q _ => ∃ ns : List Int, ds = [.slst (ns.map D.int)] ∧ ns.length ≤ 63 ∧ S = [] ∧ ∀ S', Q (.bl true) S'
theorem law_sp (K : Frag) (H : Hp) (a : Addr) (ns : List Int) (hl : ns.length ≤ 63) (hS : SqL K H a (ns.map V.int)) : lift K spLaw [.ref a] H (fun v _ => v = .bl true) fun _ _ _ => False :=
  ⟨H, [.slst (ns.map D.int)], [], fun d _ => d = .bl true, fun _ _ _ => False, ⟨Same.refl _, Same.refl _, fun _ h => by simp at h, List.nodup_nil⟩, ⟨.ref a, [], rfl, ⟨a, _, rfl, hS, Reps.ofInts ns⟩, rfl⟩, ⟨ns, rfl, hl, rfl, fun _ => rfl⟩,
    fun v H' B' d S' R r q => by subst q; exact r, fun cls d H' ⟨_, _, _, _, _, _, _, _, z⟩ => z⟩
theorem law_cx {P : Program} {w : World} (H : Hp) (s : Shared) (e : Value) (s' : Shared) (h : L2.CX P w [] H s (fun _ _ _ => False) e s') : False := by
  obtain ⟨_, _, _, _, _, _, _, _, _, _, _, _, z⟩ := h
  exact z
end DL
end

section
set_option autoImplicit false
set_option maxRecDepth 100000
set_option maxHeartbeats 4000000
namespace DL
open PySem PySem.Spec PyProof.Rows L2
open PySem.W (Frag)
/-! ### readings by data -/
abbrev TEd := Loc → Sto → QD → Prop
abbrev TTd := Loc → Sto → (Bool → Sto → Prop) → Prop
abbrev TAd := Loc → Sto → (List D → Sto → Prop) → Prop
abbrev TSd := DE → Loc → Sto → Prop
abbrev TGd := D → Loc → Sto → (Loc → Sto → Prop) → Prop
abbrev TGsd := List D → Loc → Sto → (Loc → Sto → Prop) → Prop
def PEd (c : CD) (e : Expr) (t : TEd) : Prop := ∀ G S Q, t G S Q → W c e G S Q
def PTd (c : CD) (e : Expr) (t : TTd) : Prop := ∀ G S Q, t G S Q → WT c e G S Q
def PWd (c : CD) (e : Expr) (t : TTd) : Prop := ∀ G S Q, t G S Q → WW c e G S Q
def PAd (c : CD) (es : List Expr) (t : TAd) : Prop := ∀ G S Q, t G S Q → WA c es G S Q
def PSd (c : CD) (st : Stmt) (t : TSd) : Prop := ∀ E G S, t E G S → WS c st G S E
def PSsd (c : CD) (st : List Stmt) (t : TSd) : Prop := ∀ E G S, t E G S → WSs c st G S E
def PGd (c : CD) (tg : Expr) (t : TGd) : Prop := ∀ d G S Q, t d G S Q → WG c tg d G S Q
def PGsd (c : CD) (ts : List Expr) (t : TGsd) : Prop := ∀ ds G S Q, t ds G S Q → WGs c ts ds G S Q
def PId (c : CD) (tg iter : Expr) (t : TAd) : Prop := ∀ G S Q, t G S Q → WI c tg iter G S Q
theorem WT.mono {c : CD} {G : Loc} {S : Sto} {e : Expr} {Q Q' : Bool → Sto → Prop} (h : WT c e G S Q) (k : ∀ b S, Q b S → Q' b S) : WT c e G S Q' := fun B σ H R => tT_mono (h B σ H R) fun b H' ⟨B', S', s, R', q⟩ => ⟨B', S', s, R', k b S' q⟩
theorem WA.mono {c : CD} {G : Loc} {S : Sto} {es : List Expr} {Q Q' : List D → Sto → Prop} (h : WA c es G S Q) (k : ∀ b S, Q b S → Q' b S) : WA c es G S Q' := fun B σ H R => tA_mono (h B σ H R) fun vs H' ⟨B', ds, S', s, R', r, q⟩ => ⟨B', ds, S', s, R', r, k ds S' q⟩
theorem WI.mono {c : CD} {G : Loc} {S : Sto} {tg iter : Expr} {Q Q' : List D → Sto → Prop} (h : WI c tg iter G S Q) (k : ∀ b S, Q b S → Q' b S) : WI c tg iter G S Q' := fun B σ H R => tI_mono (h B σ H R) fun J H' ⟨B', ds, S', s, R', y, q⟩ => ⟨B', ds, S', s, R', y, k ds S' q⟩
theorem WG.mono {c : CD} {G : Loc} {S : Sto} {tg : Expr} {d : D} {Q Q' : Loc → Sto → Prop} (h : WG c tg d G S Q) (k : ∀ G S, Q G S → Q' G S) : WG c tg d G S Q' := fun B σ H v R r => tG_mono (h B σ H v R r) fun _ _ q => q.le (Same.refl _) k
theorem WS.mono {c : CD} {G : Loc} {S : Sto} {st : Stmt} {E E' : DE} (h : WS c st G S E) (k1 : ∀ G S, E.nx G S → E'.nx G S) (k2 : ∀ d S, E.rt d S → E'.rt d S) (k3 : ∀ G S, E.bk G S → E'.bk G S) (k4 : ∀ G S, E.ct G S → E'.ct G S) : WS c st G S E' :=
  fun B σ H R => tS_mono (h B σ H R) (endsLe (Same.refl _) k1 k2 k3 k4)

/-! ### facts of names, once for a context -/
structure Fx (X : Cx) (ls : List (Option NameKind)) (gs : List Str) : Prop where
  dbg : ∀ (i : Nat) (x : Str), X.N[i]? = some x → (x == ("__debug__" : Str)) = false ∧ (x == ("__classdict__" : Str)) = false
  kd : ∀ (i : Nat) (x : Str), X.N[i]? = some x → X.env.scope.names.lookup x = ls.getD i none
  gl : ∀ (j : Nat) (x : Str), gs[j]? = some x → X.env.kindOf x = some .globalImplicit ∧ (x == ("__debug__" : Str)) = false ∧ x ≠ ("__name__" : Str)
  fk : X.env.scope.kind = .function
def visK : Option NameKind → Bool
  | some .local => true
  | some .cell => true
  | some .free => true
  | _ => false
def locK : Option NameKind → Bool
  | some .local => true
  | some .cell => true
  | _ => false
def isLocK : Option NameKind → Bool
  | some .local => true
  | _ => false
theorem vis_of {sc : Scope} {x : Str} {k : Option NameKind} (h : sc.names.lookup x = k) (v : visK k = true) : Vis sc x := by
  subst h
  unfold Vis
  generalize sc.names.lookup x = k at v
  match k, v with
  | some .local, _ => exact .inl rfl
  | some .cell, _ => exact .inr (.inl rfl)
  | some .free, _ => exact .inr (.inr rfl)
theorem loc_of {sc : Scope} {x : Str} {k : Option NameKind} (h : sc.names.lookup x = k) (v : locK k = true) : L2.Loc sc x := by
  subst h
  unfold L2.Loc
  generalize sc.names.lookup x = k at v
  match k, v with
  | some .local, _ => exact .inl rfl
  | some .cell, _ => exact .inr rfl
theorem isLoc_of {sc : Scope} {x : Str} {k : Option NameKind} (h : sc.names.lookup x = k) (v : isLocK k = true) : sc.names.lookup x = some .local := by
  rw [h]
  match k, v with
  | some .local, _ => rfl
def fxC (N : List Str) (sc : Scope) (ls : List (Option NameKind)) (gs : List Str) : Bool :=
  (match sc.kind with | .function => true | _ => false) && decide (N.map (fun x => sc.names.lookup x) = ls) && (N.all fun x => !(x == ("__debug__" : Str)) && !(x == ("__classdict__" : Str))) &&
    (gs.all fun x => decide (sc.names.lookup x = some .globalImplicit) && !(x == ("__debug__" : Str)) && decide (x ≠ ("__name__" : Str)))
theorem fxC_get {N : List Str} {sc : Scope} {ls : List (Option NameKind)} {gs : List Str} (h : fxC N sc ls gs = true) : sc.kind = .function ∧ (∀ (i : Nat) (x : Str), N[i]? = some x → (x == ("__debug__" : Str)) = false ∧ (x == ("__classdict__" : Str)) = false) ∧
    (∀ (i : Nat) (x : Str), N[i]? = some x → sc.names.lookup x = ls.getD i none) ∧ ∀ (j : Nat) (x : Str), gs[j]? = some x → sc.names.lookup x = some .globalImplicit ∧ (x == ("__debug__" : Str)) = false ∧ x ≠ ("__name__" : Str) := by
  unfold fxC at h
  simp only [Bool.and_eq_true, List.all_eq_true, decide_eq_true_eq, Bool.not_eq_true'] at h
  obtain ⟨⟨⟨h1, h2⟩, h3⟩, h4⟩ := h
  refine ⟨?_, fun i x e => h3 x (List.mem_of_getElem? e), fun i x e => ?_, fun j x e => ?_⟩
  · split at h1
    · assumption
    · cases h1
  · subst h2
    rw [List.getD_eq_getElem?_getD, List.getElem?_map, e]
    rfl
  · have q := h4 x (List.mem_of_getElem? e)
    exact ⟨q.1.1, q.1.2, q.2⟩
theorem fx_body {m : Mo} {N : List Str} {qual : Str} {sc : Scope} {f : Addr} {cdv : Value} {A : Around} {outer : List Env} {s : Shared} {H B : Hp} {E : XK} {EX : EXT} {k : Nat} {hE} {hr} {nd : N.Nodup} {ls : List (Option NameKind)} {gs : List Str} (h : fxC N sc ls gs = true) :
    Fx (bodyC m N qual sc f cdv A outer s H B E EX k hE hr nd).X ls gs := by
  obtain ⟨h1, h2, h3, h4⟩ := fxC_get h
  exact ⟨h2, h3, h4, h1⟩
theorem fx_blk {m : Mo} {N : List Str} {qual : Str} {sc scope : Scope} {f : Addr} {cdv : Value} {A : Around} {outer : List Env} {s s1 : Shared} {H B H1 : Hp} {E : XK} {EX : EXT} {k : Nat} {hE} {hr} {nd : N.Nodup} {C : Addr} {cl : List (Str × Addr)} {fp : List Addr} {ls : List (Option NameKind)} {gs : List Str} (h : fxC N (relS scope sc) ls gs = true) :
    Fx (blkC (bodyC m N qual sc f cdv A outer s H B E EX k hE hr nd) scope s1 H1 C cl fp).X ls gs := by
  obtain ⟨h1, h2, h3, h4⟩ := fxC_get h
  exact ⟨h2, h3, h4, h1⟩
/-- a name is read -/
def rd (G : Loc) (i : Nat) (P : D → Prop) : Prop := match G[i]? with
  | some (some d) => P d
  | _ => False
theorem rd_get {G : Loc} {i : Nat} {P : D → Prop} (h : rd G i P) : ∃ d, G[i]? = some (some d) ∧ P d := by
  unfold rd at h
  split at h
  · exact ⟨_, by assumption, h⟩
  · exact False.elim h
def eVar (i : Nat) : TEd := fun G S Q => rd G i fun d => Q d S
def eC (d : D) : TEd := fun _ S Q => Q d S
def eOp (f : D → D → Sto → QD → Prop) (ta tb : TEd) : TEd := fun G S Q => ta G S fun x S1 => tb G S1 fun y S2 => f x y S2 Q
def eUn (f : D → Sto → QD → Prop) (ta : TEd) : TEd := fun G S Q => ta G S fun x S1 => f x S1 Q
def eEq (neg : Bool) (ta tb : TEd) : TEd := fun G S Q => ta G S fun x S1 => tb G S1 fun y S2 => dEq neg x y S2 fun k S3 => Q (.bl k) S3
def eOrd (op : CmpOp) (ta tb : TEd) : TEd := fun G S Q => ta G S fun x S1 => tb G S1 fun y S2 => dOrd op x y S2 fun k S3 => Q (.bl k) S3
def tEq (neg : Bool) (ta tb : TEd) : TTd := fun G S Q => ta G S fun x S1 => tb G S1 fun y S2 => dEq neg x y S2 Q
def tOrd (op : CmpOp) (ta tb : TEd) : TTd := fun G S Q => ta G S fun x S1 => tb G S1 fun y S2 => dOrd op x y S2 Q
def eChn (op op' : CmpOp) (ta tb td : TEd) : TEd := fun G S Q => ta G S fun x S1 => tb G S1 fun y S2 => dOrd op x y S2 fun k S3 => (k = false → Q (.bl false) S3) ∧ (k = true → td G S3 fun z S4 => dOrd op' y z S4 fun k' S5 => Q (.bl k') S5)
def tChn (op op' : CmpOp) (ta tb td : TEd) : TTd := fun G S Q => ta G S fun x S1 => tb G S1 fun y S2 => dOrd op x y S2 fun k S3 => (k = false → Q false S3) ∧ (k = true → td G S3 fun z S4 => dOrd op' y z S4 Q)
def eNone (neg : Bool) (ta : TEd) : TEd := fun G S Q => ta G S fun x S1 => dNone neg x S1 fun k S2 => Q (.bl k) S2
def tNone (neg : Bool) (ta : TEd) : TTd := fun G S Q => ta G S fun x S1 => dNone neg x S1 Q
def tVal (ta : TEd) : TTd := fun G S Q => ta G S fun x S1 => dTru x S1 Q
def tNo (t : TTd) : TTd := fun G S Q => t G S fun k S1 => Q (!k) S1
def tAn (t u : TTd) : TTd := fun G S Q => t G S fun k S1 => (k = true → u G S1 Q) ∧ (k = false → Q false S1)
def tOo (t u : TTd) : TTd := fun G S Q => t G S fun k S1 => (k = true → Q true S1) ∧ (k = false → u G S1 Q)
def eAn (ta tb : TEd) : TEd := fun G S Q => ta G S fun x S1 => isBl x fun k => (k = true → tb G S1 Q) ∧ (k = false → Q (.bl false) S1)
def eOo (ta tb : TEd) : TEd := fun G S Q => ta G S fun x S1 => isBl x fun k => (k = true → Q (.bl true) S1) ∧ (k = false → tb G S1 Q)
def eNo (ta : TEd) : TEd := fun G S Q => ta G S fun x S1 => dTru x S1 fun k S2 => Q (.bl (!k)) S2
def eIf (t : TTd) (ta tb : TEd) : TEd := fun G S Q => t G S fun k S1 => (k = true → ta G S1 Q) ∧ (k = false → tb G S1 Q)
def aNil : TAd := fun _ S Q => Q [] S
def aCons (t : TEd) (u : TAd) : TAd := fun G S Q => t G S fun x S1 => u G S1 fun ds S2 => Q (x :: ds) S2
/-- a display that is not too long -/
def fit (ds : List D) (P : Prop) : Prop := match ds.length.ble 1000000 with
  | true => P
  | false => False
theorem fit_get {ds : List D} {P : Prop} (h : fit ds P) : ds.length ≤ sizeLine ∧ P := by
  unfold fit at h
  split at h
  · rename_i e
    have := Nat.le_of_ble_eq_true e
    exact ⟨Nat.le_trans this (by decide), h⟩
  · exact False.elim h
theorem fit_of {ds : List D} {P : Prop} (hz : ds.length ≤ 1000000) (h : P) : fit ds P := by
  unfold fit
  rw [Nat.ble_eq_true_of_le hz]
  exact h
def eTup (t : TAd) : TEd := fun G S Q => t G S fun ds S1 => fit ds (Q (.tup ds) S1)
def eLst (t : TAd) : TEd := fun G S Q => t G S fun ds S1 => fit ds (mk ds S1 Q)
def oNo : Loc → Sto → (Option Int → Sto → Prop) → Prop := fun _ S Q => Q none S
def isI (x : D) (P : Int → Prop) : Prop := match x with
  | .int i => P i
  | _ => False
theorem isI_get {x : D} {P : Int → Prop} (h : isI x P) : ∃ i, x = .int i ∧ P i := by
  cases x <;> first | exact False.elim h | exact ⟨_, rfl, h⟩
def oSome (t : TEd) : Loc → Sto → (Option Int → Sto → Prop) → Prop := fun G S Q => t G S fun x S1 => isI x fun i => Q (some i) S1
def eSl (t : TEd) (l u : Loc → Sto → (Option Int → Sto → Prop) → Prop) : TEd := fun G S Q => t G S fun x S1 => l G S1 fun l S2 => u G S2 fun u S3 => dSl x l u S3 Q
def eCall (P : DCall) (t : TAd) : TEd := fun G S Q => t G S fun ds S1 => P ds S1 Q
/-- the same wish wherever it leaves -/
@[reducible] def kX (EX : EXT) : EXG := fun _ => EX
def eFn (fs : FSp) (EX : EXG) (dvs : List D) (t : TAd) : TEd := fun G S Q => t G S fun ds S1 => fs (ds ++ dvs) S1 Q (EX G)
def E0X : EXG := fun _ _ _ _ => False
def EN0 : EXT := fun _ _ _ => False
def iSq (t : TEd) : TAd := fun G S Q => t G S fun x S1 => dIter x fun ds => Q ds S1
def iR1 (t : TAd) : TAd := fun G S Q => t G S fun ds S1 => one ds fun x => isI x fun j => smallI j ∧ Q (span 0 j.toNat) S1
def iR2 (t : TAd) : TAd := fun G S Q => t G S fun ds S1 => two ds fun x y => isI x fun i => isI y fun j => smallI i ∧ smallI j ∧ Q (span i (j - i).toNat) S1
def iEn (t : TAd) : TAd := fun G S Q => t G S fun ds S1 => one ds fun x => match x with | .lst ds => Q (enumD ds) S1 | .slst ds => Q (enumD ds) S1 | _ => False
/-- a comprehension: the turns by an invariant over what is made -/
def eLc (ti : TAd) (own : List Nat) (bind : D → Loc → (Loc → Prop) → Prop) (tt : TTd) (te : TEd) : TEd := fun G S Q => ti G S fun ds S1 => ∃ Iv : Nat → List D → Sto → Prop, Iv 0 [] S1 ∧
  (∀ i d acc S p, ds[i]? = some d → Iv i acc S → bind d (wipeG G own) fun G2 => tt G2 ((p, .lst acc) :: S) fun k S2 => ∃ S3, S2 = (p, .lst acc) :: S3 ∧ (k = true → te G2 S2 fun y S4 => ∃ S5, S4 = (p, .lst acc) :: S5 ∧ acc.length < sizeLine ∧ Iv (i + 1) (acc ++ [y]) S5) ∧ (k = false → Iv (i + 1) acc S3)) ∧
  ∀ acc S, Iv ds.length acc S → mk acc S Q
def tYs : TTd := fun _ S Q => Q true S
def sNext : TSd := fun E G S => E.nx G S
def sSeq (t u : TSd) : TSd := fun E G S => t { E with nx := fun G' S' => u E G' S' } G S
def sEx (t : TEd) : TSd := fun E G S => t G S fun _ S1 => E.nx G S1
def sRet (t : TEd) : TSd := fun E G S => t G S E.rt
def sRetN : TSd := fun E _ S => E.rt .non S
def sIf (t : TTd) (a b : TSd) : TSd := fun E G S => t G S fun k S1 => (k = true → a E G S1) ∧ (k = false → b E G S1)
def sSet (i : Nat) (t : TEd) : TSd := fun E G S => t G S fun d S1 => inG G i (E.nx (G.set i (some d)) S1)
def sAsg (t : TEd) (g : TGd) : TSd := fun E G S => t G S fun d S1 => g d G S1 E.nx
def sPar (i j : Nat) (t : TAd) : TSd := fun E G S => t G S fun ds S1 => inG G i (inG G j (two ds fun d e => E.nx ((G.set i (some d)).set j (some e)) S1))
def sPar3 (i j l : Nat) (t : TAd) : TSd := fun E G S => t G S fun ds S1 => inG G i (inG G j (inG G l (three ds fun d e f => E.nx (((G.set i (some d)).set j (some e)).set l (some f)) S1)))
def gNm (i : Nat) : TGd := fun d G S Q => inG G i (Q (G.set i (some d)) S)
def gsNil : TGsd := fun ds G S Q => match ds with
  | [] => Q G S
  | _ => False
def gsCons (t : TGd) (u : TGsd) : TGsd := fun ds G S Q => match ds with
  | d :: r => t d G S fun G1 S1 => u r G1 S1 Q
  | [] => False
def lenIs (ds : List D) (n : Nat) (P : Prop) : Prop := match ds.length.beq n with
  | true => P
  | false => False
theorem lenIs_get {ds : List D} {n : Nat} {P : Prop} (h : lenIs ds n P) : ds.length = n ∧ P := by
  unfold lenIs at h
  split at h
  · rename_i e
    exact ⟨Nat.eq_of_beq_eq_true e, h⟩
  · exact False.elim h
theorem lenIs_of {ds : List D} {n : Nat} {P : Prop} (hl : ds.length = n) (h : P) : lenIs ds n P := by
  unfold lenIs
  rw [hl, Nat.beq_refl]
  exact h
def gTp (n : Nat) (t : TGsd) : TGd := fun d G S Q => match d with
  | .tup ds => lenIs ds n (t ds G S Q)
  | _ => False
def gIx (to ti : TEd) : TGd := fun d G S Q => to G S fun x S1 => ti G S1 fun y S2 => ∃ (a : Addr) (k : Nat) (ds : List D) (z : Int) (j : Nat), x = .ref a ∧ y = .int z ∧ S2[k]? = some (a, Cel.lst ds) ∧ ixN ds.length z = some j ∧ Q G (S2.set k (a, Cel.lst (ds.set j d)))
def sWhile (t : TTd) (b : TSd) : TSd := fun E G S => ∃ (Iv : Nat → Loc → Sto → Prop) (m0 : Nat), Iv m0 G S ∧
  ∀ m G S, Iv m G S → t G S fun k S1 => (k = true → b { E with nx := fun G' S' => ∃ m', m' < m ∧ Iv m' G' S', ct := fun G' S' => ∃ m', m' < m ∧ Iv m' G' S', bk := E.nx } G S1) ∧ (k = false → E.nx G S1)
def sFor (ti : TAd) (g : TGd) (b : TSd) : TSd := fun E G S => ti G S fun ds S1 => ∃ Iv : Nat → Loc → Sto → Prop, Iv 0 G S1 ∧
  (∀ i d G S, ds[i]? = some d → Iv i G S → g d G S fun G2 S2 => b { E with nx := Iv (i + 1), ct := Iv (i + 1), bk := E.nx } G2 S2) ∧ ∀ G S, Iv ds.length G S → E.nx G S
section
variable {c : CD} {e a b d : Expr} {es : List Expr} {pos p : Pos} {x : Str} {tg : Expr} {ta tb td : TEd} {tt tu : TTd} {tas : TAd} {t u : TSd} {ls : List (Option NameKind)} {gs : List Str}
theorem d_var (φ : Fx c.X ls gs) (i : Nat) (hN : c.X.N[i]? = some x := by rfl) (hv : visK (ls.getD i none) = true := by rfl) : PEd c (.Name x pos) (eVar i) := fun G S Q h => by
  obtain ⟨d, e, q⟩ := rd_get h
  exact w_var i hN (vis_of (φ.kd i x hN) hv) (φ.dbg i x hN).1 (φ.dbg i x hN).2 e q
theorem d_int {i : Int} {j : Nat} : PEd c (.Constant (.int i) j pos) (eC (.int i)) := fun G S Q h => w_int h
theorem d_bl {i : Bool} {j : Nat} : PEd c (.Constant (.bool i) j pos) (eC (.bl i)) := fun G S Q h => w_bl h
theorem d_non {j : Nat} : PEd c (.Constant .none j pos) (eC .non) := fun G S Q h => w_non h
theorem d_str {i : Str} {j : Nat} : PEd c (.Constant (.str i) j pos) (eC (.str i)) := fun G S Q h => w_str h
theorem d_add (ha : PEd c a ta) (hb : PEd c b tb) : PEd c (.BinOp a .Add b pos) (eOp dAdd ta tb) := fun G S Q h => w_add ((ha G S _ h).mono fun x S1 h1 => hb G S1 _ h1)
theorem d_sub (ha : PEd c a ta) (hb : PEd c b tb) : PEd c (.BinOp a .Sub b pos) (eOp dSub ta tb) := fun G S Q h => w_sub ((ha G S _ h).mono fun x S1 h1 => hb G S1 _ h1)
theorem d_mul (ha : PEd c a ta) (hb : PEd c b tb) : PEd c (.BinOp a .Mult b pos) (eOp dMul ta tb) := fun G S Q h => w_mul ((ha G S _ h).mono fun x S1 h1 => hb G S1 _ h1)
theorem d_div (ha : PEd c a ta) (hb : PEd c b tb) : PEd c (.BinOp a .FloorDiv b pos) (eOp dDiv ta tb) := fun G S Q h => w_div ((ha G S _ h).mono fun x S1 h1 => hb G S1 _ h1)
theorem d_mod (ha : PEd c a ta) (hb : PEd c b tb) : PEd c (.BinOp a .Mod b pos) (eOp dMod ta tb) := fun G S Q h => w_mod ((ha G S _ h).mono fun x S1 h1 => hb G S1 _ h1)
theorem d_pow (ha : PEd c a ta) (hb : PEd c b tb) : PEd c (.BinOp a .Pow b pos) (eOp dPow ta tb) := fun G S Q h => w_pow ((ha G S _ h).mono fun x S1 h1 => hb G S1 _ h1)
theorem d_neg (ha : PEd c a ta) : PEd c (.UnaryOp .USub a pos) (eUn dNeg ta) := fun G S Q h => w_neg (ha G S _ h)
theorem d_eq (ha : PEd c a ta) (hb : PEd c b tb) : PEd c (.Compare a [.Eq] [b] pos) (eEq false ta tb) := fun G S Q h => w_eqs false rfl ((ha G S _ h).mono fun x S1 h1 => hb G S1 _ h1)
theorem d_ne (ha : PEd c a ta) (hb : PEd c b tb) : PEd c (.Compare a [.NotEq] [b] pos) (eEq true ta tb) := fun G S Q h => w_eqs true rfl ((ha G S _ h).mono fun x S1 h1 => hb G S1 _ h1)
theorem d_ord {op : CmpOp} (ha : PEd c a ta) (hb : PEd c b tb) (ho : isOrd op = true := by rfl) : PEd c (.Compare a [op] [b] pos) (eOrd op ta tb) := fun G S Q h => w_ord ho ((ha G S _ h).mono fun x S1 h1 => hb G S1 _ h1)
theorem d_isN (ha : PEd c a ta) {j : Nat} {p2 : Pos} : PEd c (.Compare a [.Is] [.Constant .none j p2] pos) (eNone false ta) := fun G S Q h => w_isNone false rfl (ha G S _ h)
theorem d_notN (ha : PEd c a ta) {j : Nat} {p2 : Pos} : PEd c (.Compare a [.IsNot] [.Constant .none j p2] pos) (eNone true ta) := fun G S Q h => w_isNone true rfl (ha G S _ h)
theorem d_chn {op op' : CmpOp} (ha : PEd c a ta) (hb : PEd c b tb) (hd : PEd c d td) (ho : isOrd op = true := by rfl) (ho' : isOrd op' = true := by rfl) (hm : lastMarks [op, op'] [b, d] = false := by with_unfolding_all rfl) : PEd c (.Compare a [op, op'] [b, d] pos) (eChn op op' ta tb td) := fun G S Q h =>
  w_chain ho ho' hm ((ha G S _ h).mono fun x S1 h1 => (hb G S1 _ h1).mono fun y S2 h2 => ord_mono h2 fun k S3 h3 => ⟨h3.1, fun z => hd G S3 _ (h3.2 z)⟩)
where
  ord_mono {op : CmpOp} {x y : D} {S : Sto} {Q Q' : Bool → Sto → Prop} (h : dOrd op x y S Q) (k : ∀ b S, Q b S → Q' b S) : dOrd op x y S Q' := by
    cases x <;> first | exact False.elim h | (cases y <;> first | exact False.elim h | exact k _ _ h)
theorem dt_chn {op op' : CmpOp} (ha : PEd c a ta) (hb : PEd c b tb) (hd : PEd c d td) (ho : isOrd op = true := by rfl) (ho' : isOrd op' = true := by rfl) (hm : lastMarks [op, op'] [b, d] = false := by with_unfolding_all rfl) : PTd c (.Compare a [op, op'] [b, d] pos) (tChn op op' ta tb td) := fun G S Q h =>
  wt_chain ho ho' hm ((ha G S _ h).mono fun x S1 h1 => (hb G S1 _ h1).mono fun y S2 h2 => d_chn.ord_mono h2 fun k S3 h3 => ⟨h3.1, fun z => hd G S3 _ (h3.2 z)⟩)
theorem dt_eq (ha : PEd c a ta) (hb : PEd c b tb) : PTd c (.Compare a [.Eq] [b] pos) (tEq false ta tb) := fun G S Q h => wt_eqs false rfl ((ha G S _ h).mono fun x S1 h1 => hb G S1 _ h1)
theorem dt_ne (ha : PEd c a ta) (hb : PEd c b tb) : PTd c (.Compare a [.NotEq] [b] pos) (tEq true ta tb) := fun G S Q h => wt_eqs true rfl ((ha G S _ h).mono fun x S1 h1 => hb G S1 _ h1)
theorem dt_ord {op : CmpOp} (ha : PEd c a ta) (hb : PEd c b tb) (ho : isOrd op = true := by rfl) : PTd c (.Compare a [op] [b] pos) (tOrd op ta tb) := fun G S Q h => wt_ord ho ((ha G S _ h).mono fun x S1 h1 => hb G S1 _ h1)
theorem dt_isN (ha : PEd c a ta) {j : Nat} {p2 : Pos} : PTd c (.Compare a [.Is] [.Constant .none j p2] pos) (tNone false ta) := fun G S Q h => wt_isNone false rfl (ha G S _ h)
theorem dt_notN (ha : PEd c a ta) {j : Nat} {p2 : Pos} : PTd c (.Compare a [.IsNot] [.Constant .none j p2] pos) (tNone true ta) := fun G S Q h => wt_isNone true rfl (ha G S _ h)
theorem dt_val (ha : PEd c a ta) (he : ∀ whole, isTrue a c.X.env whole = (do let v ← whole; standAt a.pos; holding [v] (truthy v)) := by intro _; rfl) : PTd c a (tVal ta) := fun G S Q h => wt_val he (ha G S _ h)
theorem dt_not (ha : PTd c a tt) : PTd c (.UnaryOp .Not a pos) (tNo tt) := fun G S Q h => wt_not (ha G S _ h)
theorem dt_of (h : PWd c a tt) : PTd c a tt := fun G S Q q => wt_ofW (h G S Q q)
theorem dw_and1 (ha : PTd c a tt) : PWd c (.BoolOp .And [a] pos) tt := fun G S Q h => ww_and1 (ha G S Q h)
theorem dw_or1 (ha : PTd c a tt) : PWd c (.BoolOp .Or [a] pos) tt := fun G S Q h => ww_or1 (ha G S Q h)
theorem dw_and {rest : List Expr} (ha : PTd c a tt) (hb : PWd c (.BoolOp .And (b :: rest) pos) tu) : PWd c (.BoolOp .And (a :: b :: rest) pos) (tAn tt tu) := fun G S Q h => ww_and ((ha G S _ h).mono fun k S1 h1 => ⟨fun z => hb G S1 _ (h1.1 z), h1.2⟩)
theorem dw_or {rest : List Expr} (ha : PTd c a tt) (hb : PWd c (.BoolOp .Or (b :: rest) pos) tu) : PWd c (.BoolOp .Or (a :: b :: rest) pos) (tOo tt tu) := fun G S Q h => ww_or ((ha G S _ h).mono fun k S1 h1 => ⟨h1.1, fun z => hb G S1 _ (h1.2 z)⟩)
theorem d_one {op : BoolOp} (ha : PEd c a ta) : PEd c (.BoolOp op [a] pos) ta := fun G S Q h => w_one (ha G S Q h)
theorem isBl_mono {x : D} {P P' : Bool → Prop} (h : isBl x P) (k : ∀ b, P b → P' b) : isBl x P' := by
  cases x <;> first | exact False.elim h | exact k _ h
theorem d_and {rest : List Expr} (ha : PEd c a ta) (hb : PEd c (.BoolOp .And (b :: rest) pos) tb) : PEd c (.BoolOp .And (a :: b :: rest) pos) (eAn ta tb) := fun G S Q h => w_and ((ha G S _ h).mono fun x S1 h1 => isBl_mono h1 fun k h2 => ⟨fun z => hb G S1 _ (h2.1 z), h2.2⟩)
theorem d_or {rest : List Expr} (ha : PEd c a ta) (hb : PEd c (.BoolOp .Or (b :: rest) pos) tb) : PEd c (.BoolOp .Or (a :: b :: rest) pos) (eOo ta tb) := fun G S Q h => w_or ((ha G S _ h).mono fun x S1 h1 => isBl_mono h1 fun k h2 => ⟨h2.1, fun z => hb G S1 _ (h2.2 z)⟩)
theorem d_not (ha : PEd c a ta) : PEd c (.UnaryOp .Not a pos) (eNo ta) := fun G S Q h => w_not (ha G S _ h)
theorem d_ifx (hd : PTd c d tt) (ha : PEd c a ta) (hb : PEd c b tb) : PEd c (.IfExp d a b pos) (eIf tt ta tb) := fun G S Q h => w_if ((hd G S _ h).mono fun k S1 h1 => ⟨fun z => ha G S1 _ (h1.1 z), fun z => hb G S1 _ (h1.2 z)⟩)
theorem da_nil : PAd c [] aNil := fun G S Q h => wa_nil h
theorem da_cons (ha : PEd c e ta) (hr : PAd c es tas) (hs : starEach (e :: es) c.X.env = (false, eval e c.X.env) :: starEach es c.X.env := by rfl) : PAd c (e :: es) (aCons ta tas) := fun G S Q h => wa_cons hs ((ha G S _ h).mono fun x S1 h1 => hr G S1 _ h1)
theorem d_tup (h : PAd c es tas) {j : Nat} : PEd c (.Tuple es j pos) (eTup tas) := fun G S Q q => w_tup ((h G S _ q).mono fun ds S1 q => fit_get q)
theorem d_lst (h : PAd c es tas) : PEd c (.List es pos) (eLst tas) := fun G S Q q => w_lst ((h G S _ q).mono fun ds S1 q => fit_get q)
theorem d_ix (ha : PEd c a ta) (hb : PEd c b tb) (hs : PlainIx b := by exact fun _ _ => rfl) : PEd c (.Subscript a b pos) (eOp dIx ta tb) := fun G S Q h => w_ix hs ((ha G S _ h).mono fun x S1 h1 => hb G S1 _ h1)
def POd (c : CD) (o : Option Expr) (t : Loc → Sto → (Option Int → Sto → Prop) → Prop) : Prop := ∀ G S Q, t G S Q → WO c o G S Q
theorem WO.mono {o : Option Expr} {G : Loc} {S : Sto} {Q Q' : Option Int → Sto → Prop} (h : WO c o G S Q) (k : ∀ i S, Q i S → Q' i S) : WO c o G S Q' := by
  cases o with
  | none => exact k _ _ h
  | some e => exact W.mono h fun d S ⟨i, e, q⟩ => ⟨i, e, k _ _ q⟩
theorem do_no : POd c none oNo := fun G S Q h => h
theorem do_some (h : PEd c e ta) : POd c (some e) (oSome ta) := fun G S Q q => (h G S _ q).mono fun d S h => isI_get h
theorem d_sl {lo hi : Option Expr} {p2 : Pos} {tl th : Loc → Sto → (Option Int → Sto → Prop) → Prop} (ha : PEd c a ta) (hl : POd c lo tl) (hh : POd c hi th) : PEd c (.Subscript a (.Slice lo hi none p2) pos) (eSl ta tl th) := fun G S Q h =>
  w_sl ((ha G S _ h).mono fun x S1 h1 => (hl G S1 _ h1).mono fun l S2 h2 => hh G S2 _ h2)
theorem d_bi (φ : Fx c.X ls gs) (j : Nat) {id : String} {r : List V → Hp → VK → Prop} {P : DCall} (hc : CallR c.X (.builtin id) r) (hP : BOk c r P) (hm : c.X.mg x = none) (hv : bootBuiltins x = some (.builtin id)) (ha : PAd c (e :: es) tas) (hj : gs[j]? = some x := by rfl)
    (he : starEach (e :: es) c.X.env = (false, eval e c.X.env) :: starEach es c.X.env := by rfl) (hpl : (backTo pos (starEach es c.X.env)).any (·.1) = false := by rfl) : PEd c (.Call (.Name x p) (e :: es) [] pos) (eCall P tas) := fun G S Q h => w_bi hc hP (φ.gl j x hj).1 hm hv (φ.gl j x hj).2.2 (φ.gl j x hj).2.1 he hpl (ha G S _ h)
theorem d_bt (φ : Fx c.X ls gs) (j : Nat) {T : String} {r : List V → Hp → VK → Prop} {P : DCall} (hc : CallR c.X (.type T) r) (hP : BOk c r P) (hm : c.X.mg x = none) (hv : bootBuiltins x = some (.type T)) (ha : PAd c (e :: es) tas) (hj : gs[j]? = some x := by rfl)
    (he : starEach (e :: es) c.X.env = (false, eval e c.X.env) :: starEach es c.X.env := by rfl) (hpl : (backTo pos (starEach es c.X.env)).any (·.1) = false := by rfl) : PEd c (.Call (.Name x p) (e :: es) [] pos) (eCall P tas) := fun G S Q h => w_bt hc hP (φ.gl j x hj).1 hm hv (φ.gl j x hj).2.2 (φ.gl j x hj).2.1 he hpl (ha G S _ h)
theorem d_ty (φ : Fx c.X ls gs) (j : Nat) {n : String} (hm : c.X.mg x = none) (hv : bootBuiltins x = some (.type n)) (hj : gs[j]? = some x := by rfl) : PEd c (.Name x pos) (eC (.ty n)) := fun G S Q h => w_ty (φ.gl j x hj).1 hm hv (φ.gl j x hj).2.2 (φ.gl j x hj).2.1 h
theorem d_fn [Calm c] (φ : Fx c.X ls gs) (j : Nat) {k : Nat} {dvs : List D} {fs : FSp} (F : FnD c.X.mo x k dvs fs) (hk : k ≤ c.k) (ha : PAd c (e :: es) tas) (hj : gs[j]? = some x := by rfl) (he : starEach (e :: es) c.X.env = (false, eval e c.X.env) :: starEach es c.X.env := by rfl) (hpl : (backTo pos (starEach es c.X.env)).any (·.1) = false := by rfl) :
    PEd c (.Call (.Name x p) (e :: es) [] pos) (eFn fs c.EX dvs tas) := fun G S Q h => w_call F hk (φ.gl j x hj).1 (φ.gl j x hj).2.1 he hpl (ha G S _ h)
theorem d_fn0 [Calm c] (φ : Fx c.X ls gs) (j : Nat) {k : Nat} {dvs : List D} {fs : FSp} (F : FnD c.X.mo x k dvs fs) (hk : k ≤ c.k) (hj : gs[j]? = some x := by rfl) : PEd c (.Call (.Name x p) [] [] pos) (eFn fs c.EX dvs aNil) := fun G S Q h => w_call0 F hk (φ.gl j x hj).1 (φ.gl j x hj).2.1 h
/-! ### what is walked, comprehensions -/
theorem one_mono {ds : List D} {P P' : D → Prop} (h : one ds P) (k : ∀ x, P x → P' x) : one ds P' := by
  match ds, h with
  | [d], h => exact k _ h
theorem two_mono {ds : List D} {P P' : D → D → Prop} (h : two ds P) (k : ∀ x y, P x y → P' x y) : two ds P' := by
  match ds, h with
  | [d, e], h => exact k _ _ h
theorem di_seq (h : PEd c e ta) : PId c tg e (iSq ta) := fun G S Q q => wi_seq (h G S _ q)
theorem di_r1 (φ : Fx c.X ls gs) (j : Nat) (hm : c.X.mg "range" = none) (h : PAd c [a] tas) (hj : gs[j]? = some "range" := by rfl) (hs : starEach [a] c.X.env = [(false, eval a c.X.env)] := by rfl) : PId c tg (.Call (.Name "range" p) [a] [] pos) (iR1 tas) := fun G S Q q => wi_range1 (φ.gl j _ hj).1 hm hs ((h G S _ q).mono fun ds S1 h => one_mono h fun x h => isI_get h)
theorem di_r2 (φ : Fx c.X ls gs) (j : Nat) (hm : c.X.mg "range" = none) (h : PAd c [a, b] tas) (hj : gs[j]? = some "range" := by rfl) (hs : starEach [a, b] c.X.env = [(false, eval a c.X.env), (false, eval b c.X.env)] := by rfl) (hs2 : starEach [b] c.X.env = [(false, eval b c.X.env)] := by rfl) : PId c tg (.Call (.Name "range" p) [a, b] [] pos) (iR2 tas) := fun G S Q q => wi_range2 (φ.gl j _ hj).1 hm hs hs2 ((h G S _ q).mono fun ds S1 h => two_mono h fun x y h => by
    obtain ⟨i, e1, h⟩ := isI_get h
    obtain ⟨j, e2, h⟩ := isI_get h
    exact ⟨i, j, e1, e2, h⟩)
theorem di_en (φ : Fx c.X ls gs) (j : Nat) {ts : List Expr} {jj : Nat} {p2 : Pos} (hm : c.X.mg "enumerate" = none) (h : PAd c [a] tas) (hj : gs[j]? = some "enumerate" := by rfl) (hs : starEach [a] c.X.env = [(false, eval a c.X.env)] := by rfl) : PId c (.Tuple ts jj p2) (.Call (.Name "enumerate" p) [a] [] pos) (iEn tas) := fun G S Q q => wi_enum (φ.gl j _ hj).1 hm hs (h G S _ q)
/-- a clause's tests -/
def PTsB (c : CD) (scope : Scope) (ifs : List Expr) (t : TTd) : Prop := ∀ G S Q, t G S Q → WTsB c scope ifs G S Q
theorem dts_nil {scope : Scope} : PTsB c scope [] tYs := fun G S Q h => h
theorem dts_one {scope : Scope} (h : ∀ s H0 C cl fp, PTd (blkC c scope s H0 C cl fp) a tt) : PTsB c scope [a] tt := fun G S Q q s H0 C cl fp => h s H0 C cl fp G S Q q
theorem WTsB.mono {scope : Scope} {ifs : List Expr} {G : Loc} {S : Sto} {Q Q' : Bool → Sto → Prop} (h : WTsB c scope ifs G S Q) (k : ∀ b S, Q b S → Q' b S) : WTsB c scope ifs G S Q' := by
  match ifs, h with
  | [], h => exact k _ _ h
  | [t], h => exact fun s H0 C cl fp => (h s H0 C cl fp).mono k
theorem lc_ask {elt : Expr} {ifs : List Expr} {scope : Scope} {own : List (Str × Nat)} {bind : D → Loc → (Loc → Prop) → Prop} {G : Loc} {Q : QD} {ds : List D} {S1 : Sto} (hb : BindOk c scope tg own bind) (ht : PTsB c scope ifs tt) (he : ∀ s H0 C cl fp, PEd (blkC c scope s H0 C cl fp) elt ta)
    (h : ∃ Iv : Nat → List D → Sto → Prop, Iv 0 [] S1 ∧
      (∀ i d acc S p, ds[i]? = some d → Iv i acc S → bind d (wipeG G (own.map (·.2))) fun G2 => tt G2 ((p, .lst acc) :: S) fun k S2 => ∃ S3, S2 = (p, .lst acc) :: S3 ∧ (k = true → ta G2 S2 fun y S4 => ∃ S5, S4 = (p, .lst acc) :: S5 ∧ acc.length < sizeLine ∧ Iv (i + 1) (acc ++ [y]) S5) ∧ (k = false → Iv (i + 1) acc S3)) ∧
      ∀ acc S, Iv ds.length acc S → mk acc S Q) : LcAsk c G scope own ifs elt bind Q ds S1 := by
  obtain ⟨Iv, h0, h1, h2⟩ := h
  refine ⟨Iv, h0, fun i d acc S p e q => ?_, h2⟩
  refine hb.1 _ _ _ _ (h1 i d acc S p e q) fun G2 h3 => ?_
  exact (ht _ _ _ h3).mono fun k S2 ⟨S3, e3, h4, h5⟩ => ⟨S3, e3, fun z s H0 C cl fp => he s H0 C cl fp _ _ _ (h4 z), h5⟩
theorem d_lc [Calm c] {elt iter : Expr} {ifs : List Expr} {scope : Scope} {bind : D → Loc → (Loc → Prop) → Prop} {ti : TAd} (own : List (Str × Nat)) (ok : L2.blkC c.X.N c.X.env.scope scope own = true) (hb : BindOk c scope tg own bind) (hi : PId c tg iter ti) (ht : PTsB c scope ifs tt) (he : ∀ s H0 C cl fp, PEd (blkC c scope s H0 C cl fp) elt ta)
    (hs : ∀ x, foldedSetIterable iter c.X.env x = pure x := by intro _; rfl) : PEd c (.ListComp elt [⟨tg, iter, ifs, 0⟩] scope pos) (eLc ti (own.map (·.2)) bind tt ta) := fun G S Q h =>
  w_lc own (blkOk_by ok) hb hs ((hi G S _ h).mono fun ds S1 h1 => lc_ask hb ht he h1)

/-! ### statements -/
variable {st : Stmt} {rest : List Stmt}
theorem ds_nil : PSsd c [] sNext := fun E G S h => ws_nil h
theorem ds_cons (h1 : PSd c st t) (h2 : PSsd c rest u) : PSsd c (st :: rest) (sSeq t u) := fun E G S h => ws_cons ((h1 _ G S h).mono (fun G' S' q => h2 E G' S' q) (fun _ _ q => q) (fun _ _ q => q) fun _ _ q => q)
theorem ds_ex (he : PEd c e ta) (hs : swapsWith e none pos.line c.X.env = pure false := by rfl) : PSd c (.Expr e pos) (sEx ta) := fun E G S h => ws_expr hs (he G S _ h)
theorem ds_ret (he : PEd c e ta) : PSd c (.Return (some e) pos) (sRet ta) := fun E G S h => ws_ret (he G S _ h)
theorem ds_retN : PSd c (.Return none pos) sRetN := fun E G S h => ws_retN h
theorem ds_pass : PSd c (.Pass pos) sNext := fun E G S h => ws_pass h
theorem ds_if {as bs : List Stmt} (hd : PTd c d tt) (ha : PSsd c as t) (hb : PSsd c bs u) : PSd c (.If d as bs pos) (sIf tt t u) := fun E G S h => ws_if ((hd G S _ h).mono fun k S1 h1 => ⟨fun z => ha E G S1 (h1.1 z), fun z => hb E G S1 (h1.2 z)⟩)
theorem ds_set (φ : Fx c.X ls gs) {p2 : Pos} (i : Nat) (he : PEd c e ta) (hi : c.X.N[i]? = some x := by rfl) (hk : locK (ls.getD i none) = true := by rfl) (hf : ∀ x, c.X.fn x = true := by exact fun _ => rfl) (hs : swapsWith e (some (.Name x p2)) pos.line c.X.env = pure false := by rfl) :
    PSd c (.Assign [.Name x p2] e pos) (sSet i ta) := fun E G S h => by
  have hx := loc_of (φ.kd i x hi) hk
  by_cases hG : i < G.length
  · exact ws_set i hi hx (.inl (hf x)) hG hs ((he G S _ h).mono fun d S1 h1 => (inG_get h1).2)
  · refine fun B σ H R => tS_of (ps_set c.nd hi hx (pe_self e) hs (.inl (hf x))) ?_
    exact tE_mono (he G S _ h B σ H R) fun v H1 ⟨B1, d, S1, s1, R1, r1, q⟩ => absurd (inG_get q).1 hG
theorem ds_asg (he : PEd c e ta) {g : TGd} (hg : PGd c tg g) (hs : swapsWithSole [tg] e pos.line c.X.env = pure false := by rfl) (hw : swappedStores [tg] e c.X.env = pure none := by rfl) (h1 : (assignEach [tg] c.X.env).map (·.2) = [assign tg c.X.env] := by rfl) : PSd c (.Assign [tg] e pos) (sAsg ta g) := fun E G S h =>
  ws_asg hs hw h1 ((he G S _ h).mono fun d S1 q => hg d G S1 _ q)
theorem sw_par {env : Env} {x y : Str} {px py pt : Pos} {kt k2 : Nat} {pt2 : Pos} {a b : Expr} (hk : env.scope.kind = .function) (hx : env.scope.names.lookup x = some .local) (hy : env.scope.names.lookup y = some .local) (hxy : x ≠ y) (hl : (py.line == px.line) = true)
    (hs : ([a, b].any fun | .Starred .. => true | _ => false) = false) (h1 : [a, b].all (foldedForSure 8) = false) (h2 : [a, b].all (constantsAlone 8) = false) : swappedStores [.Tuple [.Name x px, .Name y py] kt pt] (.Tuple [a, b] k2 pt2) env = pure (some [x, y]) := by
  have hb : env.blockKind = .function := by unfold Env.blockKind; rw [hk]; rfl
  have kx : env.kindOf x = some .local := hx
  have ky : env.kindOf y = some .local := hy
  have he : ([x, y] : List Str).eraseDups = [x, y] := by
    have : (y == x) = false := by simpa using Ne.symm hxy
    simp [List.eraseDups_cons, this]
  unfold swappedStores
  simp only [List.filterMap_cons, List.filterMap_nil, List.head?_cons, Option.map_some, Option.getD_some, Expr.pos, kx, ky, hl, beq_self_eq_true, Bool.and_self, if_true, hb, h1, h2, he]
  split
  · rename_i h
    simp at h
  · split
    · rename_i h
      have h' : ([a, b].any fun | .Starred .. => true | _ => false) = true := h
      rw [hs] at h'
      cases h'
    · split
      · rename_i h
        simp at h
      · rfl
theorem sw_par3 {env : Env} {x y z : Str} {px py pz pt : Pos} {kt k2 : Nat} {pt2 : Pos} {a b d : Expr} (hk : env.scope.kind = .function) (hx : env.scope.names.lookup x = some .local) (hy : env.scope.names.lookup y = some .local) (hz : env.scope.names.lookup z = some .local) (hxy : x ≠ y) (hxz : x ≠ z) (hyz : y ≠ z) (hl : (py.line == px.line) = true) (hl2 : (pz.line == px.line) = true)
    (hs : ([a, b, d].any fun | .Starred .. => true | _ => false) = false) (h1 : [a, b, d].all (foldedForSure 8) = false) (h2 : [a, b, d].all (constantsAlone 8) = false) : swappedStores [.Tuple [.Name x px, .Name y py, .Name z pz] kt pt] (.Tuple [a, b, d] k2 pt2) env = pure (some [x, y, z]) := by
  have hb : env.blockKind = .function := by unfold Env.blockKind; rw [hk]; rfl
  have kx : env.kindOf x = some .local := hx
  have ky : env.kindOf y = some .local := hy
  have kz : env.kindOf z = some .local := hz
  have he : ([x, y, z] : List Str).eraseDups = [x, y, z] := by
    have e1 : (y == x) = false := by simpa using Ne.symm hxy
    have e2 : (z == x) = false := by simpa using Ne.symm hxz
    have e3 : (z == y) = false := by simpa using Ne.symm hyz
    simp [List.eraseDups_cons, e1, e2, e3]
  unfold swappedStores
  simp only [List.filterMap_cons, List.filterMap_nil, List.head?_cons, Option.map_some, Option.getD_some, Expr.pos, kx, ky, kz, hl, hl2, beq_self_eq_true, Bool.and_self, if_true, hb, h1, h2, he]
  split
  · rename_i h
    simp at h
  · split
    · rename_i h
      have h' : ([a, b, d].any fun | .Starred .. => true | _ => false) = true := h
      rw [hs] at h'
      cases h'
    · split
      · rename_i h
        simp at h
      · rfl
theorem nd_ne {N : List Str} (nd : N.Nodup) {i j : Nat} {x y : Str} (hi : N[i]? = some x) (hj : N[j]? = some y) (h : i ≠ j) : x ≠ y := fun e => by
  subst e
  exact h (nodup_ix nd hi hj)
theorem ds_par [Calm c] (φ : Fx c.X ls gs) {y : Str} {px py pt : Pos} {kt k2 : Nat} {pt2 : Pos} (i j : Nat) (ha : PAd c [a, b] tas) (hi : c.X.N[i]? = some x := by rfl) (hj : c.X.N[j]? = some y := by rfl) (hij : i ≠ j := by decide) (hki : isLocK (ls.getD i none) = true := by rfl) (hkj : isLocK (ls.getD j none) = true := by rfl)
    (hl : (py.line == px.line) = true := by rfl) (hst : ([a, b].any fun | .Starred .. => true | _ => false) = false := by rfl) (hf1 : [a, b].all (foldedForSure 8) = false := by rfl) (hf2 : [a, b].all (constantsAlone 8) = false := by rfl) (hs : swapsWithSole [.Tuple [.Name x px, .Name y py] kt pt] (.Tuple [a, b] k2 pt2) pos.line c.X.env = pure false := by rfl) : PSd c (.Assign [.Tuple [.Name x px, .Name y py] kt pt] (.Tuple [a, b] k2 pt2) pos) (sPar i j tas) := fun E G S h => by
  have hx := isLoc_of (φ.kd i x hi) hki
  have hy := isLoc_of (φ.kd j y hj) hkj
  have hw := sw_par (kt := kt) (pt := pt) (k2 := k2) (pt2 := pt2) φ.fk hx hy (nd_ne c.nd hi hj hij) hl hst hf1 hf2
  by_cases h1 : i < G.length
  · by_cases h2 : j < G.length
    · exact ws_par i j hi hj hij hx hy h1 h2 hw hs ((ha G S _ h).mono fun ds S1 q => (inG_get (inG_get q).2).2)
    · refine fun B σ H R => tS_of (ps_par (Calm.calm (c := c)) c.nd hi hj hij hx hy (pa_self _) hw hs) ?_
      exact tA_mono (ha G S _ h B σ H R) fun v H1 ⟨B1, d, S1, s1, R1, r1, q⟩ => absurd (inG_get (inG_get q).2).1 h2
  · refine fun B σ H R => tS_of (ps_par (Calm.calm (c := c)) c.nd hi hj hij hx hy (pa_self _) hw hs) ?_
    exact tA_mono (ha G S _ h B σ H R) fun v H1 ⟨B1, d, S1, s1, R1, r1, q⟩ => absurd (inG_get q).1 h1
theorem ds_par3 [Calm c] (φ : Fx c.X ls gs) {y z : Str} {px py pz pt : Pos} {kt k2 : Nat} {pt2 : Pos} (i j l : Nat) (ha : PAd c [a, b, d] tas) (hi : c.X.N[i]? = some x := by rfl) (hj : c.X.N[j]? = some y := by rfl) (hl : c.X.N[l]? = some z := by rfl) (hij : i ≠ j := by decide) (hil : i ≠ l := by decide) (hjl : j ≠ l := by decide)
    (hki : isLocK (ls.getD i none) = true := by rfl) (hkj : isLocK (ls.getD j none) = true := by rfl) (hkl : isLocK (ls.getD l none) = true := by rfl) (hl1 : (py.line == px.line) = true := by rfl) (hl2 : (pz.line == px.line) = true := by rfl) (hst : ([a, b, d].any fun | .Starred .. => true | _ => false) = false := by rfl) (hf1 : [a, b, d].all (foldedForSure 8) = false := by rfl) (hf2 : [a, b, d].all (constantsAlone 8) = false := by rfl)
    (hs : swapsWithSole [.Tuple [.Name x px, .Name y py, .Name z pz] kt pt] (.Tuple [a, b, d] k2 pt2) pos.line c.X.env = pure false := by rfl) : PSd c (.Assign [.Tuple [.Name x px, .Name y py, .Name z pz] kt pt] (.Tuple [a, b, d] k2 pt2) pos) (sPar3 i j l tas) := fun E G S h => by
  have hx := isLoc_of (φ.kd i x hi) hki
  have hy := isLoc_of (φ.kd j y hj) hkj
  have hz := isLoc_of (φ.kd l z hl) hkl
  have hw := sw_par3 (kt := kt) (pt := pt) (k2 := k2) (pt2 := pt2) φ.fk hx hy hz (nd_ne c.nd hi hj hij) (nd_ne c.nd hi hl hil) (nd_ne c.nd hj hl hjl) hl1 hl2 hst hf1 hf2
  have bad : ¬ (i < G.length ∧ j < G.length ∧ l < G.length) → WS c (.Assign [.Tuple [.Name x px, .Name y py, .Name z pz] kt pt] (.Tuple [a, b, d] k2 pt2) pos) G S E := fun hn B σ H R => by
    refine tS_of (ps_par3 (Calm.calm (c := c)) c.nd hi hj hl hij hil hjl hx hy hz (pa_self _) hw hs) ?_
    exact tA_mono (ha G S _ h B σ H R) fun v H1 ⟨B1, d, S1, s1, R1, r1, q⟩ => absurd ⟨(inG_get q).1, (inG_get (inG_get q).2).1, (inG_get (inG_get (inG_get q).2).2).1⟩ hn
  by_cases hh : i < G.length ∧ j < G.length ∧ l < G.length
  · exact ws_par3 i j l hi hj hl hij hil hjl hx hy hz hh.1 hh.2.1 hh.2.2 hw hs ((ha G S _ h).mono fun ds S1 q => (inG_get (inG_get (inG_get q).2).2).2)
  · exact bad hh
theorem dg_nm (φ : Fx c.X ls gs) (i : Nat) (hi : c.X.N[i]? = some x := by rfl) (hk : locK (ls.getD i none) = true := by rfl) (hf : ∀ x, c.X.fn x = true := by exact fun _ => rfl) : PGd c (.Name x pos) (gNm i) := fun d G S Q h => wg_name i hi (loc_of (φ.kd i x hi) hk) (.inl (hf x)) (inG_get h).1 (inG_get h).2
theorem dgs_nil : PGsd c [] gsNil := fun ds G S Q h => by
  cases ds with
  | nil => exact wgs_nil h
  | cons _ _ => exact False.elim h
theorem dgs_cons {g : TGd} {gs : TGsd} (h1 : PGd c e g) (h2 : PGsd c es gs) (hs : (assignEach (e :: es) c.X.env).map (·.2) = assign e c.X.env :: (assignEach es c.X.env).map (·.2) := by rfl) : PGsd c (e :: es) (gsCons g gs) := fun ds G S Q h => by
  cases ds with
  | nil => exact False.elim h
  | cons d r => exact wgs_cons hs ((h1 d G S _ h).mono fun G1 S1 q => h2 r G1 S1 Q q)
theorem dg_tp [Calm c] {gs : TGsd} (n : Nat) (h : PGsd c es gs) {j : Nat} (hn : (assignEach es c.X.env).length = n := by rfl) (hst : (assignEach es c.X.env).findIdx? (·.1) = none := by rfl) : PGd c (.Tuple es j pos) (gTp n gs) := fun d G S Q q => by
  cases d <;> first | exact False.elim q | skip
  case tup ds => exact wg_tup (hn.trans (lenIs_get q).1.symm) hst (h ds G S Q (lenIs_get q).2)
theorem dg_ix (ha : PEd c a ta) (hb : PEd c b tb) (hs : ∀ v, assign (.Subscript a b pos) c.X.env v = (do
      let ov ← holding [v] (eval a c.X.env)
      let iv ← holding [v, ov] (eval b c.X.env)
      standAt pos
      holding [v, ov, iv] (setItem ov iv v)
      release [v, ov, iv] []) := by intro _; rfl) : PGd c (.Subscript a b pos) (gIx ta tb) := fun d G S Q h => wg_sub hs ((ha G S _ h).mono fun x S1 h1 => hb G S1 _ h1)
theorem ds_while {body : List Stmt} (hp : PassesOwn (model c.X.prog c.X.w) c.X.A c.X.env c.X.xe) (hd : PTd c d tt) (hb : PSsd c body t) : PSd c (.While d body [] pos) (sWhile tt t) := fun E G S ⟨Iv, m0, h0, h⟩ =>
  ws_while hp Iv m0 h0 fun m G S hi => (hd G S _ (h m G S hi)).mono fun k S1 h1 => ⟨fun z => hb _ G S1 (h1.1 z), h1.2⟩
theorem ds_for [Calm c] {iter : Expr} {body : List Stmt} {ti : TAd} {g : TGd} (hp : PassesOwn (model c.X.prog c.X.w) c.X.A c.X.env c.X.xe) (hi : PId c tg iter ti) (hg : PGd c tg g) (hb : PSsd c body t) (hs : ∀ x, foldedSetIterable iter c.X.env x = pure x := by intro _; rfl) : PSd c (.For tg iter body [] pos) (sFor ti g t) := fun E G S h =>
  ws_for hp hs ((hi G S _ h).mono fun ds S1 ⟨Iv, h0, h1, h2⟩ => ⟨Iv, h0, fun i d G S e q => (hg d G S _ (h1 i d G S e q)).mono fun G2 S2 q2 => hb _ G2 S2 q2, h2⟩)
/-- name = [..] on one line -/
theorem ds_setLc [Calm c] (φ : Fx c.X ls gs) {elt iter : Expr} {ifs : List Expr} {scope : Scope} {bind : D → Loc → (Loc → Prop) → Prop} {ti : TAd} {py spos : Pos} (i : Nat) (own : List (Str × Nat)) (ok : L2.blkC c.X.N c.X.env.scope scope own = true) (hb : BindOk c scope tg own bind) (hii : PId c tg iter ti) (ht : PTsB c scope ifs tt) (he : ∀ s H0 C cl fp, PEd (blkC c scope s H0 C cl fp) elt ta)
    (hl : (py.line == pos.line) = true := by rfl) (hi : c.X.N[i]? = some x := by rfl) (hki : isLocK (ls.getD i none) = true := by rfl) (hno : (scope.names.any fun (n, k) => n == x && (k == .local || k == .cell)) = false := by decide +kernel) (hs : ∀ x, foldedSetIterable iter c.X.env x = pure x := by intro _; rfl) :
    PSd c (.Assign [.Name x py] (.ListComp elt [⟨tg, iter, ifs, 0⟩] scope pos) spos) (sSet i (eLc ti (own.map (·.2)) bind tt ta)) := fun E G S h => by
  have hx := isLoc_of (φ.kd i x hi) hki
  have hsw := sw_true (elt := elt) (gs := [⟨tg, iter, ifs, 0⟩]) (scope := scope) (pos := pos) (py := py) (l := spos.line) φ.fk hx hl hno
  have h' := (hii G S _ h).mono fun ds S1 h1 => lc_ask hb ht he h1
  by_cases hG : i < G.length
  · exact ws_setLc i own hi hx hG hsw (blkOk_by ok) hb hs (h'.mono fun ds S1 ⟨Iv, h0, h1, h2⟩ => ⟨Iv, h0, h1, fun acc S q => (h2 acc S q).imp (fun z => (inG_get z).2) fun z p => (inG_get (z p)).2⟩)
  · exact setLc_bad hsw (blkOk_by ok) hb hs hi hx hG h'
where
  setLc_bad {elt iter : Expr} {ifs : List Expr} {scope : Scope} {bind : D → Loc → (Loc → Prop) → Prop} {E : DE} {G : Loc} {S : Sto} {py spos : Pos} {i : Nat} {own : List (Str × Nat)} {Q : D → Sto → Prop}
      (hsw : swapsWith (.ListComp elt [⟨tg, iter, ifs, 0⟩] scope pos) (some (.Name x py)) spos.line c.X.env = pure true) (ok : BlkOk c.X.N c.X.env.scope scope own) (hb : BindOk c scope tg own bind) (hs : ∀ x, foldedSetIterable iter c.X.env x = pure x)
      (hi : c.X.N[i]? = some x) (hx : c.X.env.scope.names.lookup x = some .local) (hG : ¬ i < G.length) (h : WI c tg iter G S fun ds S1 => LcAsk c G scope own ifs elt bind (fun d S1 => inG G i (Q d S1)) ds S1) : WS c (.Assign [.Name x py] (.ListComp elt [⟨tg, iter, ifs, 0⟩] scope pos) spos) G S E := fun B σ H R => by
    obtain ⟨_, g, pg, hg⟩ := hb
    refine tS_of (ps_setLc (Calm.calm (c := c)) c.nd hi hx hsw (pi_self tg iter) ok pg (fun s H0 C cl fp => pts_all (c := c) (s := s) (H0 := H0) (C := C) (cl := cl) (fp := fp) ifs) (fun s H0 C cl fp => (⟨fun pins s' σ H Q I h => h s H0 C cl fp pins s' I⟩ : PE _ elt (tEB c scope elt))) hs) ?_
    exact lc_mono (lc_read R hg h) fun v H1 ⟨B1, d, S1, s1, R1, r1, q⟩ => absurd (inG_get q).1 hG
end
section
variable {m : Mo} {N : List Str} {qual : Str} {sc scope : Scope} {f : Addr} {cdv : Value} {A : Around} {outer : List Env} {s : Shared} {H B : Hp} {E : XK} {EX : EXT} {k : Nat} {hE : ∀ cls d H', XD m.K B EX cls d H' → E cls d H'}
  {hr : Room k (A.deeper (envOfC qual sc s.heap.objs.size f cdv))} {nd : N.Nodup} {e a b d : Expr} {pos p : Pos} {x y : Str} {tg elt iter : Expr} {ifs : List Expr} {ta : TEd} {tt : TTd} {ti : TAd} {bind : D → Loc → (Loc → Prop) → Prop} {ls ls2 : List (Option NameKind)} {gs gs2 : List Str} {own : List (Str × Nat)}
theorem fn_or {sc scope : Scope} {x : Str} {k : Option NameKind} (h : (relS scope sc).names.lookup x = k) (v : (isLocK k || (scope.names.lookup x == some .cell)) = true) : (scope.names.lookup x == some .cell) = true ∨ (relS scope sc).names.lookup x = some .local := by
  rcases Bool.or_eq_true _ _ ▸ v with q | q
  · exact .inr (isLoc_of h q)
  · exact .inl q
theorem bind_name (h : fxC N (relS scope sc) ls gs = true) (i : Nat) (hi : N[i]? = some x := by rfl) (hk : locK (ls.getD i none) = true := by rfl) (hf : (isLocK (ls.getD i none) || (scope.names.lookup x == some .cell)) = true := by first | rfl | decide +kernel) (ho : (own.map (·.2)).elem i = true := by rfl) :
    BindOk (bodyC m N qual sc f cdv A outer s H B E EX k hE hr nd) scope (.Name x pos) own (bind1 i) :=
  bind_name' i hi (loc_of ((fxC_get h).2.2.1 i x hi) hk) (fn_or ((fxC_get h).2.2.1 i x hi) hf) (List.mem_of_elem_eq_true ho)
theorem bind_pair (h : fxC N (relS scope sc) ls gs = true) (i j : Nat) {kk : Nat} {p1 p2 : Pos} (hi : N[i]? = some x := by rfl) (hj : N[j]? = some y := by rfl) (hk : locK (ls.getD i none) = true := by rfl) (hkj : locK (ls.getD j none) = true := by rfl)
    (hf : (isLocK (ls.getD i none) || (scope.names.lookup x == some .cell)) = true := by first | rfl | decide +kernel) (hf2 : (isLocK (ls.getD j none) || (scope.names.lookup y == some .cell)) = true := by first | rfl | decide +kernel) (ho : (own.map (·.2)).elem i = true := by rfl) (ho2 : (own.map (·.2)).elem j = true := by rfl) :
    BindOk (bodyC m N qual sc f cdv A outer s H B E EX k hE hr nd) scope (.Tuple [.Name x p1, .Name y p2] kk pos) own (bind2 i j) :=
  bind_pair' i j hi hj (loc_of ((fxC_get h).2.2.1 i x hi) hk) (loc_of ((fxC_get h).2.2.1 j y hj) hkj) (fn_or ((fxC_get h).2.2.1 i x hi) hf) (fn_or ((fxC_get h).2.2.1 j y hj) hf2) (List.mem_of_elem_eq_true ho) (List.mem_of_elem_eq_true ho2)
theorem d_lcF (ls : List (Option NameKind)) (gs : List Str) (own : List (Str × Nat)) (h : fxC N (relS scope sc) ls gs = true) (ok : L2.blkC N sc scope own = true) (hb : fxC N (relS scope sc) ls gs = true → BindOk (bodyC m N qual sc f cdv A outer s H B E EX k hE hr nd) scope tg own bind) (hi : PId (bodyC m N qual sc f cdv A outer s H B E EX k hE hr nd) tg iter ti)
    (ht : (∀ s1 H1 C cl fp, Fx (blkC (bodyC m N qual sc f cdv A outer s H B E EX k hE hr nd) scope s1 H1 C cl fp).X ls gs) → PTsB (bodyC m N qual sc f cdv A outer s H B E EX k hE hr nd) scope ifs tt)
    (he : ∀ s1 H1 C cl fp, Fx (blkC (bodyC m N qual sc f cdv A outer s H B E EX k hE hr nd) scope s1 H1 C cl fp).X ls gs → PEd (blkC (bodyC m N qual sc f cdv A outer s H B E EX k hE hr nd) scope s1 H1 C cl fp) elt ta) (hs : ∀ z, foldedSetIterable iter (bodyC m N qual sc f cdv A outer s H B E EX k hE hr nd).X.env z = pure z := by intro _; rfl) :
    PEd (bodyC m N qual sc f cdv A outer s H B E EX k hE hr nd) (.ListComp elt [⟨tg, iter, ifs, 0⟩] scope pos) (eLc ti (own.map (·.2)) bind tt ta) :=
  d_lc own ok (hb h) hi (ht fun _ _ _ _ _ => fx_blk h) (fun _ _ _ _ _ => he _ _ _ _ _ (fx_blk h)) hs
theorem ds_setLcF (φ : Fx (bodyC m N qual sc f cdv A outer s H B E EX k hE hr nd).X ls2 gs2) (i : Nat) (ls : List (Option NameKind)) (gs : List Str) (own : List (Str × Nat)) (h : fxC N (relS scope sc) ls gs = true) (ok : L2.blkC N sc scope own = true) (hb : fxC N (relS scope sc) ls gs = true → BindOk (bodyC m N qual sc f cdv A outer s H B E EX k hE hr nd) scope tg own bind) (hii : PId (bodyC m N qual sc f cdv A outer s H B E EX k hE hr nd) tg iter ti)
    (ht : (∀ s1 H1 C cl fp, Fx (blkC (bodyC m N qual sc f cdv A outer s H B E EX k hE hr nd) scope s1 H1 C cl fp).X ls gs) → PTsB (bodyC m N qual sc f cdv A outer s H B E EX k hE hr nd) scope ifs tt)
    (he : ∀ s1 H1 C cl fp, Fx (blkC (bodyC m N qual sc f cdv A outer s H B E EX k hE hr nd) scope s1 H1 C cl fp).X ls gs → PEd (blkC (bodyC m N qual sc f cdv A outer s H B E EX k hE hr nd) scope s1 H1 C cl fp) elt ta)
    {py spos : Pos} (hl : (py.line == pos.line) = true := by rfl) (hi : N[i]? = some x := by rfl) (hki : isLocK (ls2.getD i none) = true := by rfl) (hno : (scope.names.any fun (n, k) => n == x && (k == .local || k == .cell)) = false := by decide +kernel) (hs : ∀ z, foldedSetIterable iter (bodyC m N qual sc f cdv A outer s H B E EX k hE hr nd).X.env z = pure z := by intro _; rfl) :
    PSd (bodyC m N qual sc f cdv A outer s H B E EX k hE hr nd) (.Assign [.Name x py] (.ListComp elt [⟨tg, iter, ifs, 0⟩] scope pos) spos) (sSet i (eLc ti (own.map (·.2)) bind tt ta)) :=
  ds_setLc φ i own ok (hb h) hii (ht fun _ _ _ _ _ => fx_blk h) (fun _ _ _ _ _ => he _ _ _ _ _ (fx_blk h)) hl hi hki hno hs
end
end DL
end

section
set_option autoImplicit false
set_option maxRecDepth 100000
set_option maxHeartbeats 4000000
namespace DL
open PySem PySem.Spec PyProof.Rows L2
open PySem.W (Frag)
/-! ### the built-ins' names -/
theorem bb_len : bootBuiltins "len" = some (.builtin "len") := by decide +kernel
theorem bb_abs : bootBuiltins "abs" = some (.builtin "abs") := by decide +kernel
theorem bb_max : bootBuiltins "max" = some (.builtin "max") := by decide +kernel
theorem bb_min : bootBuiltins "min" = some (.builtin "min") := by decide +kernel
theorem bb_sum : bootBuiltins "sum" = some (.builtin "sum") := by decide +kernel
theorem bb_all : bootBuiltins "all" = some (.builtin "all") := by decide +kernel
theorem bb_any : bootBuiltins "any" = some (.builtin "any") := by decide +kernel
theorem bb_isinstance : bootBuiltins "isinstance" = some (.builtin "isinstance") := by decide +kernel
theorem bb_int : bootBuiltins "int" = some (.type "int") := by decide +kernel
theorem bb_bool : bootBuiltins "bool" = some (.type "bool") := by decide +kernel
theorem bb_str : bootBuiltins "str" = some (.type "str") := by decide +kernel
theorem bb_tuple : bootBuiltins "tuple" = some (.type "tuple") := by decide +kernel
theorem bb_list : bootBuiltins "list" = some (.type "list") := by decide +kernel
theorem bb_dict : bootBuiltins "dict" = some (.type "dict") := by decide +kernel
theorem bb_ValueError : bootBuiltins "ValueError" = some (.type "ValueError") := by decide +kernel

/-! ### isinstance of data -/
def isIntD : D → Bool
  | .int _ => true
  | _ => false
def isBlD : D → Bool
  | .bl _ => true
  | _ => false
def isTupD : D → Bool
  | .tup _ => true
  | _ => false
def isLstD : D → Bool
  | .lst _ => true
  | .slst _ => true
  | _ => false
def isStrD : D → Bool
  | .str _ => true
  | _ => false
theorem kb1 : kitB "NoneType" "int" = some false ∧ kitB "bool" "int" = some true ∧ kitB "int" "int" = some true ∧ kitB "str" "int" = some false ∧ kitB "tuple" "int" = some false ∧ kitB "list" "int" = some false ∧ kitB "dict" "int" = some false := by decide +kernel
theorem kb2 : kitB "NoneType" "bool" = some false ∧ kitB "bool" "bool" = some true ∧ kitB "int" "bool" = some false ∧ kitB "str" "bool" = some false ∧ kitB "tuple" "bool" = some false ∧ kitB "list" "bool" = some false ∧ kitB "dict" "bool" = some false := by decide +kernel
theorem kb3 : kitB "NoneType" "tuple" = some false ∧ kitB "bool" "tuple" = some false ∧ kitB "int" "tuple" = some false ∧ kitB "str" "tuple" = some false ∧ kitB "tuple" "tuple" = some true ∧ kitB "list" "tuple" = some false ∧ kitB "dict" "tuple" = some false := by decide +kernel
theorem kb4 : kitB "NoneType" "list" = some false ∧ kitB "bool" "list" = some false ∧ kitB "int" "list" = some false ∧ kitB "str" "list" = some false ∧ kitB "tuple" "list" = some false ∧ kitB "list" "list" = some true ∧ kitB "dict" "list" = some false := by decide +kernel
theorem kb5 : kitB "NoneType" "str" = some false ∧ kitB "bool" "str" = some false ∧ kitB "int" "str" = some false ∧ kitB "str" "str" = some true ∧ kitB "tuple" "str" = some false ∧ kitB "list" "str" = some false ∧ kitB "dict" "str" = some false := by decide +kernel
/-- plain data: none, truths, numbers, texts, tuples, lists, dicts -/
def Pln (x : D) : Prop := ∃ n, tyN x = some n
theorem isi_int {x : D} {S : Sto} {Q : QD} (h : Pln x) (q : Q (.bl (isIntD x || isBlD x)) S) : dIsi [x, .ty "int"] S Q := by
  obtain ⟨n, h⟩ := h
  obtain ⟨k1, k2, k3, k4, k5, k6, k7⟩ := kb1
  cases x <;> first | (cases h; done) | exact ⟨_, _, rfl, by assumption, q⟩
theorem isi_bool {x : D} {S : Sto} {Q : QD} (h : Pln x) (q : Q (.bl (isBlD x)) S) : dIsi [x, .ty "bool"] S Q := by
  obtain ⟨n, h⟩ := h
  obtain ⟨k1, k2, k3, k4, k5, k6, k7⟩ := kb2
  cases x <;> first | (cases h; done) | exact ⟨_, _, rfl, by assumption, q⟩
theorem isi_tuple {x : D} {S : Sto} {Q : QD} (h : Pln x) (q : Q (.bl (isTupD x)) S) : dIsi [x, .ty "tuple"] S Q := by
  obtain ⟨n, h⟩ := h
  obtain ⟨k1, k2, k3, k4, k5, k6, k7⟩ := kb3
  cases x <;> first | (cases h; done) | exact ⟨_, _, rfl, by assumption, q⟩
theorem isi_list {x : D} {S : Sto} {Q : QD} (h : Pln x) (q : Q (.bl (isLstD x)) S) : dIsi [x, .ty "list"] S Q := by
  obtain ⟨n, h⟩ := h
  obtain ⟨k1, k2, k3, k4, k5, k6, k7⟩ := kb4
  cases x <;> first | (cases h; done) | exact ⟨_, _, rfl, by assumption, q⟩
theorem isi_str {x : D} {S : Sto} {Q : QD} (h : Pln x) (q : Q (.bl (isStrD x)) S) : dIsi [x, .ty "str"] S Q := by
  obtain ⟨n, h⟩ := h
  obtain ⟨k1, k2, k3, k4, k5, k6, k7⟩ := kb5
  cases x <;> first | (cases h; done) | exact ⟨_, _, rfl, by assumption, q⟩

/-! ### products of numbers below a bound -/
theorem mul_ok_l {i j : Int} (h : i.natAbs < 2 ^ 64) : MulB i j := .of_left (intBits_le_64 (by omega) (by omega))
theorem mul_ok_r {i j : Int} (h : j.natAbs < 2 ^ 64) : MulB i j := .of_right (intBits_le_64 (by omega) (by omega))
theorem mul_ok_w {i j : Int} {a b : Nat} (ha : i.natAbs < 2 ^ a) (hb : j.natAbs < 2 ^ b) (h0 : 0 < a) (h1 : 0 < b) (h : a + b ≤ 1000000) : MulB i j := (wide_mul ha hb h0 h1 h).ok
theorem bits_mul {i j : Int} {a b : Nat} (ha : i.natAbs < 2 ^ a) (hb : j.natAbs < 2 ^ b) : (i * j).natAbs < 2 ^ (a + b) := wide_lt ha hb

/-! ### a law's well: three numbers in a list that is written -/
def Wl (S : Sto) (k : Nat) (w : Addr) : Prop := ∃ a b c : Int, S[k]? = some (w, Cel.lst [.int a, .int b, .int c])
def Wst (S S' : Sto) (k : Nat) (w : Addr) : Prop := ∃ a b c : Int, S' = S.set k (w, Cel.lst [.int a, .int b, .int c])
theorem Wl.to {S S' : Sto} {k : Nat} {w : Addr} (h : Wl S k w) (t : Wst S S' k w) : Wl S' k w := by
  obtain ⟨_, _, _, h⟩ := h
  obtain ⟨a, b, c, e⟩ := t
  have hk : k < S.length := (List.getElem?_eq_some_iff.mp h).1
  exact ⟨a, b, c, by rw [e, List.getElem?_set_self hk]⟩
theorem Wst.trans {S S1 S2 : Sto} {k : Nat} {w : Addr} (h : Wst S S1 k w) (t : Wst S1 S2 k w) : Wst S S2 k w := by
  obtain ⟨_, _, _, e⟩ := h
  obtain ⟨a, b, c, e2⟩ := t
  exact ⟨a, b, c, by rw [e2, e, List.set_set]⟩
/-- a law's draw: some number below many -/
def spDraw : FSp := fun ds S Q _ => ∃ (w : Addr) (k : Nat) (many : Int), ds = [.ref w, .int many] ∧ Wl S k w ∧ 0 < many ∧ many < 2 ^ 64 ∧ ∀ (v : Int) (S' : Sto), 0 ≤ v → v < many → Wst S S' k w → Q (.int v) S'
theorem ln_draw : ∀ ds S Q EX, spDraw ds S Q EX → ds.length = 2 := fun ds S Q EX ⟨w, k, many, e, _⟩ => by rw [e]; rfl
theorem fmod_pos {a b : Int} (h : 0 < b) : 0 ≤ a.fmod b ∧ a.fmod b < b := by
  rw [Int.fmod_eq_emod_of_nonneg a (by omega)]
  exact ⟨Int.emod_nonneg _ (by omega), Int.emod_lt_of_pos _ h⟩
theorem div_ok {i j : Int} (h : 0 < j) (hb : j < 2 ^ 64) : CDivW i j := wide_div (b := 64) h (by omega) (by decide) (by decide)
end DL
end

section
set_option autoImplicit false
set_option maxRecDepth 100000
set_option maxHeartbeats 4000000
namespace DL
open PySem PySem.Spec PyProof.Rows L2
open PySem.W (Frag)
/-! ### zip of any two of lists and tuples -/
inductive Src where
  | lst (a : Addr)
  | tup (a : Addr)
def Src.ad : Src → Addr
  | .lst a => a
  | .tup a => a
def Src.has (K : Frag) (H : Hp) : Src → List V → Prop
  | .lst a, xs => SqL K H a xs
  | .tup a, xs => SqT K H a xs
def Src.itr (h : Heap) (it : Addr) (i : Nat) : Src → Prop
  | .lst a => h.IsListIter it a i
  | .tup a => h.IsTupleIter it a i
def Src.its (h : Heap) (us : Array Value) : Src → Prop
  | .lst a => h.IsList a us
  | .tup a => h.IsTuple a us
def Src.ob : Src → Obj
  | .lst a => { cls := .type "list_iterator", data := .fields #[.ref a, .int 0 0] }
  | .tup a => { cls := .type "tuple_iterator", data := .fields #[.ref a, .int 0 0] }
theorem Src.got {X : Cx} {pins : List (Addr × Obj)} {σ : L2.St} {H : Hp} {s : Shared} {xs : List V} (I : Inv X pins σ H s) : ∀ {a : Src}, a.has X.K H xs → ∃ us : List Value, Vals xs us ∧ a.its s.heap us.toArray ∧ a.ad < s.heap.objs.size
  | .lst a, h => by
    obtain ⟨us, r, p, _⟩ := I.list h
    exact ⟨us, r, p.isList, p.lt⟩
  | .tup a, h => by
    obtain ⟨us, r, p, _⟩ := I.tuple h
    have p' : s.heap.IsTuple a us.toArray := p
    obtain ⟨o, ho, _⟩ := id p'
    exact ⟨us, r, p', Heap.lt_size ho⟩
theorem Src.inj {X : Cx} {pins : List (Addr × Obj)} {σ : L2.St} {H : Hp} {s : Shared} {xs ys : List V} (I : Inv X pins σ H s) : ∀ {a : Src}, a.has X.K H xs → a.has X.K H ys → xs = ys
  | .lst a, h, h' => I.list_inj h h'
  | .tup a, h, h' => I.tuple_inj h h'
theorem Src.draws {prog : Program} {w : World} {A : Around} (hh : A.handled = none) (it : Addr) (us : Array Value) : ∀ (a : Src), a.ad ≠ it → Draws prog w A it [it, a.ad] us.size (fun i v => us[i]? = some v) (fun i h => a.itr h it i ∧ a.its h us)
  | .lst a, ne => Draws.list hh it a ne us
  | .tup a, ne => Draws.tuple hh it a ne us
theorem Src.begins (us : Array Value) : ∀ (a : Src), Begins (.ref a.ad) a.ob fun h => a.its h us
  | .lst a => begins_list a us
  | .tup a => begins_tuple a us
theorem Src.itr_at {h h' : Heap} {it : Addr} {i : Nat} : ∀ {a : Src}, a.itr h it i → (∀ o, h.get? it = some o → h'.get? it = some o) → a.itr h' it i
  | .lst a, q, k => Heap.IsListIter.at q k
  | .tup a, q, k => Heap.IsTupleIter.at q k
theorem Src.itr_ob {h : Heap} {it : Addr} {i : Nat} : ∀ {a : Src}, a.itr h it i → ∃ o, h.get? it = some o ∧ ∀ v, o.data ≠ .cell v
  | .lst a, q => by
    obtain ⟨o, e, _, d⟩ := q
    exact ⟨o, e, fun v z => by rw [d] at z; cases z⟩
  | .tup a, q => by
    obtain ⟨o, e, _, d⟩ := q
    exact ⟨o, e, fun v z => by rw [d] at z; cases z⟩
theorem Src.new_itr {h : Heap} {it : Addr} : ∀ {a : Src}, h.get? it = some a.ob → a.itr h it 0
  | .lst a, e => ⟨_, e, rfl, rfl⟩
  | .tup a, e => ⟨_, e, rfl, rfl⟩
def ItzM (K : Frag) (a b : Src) : It :=
  ⟨fun i H => ∃ (xs ys : List V) (x y : V), a.has K H xs ∧ b.has K H ys ∧ xs[i]? = some x ∧ ys[i]? = some y,
    fun i H v H' => ∃ T x y, v = .ref T ∧ H T = none ∧ H' = upd H T (.tup [x, y]) ∧ (∀ xs, a.has K H xs → xs[i]? = some x) ∧ ∀ ys, b.has K H ys → ys[i]? = some y,
    fun i H => ∃ xs ys : List V, a.has K H xs ∧ b.has K H ys ∧ (xs.length ≤ i ∨ ys.length ≤ i) ∧ i ≤ xs.length ∧ i ≤ ys.length⟩
theorem sep_of {z TI TO i1 i2 la lb : Addr} (D : ZipApart z TI TO i1 i2 la lb) : ZipSep2 z TI TO i1 i2 [i1, la] [i2, lb] where
  TIz := D.TIz
  TOz := D.TOz
  TITO := D.TITO
  TIi1 := D.TIi1
  mem1 := by simp
  zf1 := by simp [D.i1z.symm, D.l1z.symm]
  Tf1 := by simp [D.TOi1, D.l1TO.symm]
  TIi2 := D.TIi2
  mem2 := by simp
  zf2 := by simp [D.i2z.symm, D.l2z.symm]
  Tf2 := by simp [D.TOi2, D.l2TO.symm]
  sep1_2 := by simp [D.i12, D.l2i1.symm]
  sep2_1 := by simp [D.i12.symm, D.l1i2.symm]
theorem turn_zipM {P : Program} {w : World} {K : Frag} {elts : List Expr} {kk : Nat} {tpos : Pos} {a b : Src} {z TI TO i1 i2 : Addr} (D : ZipApart z TI TO i1 i2 a.ad b.ad) :
    Turn P w K (.Tuple elts kk tpos) (ItzM K a b) [z, TI, TO, i1, i2] z (fun i h => IsZip h z TI TO .none ∧ IsPair h TI (.ref i1) (.ref i2) ∧ (∃ x y, IsPair h TO x y) ∧ a.itr h i1 i ∧ b.itr h i2 i) where
  mem := by simp
  obj := fun i h st c hc => by
    obtain ⟨hz, hTI, ⟨x, y, hTO⟩, h1, h2⟩ := st
    have e' : c = z ∨ c = TI ∨ c = TO ∨ c = i1 ∨ c = i2 := by simpa using hc
    rcases e' with q | q | q | q | q
    · rw [q]; exact ⟨_, hz, fun v q => nomatch q⟩
    · rw [q]; exact ⟨_, hTI, fun v q => nomatch q⟩
    · rw [q]; exact ⟨_, hTO, fun v q => nomatch q⟩
    · rw [q]; exact Src.itr_ob h1
    · rw [q]; exact Src.itr_ob h2
  keep := fun i h h' st k => by
    obtain ⟨hz, hTI, ⟨x, y, hTO⟩, h1, h2⟩ := st
    exact ⟨k z (by simp) _ hz, k TI (by simp) _ hTI, ⟨x, y, k TO (by simp) _ hTO⟩, Src.itr_at h1 fun o q => k i1 (by simp) o q, Src.itr_at h2 fun o q => k i2 (by simp) o q⟩
  item := by
    intro X hP hw hK hc i pins s σ H E I hf st hg
    subst hP hw hK
    obtain ⟨hz, hTI, ⟨x0, y0, hTO⟩, h1, h2⟩ := st
    obtain ⟨xs, ys, x, y, hqx, hqy, hx, hy⟩ := hg
    obtain ⟨us, rv, p, _⟩ := Src.got I hqx
    obtain ⟨us2, rv2, p2, _⟩ := Src.got I hqy
    obtain ⟨u, hu, ru⟩ := rv.get hx
    obtain ⟨u2, hu2, ru2⟩ := rv2.get hy
    have hzl : z < s.heap.objs.size := Heap.lt_size hz
    have l1 : i < us.toArray.size := by have := (List.getElem?_eq_some_iff.mp hu).1; simpa using this
    have l2 : i < us2.toArray.size := by have := (List.getElem?_eq_some_iff.mp hu2).1; simpa using this
    have hh : X.A.in1.handled = none := I.ok.hd hc
    refine wpAny_pyNext_zipD2_item (sep_of D) (Src.draws hh i1 us.toArray a D.l1i1) (Src.draws hh i2 us2.toArray b D.l2i2) hz hTI hTO ⟨h1, p⟩ ⟨h2, p2⟩ l1 l2 fun x1 x2 h' tk e1 e2 z' TO' st1 st2 hT hsz hk => ?_
    have q1 : x1 = u := by
      have : us.toArray[i]? = some u := by simpa using hu
      rw [this] at e1; exact (Option.some.inj e1).symm
    have q2 : x2 = u2 := by
      have : us2.toArray[i]? = some u2 := by simpa using hu2
      rw [this] at e2; exact (Option.some.inj e2).symm
    subst q1 q2
    refine ⟨_, rfl, wpAny_letOwnedTupleGo_zip (s := { s with heap := h', toks := tk }) z' fun h'' z'' sb => ?_⟩
    have hT2 : h''.get? s.heap.objs.size = some { cls := .type "tuple", data := .seq #[x1, x2] } := (sb.2 _ (Nat.ne_of_gt hzl)).trans hT
    have new : ObjOk X.prog X.w (upd H s.heap.objs.size (.tup [x, y])) h'' s.heap.objs.size (.tup [x, y]) :=
      ⟨by show 2 ≤ sizeLine; decide, [x1, x2], .cons ru (.cons ru2 .nil), ⟨_, hT2, rfl, _, rfl⟩⟩
    have I1 : Inv X pins σ (upd H s.heap.objs.size (.tup [x, y])) { s with heap := h'', toks := tk } :=
      I.turnedNew (t' := tk) (ch := [z, TI, TO, i1, i2]) (fun c o hb q => (sb.2 c (fun q' => hb (by simp [q']))).trans (hk c o (fun q' => hb (by simp [q'])) (fun q' => hb (by simp [q'])) (fun q' => hb (by simp [q'])) (fun q' => hb (by simp [q'])) q)) hf (Nat.le_refl _) new
    refine ⟨.ref s.heap.objs.size, _, I1, rfl, ⟨_, x, y, rfl, I.hok.fresh (Nat.le_refl _), rfl, fun l hl => by rw [Src.inj I hl hqx]; exact hx, fun l hl => by rw [Src.inj I hl hqy]; exact hy⟩, ⟨z'', ?_, ⟨x1, x2, ?_⟩, ?_, ?_⟩, fun c hcm => ?_⟩
    · exact (sb.2 _ D.TIz).trans (hk _ _ D.TIz D.TITO D.TIi1 D.TIi2 hTI)
    · exact (sb.2 _ D.TOz).trans TO'
    · exact Src.itr_at st1.1 fun o q => (sb.2 _ D.i1z).trans q
    · exact Src.itr_at st2.1 fun o q => (sb.2 _ D.i2z).trans q
    · have hlt : c < s.heap.objs.size := by
        have e' : c = z ∨ c = TI ∨ c = TO ∨ c = i1 ∨ c = i2 := by simpa using hcm
        rcases e' with q | q | q | q | q
        · rw [q]; exact hzl
        · rw [q]; exact Heap.lt_size hTI
        · rw [q]; exact Heap.lt_size hTO
        · rw [q]; obtain ⟨_, e1, _⟩ := Src.itr_ob h1; exact Heap.lt_size e1
        · rw [q]; obtain ⟨_, e2, _⟩ := Src.itr_ob h2; exact Heap.lt_size e2
      rw [upd_ne (Nat.ne_of_lt hlt)]
      exact (hf c hcm).1
  done := by
    intro X hP hw hK hc i pins s σ H E I hf st hg
    subst hP hw hK
    obtain ⟨hz, hTI, ⟨x0, y0, hTO⟩, h1, h2⟩ := st
    obtain ⟨xs, ys, hqx, hqy, hend, k1, k2⟩ := hg
    obtain ⟨us, rv, p, _⟩ := Src.got I hqx
    obtain ⟨us2, rv2, p2, _⟩ := Src.got I hqy
    have l1 := rv.length
    have l2 := rv2.length
    have s1 : us.toArray.size = us.length := by simp
    have s2 : us2.toArray.size = us2.length := by simp
    have hh : X.A.in1.handled = none := I.ok.hd hc
    exact wpAny_pyNext_zipD2_end (sep_of D) (Src.draws hh i1 us.toArray a D.l1i1) (Src.draws hh i2 us2.toArray b D.l2i2) hz hTI hTO ⟨h1, p⟩ ⟨h2, p2⟩ (by omega) (by omega) (by omega) fun h' tk hk => ⟨rfl, I.turnedL (t' := tk) (ch := [z, TI, TO, i1, i2]) (fun c o hb q =>
      hk c o (fun q' => hb (by simp [q'])) (fun q' => hb (by simp [q'])) (fun q' => hb (by simp [q'])) (fun q' => hb (by simp [q'])) q) hf⟩
  self := fun A i s Q E st h => wpAny_pyIter_zip st.1 h
def iZipM (K : Frag) (ta : TA) : TI := fun σ H R => ta σ H fun vs H1 => ∃ (a b : Src) (xs ys : List V), vs = [.ref a.ad, .ref b.ad] ∧ a.has K H1 xs ∧ b.has K H1 ys ∧ R (ItzM K a b) H1
theorem pi_zipM {X : Cx} {e e2 : Expr} {ta : TA} {p pos tpos : Pos} {elts : List Expr} {kk : Nat} (hg : Gl X "zip") (hm : X.mg "zip" = none) (ha : PA X [e, e2] ta)
    (hs : starEach [e, e2] X.env = (false, eval e X.env) :: starEach [e2] X.env) (hpl : (backTo pos (starEach [e2] X.env)).any (·.1) = false) :
    PI X (.Tuple elts kk tpos) (.Call (.Name "zip" p) [e, e2] [] pos) (iZipM X.K ta) := by
  refine ⟨fun pins s σ H R I h => ?_⟩
  refine Call_ (ld_blt I hg hm PyProof.Rows.boot_zip (PyProof.Rows.callWith_type1 (thn (ha.run pos pins s σ H _ I h) fun us s1 ⟨vs, H1, I1, r1, q1⟩ => ?_) hs hpl))
  obtain ⟨a, b, xs, ys, ex, hqx, hqy, q⟩ := q1
  subst ex
  cases r1 with
  | cons r rr =>
    cases rr with
    | cons r' rr =>
      cases rr
      cases r
      cases r'
      obtain ⟨us, rv, p1, la⟩ := Src.got I1 hqx
      obtain ⟨us2, rv2, p2, lb⟩ := Src.got I1 hqy
      refine zip_begins2 (Src.begins us.toArray a) (Src.begins us2.toArray b) p1 p2 fun h' hz hTI hTO h1 h2 hsz hk => wpAny_pyIter_zip hz ?_
      have I2 : Inv X pins σ H1 { s1 with heap := h' } := I1.kept (t' := s1.toks) hk
      refine ⟨s1.heap.objs.size + 4, [s1.heap.objs.size + 4, s1.heap.objs.size + 2, s1.heap.objs.size + 3, s1.heap.objs.size, s1.heap.objs.size + 1], _, _, H1, rfl, I2, turn_zipM (PySem.W.ktu_apart s1.heap.objs.size a.ad b.ad la lb), ⟨hz, hTI, ⟨_, _, hTO⟩, Src.new_itr h1, Src.new_itr h2⟩, fun c hcm => ?_, q⟩
      have e' : c = s1.heap.objs.size + 4 ∨ c = s1.heap.objs.size + 2 ∨ c = s1.heap.objs.size + 3 ∨ c = s1.heap.objs.size ∨ c = s1.heap.objs.size + 1 := by simpa using hcm
      have hle : s1.heap.objs.size ≤ c := by
        rcases e' with z | z | z | z | z
        · rw [z]; exact Nat.le_add_right _ _
        · rw [z]; exact Nat.le_add_right _ _
        · rw [z]; exact Nat.le_add_right _ _
        · rw [z]; exact Nat.le_refl _
        · rw [z]; exact Nat.le_add_right _ _
      exact I1.fpOk hle (I1.hok.fresh hle)
/-- what can be walked: a list that stands, a tuple -/
def itD (x : D) (P : List D → Prop) : Prop := match x with
  | .lst ds => P ds
  | .slst ds => P ds
  | .tup ds => P ds
  | _ => False
/-- zip(a, b) -/
def zipD (ds es : List D) : List D := List.zipWith (fun d e => D.tup [d, e]) ds es
def iZp (t : TAd) : TAd := fun G S Q => t G S fun ds S1 => match ds with
  | [x, y] => itD x fun ds => itD y fun es => Q (zipD ds es) S1
  | _ => False
section
variable {c : CD} {e a b d : Expr} {es : List Expr} {pos p : Pos} {x : Str} {tg : Expr} {ta tb td : TEd} {tt tu : TTd} {tas : TAd} {t u : TSd} {ls : List (Option NameKind)} {gs : List Str} {G : Loc} {S : Sto}
theorem itD_get {B H : Hp} {σ : L2.St} {x : D} {v : V} {P : List D → Prop} (R : c.R B G S σ H) (r : Rep c.X.K B x v) (h : itD x P) : ∃ (s : Src) (vs : List V) (ds : List D), v = .ref s.ad ∧ s.has c.X.K H vs ∧ s.has c.X.K B vs ∧ Reps c.X.K B ds vs ∧ P ds := by
  cases x <;> first | exact False.elim h | skip
  case lst ds =>
    obtain ⟨a, vs, e, q, r1⟩ := r
    exact ⟨.lst a, vs, ds, e, .of (R.sub _ _ q), .of q, r1, h⟩
  case slst ds =>
    obtain ⟨a, vs, e, q, r1⟩ := r
    exact ⟨.lst a, vs, ds, e, R.sub.seq q, q, r1, h⟩
  case tup ds =>
    obtain ⟨a, vs, e, q, r1⟩ := r
    exact ⟨.tup a, vs, ds, e, sameT R.sub q, q, r1, h⟩
theorem Src.has_mono {K : Frag} {B B' : Hp} {vs : List V} (s : Same B B') : ∀ {a : Src}, a.has K B vs → a.has K B' vs
  | .lst a, h => s.seq h
  | .tup a, h => sameT s h
theorem yields_zip {B0 : Hp} {a b : Src} {ds es : List D} {vs us : List V} (ha : a.has c.X.K B0 vs) (hb : b.has c.X.K B0 us) (r : Reps c.X.K B0 ds vs) (r' : Reps c.X.K B0 es us) : Yields c B0 (ItzM c.X.K a b) (zipD ds es) := fun K0 B G S σ H s R i => by
  have hA : a.has c.X.K H vs := Src.has_mono R.sub (Src.has_mono s ha)
  have hB : b.has c.X.K H us := Src.has_mono R.sub (Src.has_mono s hb)
  have hl : (zipD ds es).length = min ds.length es.length := List.length_zipWith
  have l1 := r.length
  have l2 := r'.length
  refine ⟨fun hi => ?_, fun x H' y d hd => ?_, fun hi => ?_⟩
  · rw [hl] at hi
    obtain ⟨v, hv, _⟩ := r.get (List.getElem?_eq_getElem (show i < ds.length by omega))
    obtain ⟨u, hu, _⟩ := r'.get (List.getElem?_eq_getElem (show i < es.length by omega))
    exact ⟨vs, us, v, u, hA, hB, hv, hu⟩
  · obtain ⟨T, z, z2, e1, hT, e2, hy, hy2⟩ := y
    subst e1; subst e2
    have hz := hy vs hA
    have hz2 := hy2 us hB
    obtain ⟨d0, hd0, rz⟩ := r.get' hz
    obtain ⟨d1, hd1, rz1⟩ := r'.get' hz2
    have : (zipD ds es)[i]? = some (D.tup [d0, d1]) := by
      unfold zipD
      rw [List.getElem?_zipWith, hd0, hd1]
    rw [this] at hd
    cases hd
    exact pair_ok R hT (Rep.mono s _ _ rz) (Rep.mono s _ _ rz1)
  · rw [hl] at hi
    exact ⟨vs, us, hA, hB, by omega, by omega, by omega⟩
theorem di_zip (φ : Fx c.X ls gs) (j : Nat) {tts : List Expr} {jj : Nat} {p2 : Pos} (hm : c.X.mg "zip" = none) (h : PAd c [a, b] tas) (hj : gs[j]? = some "zip" := by rfl) (hs : starEach [a, b] c.X.env = (false, eval a c.X.env) :: starEach [b] c.X.env := by rfl) (hpl : (backTo pos (starEach [b] c.X.env)).any (·.1) = false := by rfl) :
    PId c (.Tuple tts jj p2) (.Call (.Name "zip" p) [a, b] [] pos) (iZp tas) := fun G S Q q B σ H R => by
  refine tI_of (pi_zipM (φ.gl j _ hj).1 hm (pa_self _) hs hpl) ?_
  refine tA_mono (h G S _ q B σ H R) fun vs H1 ⟨B1, ds, S1, s1, R1, r1, h1⟩ => ?_
  match ds, vs, r1, h1 with
  | [x, y], _, ⟨v, _, e1, r1, w, _, e2, r2, e3⟩, h1 =>
    subst e1 e2 e3
    obtain ⟨sa, vs, ds, e1, h2, h3, r3, h1⟩ := itD_get R1 r1 h1
    obtain ⟨sb, us, es, e2, h4, h5, r4, h1⟩ := itD_get R1 r2 h1
    subst e1 e2
    exact ⟨sa, sb, vs, us, rfl, h2, h4, B1, _, S1, s1, R1, yields_zip h3 h5 r3 r4, h1⟩

/-! ### methods of built-in values -/
abbrev MCall := D → List D → Sto → QD → Prop
inductive MT where
  | list
  | str
def tyOk (T : MT) (x : D) (S : Sto) : Prop := match T with
  | .list => asQ x S fun _ => True
  | .str => match x with
    | .str _ => True
    | _ => False
def MT.name : MT → String
  | .list => "list"
  | .str => "str"
theorem ty_ok {T : MT} {x : D} {v : V} {B H : Hp} {σ : L2.St} (R : c.R B G S σ H) (r : Rep c.X.K B x v) (h : tyOk T x S) : tyV c.X.K T.name v H := by
  cases T with
  | list =>
    obtain ⟨a, vs, ds, e, h1, _, _⟩ := asQ_get R r h
    subst e
    exact .inl ⟨rfl, vs, h1⟩
  | str =>
    cases x <;> first | exact False.elim h | skip
    case str z =>
      cases r
      rfl
def MOk (c : CD) (r : V → List V → Hp → VK → Prop) (P : MCall) : Prop := ∀ (Bl B : Hp) (G : Loc) (σ : L2.St) (H : Hp) (x : D) (v : V) (ds : List D) (vs : List V) (S : Sto) (Q : QD), Same Bl B → c.R B G S σ H → Rep c.X.K B x v → Reps c.X.K B ds vs → P x ds S Q → r v vs H (Post c Bl G σ Q)
def eMc (T : MT) (P : MCall) (to : TEd) (ta : TAd) : TEd := fun G S Q => to G S fun x S1 => tyOk T x S1 ∧ ta G S1 fun ds S2 => P x ds S2 Q
theorem d_mc {T : MT} {id : String} {name : Str} {apos cpos : Pos} {r : V → List V → Hp → VK → Prop} {P : MCall} {o : Expr} {to : TEd} (pa : PlainAttrs T.name) (slot : Slot T.name name id) (hty : typeOf (.builtin id) = pure (.type "method_descriptor")) (hm : MtR c.X id r) (hP : MOk c r P) (ho : PEd c o to) (ha : PAd c (e :: es) tas)
    (hbase : attributeBase o name c.X.env (eval o c.X.env) = eval o c.X.env := by rfl)
    (hfew : ((backTo cpos (starEach (e :: es) c.X.env)).all (fun x => !x.1) && (backToKw cpos (keywordEach [] c.X.env)).all (fun x => x.1.isSome)
      && decide ((e :: es).length + ([] : List Keyword).length + (if ([] : List Keyword).isEmpty then 0 else 1) < 30)) = true := by rfl)
    (hline : (apos.endLine == cpos.line) = true := by rfl) (hs : starEach (e :: es) c.X.env = (false, eval e c.X.env) :: starEach es c.X.env := by rfl) (hplain : (backTo cpos (starEach es c.X.env)).any (·.1) = false := by rfl) :
    PEd c (.Call (.Attribute o name apos) (e :: es) [] cpos) (eMc T P to tas) := fun G S Q h B σ H R => by
  refine tE_of (pe_bm pa slot hty hm (pe_self o) (pa_self _) hbase hfew hline hs hplain) ?_
  refine tE_mono (ho G S _ h B σ H R) fun v H1 ⟨B1, d, S1, s1, R1, r1, ty, h1⟩ => ⟨ty_ok R1 r1 ty, ?_⟩
  exact tA_mono (ha G S1 _ h1 B1 σ H1 R1) fun vs H2 ⟨B2, ds, S2, s2, R2, r2, h2⟩ => hP B B2 G σ H2 d v ds vs S2 Q (s1.trans s2) R2 (Rep.mono s2 _ _ r1) r2 h2
/-- xs.append(y) -/
def mApp : MCall := fun x ds S Q => one ds fun y => match x with
  | .ref a => ∃ k xs, S[k]? = some (a, Cel.lst xs) ∧ xs.length < sizeLine ∧ Q .non (S.set k (a, Cel.lst (xs ++ [y])))
  | _ => False
theorem m_app : MOk c rAppend mApp := fun Bl B G σ H x v ds vs S Q s R r rs h => by
  obtain ⟨u, y, e, r1, h2⟩ := one_get rs h
  clear h
  have h := h2
  clear h2
  subst e
  cases x <;> first | exact False.elim h | skip
  case ref a =>
    obtain ⟨k, xs, e, hz, q⟩ := h
    cases r
    obtain ⟨_, us, e1, r2⟩ := R.cel (a, .lst xs) (List.mem_of_getElem? e)
    refine ⟨a, us, u, rfl, rfl, e1, by rw [r2.length]; exact hz, B, .non, _, s, R.write (c' := .lst (xs ++ [y])) e ⟨us ++ [u], upd_same, r2.append ⟨u, [], rfl, r1, rfl⟩⟩, rfl, q⟩
/-- xs.extend(ys) -/
def mExt : MCall := fun x ds S Q => one ds fun y => match x with
  | .ref a => asL y S fun ys => ∃ k xs, S[k]? = some (a, Cel.lst xs) ∧ xs.length + ys.length ≤ sizeLine ∧ Q .non (S.set k (a, Cel.lst (xs ++ ys)))
  | _ => False
theorem m_ext : MOk c rExtend mExt := fun Bl B G σ H x v ds vs S Q s R r rs h => by
  obtain ⟨u, y, e, r1, h2⟩ := one_get rs h
  clear h
  have h := h2
  clear h2
  subst e
  cases x <;> first | exact False.elim h | skip
  case ref a =>
    obtain ⟨b, ws, ys, e0, hb, r3, k, xs, e, hz, q⟩ := asL_get R r1 h
    subst e0
    cases r
    obtain ⟨_, us, e1, r2⟩ := R.cel (a, .lst xs) (List.mem_of_getElem? e)
    refine ⟨a, b, us, ws, rfl, rfl, e1, hb, by rw [r2.length, r3.length]; exact hz, B, .non, _, s, R.write (c' := .lst (xs ++ ys)) e ⟨us ++ ws, upd_same, r2.append r3⟩, rfl, q⟩
theorem d_append {apos cpos : Pos} {o : Expr} {to : TEd} (ho : PEd c o to) (ha : PAd c [e] tas) (hbase : attributeBase o "append" c.X.env (eval o c.X.env) = eval o c.X.env := by rfl)
    (hfew : ((backTo cpos (starEach [e] c.X.env)).all (fun x => !x.1) && (backToKw cpos (keywordEach [] c.X.env)).all (fun x => x.1.isSome)
      && decide ([e].length + ([] : List Keyword).length + (if ([] : List Keyword).isEmpty then 0 else 1) < 30)) = true := by rfl)
    (hline : (apos.endLine == cpos.line) = true := by rfl) (hs : starEach [e] c.X.env = (false, eval e c.X.env) :: starEach [] c.X.env := by rfl) :
    PEd c (.Call (.Attribute o "append" apos) [e] [] cpos) (eMc .list mApp to tas) := d_mc (T := .list) PySem.F.plainAttrs_list PySem.F.slot_list_append PySem.F.type_list_append mt_append m_app ho ha hbase hfew hline hs rfl
theorem d_extend {apos cpos : Pos} {o : Expr} {to : TEd} (ho : PEd c o to) (ha : PAd c [e] tas) (hbase : attributeBase o "extend" c.X.env (eval o c.X.env) = eval o c.X.env := by rfl)
    (hfew : ((backTo cpos (starEach [e] c.X.env)).all (fun x => !x.1) && (backToKw cpos (keywordEach [] c.X.env)).all (fun x => x.1.isSome)
      && decide ([e].length + ([] : List Keyword).length + (if ([] : List Keyword).isEmpty then 0 else 1) < 30)) = true := by rfl)
    (hline : (apos.endLine == cpos.line) = true := by rfl) (hs : starEach [e] c.X.env = (false, eval e c.X.env) :: starEach [] c.X.env := by rfl) :
    PEd c (.Call (.Attribute o "extend" apos) [e] [] cpos) (eMc .list mExt to tas) := d_mc (T := .list) PySem.F.plainAttrs_list PySem.F.slot_list_extend PySem.F.type_list_extend mt_extend m_ext ho ha hbase hfew hline hs rfl

/-! ### a statement that is never reached; a list of the frame's own that no more changes -/
def sNo : TSd := fun _ _ _ => False
theorem ds_no {st : Stmt} : PSd c st sNo := fun _ _ _ h => False.elim h
def eNever : TEd := fun _ _ _ => False
theorem d_never : PEd c e eNever := fun _ _ _ h => False.elim h
/-- the list or object of local i is from here on one that stands -/
def fzI (i : Nat) (G : Loc) (S : Sto) (P : Loc → Sto → Prop) : Prop := match G[i]? with
  | some (some (.ref a)) => ∃ k : Nat, match (S[k]? : Option (Addr × Cel)) with
    | some (b, .lst ds) => b = a ∧ P (G.set i (some (.lst ds))) (S.eraseIdx k)
    | some (b, .ins C fs) => b = a ∧ P (G.set i (some (.ins C fs))) (S.eraseIdx k)
    | _ => False
  | _ => P G S
theorem fzI_get {i : Nat} {P : Loc → Sto → Prop} {B H : Hp} {σ : L2.St} (R : c.R B G S σ H) (h : fzI i G S P) : ∃ B' G' S', Same B B' ∧ c.R B' G' S' σ H ∧ P G' S' := by
  unfold fzI at h
  split at h
  · rename_i a hG
    obtain ⟨k, h⟩ := h
    obtain ⟨v, hv, rv⟩ := R.loc i _ hG
    have hi : i < G.length := (List.getElem?_eq_some_iff.mp hG).1
    have back : ∀ {B' : Hp} {d : D} {S' : Sto}, Same B B' → RelH c.X.K c.B0 B' S' H → Rep c.X.K B' d v → c.R B' (G.set i (some d)) S' σ H := fun {B' d S'} s R' r' => by
      have R2 := (R.up s R').set hi r'
      have e : σ.set i (some v) = σ := by
        refine List.ext_getElem? fun j => ?_
        rw [List.getElem?_set]
        split
        · rename_i e
          subst e
          split
          · exact hv.symm
          · rename_i hn
            rw [List.getElem?_eq_none (by omega)]
        · rfl
      rw [e] at R2
      exact R2
    split at h
    · rename_i b ds e
      obtain ⟨e1, q⟩ := h
      subst e1
      obtain ⟨B', s, R', r'⟩ := R.toRelH.freeze e
      cases rv
      exact ⟨B', _, _, s, back s R' r', q⟩
    · rename_i b C fs e
      obtain ⟨e1, q⟩ := h
      subst e1
      obtain ⟨B', s, R', r'⟩ := R.toRelH.freezeI e
      cases rv
      exact ⟨B', _, _, s, back s R' r', q⟩
    · exact False.elim h
  · exact ⟨B, G, S, Same.refl _, R, h⟩
def sFz (i : Nat) (t : TSd) : TSd := fun E G S => fzI i G S (t E)
theorem ds_fz {st : List Stmt} (i : Nat) (h : PSsd c st t) : PSsd c st (sFz i t) := fun E G S q B σ H R => by
  obtain ⟨B', G', S', s, R', q⟩ := fzI_get R q
  exact tSs_mono (h E G' S' q B' σ H R') (endsLe s (fun _ _ q => q) (fun _ _ q => q) (fun _ _ q => q) fun _ _ q => q)
end
/-! ### a comprehension in a comprehension -/
section
variable {m : Mo} {N : List Str} {qual : Str} {sc scope scp2 : Scope} {f : Addr} {cdv : Value} {A : Around} {outer : List Env} {s : Shared} {H B : Hp} {E : XK} {EX : EXT} {k : Nat} {hE : ∀ cls d H', XD m.K B EX cls d H' → E cls d H'}
  {hr : Room k (A.deeper (envOfC qual sc s.heap.objs.size f cdv))} {nd : N.Nodup} {e a b d : Expr} {pos p : Pos} {x y : Str} {tg elt iter : Expr} {ifs : List Expr} {ta : TEd} {tt : TTd} {ti : TAd} {bind : D → Loc → (Loc → Prop) → Prop} {ls ls2 : List (Option NameKind)} {gs gs2 : List Str} {own : List (Str × Nat)}
  {s1 : Shared} {H1 : Hp} {C1 : Addr} {cl1 : List (Str × Addr)} {fp1 : List Addr}
theorem fx_blk2 {s2 : Shared} {H2 : Hp} {C : Addr} {cl : List (Str × Addr)} {fp : List Addr} (h : fxC N (relS scp2 (relS scope sc)) ls gs = true) :
    Fx (blkC (blkC (bodyC m N qual sc f cdv A outer s H B E EX k hE hr nd) scope s1 H1 C1 cl1 fp1) scp2 s2 H2 C cl fp).X ls gs := by
  obtain ⟨h1, h2, h3, h4⟩ := fxC_get h
  exact ⟨h2, h3, h4, h1⟩
theorem bind_name2 (h : fxC N (relS scp2 (relS scope sc)) ls gs = true) (i : Nat) (hi : N[i]? = some x := by rfl) (hk : locK (ls.getD i none) = true := by rfl) (hf : (isLocK (ls.getD i none) || (scp2.names.lookup x == some .cell)) = true := by first | rfl | decide +kernel) (ho : (own.map (·.2)).elem i = true := by rfl) :
    BindOk (blkC (bodyC m N qual sc f cdv A outer s H B E EX k hE hr nd) scope s1 H1 C1 cl1 fp1) scp2 (.Name x pos) own (bind1 i) :=
  bind_name' i hi (loc_of ((fxC_get h).2.2.1 i x hi) hk) (fn_or ((fxC_get h).2.2.1 i x hi) hf) (List.mem_of_elem_eq_true ho)
theorem bind_pair2 (h : fxC N (relS scp2 (relS scope sc)) ls gs = true) (i j : Nat) {kk : Nat} {p1 p2 : Pos} (hi : N[i]? = some x := by rfl) (hj : N[j]? = some y := by rfl) (hk : locK (ls.getD i none) = true := by rfl) (hkj : locK (ls.getD j none) = true := by rfl)
    (hf : (isLocK (ls.getD i none) || (scp2.names.lookup x == some .cell)) = true := by first | rfl | decide +kernel) (hf2 : (isLocK (ls.getD j none) || (scp2.names.lookup y == some .cell)) = true := by first | rfl | decide +kernel) (ho : (own.map (·.2)).elem i = true := by rfl) (ho2 : (own.map (·.2)).elem j = true := by rfl) :
    BindOk (blkC (bodyC m N qual sc f cdv A outer s H B E EX k hE hr nd) scope s1 H1 C1 cl1 fp1) scp2 (.Tuple [.Name x p1, .Name y p2] kk pos) own (bind2 i j) :=
  bind_pair' i j hi hj (loc_of ((fxC_get h).2.2.1 i x hi) hk) (loc_of ((fxC_get h).2.2.1 j y hj) hkj) (fn_or ((fxC_get h).2.2.1 i x hi) hf) (fn_or ((fxC_get h).2.2.1 j y hj) hf2) (List.mem_of_elem_eq_true ho) (List.mem_of_elem_eq_true ho2)
theorem d_lcF2 (ls : List (Option NameKind)) (gs : List Str) (own : List (Str × Nat)) (h : fxC N (relS scp2 (relS scope sc)) ls gs = true) (ok : L2.blkC N (relS scope sc) scp2 own = true) (hb : fxC N (relS scp2 (relS scope sc)) ls gs = true → BindOk (blkC (bodyC m N qual sc f cdv A outer s H B E EX k hE hr nd) scope s1 H1 C1 cl1 fp1) scp2 tg own bind)
    (hi : PId (blkC (bodyC m N qual sc f cdv A outer s H B E EX k hE hr nd) scope s1 H1 C1 cl1 fp1) tg iter ti)
    (ht : (∀ s2 H2 C cl fp, Fx (blkC (blkC (bodyC m N qual sc f cdv A outer s H B E EX k hE hr nd) scope s1 H1 C1 cl1 fp1) scp2 s2 H2 C cl fp).X ls gs) → PTsB (blkC (bodyC m N qual sc f cdv A outer s H B E EX k hE hr nd) scope s1 H1 C1 cl1 fp1) scp2 ifs tt)
    (he : ∀ s2 H2 C cl fp, Fx (blkC (blkC (bodyC m N qual sc f cdv A outer s H B E EX k hE hr nd) scope s1 H1 C1 cl1 fp1) scp2 s2 H2 C cl fp).X ls gs → PEd (blkC (blkC (bodyC m N qual sc f cdv A outer s H B E EX k hE hr nd) scope s1 H1 C1 cl1 fp1) scp2 s2 H2 C cl fp) elt ta)
    (hs : ∀ z, foldedSetIterable iter (blkC (bodyC m N qual sc f cdv A outer s H B E EX k hE hr nd) scope s1 H1 C1 cl1 fp1).X.env z = pure z := by intro _; rfl) :
    PEd (blkC (bodyC m N qual sc f cdv A outer s H B E EX k hE hr nd) scope s1 H1 C1 cl1 fp1) (.ListComp elt [⟨tg, iter, ifs, 0⟩] scp2 pos) (eLc ti (own.map (·.2)) bind tt ta) :=
  d_lc own ok (hb h) hi (ht fun _ _ _ _ _ => fx_blk2 h) (fun _ _ _ _ _ => he _ _ _ _ _ (fx_blk2 h)) hs
end
end DL
end

section
set_option autoImplicit false
set_option maxRecDepth 100000
set_option maxHeartbeats 4000000
namespace DL
open PySem PySem.Spec PyProof.Rows L2
open PySem.W (Frag)
/-! ### == over plain data without truth values is sameness -/
def okD : Nat → D → Bool
  | _, .non => true
  | _, .int _ => true
  | _, .str x => PyData.strOk x
  | n + 1, .tup ds => ds.all (okD n)
  | n + 1, .lst ds => ds.all (okD n)
  | _, _ => false
theorem pd_of : ∀ (n : Nat) (x : D), okD n x = true → ∃ p, pd x = some p ∧ PyData.canLay0 p = true ∧ PyData.depth p ≤ n
  | n, .non, _ => ⟨.none, by simp [pd], by simp [PyData.canLay0], by simp [PyData.depth]⟩
  | n, .int i, _ => ⟨.int i, by simp [pd], by simp [PyData.canLay0], by simp [PyData.depth]⟩
  | n, .str x, h => ⟨.str x, by simp [pd], by simpa [PyData.canLay0, okD] using h, by simp [PyData.depth]⟩
  | 0, .tup ds, h => by simp [okD] at h
  | 0, .lst ds, h => by simp [okD] at h
  | n, .bl _, h => by cases n <;> simp [okD] at h
  | n, .ty _, h => by cases n <;> simp [okD] at h
  | n, .ref _, h => by cases n <;> simp [okD] at h
  | n, .slst _, h => by cases n <;> simp [okD] at h
  | n, .ins _ _, h => by cases n <;> simp [okD] at h
  | n, .dct _, h => by cases n <;> simp [okD] at h
  | n + 1, .tup ds, h => by
    have h' : ds.all (okD n) = true := h
    obtain ⟨ps, e, c, d⟩ := all n (pd_of n) ds h'
    exact ⟨.tuple ps, by simp [pd, e], by simpa [PyData.canLay0] using c, by simp only [PyData.depth]; omega⟩
  | n + 1, .lst ds, h => by
    have h' : ds.all (okD n) = true := h
    obtain ⟨ps, e, c, d⟩ := all n (pd_of n) ds h'
    exact ⟨.list ps, by simp [pd, e], by simpa [PyData.canLay0] using c, by simp only [PyData.depth]; omega⟩
where
  all (n : Nat) (ih : ∀ x, okD n x = true → ∃ p, pd x = some p ∧ PyData.canLay0 p = true ∧ PyData.depth p ≤ n) : ∀ ds : List D, ds.all (okD n) = true → ∃ ps, pds ds = some ps ∧ PyData.canLayAll0 ps = true ∧ PyData.depthAll ps ≤ n
    | [], _ => ⟨[], by simp [pds], by simp [PyData.canLayAll0], by simp [PyData.depthAll]⟩
    | d :: ds, h => by
      rw [List.all_cons, Bool.and_eq_true] at h
      obtain ⟨p, e1, c1, d1⟩ := ih d h.1
      obtain ⟨ps, e2, c2, d2⟩ := all n ih ds h.2
      exact ⟨p :: ps, by simp [pds, e1, e2], by simp [PyData.canLayAll0, c1, c2], by simp only [PyData.depthAll]; omega⟩
theorem eqv_of : ∀ (n m : Nat) (x y : D) (p q : PyData), okD n x = true → okD m y = true → pd x = some p → pd y = some q → (PyData.eqv p q = true ↔ x = y) := by
  intro n
  induction n with
  | zero =>
    intro m x y p q hx hy ex ey
    cases x <;> (first | (simp [okD] at hx; done) | skip) <;> cases y <;> (first | (cases m <;> simp [okD] at hy; done) | skip) <;> simp only [pd, Option.some.injEq, Option.map_eq_some_iff] at ex ey <;> (first | subst ex | skip) <;> (first | subst ey | (obtain ⟨_, _, rfl⟩ := ey)) <;> simp [PyData.eqv]
  | succ n ih =>
    intro m x y p q hx hy ex ey
    have lists : ∀ (ds es : List D) (ps qs : List PyData) (m : Nat), ds.all (okD n) = true → es.all (okD m) = true → pds ds = some ps → pds es = some qs → (PyData.eqvAll ps qs = true ↔ ds = es) := by
      intro ds
      induction ds with
      | nil =>
        intro es ps qs m h1 h2 e1 e2
        simp only [pds, Option.some.injEq] at e1
        subst e1
        cases es with
        | nil => simp only [pds, Option.some.injEq] at e2; subst e2; simp [PyData.eqvAll]
        | cons e es =>
          unfold pds at e2
          split at e2
          · cases e2; simp [PyData.eqvAll]
          · cases e2
      | cons d ds ihl =>
        intro es ps qs m h1 h2 e1 e2
        rw [List.all_cons, Bool.and_eq_true] at h1
        unfold pds at e1
        split at e1
        · rename_i p ps' h3 h4
          cases e1
          cases es with
          | nil => simp only [pds, Option.some.injEq] at e2; subst e2; simp [PyData.eqvAll]
          | cons e es =>
            rw [List.all_cons, Bool.and_eq_true] at h2
            unfold pds at e2
            split at e2
            · rename_i q qs' h5 h6
              cases e2
              rw [PyData.eqvAll, Bool.and_eq_true, ih m d e p q h1.1 h2.1 h3 h5, ihl es ps' qs' m h1.2 h2.2 h4 h6, List.cons.injEq]
            · cases e2
        · cases e1
    cases x <;> (first | (simp [okD] at hx; done) | skip) <;> cases y <;> (first | (cases m <;> simp [okD] at hy; done) | skip) <;> simp only [pd, Option.some.injEq, Option.map_eq_some_iff] at ex ey
    case tup.tup ds es =>
      obtain ⟨ps, e1, rfl⟩ := ex
      obtain ⟨qs, e2, rfl⟩ := ey
      cases m with
      | zero => simp [okD] at hy
      | succ m =>
        rw [PyData.eqv, lists ds es ps qs m hx hy e1 e2]
        simp
    case lst.lst ds es =>
      obtain ⟨ps, e1, rfl⟩ := ex
      obtain ⟨qs, e2, rfl⟩ := ey
      cases m with
      | zero => simp [okD] at hy
      | succ m =>
        rw [PyData.eqv, lists ds es ps qs m hx hy e1 e2]
        simp
    all_goals (first | subst ex | (obtain ⟨_, _, rfl⟩ := ex)) <;> (first | subst ey | (obtain ⟨_, _, rfl⟩ := ey)) <;> simp [PyData.eqv]
/-- == of plain data -/
theorem eq_ok {neg : Bool} {x y : D} {S : Sto} {Q : Bool → Sto → Prop} (n : Nat) (hx : okD n x = true) (hy : okD n y = true) (hn : n ≤ 60) (q1 : x = y → Q (!neg) S) (q2 : x ≠ y → Q neg S) : dEq neg x y S Q := by
  have gen : dEqP neg x y S Q := by
    obtain ⟨p, e1, c1, d1⟩ := pd_of n x hx
    obtain ⟨q, e2, c2, d2⟩ := pd_of n y hy
    have asp : ∀ {x : D} {p : PyData} {P : PyData → Prop}, okD n x = true → pd x = some p → P p → asP x S P := fun {x p P} h e q => by
      cases x <;> first | exact ⟨p, e, q⟩ | (cases n <;> simp [okD] at h)
    refine asp hx e1 (asp hy e2 ⟨?_, ?_, ?_⟩)
    · simp only [SeqAt.shaped, Bool.and_eq_true, decide_eq_true_eq]; exact ⟨c1, by omega⟩
    · simp only [SeqAt.shaped, Bool.and_eq_true, decide_eq_true_eq]; exact ⟨c2, by omega⟩
    · have h := eqv_of n n x y p q hx hy e1 e2
      by_cases e : x = y
      · rw [h.mpr e]
        have := q1 e
        cases neg <;> exact this
      · have : PyData.eqv p q = false := by
          cases hv : PyData.eqv p q with
          | false => rfl
          | true => exact absurd (h.mp hv) e
        rw [this]
        have := q2 e
        cases neg <;> exact this
  cases x <;> cases y <;> first | exact gen | skip
  case int.int i j =>
    show Q (if neg then !decide (i = j) else decide (i = j)) S
    by_cases e : i = j
    · have := q1 (by rw [e]); cases neg <;> simpa [e] using this
    · have := q2 (fun z => e (by cases z; rfl)); cases neg <;> simpa [e] using this
  case str.str i j =>
    show Q (if neg then !decide (i = j) else decide (i = j)) S
    by_cases e : i = j
    · have := q1 (by rw [e]); cases neg <;> simpa [e] using this
    · have := q2 (fun z => e (by cases z; rfl)); cases neg <;> simpa [e] using this
  case bl.bl i j => cases n <;> simp [okD] at hx
theorem eq_same {x y : D} {S : Sto} {Q : Bool → Sto → Prop} {neg : Bool} (n : Nat) (hx : okD n x = true) (hn : n ≤ 60) (e : x = y) (q : Q (!neg) S) : dEq neg x y S Q := by
  subst e
  exact eq_ok n hx hx hn (fun _ => q) fun h => absurd rfl h

/-! ### comprehensions that change nothing, or only draw -/
/-- what a comprehension asks once its items are there -/
def LcIn (G : Loc) (own : List Nat) (bind : D → Loc → (Loc → Prop) → Prop) (tt : TTd) (te : TEd) (ds : List D) (S : Sto) (Q : QD) : Prop := ∃ Iv : Nat → List D → Sto → Prop, Iv 0 [] S ∧
  (∀ i d acc S p, ds[i]? = some d → Iv i acc S → bind d (wipeG G own) fun G2 => tt G2 ((p, .lst acc) :: S) fun k S2 => ∃ S3, S2 = (p, .lst acc) :: S3 ∧ (k = true → te G2 S2 fun y S4 => ∃ S5, S4 = (p, .lst acc) :: S5 ∧ acc.length < sizeLine ∧ Iv (i + 1) (acc ++ [y]) S5) ∧ (k = false → Iv (i + 1) acc S3)) ∧
  ∀ acc S, Iv ds.length acc S → mk acc S Q
theorem range_snoc {α : Type} (f : Nat → α) (n : Nat) : (List.range (n + 1)).map f = (List.range n).map f ++ [f n] := by rw [List.range_succ, List.map_append]; rfl
theorem lc_map {ds : List D} {S : Sto} {G : Loc} {own : List Nat} {bind : D → Loc → (Loc → Prop) → Prop} {te : TEd} {Q : QD} (out : Nat → D) (hz : ds.length ≤ 1000000)
    (h : ∀ (i : Nat) (d : D), ds[i]? = some d → ∃ G2, (∀ P : Loc → Prop, P G2 → bind d (wipeG G own) P) ∧ ∀ (p : Addr) (acc : List D) (K : QD), K (out i) ((p, Cel.lst acc) :: S) → te G2 ((p, Cel.lst acc) :: S) K)
    (q : mk ((List.range ds.length).map out) S Q) : LcIn G own bind tYs te ds S Q := by
  refine ⟨fun i acc S' => S' = S ∧ acc = (List.range i).map out, ⟨rfl, rfl⟩, ?_, ?_⟩
  · rintro i d acc S' p e ⟨rfl, rfl⟩
    have hi : i < ds.length := (List.getElem?_eq_some_iff.mp e).1
    obtain ⟨G2, hb, ht⟩ := h i d e
    refine hb _ ⟨S', rfl, fun _ => ht p _ _ ⟨S', rfl, ?_, rfl, (range_snoc out i).symm⟩, fun z => by cases z⟩
    rw [List.length_map, List.length_range]
    exact Nat.lt_of_lt_of_le hi (Nat.le_trans hz (by decide))
  · rintro acc S' ⟨rfl, rfl⟩
    exact q
theorem wst_self {S : Sto} {k : Nat} {w : Addr} (h : Wl S k w) : Wst S S k w := by
  obtain ⟨a, b, c, e⟩ := h
  refine ⟨a, b, c, List.ext_getElem? fun j => ?_⟩
  rw [List.getElem?_set]
  split
  · rename_i h
    subst h
    rw [e, if_pos (List.getElem?_eq_some_iff.mp e).1]
  · rfl
theorem wl_cons {S : Sto} {k : Nat} {w : Addr} (x : Addr × Cel) (h : Wl S k w) : Wl (x :: S) (k + 1) w := h
theorem wst_cons {S S' : Sto} {k : Nat} {w : Addr} {x : Addr × Cel} (h : Wst (x :: S) S' (k + 1) w) : ∃ S2, S' = x :: S2 ∧ Wst S S2 k w := by
  obtain ⟨a, b, c, e⟩ := h
  exact ⟨_, e, a, b, c, rfl⟩
/-- the items are drawn: each has Pr -/
theorem lc_draw {ds : List D} {S : Sto} {G : Loc} {own : List Nat} {bind : D → Loc → (Loc → Prop) → Prop} {te : TEd} {Q : QD} {k : Nat} {w : Addr} (Pr : Nat → D → Prop) (hw : Wl S k w) (hz : ds.length ≤ 1000000)
    (h : ∀ (i : Nat) (d : D), ds[i]? = some d → ∃ G2, (∀ P : Loc → Prop, P G2 → bind d (wipeG G own) P) ∧ ∀ (p : Addr) (acc : List D) (S1 : Sto) (K : QD), Wl S1 k w → (∀ y S2, Pr i y → Wst S1 S2 k w → K y ((p, Cel.lst acc) :: S2)) → te G2 ((p, Cel.lst acc) :: S1) K)
    (q : ∀ ys S', ys.length = ds.length → (∀ (i : Nat) (y : D), ys[i]? = some y → Pr i y) → Wst S S' k w → mk ys S' Q) : LcIn G own bind tYs te ds S Q := by
  refine ⟨fun i acc S' => Wst S S' k w ∧ acc.length = i ∧ ∀ (j : Nat) (y : D), acc[j]? = some y → Pr j y, ⟨wst_self hw, rfl, fun j y e => by simp at e⟩, ?_, ?_⟩
  · rintro i d acc S' p e ⟨t, rfl, ha⟩
    have hi : acc.length < ds.length := (List.getElem?_eq_some_iff.mp e).1
    obtain ⟨G2, hb, ht⟩ := h acc.length d e
    refine hb _ ⟨S', rfl, fun _ => ht p _ S' _ (hw.to t) fun y S2 hy t2 => ⟨S2, rfl, Nat.lt_of_lt_of_le hi (Nat.le_trans hz (by decide)), t.trans t2, by simp, fun j z ez => ?_⟩, fun z => by cases z⟩
    rw [List.getElem?_append] at ez
    split at ez
    · exact ha j z ez
    · rename_i hj
      have : j = acc.length := by
        have := (List.getElem?_eq_some_iff.mp ez).1
        simp at this
        omega
      subst this
      simp at ez
      subst ez
      exact hy
  · rintro acc S' ⟨t, hl, ha⟩
    exact q acc S' hl ha t
end DL
namespace LK
theorem range_at {α : Type} (f : Nat → α) {n i : Nat} (h : i < n) : ((List.range n).map f)[i]? = some (f i) := by
  rw [List.getElem?_map, List.getElem?_range h]
  rfl
theorem rng_len {α : Type} (f : Nat → α) (n : Nat) : ((List.range n).map f).length = n := by rw [List.length_map, List.length_range]
end LK
end

section
set_option autoImplicit false
set_option maxRecDepth 100000
set_option maxHeartbeats 4000000
namespace DL
open PySem PySem.Spec PyProof.Rows L2
open PySem.W (Frag)
/-! ### // by any divisor that is not great -/
def DivB (j : Int) : Prop := j ≠ 0 ∧ j.natAbs.log2 < 9000
theorem divB_of {j : Int} {b : Nat} (h : j ≠ 0) (hb : j.natAbs < 2 ^ b) (h0 : 0 < b) (h9 : b ≤ 9000) : DivB j := ⟨h, Nat.lt_of_lt_of_le (PySem.Flt.log2_lt_of h0 hb) h9⟩
theorem op_fdivB {X : Cx} : OpR X (binaryOp .FloorDiv) (rI (fun _ j => DivB j) fun i j => .int (i.fdiv j)) := opI fun i j _ _ _ _ _ hc q => floordiv_int hc.1 q (.inl (PyProof.noPylong_of_log2 hc.2))
def dFdv (x y : D) (S : Sto) (Q : QD) : Prop := match x, y with
  | .int i, .int j => DivB j ∧ Q (.int (i.fdiv j)) S
  | _, _ => False
section
variable {c : CD} {e a b d : Expr} {pos p : Pos} {ta tb : TEd} {G : Loc} {S : Sto}
theorem w_fdv {Q : QD} (h : W c a G S fun x S1 => W c b G S1 fun y S2 => dFdv x y S2 Q) : W c (.BinOp a .FloorDiv b pos) G S Q := by
  refine w_op op_fdivB (fun Bl B σ H x y vx vy S Q s R rx ry h => ?_) h
  cases x <;> first | exact False.elim h | (cases y <;> first | exact False.elim h | skip)
  case int.int i j =>
    cases rx
    cases ry
    exact ⟨i, j, rfl, rfl, h.1, B, .int (i.fdiv j), S, s, R, rfl, h.2⟩
theorem d_fdv (ha : PEd c a ta) (hb : PEd c b tb) : PEd c (.BinOp a .FloorDiv b pos) (eOp dFdv ta tb) := fun G S Q h => w_fdv ((ha G S _ h).mono fun x S1 h1 => hb G S1 _ h1)
end
/-- (x, ..) * n -/
def dTmul (x y : D) (S : Sto) (Q : QD) : Prop := match x, y with
  | .tup xs, .int k => xs ≠ [] ∧ 2 ≤ k ∧ k ≤ 1000 ∧ xs.length ≤ 1000 ∧ Q (.tup (List.replicate k.toNat xs).flatten) S
  | _, _ => False
section
variable {c : CD} {e a b d : Expr} {pos p : Pos} {ta tb : TEd} {G : Loc} {S : Sto}
theorem d_tmul (ha : PEd c a ta) (hb : PEd c b tb) : PEd c (.BinOp a .Mult b pos) (eOp dTmul ta tb) := fun G S Q h => by
  refine w_op op_repT (fun Bl B σ H x y vx vy S Q s R rx ry h => ?_) (P := dTmul) ((ha G S _ h).mono fun x S1 h1 => hb G S1 _ h1)
  cases x <;> first | exact False.elim h | (cases y <;> first | exact False.elim h | skip)
  case tup.int xs k =>
    obtain ⟨a, vs, e, hq, r⟩ := rx
    cases ry
    obtain ⟨h1, h2, h3, h4, q⟩ := h
    refine ⟨a, k, vs, e, rfl, sameT R.sub hq, fun z => h1 ?_, h2, h3, by rw [r.length]; exact h4, fun p hp => tup_ok s R (reps_rep r _) q p hp⟩
    have := r.length
    rw [z] at this
    exact List.eq_nil_of_length_eq_zero this.symm
end
/-! ### a comprehension with a test, that changes nothing -/
theorem lc_filter {ds : List D} {S : Sto} {G : Loc} {own : List Nat} {bind : D → Loc → (Loc → Prop) → Prop} {tt : TTd} {te : TEd} {Q : QD} (keep : Nat → Bool) (out : Nat → D) (hz : ds.length ≤ 1000000)
    (h : ∀ (i : Nat) (d : D), ds[i]? = some d → ∃ G2, (∀ P : Loc → Prop, P G2 → bind d (wipeG G own) P) ∧ ∀ (p : Addr) (acc : List D), (∀ K : Bool → Sto → Prop, K (keep i) ((p, Cel.lst acc) :: S) → tt G2 ((p, Cel.lst acc) :: S) K) ∧ (keep i = true → ∀ K : QD, K (out i) ((p, Cel.lst acc) :: S) → te G2 ((p, Cel.lst acc) :: S) K))
    (q : mk (((List.range ds.length).filter keep).map out) S Q) : LcIn G own bind tt te ds S Q := by
  refine ⟨fun i acc S' => S' = S ∧ acc = ((List.range i).filter keep).map out, ⟨rfl, rfl⟩, ?_, ?_⟩
  · rintro i d acc S' p e ⟨rfl, rfl⟩
    have hi : i < ds.length := (List.getElem?_eq_some_iff.mp e).1
    obtain ⟨G2, hb, ht⟩ := h i d e
    obtain ⟨h1, h2⟩ := ht p (((List.range i).filter keep).map out)
    refine hb _ (h1 _ ⟨S', rfl, fun hk => h2 hk _ ⟨S', rfl, ?_, rfl, ?_⟩, fun hk => ⟨rfl, ?_⟩⟩)
    · rw [List.length_map]
      have := List.length_filter_le keep (List.range i)
      rw [List.length_range] at this
      exact Nat.lt_of_le_of_lt this (Nat.lt_of_lt_of_le hi (Nat.le_trans hz (by decide)))
    · rw [List.range_succ, List.filter_append, List.map_append]
      show _ = _ ++ (List.filter keep [i]).map out
      rw [List.filter_cons_of_pos hk]
      rfl
    · rw [List.range_succ, List.filter_append, List.map_append]
      show _ = _ ++ (List.filter keep [i]).map out
      rw [List.filter_cons_of_neg (by rw [hk]; decide)]
      simp
  · rintro acc S' ⟨rfl, rfl⟩
    exact q
/-! ### cuts of lists told by a function -/
theorem range_eq {α : Type} {xs : List α} {n : Nat} {f : Nat → α} (hl : xs.length = n) (h : ∀ i, i < n → xs[i]? = some (f i)) : xs = (List.range n).map f := by
  refine List.ext_getElem? fun i => ?_
  by_cases hi : i < n
  · rw [h i hi, LK.range_at f hi]
  · rw [List.getElem?_eq_none (by omega), List.getElem?_eq_none (by simp; omega)]
theorem cut_to {n b : Nat} (f : Nat → D) (h : b ≤ n) : cutD ((List.range n).map f) none (some (b : Int)) = (List.range b).map f := by
  have e : HT.sIx n n (some (b : Int)) = b := by rw [HT.sIx_nat]; omega
  unfold cutD
  rw [LK.rng_len, e]
  refine range_eq (by rw [List.length_take, List.length_drop, LK.rng_len]; show min (b - 0) (n - 0) = b; omega) fun i hi => ?_
  show (List.take (b - 0) (List.drop 0 _))[i]? = _
  rw [List.drop_zero, Nat.sub_zero, List.getElem?_take, if_pos hi, LK.range_at f (by omega)]
theorem cut_of {n a : Nat} (f : Nat → D) (h : a ≤ n) : cutD ((List.range n).map f) (some (a : Int)) none = (List.range (n - a)).map fun i => f (a + i) := by
  have e : HT.sIx n 0 (some (a : Int)) = a := by rw [HT.sIx_nat]; omega
  unfold cutD
  rw [LK.rng_len, e]
  refine range_eq (by rw [List.length_take, List.length_drop, LK.rng_len]; show min (n - a) (n - a) = n - a; omega) fun i hi => ?_
  show (List.take (n - a) (List.drop a _))[i]? = _
  rw [List.getElem?_take, if_pos hi, List.getElem?_drop, LK.range_at f (by omega)]
theorem cut_mid {n a b : Nat} (f : Nat → D) (h : a ≤ b) (hb : b ≤ n) : cutD ((List.range n).map f) (some (a : Int)) (some (b : Int)) = (List.range (b - a)).map fun i => f (a + i) := by
  have e : HT.sIx n 0 (some (a : Int)) = a := by rw [HT.sIx_nat]; omega
  have e2 : HT.sIx n n (some (b : Int)) = b := by rw [HT.sIx_nat]; omega
  unfold cutD
  rw [LK.rng_len, e, e2]
  refine range_eq (by rw [List.length_take, List.length_drop, LK.rng_len]; omega) fun i hi => ?_
  rw [List.getElem?_take, if_pos hi, List.getElem?_drop, LK.range_at f (by omega)]
theorem range_app {α : Type} (m n : Nat) (f g : Nat → α) : (List.range m).map f ++ (List.range n).map g = (List.range (m + n)).map fun i => if i < m then f i else g (i - m) := by
  refine range_eq (by rw [List.length_append, LK.rng_len, LK.rng_len]) fun i hi => ?_
  rw [List.getElem?_append, LK.rng_len]
  split
  · rename_i h
    rw [LK.range_at f h]
  · rename_i h
    rw [LK.range_at g (by omega)]
theorem range_cons1 {α : Type} (x : α) : [x] = (List.range 1).map fun _ => x := rfl
/-! ### a def that calls itself: levels -/
def lvR (c : Nat) : Nat → Nat
  | 0 => 1
  | n + 1 => max c (lvR c n) + 1
end DL
end

section
set_option autoImplicit false
set_option maxRecDepth 100000
set_option maxHeartbeats 4000000
namespace DL
open PySem PySem.Spec PyProof.Rows L2
open PySem.W (Frag)
/-! ### objects of the program's own classes -/
theorem CN.inj {K : Frag} {n : Str} {C C' : Addr} (h : CN K n C) (h' : CN K n C') : C = C' := by
  have e : some (some (Value.ref C)) = some (some (Value.ref C')) := h.symm.trans h'
  cases e
  rfl
def putD (f : Str) (d : D) : List (Str × D) → List (Str × D)
  | [] => [(f, d)]
  | (g, x) :: r => if g = f then (g, d) :: r else (g, x) :: putD f d r
theorem RepF.put {K : Frag} {B : Hp} {f : Str} {d : D} {v : V} (q : Rep K B d v) : ∀ {fs : List (Str × D)} {vs : List (Str × V)}, RepF K B fs vs → RepF K B (putD f d fs) (putF f v vs)
  | [], vs, h => by
    have h' : vs = [] := h
    subst h'
    exact ⟨v, [], rfl, q, rfl⟩
  | (g, x) :: r, vs, h => by
    obtain ⟨u, t, e, h1, h2⟩ := h
    subst e
    unfold putD putF
    by_cases e : g = f
    · rw [if_pos e, if_pos e]
      exact ⟨v, t, rfl, q, h2⟩
    · rw [if_neg e, if_neg e]
      exact ⟨u, _, rfl, h1, RepF.put q h2⟩
theorem RepF.get {K : Frag} {B : Hp} {f : Str} {d : D} : ∀ {fs : List (Str × D)} {vs : List (Str × V)}, RepF K B fs vs → fs.lookup f = some d → ∃ v, vs.lookup f = some v ∧ Rep K B d v
  | [], vs, _, e => by cases e
  | (g, x) :: r, vs, h, e => by
    obtain ⟨u, t, e1, h1, h2⟩ := h
    subst e1
    rw [List.lookup_cons] at e ⊢
    split at e
    · cases e
      exact ⟨u, rfl, h1⟩
    · exact RepF.get h2 e
theorem RepF.none {K : Frag} {B : Hp} {f : Str} : ∀ {fs : List (Str × D)} {vs : List (Str × V)}, RepF K B fs vs → fs.lookup f = none → vs.lookup f = none
  | [], vs, h, _ => by
    have h' : vs = [] := h
    subst h'
    rfl
  | (g, x) :: r, vs, h, e => by
    obtain ⟨u, t, e1, h1, h2⟩ := h
    subst e1
    rw [List.lookup_cons] at e ⊢
    split at e
    · cases e
    · exact RepF.none h2 e
theorem RepF.len {K : Frag} {B : Hp} : ∀ {fs : List (Str × D)} {vs : List (Str × V)}, RepF K B fs vs → vs.length = fs.length
  | [], vs, h => by
    have h' : vs = [] := h
    subst h'
    rfl
  | (g, x) :: r, vs, h => by
    obtain ⟨u, t, e1, h1, h2⟩ := h
    subst e1
    rw [List.length_cons, List.length_cons, RepF.len h2]
/-- what the module tells of a class's field -/
def ClF (K : Frag) (n f : Str) : Prop := ∃ C, CN K n C ∧ Cls K C ∧ NoAttr K C f
/-- of an object of the class n: its fields -/
def asI (n : Str) (x : D) (S : Sto) (P : List (Str × D) → Prop) : Prop := match x with
  | .ins m fs => m = n ∧ P fs
  | .ref a => ∃ (k : Nat) (fs : List (Str × D)), S[k]? = some (a, Cel.ins n fs) ∧ P fs
  | _ => False
section
variable {c : CD} {e a b d : Expr} {es : List Expr} {pos p : Pos} {x : Str} {ta tb : TEd} {tas : TAd} {ls : List (Option NameKind)} {gs : List Str} {G : Loc} {S : Sto}
theorem asI_get {n : Str} {B H : Hp} {σ : L2.St} {x : D} {v : V} {P : List (Str × D) → Prop} (R : c.R B G S σ H) (r : Rep c.X.K B x v) (h : asI n x S P) : ∃ a C dx vs fs, v = .ref a ∧ CN c.X.K n C ∧ H a = some (.ins C dx vs) ∧ RepF c.X.K B fs vs ∧ P fs := by
  cases x <;> first | exact False.elim h | skip
  case ref a =>
    obtain ⟨k, fs, e, p⟩ := h
    obtain ⟨_, C, dx, vs, cn, e1, r1⟩ := R.cel (a, .ins n fs) (List.mem_of_getElem? e)
    exact ⟨a, C, dx, vs, fs, r, cn, e1, r1, p⟩
  case ins m fs =>
    obtain ⟨e1, p⟩ := h
    subst e1
    obtain ⟨C, a, dx, vs, cn, e, q, r1⟩ := r
    exact ⟨a, C, dx, vs, fs, e, cn, R.sub _ _ q, r1, p⟩
/-- e.f -/
def eFld (n f : Str) (ta : TEd) : TEd := fun G S Q => ta G S fun x S1 => asI n x S1 fun fs => ∃ d, fs.lookup f = some d ∧ Q d S1
theorem d_fld {n f : Str} (F : ClF c.X.K n f) (ha : PEd c e ta) (hb : attributeBase e f c.X.env (eval e c.X.env) = eval e c.X.env := by rfl) : PEd c (.Attribute e f pos) (eFld n f ta) := fun G S Q h B σ H R => by
  obtain ⟨C, cn, cl, na⟩ := F
  refine tE_of (pe_fld (pe_self e) hb) ?_
  refine tE_mono (ha G S _ h B σ H R) fun v H1 ⟨B1, d, S1, s1, R1, r1, h1⟩ => ?_
  obtain ⟨a, C', dx, vs, fs, e1, cn', hH, rf, d', el, q⟩ := asI_get R1 r1 h1
  have := cn.inj cn'
  subst this
  obtain ⟨w, hw, rw'⟩ := rf.get el
  exact ⟨a, C, dx, vs, w, e1, hH, cl, na, hw, B1, d', S1, s1, R1, rw', q⟩
/-- o.f = e -/
def sFld (n f : Str) (to te : TEd) : TSd := fun E G S => te G S fun d S1 => to G S1 fun x S2 => match x with
  | .ref a => ∃ (k : Nat) (fs : List (Str × D)), S2[k]? = some (a, Cel.ins n fs) ∧ fs.length < 1000 ∧ E.nx G (S2.set k (a, Cel.ins n (putD f d fs)))
  | _ => False
theorem ds_fld {n f : Str} {o : Expr} {to te : TEd} {p2 : Pos} (F : ClF c.X.K n f) (ho : PEd c o to) (he : PEd c e te) (hs : swapsWith e (some (.Attribute o f p2)) pos.line c.X.env = pure false := by rfl) : PSd c (.Assign [.Attribute o f p2] e pos) (sFld n f to te) := fun E G S h B σ H R => by
  obtain ⟨C, cn, cl, na⟩ := F
  refine tS_of (ps_fld (pe_self o) (pe_self e) hs) ?_
  refine tE_mono (he G S _ h B σ H R) fun v H1 ⟨B1, d, S1, s1, R1, r1, h1⟩ => ?_
  refine tE_mono (ho G S1 _ h1 B1 σ H1 R1) fun u H2 ⟨B2, x, S2, s2, R2, r2, h2⟩ => ?_
  cases x <;> first | exact False.elim h2 | skip
  case ref a =>
    obtain ⟨k, fs, e1, hl, q⟩ := h2
    cases r2
    obtain ⟨_, C', dx, vs, cn', hH, rf⟩ := R2.cel (a, .ins n fs) (List.mem_of_getElem? e1)
    have := cn.inj cn'
    subst this
    exact ⟨a, C, dx, vs, rfl, hH, cl, na, by rw [rf.len]; exact hl, B2, G, _, s1.trans s2, R2.write (c' := .ins n (putD f d fs)) e1 ⟨C, dx, putF f v vs, cn, upd_same, rf.put (Rep.mono s2 _ _ r1)⟩, q⟩
/-- a method that stands in a class, its promise, with room to call it -/
def MeD (m : Mo) (n name : Str) (k : Nat) (dvs : List D) (fs : FSp) : Prop := ∃ (C f : Addr) (fd : FuncData) (ps : List Str) (ds : List Value) (vs : List V), CN m.K n C ∧ Cls m.K C ∧ Meth m.K C name f ∧ FnOk m.P m.w m.K m.mg m.base (L2.CX m.P m.w) k f fd ps (lift m.K fs) ∧ Binds m.K fd ps ds ∧ Vals vs ds ∧ ∀ B, Reps m.K B dvs vs
def eMeth (n name : Str) (fs : FSp) (EX : EXG) (dvs : List D) (to : TEd) (ta : TAd) : TEd := fun G S Q => to G S fun x S1 => asI n x S1 fun flds => flds.lookup name = none ∧ ta G S1 fun ds S2 => fs (x :: (ds ++ dvs)) S2 Q (EX G)
theorem d_meth [Calm c] {n name : Str} {k : Nat} {dvs : List D} {fs : FSp} {o : Expr} {to : TEd} {apos : Pos} {pl : Sem Bool} (F : MeD c.X.mo n name k dvs fs) (hk : k ≤ c.k) (ho : PEd c o to) (ha : PAd c (e :: es) tas)
    (hst : starEach (e :: es) c.X.env = (false, eval e c.X.env) :: starEach es c.X.env := by rfl) (hpl : (backTo pos (starEach es c.X.env)).any (·.1) = false := by rfl)
    (ht : eval (.Call (.Attribute o name apos) (e :: es) [] pos) c.X.env = (do
      let ov ← eval o c.X.env
      standAt apos.atName
      let (f, first) ← holding [ov] (getMethod ov name pl)
      callWith pos f first (backTo pos (starEach (e :: es) c.X.env)) (backToKw pos (keywordEach [] c.X.env))) := by rfl) : PEd c (.Call (.Attribute o name apos) (e :: es) [] pos) (eMeth n name fs c.EX dvs to tas) := fun G S Q h B σ H R => by
  obtain ⟨C, f, fd, ps, dd, vs0, cn, cl, me, hf, hb, hd, hr⟩ := F
  refine tE_of (pe_methS (pe_self o) cl me hf (CD.room hk) hb hd (passAt c.tk) (pa_self (e :: es)) hst hpl ht) ?_
  refine tE_mono (ho G S _ h B σ H R) fun v H1 ⟨B1, x, S1, s1, R1, r1, h1⟩ => ?_
  obtain ⟨a, C', dx, vs, flds, e1, cn', hH, rf, hno, q⟩ := asI_get R1 r1 h1
  have := CN.inj cn cn'
  subst this
  refine ⟨a, dx, vs, e1, hH, rf.none hno, ?_⟩
  refine tA_mono (ha G S1 _ q B1 σ H1 R1) fun ws H2 ⟨B2, ds, S2, s2, R2, r2, h2⟩ => ?_
  exact ⟨B2, x :: (ds ++ dvs), S2, Q, c.EX G, ⟨Same.refl _, R2.sub, R2.cel, R2.nd⟩, ⟨v, _, by rw [e1], Rep.mono s2 _ _ r1, r2.append (hr B2)⟩, h2, fun u H' B' d S' R' r' q => ⟨B', d, S', (s1.trans s2).trans R'.lo, R2.up R'.lo ⟨R2.lo.trans R'.lo, R'.sub, R'.cel, R'.nd⟩, r', q⟩, fun cls d H' q => xw_up R2 (fun _ _ _ z => z) q⟩
theorem d_meth0 [Calm c] {n name : Str} {k : Nat} {dvs : List D} {fs : FSp} {o : Expr} {to : TEd} {apos : Pos} {pl : Sem Bool} (F : MeD c.X.mo n name k dvs fs) (hk : k ≤ c.k) (ho : PEd c o to)
    (ht : eval (.Call (.Attribute o name apos) [] [] pos) c.X.env = (do
      let ov ← eval o c.X.env
      standAt apos.atName
      let (f, first) ← holding [ov] (getMethod ov name pl)
      callWith pos f first (backTo pos (starEach [] c.X.env)) (backToKw pos (keywordEach [] c.X.env))) := by rfl) : PEd c (.Call (.Attribute o name apos) [] [] pos) (eMeth n name fs c.EX dvs to aNil) := fun G S Q h B σ H R => by
  obtain ⟨C, f, fd, ps, dd, vs0, cn, cl, me, hf, hb, hd, hr⟩ := F
  refine tE_of (pe_meth0S (pe_self o) cl me hf (CD.room hk) hb hd (passAt c.tk) ht) ?_
  refine tE_mono (ho G S _ h B σ H R) fun v H1 ⟨B1, x, S1, s1, R1, r1, h1⟩ => ?_
  obtain ⟨a, C', dx, vs, flds, e1, cn', hH, rf, hno, q⟩ := asI_get R1 r1 h1
  have := CN.inj cn cn'
  subst this
  refine ⟨a, dx, vs, e1, hH, rf.none hno, ?_⟩
  exact ⟨B1, x :: ([] ++ dvs), S1, Q, c.EX G, ⟨Same.refl _, R1.sub, R1.cel, R1.nd⟩, ⟨v, _, by rw [e1]; rfl, r1, hr B1⟩, q, fun u H' B' d S' R' r' q => ⟨B', d, S', s1.trans R'.lo, R1.up R'.lo ⟨R1.lo.trans R'.lo, R'.sub, R'.cel, R'.nd⟩, r', q⟩, fun cls d H' q => xw_up R1 (fun _ _ _ z => z) q⟩
/-- C(e, ..) by the class's own __init__ -/
def MkD (m : Mo) (n : Str) (k : Nat) (dvs : List D) (fs : FSp) : Prop := ∃ (C f : Addr) (fd : FuncData) (ps : List Str) (ds : List Value) (vs : List V), CN m.K n C ∧ m.mg n = some (.ref C) ∧ Mk m.K C f ∧ FnOk m.P m.w m.K m.mg m.base (L2.CX m.P m.w) k f fd ps (lift m.K fs) ∧ Binds m.K fd ps ds ∧ Vals vs ds ∧ ∀ B, Reps m.K B dvs vs
def mkF (n : Str) (fs : List (Str × D)) (S : Sto) (Q : QD) : Prop := Q (.ins n fs) S ∨ ∃ (f : Str) (g : Addr) (k : Nat) (ds : List D), fs.lookup f = some (.ref g) ∧ S[k]? = some (g, Cel.lst ds) ∧ Q (.ins n (putD f (.lst ds) fs)) (S.eraseIdx k)
/-- a new object: a cell, or no longer written, a list in a field of it neither -/
def mkI (n : Str) (x : Addr) (S : Sto) (Q : QD) : Prop := Q (.ref x) S ∨ ∃ (k : Nat) (fs : List (Str × D)), S[k]? = some (x, Cel.ins n fs) ∧ mkF n fs (S.eraseIdx k) Q
theorem RepF.up {K : Frag} {B : Hp} {f : Str} {g : Addr} {d : D} (q : Rep K B d (.ref g)) : ∀ {fs : List (Str × D)} {vs : List (Str × V)}, RepF K B fs vs → fs.lookup f = some (.ref g) → RepF K B (putD f d fs) vs
  | [], vs, _, e => by cases e
  | (h, x) :: r, vs, hr, e => by
    obtain ⟨u, t, e1, h1, h2⟩ := hr
    subst e1
    rw [List.lookup_cons] at e
    unfold putD
    by_cases eh : h = f
    · subst eh
      rw [beq_self_eq_true] at e
      cases e
      rw [if_pos rfl]
      cases h1
      exact ⟨_, t, rfl, q, h2⟩
    · rw [if_neg eh]
      have : (f == h) = false := by simpa using fun z => eh z.symm
      rw [this] at e
      exact ⟨u, t, rfl, h1, RepF.up q h2 e⟩
def eNew (n : Str) (fs : FSp) (EX : EXG) (dvs : List D) (ta : TAd) : TEd := fun G S Q => ta G S fun ds S1 => ∀ x, fs (.ref x :: (ds ++ dvs)) ((x, Cel.ins n []) :: S1) (fun d S2 => d = .non ∧ mkI n x S2 Q) (EX G)
theorem d_new [Calm c] {n : Str} {k : Nat} {dvs : List D} {fs : FSp} (φ : Fx c.X ls gs) (j : Nat) (F : MkD c.X.mo n k dvs fs) (hk : k + 1 ≤ c.k) (ha : PAd c (e :: es) tas) (hj : gs[j]? = some n := by rfl)
    (he : starEach (e :: es) c.X.env = (false, eval e c.X.env) :: starEach es c.X.env := by rfl) (hpl : (backTo pos (starEach es c.X.env)).any (·.1) = false := by rfl) : PEd c (.Call (.Name n p) (e :: es) [] pos) (eNew n fs c.EX dvs tas) := fun G S Q h B σ H R => by
  obtain ⟨C, f, fd, ps, dd, vs0, cn, hm, mk, hf, hb, hd, hr⟩ := F
  refine tE_of (pe_makeS mk hf (CD.room hk) (φ.gl j n hj).1 hm hb hd (passAt c.tk) (pa_self (e :: es)) (φ.gl j n hj).2.1 he hpl) ?_
  refine tA_mono (ha G S _ h B σ H R) fun vs H1 ⟨B1, ds, S1, s1, R1, r1, h1⟩ => ?_
  intro x dx nx ndx nex
  have R2 := R1.laid (o := HO.own x) ndx
  have sB := same_upd (o := HO.own x) (R1.bnone ndx)
  have nx2 : upd H1 dx (.own x) x = none := by rw [upd_ne (fun z => nex z.symm)]; exact nx
  have R3 := R2.cell (c := Cel.ins n []) (o := .ins C dx []) nx2 ⟨C, dx, [], cn, upd_same, rfl⟩
  refine ⟨_, .ref x :: (ds ++ dvs), _, _, c.EX G, ⟨Same.refl _, R3.sub, R3.cel, R3.nd⟩, ⟨.ref x, _, rfl, rfl, (Reps.mono sB _ _ r1).append (hr _)⟩, h1 x, fun u H' B' d S' R' r' q => ?_, fun cls d H' q => xw_up R3 (fun _ _ _ z => z) q⟩
  obtain ⟨e1, q⟩ := q
  subst e1
  cases r'
  have R4 := R3.up R'.lo ⟨R3.lo.trans R'.lo, R'.sub, R'.cel, R'.nd⟩
  have sAll := (s1.trans sB).trans R'.lo
  have R5 : Rel c.X.K c.B0 B' G S' σ H' := ⟨R4.toRelH, R4.len, R4.loc⟩
  refine ⟨rfl, ?_⟩
  rcases q with q | ⟨k2, fs2, e2, q⟩
  · exact ⟨B', .ref x, S', sAll, R5, rfl, q⟩
  · obtain ⟨B'', s'', R6, r6⟩ := R5.toRelH.freezeI e2
    rcases q with q | ⟨f, g, k3, ds3, hl, e3, q⟩
    · exact ⟨B'', _, _, sAll.trans s'', R5.up s'' R6, r6, q⟩
    · obtain ⟨B3, s3, R7, r7⟩ := R6.freeze e3
      obtain ⟨C, a, dx, vs, cn3, ev, hB, rf⟩ := r6
      cases ev
      exact ⟨B3, .ins n (putD f (.lst ds3) fs2), _, (sAll.trans s'').trans s3, R5.up (s''.trans s3) R7, ⟨C, x, dx, vs, cn3, rfl, s3 _ _ hB, (RepF.mono s3 _ _ rf).up r7 hl⟩, q⟩
end
end DL
end

section
set_option autoImplicit false
set_option maxRecDepth 100000
set_option maxHeartbeats 4000000
namespace DL
open PySem PySem.Spec PyProof.Rows L2
open PySem.W (Frag)
/-! ### defs with defaults, methods, constructors -/
theorem fn_okD {m : Mo} {x qual : Str} {st : Stmt} {f : Addr} {fd : FuncData} {N ps : List Str} {k : Nat} {fs : FSp} {dv : List V} {kws : List (Str × V)} (F : FunD m.K x qual (defArgs st) (defBody st) (defScope st) dv kws f fd) (Sc : FnScope N ps (defScope st)) (len : ∀ ds S Q EX, fs ds S Q EX → ds.length = ps.length)
    (body : ∀ (cdv : Value) (A : Around) (outer : List Env) (s : Shared) (H B : Hp) (E : XK) (EX : EXT) (hE) (hr) (ds : List D) (S : Sto) (Q : QD), fs ds S Q EX →
      WSs (bodyC m N qual (defScope st) f cdv A outer s H B E EX k hE hr Sc.nd) (defBody st) (startG N ds) S { nx := fun _ S' => Q .non S', rt := Q }) : FnOk m.P m.w m.K m.mg m.base (L2.CX m.P m.w) (k + 1) f fd ps (lift m.K fs) := by
  refine F.ok Sc (fun vs H Q E h => ?_) (fun cdv A outer s H vs Q E hr h => ?_)
  · obtain ⟨B, ds, S, Q', EX, R, r, h, _⟩ := h
    rw [r.length]
    exact len _ _ _ _ h
  · obtain ⟨B, ds, S, Q', EX, R, r, h, hQ, hE⟩ := h
    refine ⟨_, pss_self _, ?_⟩
    have hb := body cdv A outer s H B E EX hE hr ds S Q' h B (L2.start N vs) H (start_rel R r)
    refine tSs_mono hb ⟨fun σ' H' ⟨B', G', S', s', R', q⟩ => ?_, fun v H' ⟨B', d, S', s', R', r', q⟩ => hQ v H' B' d S' R' r' q, fun σ' H' ⟨_, _, _, _, _, q⟩ => q, fun σ' H' ⟨_, _, _, _, _, q⟩ => q⟩
    exact hQ .non H' B' .non S' R'.toRelH rfl q
/-- what the module tells of a class -/
structure ClsT (m : Mo) (n : Str) (C : Addr) : Prop where
  cn : CN m.K n C
  mg : m.mg n = some (.ref C)
  cl : Cls m.K C
theorem clF_of {m : Mo} {n f : Str} {C : Addr} (c : ClsT m n C) (h : PySem.W.findIn m.K (.ref C) f = some none) : ClF m.K n f := ⟨C, c.cn, c.cl, h⟩
theorem meD_of {m : Mo} {n name : Str} {C f : Addr} {fd : FuncData} {ps : List Str} {k : Nat} {fs : FSp} (c : ClsT m n C) (F : FnOk m.P m.w m.K m.mg m.base (L2.CX m.P m.w) k f fd ps (lift m.K fs)) (h : PySem.W.findIn m.K (.ref C) name = some (some (.ref f))) (hf : PySem.W.isFn m.K (.ref f) = true) (hk : PySem.W.keepIn m.K (.ref f) = true) (hb : Binds m.K fd ps []) : MeD m n name k [] fs :=
  ⟨C, f, fd, ps, [], [], c.cn, c.cl, ⟨h, hf, hk⟩, F, hb, .nil, fun _ => rfl⟩
theorem mkD_of {m : Mo} {n : Str} {C f : Addr} {fd : FuncData} {ps : List Str} {k : Nat} {fs : FSp} (c : ClsT m n C) (F : FnOk m.P m.w m.K m.mg m.base (L2.CX m.P m.w) k f fd ps (lift m.K fs)) (hm : PySem.W.makesIn m.K C = true) (h : PySem.W.findIn m.K (.ref C) "__init__" = some (some (.ref f))) (hf : PySem.W.isFn m.K (.ref f) = true) (hk : PySem.W.keepIn m.K (.ref C) = true) (hb : Binds m.K fd ps []) : MkD m n k [] fs :=
  ⟨C, f, fd, ps, [], [], c.cn, c.mg, ⟨hm, h, hf, hk⟩, F, hb, .nil, fun _ => rfl⟩
theorem mkD_ofD {m : Mo} {n : Str} {C f : Addr} {fd : FuncData} {ps : List Str} {k : Nat} {fs : FSp} {ds : List Value} {vs : List V} {dvs : List D} (c : ClsT m n C) (F : FnOk m.P m.w m.K m.mg m.base (L2.CX m.P m.w) k f fd ps (lift m.K fs)) (hm : PySem.W.makesIn m.K C = true) (h : PySem.W.findIn m.K (.ref C) "__init__" = some (some (.ref f))) (hf : PySem.W.isFn m.K (.ref f) = true) (hk : PySem.W.keepIn m.K (.ref C) = true) (hb : Binds m.K fd ps ds) (hv : Vals vs ds) (hd : ∀ B, Reps m.K B dvs vs) : MkD m n k dvs fs :=
  ⟨C, f, fd, ps, ds, vs, c.cn, c.mg, ⟨hm, h, hf, hk⟩, F, hb, hv, hd⟩
theorem fnD_ofD {m : Mo} {x : Str} {f : Addr} {fd : FuncData} {ps : List Str} {k : Nat} {fs : FSp} {ds : List Value} {vs : List V} {dvs : List D} (F : FnOk m.P m.w m.K m.mg m.base (L2.CX m.P m.w) k f fd ps (lift m.K fs)) (hm : m.mg x = some (.ref f)) (hk : PySem.W.keepIn m.K (.ref f) = true) (hb : Binds m.K fd ps ds) (hv : Vals vs ds) (hd : ∀ B, Reps m.K B dvs vs) : FnD m x k dvs fs :=
  ⟨f, fd, ps, ds, vs, F, hm, hk, hb, hv, hd⟩
end DL
end

section
set_option autoImplicit false
set_option maxRecDepth 100000
set_option maxHeartbeats 4000000
namespace DL
open PySem PySem.Spec PyProof.Rows L2
open PySem.W (Frag)
/-! ### tuple * n, n below two -/
theorem tuple_mul1 (l : Addr) (items : Array Value) (n : Nat) (dd : Option Addr) (sl : Array (Option Value)) (x : Int) (u : Tok) (c0 : (decide (x < -(2 ^ 63)) || decide (x ≥ 2 ^ 63)) = false) (c1 : (items.isEmpty || x == 1) = true) :
    Meets (Builtin.«tuple.__mul__» ⟨[.ref l, .int x u], []⟩) (fun _ R s => s.heap.get? l = some { cls := .type "tuple", dict := dd, data := .seq items n, slots := sl } ∧ R (.ok (.ret (Value.ref l))) s) :=
  .of_wp fun prog w A R s h => by
    obtain ⟨hp, g, d, tk, os⟩ := s
    obtain ⟨hl, h⟩ := h
    have f1 := AutoSeq1.idx_int
    wp_walk using wpAny_loadPart' hl
    repeat (first
      | (refine wpAny_ite_false (decide_eq_false (by rw [c0]; exact Bool.false_ne_true)) ?_; wp_walk using wpAny_loadPart' hl)
      | (refine wpAny_ite_true (decide_eq_true (by rw [c1])) ?_; wp_walk using wpAny_loadPart' hl))
    exact ⟨_, rfl, h⟩
theorem tuple_mul0 (l : Addr) (items : Array Value) (n : Nat) (dd : Option Addr) (sl : Array (Option Value)) (x : Int) (u : Tok) (c0 : (decide (x < -(2 ^ 63)) || decide (x ≥ 2 ^ 63)) = false) (c1 : (items.isEmpty || x == 1) = false) (c2 : (decide (x ≤ 0) || items.isEmpty) = true) :
    Meets (Builtin.«tuple.__mul__» ⟨[.ref l, .int x u], []⟩) (fun _ R s => s.heap.get? l = some { cls := .type "tuple", dict := dd, data := .seq items n, slots := sl } ∧
      R (.ok (.ret (Value.ref s.heap.objs.size))) { s with heap := s.heap.push { cls := Value.type "tuple", data := Data.seq #[] }, toks := s.toks }) :=
  .of_wp fun prog w A R s h => by
    obtain ⟨hp, g, d, tk, os⟩ := s
    obtain ⟨hl, h⟩ := h
    have f1 := AutoSeq1.idx_int
    wp_walk using wpAny_loadPart' hl
    repeat (first
      | (refine wpAny_ite_false (decide_eq_false (by rw [c0]; exact Bool.false_ne_true)) ?_; wp_walk using wpAny_loadPart' hl)
      | (refine wpAny_ite_false (decide_eq_false (by rw [c1]; exact Bool.false_ne_true)) ?_; wp_walk using wpAny_loadPart' hl)
      | (refine wpAny_ite_true (decide_eq_true (by rw [c2])) ?_; wp_walk using wpAny_loadPart' hl))
    exact ⟨_, rfl, h⟩
def rRepA (K : Frag) : R2 := fun x y H Q => ∃ (l : Addr) (k : Int) (xs : List V), x = .ref l ∧ y = .int k ∧ SqT K H l xs ∧ -1000 ≤ k ∧ k ≤ 1000 ∧ xs.length ≤ 1000 ∧ (xs = [] ∨ k = 1 → Q (.ref l) H) ∧ (xs ≠ [] → k ≤ 0 → ∀ p, H p = none → Q (.ref p) (upd H p (.tup []))) ∧
  (xs ≠ [] → 2 ≤ k → ∀ p, H p = none → Q (.ref p) (upd H p (.tup (List.replicate k.toNat xs).flatten)))
theorem op_repA {X : Cx} : OpR X (binaryOp .Mult) (rRepA X.K) := by
  intro pins s σ H x y v u Q I rx ry h
  obtain ⟨l, k, xs, rfl, rfl, hT, hlo, hhi, hz, q1, q2, q3⟩ := h
  by_cases hbig : xs ≠ [] ∧ 2 ≤ k
  · exact op_repT pins s σ H _ _ _ _ Q I rx ry ⟨l, k, xs, rfl, rfl, hT, hbig.1, hbig.2, hhi, hz, q3 hbig.1 hbig.2⟩
  cases rx
  obtain ⟨t, rfl⟩ := ry
  obtain ⟨its, r, ⟨⟨cls, dd, data, sl⟩, ho, hc, n, hd⟩, hs⟩ := I.tuple hT
  simp only at hc hd
  subst hc hd
  have hle : its.length = xs.length := r.length.symm
  have c0 : (decide (k < -(2 ^ 63)) || decide (k ≥ 2 ^ 63)) = false := by
    rw [decide_eq_false (by omega), decide_eq_false (by omega)] <;> rfl
  by_cases h1 : xs = [] ∨ k = 1
  · have c1 : (its.toArray.isEmpty || k == 1) = true := by
      rcases h1 with e | e
      · subst e
        cases its with
        | nil => rfl
        | cons a b => cases hle
      · subst e
        rw [Bool.or_eq_true]
        exact .inr rfl
    refine wpAny_binaryOp_repeat_ref (T := "tuple") (U := "int") (by decide) ⟨_, ho, rfl⟩ (fun s' => typeIs_int s' k t) noFill_tuple_mul PySem.F.fills_int_mul PySem.F.slot_int_rmul repeat_tuple PySem.F.slot_int_index.lookup
      (call_meets PySem.F.slot_int_rmul (typeIs_int s k t) PySem.F.entry_int_rmul (PySem.F.args_int_rmul_2 _ _) (int_rmul_tuple k t l its.toArray n dd sl)
        ⟨ho, rfl, ⟨_, ho, rfl⟩, call_meets PySem.F.slot_tuple_mul ⟨_, ho, rfl⟩ PySem.F.entry_tuple_mul (PySem.F.args_tuple_mul_2 _ _) (tuple_mul1 l its.toArray n dd sl k t c0 c1) ⟨ho, ?_⟩⟩)
    exact ⟨.ref l, H, I, rfl, q1 h1⟩
  · have hne : xs ≠ [] := fun e => h1 (.inl e)
    have hk : k ≤ 0 := by
      have : ¬ k = 1 := fun e => h1 (.inr e)
      have : ¬ 2 ≤ k := fun e => hbig ⟨hne, e⟩
      omega
    have hi : its.toArray.isEmpty = false := by
      cases its with
      | nil => exact absurd (List.eq_nil_of_length_eq_zero hle.symm) hne
      | cons a b => rfl
    have c1 : (its.toArray.isEmpty || k == 1) = false := by
      rw [hi, Bool.false_or]
      exact beq_eq_false_iff_ne.mpr (by omega)
    have c2 : (decide (k ≤ 0) || its.toArray.isEmpty) = true := by
      rw [hi, Bool.or_false]
      exact decide_eq_true hk
    refine wpAny_binaryOp_repeat_ref (T := "tuple") (U := "int") (by decide) ⟨_, ho, rfl⟩ (fun s' => typeIs_int s' k t) noFill_tuple_mul PySem.F.fills_int_mul PySem.F.slot_int_rmul repeat_tuple PySem.F.slot_int_index.lookup
      (call_meets PySem.F.slot_int_rmul (typeIs_int s k t) PySem.F.entry_int_rmul (PySem.F.args_int_rmul_2 _ _) (int_rmul_tuple k t l its.toArray n dd sl)
        ⟨ho, rfl, ⟨_, ho, rfl⟩, call_meets PySem.F.slot_tuple_mul ⟨_, ho, rfl⟩ PySem.F.entry_tuple_mul (PySem.F.args_tuple_mul_2 _ _) (tuple_mul0 l its.toArray n dd sl k t c0 c1 c2) ⟨ho, ?_⟩⟩)
    refine ⟨.ref s.heap.objs.size, _, I.laid (t' := s.toks) (o := .tup []) (fun b ob q => Heap.get?_push_of_some _ q) (Nat.le_refl _) ?_, rfl, q2 hne hk _ (I.hok.fresh (Nat.le_refl _))⟩
    exact ⟨by show 0 ≤ _; omega, [], .nil, IsTup.new _ _⟩
def dTmulA (x y : D) (S : Sto) (Q : QD) : Prop := match x, y with
  | .tup xs, .int k => -1000 ≤ k ∧ k ≤ 1000 ∧ xs.length ≤ 1000 ∧ Q (.tup (List.replicate k.toNat xs).flatten) S
  | _, _ => False
section
variable {c : CD} {e a b d : Expr} {pos p : Pos} {ta tb : TEd} {G : Loc} {S : Sto}
theorem d_tmulA (ha : PEd c a ta) (hb : PEd c b tb) : PEd c (.BinOp a .Mult b pos) (eOp dTmulA ta tb) := fun G S Q h => by
  refine w_op op_repA (fun Bl B σ H x y vx vy S Q s R rx ry h => ?_) (P := dTmulA) ((ha G S _ h).mono fun x S1 h1 => hb G S1 _ h1)
  cases x <;> first | exact False.elim h | (cases y <;> first | exact False.elim h | skip)
  case tup.int xs k =>
    obtain ⟨a, vs, e, hq, r⟩ := rx
    cases ry
    obtain ⟨h1, h2, h3, q⟩ := h
    have l := r.length
    refine ⟨a, k, vs, e, rfl, sameT R.sub hq, h1, h2, by omega, fun z => ?_, fun hne hk p hp => ?_, fun _ _ p hp => tup_ok s R (reps_rep r _) q p hp⟩
    · have e2 : (List.replicate k.toNat xs).flatten = xs := by
        rcases z with z | z
        · subst z
          have : xs = [] := List.eq_nil_of_length_eq_zero l.symm
          subst this
          simp
        · subst z
          show (List.replicate 1 xs).flatten = xs
          simp
      rw [e2] at q
      exact ⟨B, .tup xs, S, s, R, ⟨a, vs, rfl, hq, r⟩, q⟩
    · have e2 : (List.replicate k.toNat xs).flatten = [] := by
        have : k.toNat = 0 := by omega
        rw [this]
        rfl
      rw [e2] at q
      exact tup_ok (ds := []) (vs := []) s R rfl q p hp
end
/-! ### xs[::-1], xs.clear() -/
section
variable {c : CD} {e a b d : Expr} {pos p : Pos} {ta tb : TEd} {G : Loc} {S : Sto}
def eRev (ta : TEd) : TEd := fun G S Q => ta G S fun x S1 => asQ x S1 fun ds => mk ds.reverse S1 Q
theorem d_rev {k : Nat} {p1 p2 p3 : Pos} (ha : PEd c e ta) : PEd c (.Subscript e (.Slice none none (some (.UnaryOp .USub (.Constant (.int 1) k p1) p2)) p3) pos) (eRev ta) := fun G S Q h B σ H R => by
  refine tE_of (pe_revL (pe_self e)) ?_
  refine tE_mono (ha G S _ h B σ H R) fun v H1 ⟨B1, d, S1, s1, R1, r1, h1⟩ => ?_
  obtain ⟨a, vs, ds, e1, hq, r, q⟩ := asQ_get R1 r1 h1
  exact ⟨a, vs, e1, hq, fun p hp => mk_ok s1 R1 r.reverse q p hp⟩
def mClr : D → Sto → QD → Prop := fun x S Q => match x with
  | .ref a => ∃ k xs, S[k]? = some (a, Cel.lst xs) ∧ Q .non (S.set k (a, Cel.lst []))
  | _ => False
def eClr (to : TEd) : TEd := fun G S Q => to G S fun x S1 => mClr x S1 Q
theorem d_clear {apos cpos : Pos} {o : Expr} {to : TEd} (ho : PEd c o to) (hbase : attributeBase o "clear" c.X.env (eval o c.X.env) = eval o c.X.env := by rfl) (hline : (apos.endLine == cpos.line) = true := by rfl) : PEd c (.Call (.Attribute o "clear" apos) [] [] cpos) (eClr to) := fun G S Q h B σ H R => by
  refine tE_of (pe_bm0 PySem.F.plainAttrs_list PySem.F.slot_list_clear PySem.F.type_list_clear mt_clear (pe_self o) hbase hline) ?_
  refine tE_mono (ho G S _ h B σ H R) fun v H1 ⟨B1, x, S1, s1, R1, r1, h1⟩ => ?_
  cases x <;> first | exact False.elim h1 | skip
  case ref a =>
    obtain ⟨k, xs, e, q⟩ := h1
    cases r1
    obtain ⟨_, us, e1, r2⟩ := R1.cel (a, .lst xs) (List.mem_of_getElem? e)
    exact ⟨.inl ⟨rfl, us, .of e1⟩, a, us, rfl, rfl, e1, B1, .non, _, s1, R1.write (c' := .lst []) e ⟨[], upd_same, rfl⟩, rfl, q⟩
end
end DL
end

section
set_option autoImplicit false
set_option maxRecDepth 100000
set_option maxHeartbeats 4000000
namespace DL
open PySem PySem.Spec PyProof.Rows L2
open PySem.W (Frag)
/-! ### lists of anything compared by their lengths -/
def rEqL (K : Frag) (neg : Bool) : R2 := fun x y H Q => ∃ a b xs ys, x = .ref a ∧ y = .ref b ∧ SqL K H a xs ∧ SqL K H b ys ∧ ((xs.length ≠ ys.length ∧ Q (.bl neg) H) ∨ (xs = [] ∧ ys = [] ∧ Q (.bl (!neg)) H))
theorem op_eqL {X : Cx} (neg : Bool) (hu : X.A.units + 64 < cLine) : OpR X (compareOp (opEq neg)) (rEqL X.K neg) := by
  intro pins s σ H x y v u Q I rx ry h
  obtain ⟨a, b, xs, ys, rfl, rfl, ha, hb, h⟩ := h
  rcases h with ⟨hne, q⟩ | ⟨rfl, rfl, q⟩
  · cases rx
    cases ry
    obtain ⟨its, r, e, z⟩ := I.list ha
    obtain ⟨its2, r2, e2, z2⟩ := I.list hb
    have hsz : (its.toArray.size != its2.toArray.size) = true := by
      rw [List.size_toArray, List.size_toArray, ← r.length, ← r2.length]
      simpa using hne
    cases neg with
    | false => exact SeqAt.RcAt.lists_lengths (A := X.A) (s := s) e.isList e2.isList hsz (by omega) X.prog X.w _ _ ⟨.bl false, H, I, rfl, q⟩
    | true => exact SeqAt.RcNeAt.lists_lengths (A := X.A) (s := s) e.isList e2.isList hsz (by omega) X.prog X.w _ _ ⟨.bl true, H, I, rfl, q⟩
  · have g := op_eqs (X := X) neg hu pins s σ H (.ref a) (.ref b) v u Q I rx ry (.inr ⟨.list [], .list [], .lst ha .nil, .lst hb .nil, by decide, by decide, ?_⟩)
    · exact g
    · cases neg <;> exact q
/-- x == y, both lists, unlike long or both empty -/
def dEqL (neg : Bool) (x y : D) (S : Sto) (Q : Bool → Sto → Prop) : Prop := asQ x S fun xs => asQ y S fun ys => (xs.length ≠ ys.length ∧ Q neg S) ∨ (xs = [] ∧ ys = [] ∧ Q (!neg) S)
def eEqL (neg : Bool) (ta tb : TEd) : TEd := fun G S Q => ta G S fun x S1 => tb G S1 fun y S2 => dEqL neg x y S2 fun k S3 => Q (.bl k) S3
def tEqL (neg : Bool) (ta tb : TEd) : TTd := fun G S Q => ta G S fun x S1 => tb G S1 fun y S2 => dEqL neg x y S2 Q
section
variable {c : CD} {G : Loc} {S : Sto} {e a b : Expr} {pos : Pos} {ta tb : TEd}
theorem eqL_core {neg : Bool} {B H : Hp} {σ : L2.St} {x y : D} {vx vy : V} {Q : Bool → Sto → Prop} {Q' : VK} (R : c.R B G S σ H) (rx : Rep c.X.K B x vx) (ry : Rep c.X.K B y vy) (h : dEqL neg x y S Q)
    (k : ∀ b, Q b S → Q' (.bl b) H) : rEqL c.X.K neg vx vy H Q' := by
  obtain ⟨a1, vs1, ds1, e1, h1, r1, h⟩ := asQ_get R rx h
  obtain ⟨a2, vs2, ds2, e2, h2, r2, h⟩ := asQ_get R ry h
  refine ⟨a1, a2, vs1, vs2, e1, e2, h1, h2, ?_⟩
  rcases h with ⟨hne, q⟩ | ⟨rfl, rfl, q⟩
  · exact .inl ⟨by rw [r1.length, r2.length]; exact hne, k _ q⟩
  · exact .inr ⟨r1, r2, k _ q⟩
theorem d_eqL (ha : PEd c a ta) (hb : PEd c b tb) : PEd c (.Compare a [.Eq] [b] pos) (eEqL false ta tb) := fun G S Q h => by
  refine w_cmp (P := fun x y S Q => dEqL false x y S fun k S3 => Q (.bl k) S3) (op_eqL false c.hr.units) (nomark b (by decide) (by decide)) (fun Bl B σ H x y vx vy S Q s R rx ry h => ?_) ((ha G S _ h).mono fun x S1 h1 => hb G S1 _ h1)
  exact eqL_core R rx ry h fun k q => ⟨B, .bl k, S, s, R, rfl, q⟩
theorem dt_eqL (ha : PEd c a ta) (hb : PEd c b tb) : PTd c (.Compare a [.Eq] [b] pos) (tEqL false ta tb) := fun G S Q h => by
  refine wt_cmp (P := fun x y S Q => dEqL false x y S Q) (op_eqL false c.hr.units) (nomark b (by decide) (by decide)) (fun Bl B σ H x y vx vy S Q s R rx ry h => ?_) ((ha G S _ h).mono fun x S1 h1 => hb G S1 _ h1)
  exact eqL_core R rx ry h fun k q => ⟨k, rfl, B, S, s, R, q⟩
end
/-! ### cells are forgotten -/
def sDr (t : TSd) : TSd := fun E G S => ∃ S', S'.Sublist S ∧ t E G S'
theorem ds_dr {c : CD} {st : List Stmt} {t : TSd} (h : PSsd c st t) : PSsd c st (sDr t) := fun E G S ⟨S', hs, q⟩ => (h E G S' q).less (Less.refl G) hs
/-! ### comprehensions over lists that are known -/
theorem eLc_eq (ti : TAd) (own : List Nat) (bind : D → Loc → (Loc → Prop) → Prop) (tt : TTd) (te : TEd) : eLc ti own bind tt te = fun G S Q => ti G S fun ds S1 => LcIn G own bind tt te ds S1 Q := rfl
section
variable {S : Sto} {G : Loc} {own : List Nat} {bind : D → Loc → (Loc → Prop) → Prop} {tt : TTd} {te : TEd} {Q : QD}
theorem lc_M {α : Type} {src : α → D} {xs : List α} (out : α → D) (hz : xs.length ≤ 1000000)
    (h : ∀ x ∈ xs, ∀ (p : Addr) (acc : List D) (K : QD), K (out x) ((p, Cel.lst acc) :: S) → bind (src x) (wipeG G own) fun G2 => te G2 ((p, Cel.lst acc) :: S) K)
    (hm : ∀ d G P P', bind d G P → (∀ G2, P G2 → P' G2) → bind d G P')
    (q : mk (xs.map out) S Q) : LcIn G own bind tYs te (xs.map src) S Q := by
  refine ⟨fun i acc S' => S' = S ∧ acc = (xs.take i).map out, ⟨rfl, rfl⟩, ?_, ?_⟩
  · rintro i d acc S' p e ⟨rfl, rfl⟩
    rw [List.getElem?_map] at e
    obtain ⟨x, hx, rfl⟩ := Option.map_eq_some_iff.mp e
    have hi : i < xs.length := (List.getElem?_eq_some_iff.mp hx).1
    refine hm _ _ _ _ (h x (List.mem_of_getElem? hx) p ((xs.take i).map out) (fun y S4 => ∃ S5, S4 = (p, .lst ((xs.take i).map out)) :: S5 ∧ ((xs.take i).map out).length < sizeLine ∧ S5 = S' ∧ (xs.take i).map out ++ [y] = (xs.take (i + 1)).map out) ⟨S', rfl, ?_, rfl, ?_⟩) fun G2 q2 => ⟨S', rfl, fun _ => q2, fun z => by cases z⟩
    · rw [List.length_map, List.length_take]
      exact Nat.lt_of_le_of_lt (Nat.min_le_left _ _) (Nat.lt_of_lt_of_le hi (Nat.le_trans hz (by decide)))
    · rw [List.take_add_one, hx, List.map_append]
      rfl
  · rintro acc S' ⟨rfl, rfl⟩
    rw [List.length_map, List.take_length]
    exact q
theorem lc_F {α : Type} {src : α → D} {xs : List α} (keep : α → Bool) (out : α → D) (hz : xs.length ≤ 1000000)
    (h : ∀ x ∈ xs, ∀ (p : Addr) (acc : List D), bind (src x) (wipeG G own) fun G2 => (∀ P : Bool → Sto → Prop, P (keep x) ((p, Cel.lst acc) :: S) → tt G2 ((p, Cel.lst acc) :: S) P) ∧ (keep x = true → ∀ K : QD, K (out x) ((p, Cel.lst acc) :: S) → te G2 ((p, Cel.lst acc) :: S) K))
    (hm : ∀ d G P P', bind d G P → (∀ G2, P G2 → P' G2) → bind d G P')
    (q : mk ((xs.filter keep).map out) S Q) : LcIn G own bind tt te (xs.map src) S Q := by
  refine ⟨fun i acc S' => S' = S ∧ acc = ((xs.take i).filter keep).map out, ⟨rfl, rfl⟩, ?_, ?_⟩
  · rintro i d acc S' p e ⟨rfl, rfl⟩
    rw [List.getElem?_map] at e
    obtain ⟨x, hx, rfl⟩ := Option.map_eq_some_iff.mp e
    have hi : i < xs.length := (List.getElem?_eq_some_iff.mp hx).1
    have et : xs.take (i + 1) = xs.take i ++ [x] := by rw [List.take_add_one, hx]; rfl
    have hl : (((xs.take i).filter keep).map out).length < sizeLine := by
      rw [List.length_map]
      have h1 := List.length_filter_le keep (xs.take i)
      rw [List.length_take] at h1
      exact Nat.lt_of_le_of_lt h1 (Nat.lt_of_le_of_lt (Nat.min_le_left _ _) (Nat.lt_of_lt_of_le hi (Nat.le_trans hz (by decide))))
    refine hm _ _ _ _ (h x (List.mem_of_getElem? hx) p (((xs.take i).filter keep).map out)) fun G2 q2 => q2.1 _ ⟨S', rfl, fun hk => q2.2 hk _ ⟨S', rfl, hl, rfl, ?_⟩, fun hk => ⟨rfl, ?_⟩⟩
    · rw [et, List.filter_append, List.map_append, List.filter_cons_of_pos hk]
      rfl
    · rw [et, List.filter_append, List.filter_cons_of_neg (by rw [hk]; decide)]
      simp
  · rintro acc S' ⟨rfl, rfl⟩
    rw [List.length_map, List.take_length]
    exact q
theorem bind1_mono {i : Nat} : ∀ (d : D) (G : Loc) (P P' : Loc → Prop), bind1 i d G P → (∀ G2, P G2 → P' G2) → bind1 i d G P' := fun d G P P' h k => inG_mono h (k _)
theorem bind2_mono' {i j : Nat} : ∀ (d : D) (G : Loc) (P P' : Loc → Prop), bind2 i j d G P → (∀ G2, P G2 → P' G2) → bind2 i j d G P' := fun d G P P' h k => bind2_mono h k
end
end DL
end

section
set_option autoImplicit false
set_option maxRecDepth 100000
set_option maxHeartbeats 4000000
namespace DL
open PySem PySem.Spec PyProof.Rows L2
open PySem.W (Frag)
/-! ### == and len by a class's own methods -/
def rEqO (C : Addr) (tb : Value) (ok : V → Hp → Prop) (sp : Sp) (E : XK) : R2 := fun x y H Q => ∃ (a dx : Addr) (fs : List (Str × V)), x = .ref a ∧ H a = some (.ins C dx fs) ∧ ok y H ∧ sp [x, y] H (fun v H' => (∃ k, v = .bl k) ∧ Q v H') E
theorem op_eqO {X : Cx} {n : Nat} {CX : CXT} {C f : Addr} {fd : FuncData} {ps : List Str} {sp : Sp} {E : XK} {tb : Value} {ok : V → Hp → Prop} (F : FnOk X.prog X.w X.K X.mg X.base CX n f fd ps sp)
    (hs : PySem.W.findIn X.K (.ref C) "__eq__" = some (some (.ref f))) (hf : PySem.W.isFn X.K (.ref f) = true) (hb : Binds X.K fd ps []) (hx : Passes CX X E) (hr : Room n X.A) (hn : PySem.W.notFirst X.K C tb = true)
    (hty : ∀ pins σ H s y u, Inv X pins σ H s → RelV y u → ok y H → PySem.W.Looks (model X.prog X.w) s.heap (typeOf u) tb) : OpR X (compareOp .Eq) (rEqO C tb ok sp E) := by
  intro pins s σ H x y v u Q I rx ry h
  obtain ⟨a, dx, fs, rfl, ha, hk, hsp⟩ := h
  obtain rfl : v = Value.ref a := rx
  obtain ⟨mA, J, _⟩ := ins_get I.hok ha
  obtain ⟨od, J, _⟩ := J.look
  obtain ⟨m, hF⟩ := I.fr
  show wpAny (model X.prog X.w) X.A (richCompare .Eq (.ref a) u) (EP X pins σ Q) X.xe s
  refine PySem.W.cmp_K (op := .Eq) (tb := tb) hr.units0 hF I.ok.mod.kin J (hty pins σ H s y u I ry hk) hn hs hf ?_
  have e0 : Env0 X.prog X.w X.K X.mg X.base X.A X.stack s H := I.env0
  have hl := F.len _ _ _ _ hsp
  have r2 : Vals [V.ref a, y] [Value.ref a, u] := .cons rfl (.cons ry .nil)
  refine wpAny_call (codeAny_mono (F.run X.A X.stack s H ⟨[.ref a, u], []⟩ [.ref a, u] [.ref a, y] _ E hr e0 (by
    have := hb s [.ref a, u] I.kIn (by simpa using hl)
    simpa using this) r2 hsp) fun r s' hq => ?_)
  cases r with
  | error e => exact hx pins σ H s e s' I hq
  | ok fl =>
    cases fl with
    | ret w =>
      obtain ⟨z, H', I', rz, ⟨k, ez⟩, q⟩ := I.after hq
      subst ez
      obtain rfl : w = Value.bool k := rz
      exact ⟨.bl k, H', I', rfl, q⟩
    | next => exact False.elim hq
    | brk => exact False.elim hq
    | cont => exact False.elim hq
def dEqO (n : Str) (fs : FSp) (EX : EXT) (ok : D → Sto → Prop) (x y : D) (S : Sto) (Q : QD) : Prop := asI n x S fun _ => ok y S ∧ fs [x, y] S (fun d S' => ∃ k, d = .bl k ∧ Q d S') EX
def eEqO (n : Str) (fs : FSp) (EX : EXT) (ok : D → Sto → Prop) (ta tb : TEd) : TEd := fun G S Q => ta G S fun x S1 => tb G S1 fun y S2 => dEqO n fs EX ok x y S2 Q
def tEqO (n : Str) (fs : FSp) (EX : EXT) (ok : D → Sto → Prop) (ta tb : TEd) : TTd := fun G S Q => ta G S fun x S1 => tb G S1 fun y S2 => dEqO n fs EX ok x y S2 fun d S' => ∃ k, d = .bl k ∧ Q k S'
def okIns (n : Str) : D → Sto → Prop := fun y S => asI n y S fun _ => True
def okInt : D → Sto → Prop := fun y _ => ∃ i, y = .int i
def okLst : D → Sto → Prop := fun y S => asL y S fun _ => True
section
variable {c : CD} {e a b d : Expr} {es : List Expr} {pos p : Pos} {x : Str} {ta tb : TEd} {ls : List (Option NameKind)} {gs : List Str} {G : Loc} {S : Sto}
theorem d_eqOv [Calm c] {n : Str} {k : Nat} {fs : FSp} {ok : D → Sto → Prop} {okV : Addr → V → Hp → Prop} {tv : Addr → Value} (F : MeD c.X.mo n "__eq__" k [] fs) (hk : k ≤ c.k) (hn : ∀ C, CN c.X.K n C → PySem.W.notFirst c.X.K C (tv C) = true)
    (hok : ∀ C B S G y vy σ H, CN c.X.K n C → c.R B G S σ H → Rep c.X.K B y vy → ok y S → okV C vy H)
    (hty : ∀ C vy pins σ H s u, Inv c.X pins σ H s → RelV vy u → okV C vy H → PySem.W.Looks (model c.X.prog c.X.w) s.heap (typeOf u) (tv C))
    (ha : PEd c a ta) (hb : PEd c b tb) : PEd c (.Compare a [.Eq] [b] pos) (eEqO n fs EN0 ok ta tb) := fun G S Q h => by
  obtain ⟨C, f, fd, ps, dd, vs0, cn, cl, me, hf, hbi, hd, hr⟩ := F
  have e0 : vs0 = [] := hr (fun _ => none)
  subst e0
  have e1 : dd = [] := by cases hd; rfl
  subst e1
  refine w_cmp (P := dEqO n fs EN0 ok) (r := rEqO C (tv C) (okV C) (lift c.X.K fs) L2.E0)
    (op_eqO hf me.at_ me.fn hbi passL (CD.room hk) (hn C cn) fun pins σ H s y u I ry q => hty C y pins σ H s u I ry q) (nomark b (by decide) (by decide)) (fun Bl B σ H x y vx vy S Q s R rx ry h => ?_) ((ha G S _ h).mono fun x S1 h1 => hb G S1 _ h1)
  obtain ⟨h1, h2, h3⟩ : asI n x S (fun _ => True) ∧ ok y S ∧ fs [x, y] S (fun d S' => ∃ k, d = .bl k ∧ Q d S') EN0 := by
    cases x <;> first | exact False.elim h | skip
    case ref a => obtain ⟨k, fl, e, q⟩ := h; exact ⟨⟨k, fl, e, trivial⟩, q⟩
    case ins m fl => obtain ⟨e, q⟩ := h; exact ⟨⟨e, trivial⟩, q⟩
  obtain ⟨a1, C', dx, vs, flds, ev, cn', hH, rf, _⟩ := asI_get R rx h1
  have := CN.inj cn cn'
  subst this
  refine ⟨a1, dx, vs, ev, hH, hok C B S G y vy σ H cn R ry h2, ?_⟩
  refine ⟨B, [x, y], S, _, EN0, ⟨Same.refl _, R.sub, R.cel, R.nd⟩, ⟨vx, _, rfl, rx, vy, [], rfl, ry, rfl⟩, h3, fun u H' B' d S' R' r' q => ?_, fun cls d H' ⟨_, _, _, _, _, _, _, _, z⟩ => z⟩
  obtain ⟨k, ek, q⟩ := q
  subst ek
  exact ⟨⟨k, r'⟩, B', .bl k, S', s.trans R'.lo, R.up R'.lo ⟨R.lo.trans R'.lo, R'.sub, R'.cel, R'.nd⟩, r', q⟩
theorem dt_eqOv [Calm c] {n : Str} {k : Nat} {fs : FSp} {ok : D → Sto → Prop} {okV : Addr → V → Hp → Prop} {tv : Addr → Value} (F : MeD c.X.mo n "__eq__" k [] fs) (hk : k ≤ c.k) (hn : ∀ C, CN c.X.K n C → PySem.W.notFirst c.X.K C (tv C) = true)
    (hok : ∀ C B S G y vy σ H, CN c.X.K n C → c.R B G S σ H → Rep c.X.K B y vy → ok y S → okV C vy H)
    (hty : ∀ C vy pins σ H s u, Inv c.X pins σ H s → RelV vy u → okV C vy H → PySem.W.Looks (model c.X.prog c.X.w) s.heap (typeOf u) (tv C))
    (ha : PEd c a ta) (hb : PEd c b tb) : PTd c (.Compare a [.Eq] [b] pos) (tEqO n fs EN0 ok ta tb) := fun G S Q h => by
  obtain ⟨C, f, fd, ps, dd, vs0, cn, cl, me, hf, hbi, hd, hr⟩ := F
  have e0 : vs0 = [] := hr (fun _ => none)
  subst e0
  have e1 : dd = [] := by cases hd; rfl
  subst e1
  refine wt_cmp (P := fun x y S Q => dEqO n fs EN0 ok x y S fun d S' => ∃ k, d = .bl k ∧ Q k S') (r := rEqO C (tv C) (okV C) (lift c.X.K fs) L2.E0)
    (op_eqO hf me.at_ me.fn hbi passL (CD.room hk) (hn C cn) fun pins σ H s y u I ry q => hty C y pins σ H s u I ry q) (nomark b (by decide) (by decide)) (fun Bl B σ H x y vx vy S Q s R rx ry h => ?_) ((ha G S _ h).mono fun x S1 h1 => hb G S1 _ h1)
  obtain ⟨h1, h2, h3⟩ : asI n x S (fun _ => True) ∧ ok y S ∧ fs [x, y] S (fun d S' => ∃ k, d = .bl k ∧ ∃ k2, d = .bl k2 ∧ Q k2 S') EN0 := by
    cases x <;> first | exact False.elim h | skip
    case ref a => obtain ⟨k, fl, e, q⟩ := h; exact ⟨⟨k, fl, e, trivial⟩, q⟩
    case ins m fl => obtain ⟨e, q⟩ := h; exact ⟨⟨e, trivial⟩, q⟩
  obtain ⟨a1, C', dx, vs, flds, ev, cn', hH, rf, _⟩ := asI_get R rx h1
  have := CN.inj cn cn'
  subst this
  refine ⟨a1, dx, vs, ev, hH, hok C B S G y vy σ H cn R ry h2, ?_⟩
  refine ⟨B, [x, y], S, _, EN0, ⟨Same.refl _, R.sub, R.cel, R.nd⟩, ⟨vx, _, rfl, rx, vy, [], rfl, ry, rfl⟩, h3, fun u H' B' d S' R' r' q => ?_, fun cls d H' ⟨_, _, _, _, _, _, _, _, z⟩ => z⟩
  obtain ⟨k, ek, k2, ek2, q⟩ := q
  subst ek
  obtain rfl := D.bl.inj ek2
  exact ⟨⟨k, r'⟩, k, r', B', S', s.trans R'.lo, R.up R'.lo ⟨R.lo.trans R'.lo, R'.sub, R'.cel, R'.nd⟩, q⟩
theorem d_eqO [Calm c] {n : Str} {k : Nat} {fs : FSp} (F : MeD c.X.mo n "__eq__" k [] fs) (hk : k ≤ c.k) (ha : PEd c a ta) (hb : PEd c b tb) : PEd c (.Compare a [.Eq] [b] pos) (eEqO n fs EN0 (okIns n) ta tb) :=
  d_eqOv (tv := fun C => .ref C) (okV := fun C y H => ∃ b dy gs, y = .ref b ∧ H b = some (.ins C dy gs)) F hk (fun C _ => by simp [PySem.W.notFirst]) (fun C B S G y vy σ H cn R r h => by
    obtain ⟨a1, C', dx, vs, flds, ev, cn', hH, rf, _⟩ := asI_get R r h
    have := CN.inj cn cn'
    subst this
    exact ⟨a1, dx, vs, ev, hH⟩) (fun C vy pins σ H s u I ru ⟨b, dy, gs, e, hb⟩ => by
    subst e
    obtain rfl : u = Value.ref b := ru
    obtain ⟨mB, J', _⟩ := ins_get I.hok hb
    obtain ⟨od', J', _⟩ := J'.look
    exact J'.type) ha hb
theorem d_eqOi [Calm c] {n : Str} {k : Nat} {fs : FSp} (F : MeD c.X.mo n "__eq__" k [] fs) (hk : k ≤ c.k) (hn : ∃ C, CN c.X.K n C ∧ PySem.W.notFirst c.X.K C (.type "int") = true) (ha : PEd c a ta) (hb : PEd c b tb) : PEd c (.Compare a [.Eq] [b] pos) (eEqO n fs EN0 okInt ta tb) :=
  d_eqOv (tv := fun C => .type "int") (okV := fun C y H => ∃ i, y = .int i) F hk (fun C cn => by
    obtain ⟨C', cn', h⟩ := hn
    have := CN.inj cn cn'
    subst this
    exact h) (fun C B S G y vy σ H cn R r h => by
    obtain ⟨i, e⟩ := h
    subst e
    exact ⟨i, r⟩) (fun C vy pins σ H s u I ru ⟨i, e⟩ => by
    subst e
    obtain ⟨t, rfl⟩ : ∃ t, u = Value.int i t := ru
    exact fun A Q E s k q => wpAny_pure q) ha hb
theorem d_eqOl [Calm c] {n : Str} {k : Nat} {fs : FSp} (F : MeD c.X.mo n "__eq__" k [] fs) (hk : k ≤ c.k) (hn : ∃ C, CN c.X.K n C ∧ PySem.W.notFirst c.X.K C (.type "list") = true) (ha : PEd c a ta) (hb : PEd c b tb) : PEd c (.Compare a [.Eq] [b] pos) (eEqO n fs EN0 okLst ta tb) :=
  d_eqOv (tv := fun C => .type "list") (okV := fun C y H => ∃ b xs, y = .ref b ∧ H b = some (.lst xs)) F hk (fun C cn => by
    obtain ⟨C', cn', h⟩ := hn
    have := CN.inj cn cn'
    subst this
    exact h) (fun C B S G y vy σ H cn R r h => by
    obtain ⟨b, vs, ds, e, hb, _⟩ := asL_get R r h
    exact ⟨b, vs, e, hb⟩) (fun C vy pins σ H s u I ru ⟨b, xs, e, hb⟩ => by
    subst e
    obtain rfl : u = Value.ref b := ru
    obtain ⟨its, r, e, z⟩ := I.list (SqL.of hb)
    obtain ⟨o, ho, hc, _⟩ := e.isList
    exact fun A Q E s k q => wpAny_typeOf_ref (k _ _ ho) (by rw [hc]; exact q)) ha hb
theorem dt_eqO [Calm c] {n : Str} {k : Nat} {fs : FSp} (F : MeD c.X.mo n "__eq__" k [] fs) (hk : k ≤ c.k) (ha : PEd c a ta) (hb : PEd c b tb) : PTd c (.Compare a [.Eq] [b] pos) (tEqO n fs EN0 (okIns n) ta tb) :=
  dt_eqOv (tv := fun C => .ref C) (okV := fun C y H => ∃ b dy gs, y = .ref b ∧ H b = some (.ins C dy gs)) F hk (fun C _ => by simp [PySem.W.notFirst]) (fun C B S G y vy σ H cn R r h => by
    obtain ⟨a1, C', dx, vs, flds, ev, cn', hH, rf, _⟩ := asI_get R r h
    have := CN.inj cn cn'
    subst this
    exact ⟨a1, dx, vs, ev, hH⟩) (fun C vy pins σ H s u I ru ⟨b, dy, gs, e, hb⟩ => by
    subst e
    obtain rfl : u = Value.ref b := ru
    obtain ⟨mB, J', _⟩ := ins_get I.hok hb
    obtain ⟨od', J', _⟩ := J'.look
    exact J'.type) ha hb
theorem dt_eqOi [Calm c] {n : Str} {k : Nat} {fs : FSp} (F : MeD c.X.mo n "__eq__" k [] fs) (hk : k ≤ c.k) (hn : ∃ C, CN c.X.K n C ∧ PySem.W.notFirst c.X.K C (.type "int") = true) (ha : PEd c a ta) (hb : PEd c b tb) : PTd c (.Compare a [.Eq] [b] pos) (tEqO n fs EN0 okInt ta tb) :=
  dt_eqOv (tv := fun C => .type "int") (okV := fun C y H => ∃ i, y = .int i) F hk (fun C cn => by
    obtain ⟨C', cn', h⟩ := hn
    have := CN.inj cn cn'
    subst this
    exact h) (fun C B S G y vy σ H cn R r h => by
    obtain ⟨i, e⟩ := h
    subst e
    exact ⟨i, r⟩) (fun C vy pins σ H s u I ru ⟨i, e⟩ => by
    subst e
    obtain ⟨t, rfl⟩ : ∃ t, u = Value.int i t := ru
    exact fun A Q E s k q => wpAny_pure q) ha hb
theorem dt_eqOl [Calm c] {n : Str} {k : Nat} {fs : FSp} (F : MeD c.X.mo n "__eq__" k [] fs) (hk : k ≤ c.k) (hn : ∃ C, CN c.X.K n C ∧ PySem.W.notFirst c.X.K C (.type "list") = true) (ha : PEd c a ta) (hb : PEd c b tb) : PTd c (.Compare a [.Eq] [b] pos) (tEqO n fs EN0 okLst ta tb) :=
  dt_eqOv (tv := fun C => .type "list") (okV := fun C y H => ∃ b xs, y = .ref b ∧ H b = some (.lst xs)) F hk (fun C cn => by
    obtain ⟨C', cn', h⟩ := hn
    have := CN.inj cn cn'
    subst this
    exact h) (fun C B S G y vy σ H cn R r h => by
    obtain ⟨b, vs, ds, e, hb, _⟩ := asL_get R r h
    exact ⟨b, vs, e, hb⟩) (fun C vy pins σ H s u I ru ⟨b, xs, e, hb⟩ => by
    subst e
    obtain rfl : u = Value.ref b := ru
    obtain ⟨its, r, e, z⟩ := I.list (SqL.of hb)
    obtain ⟨o, ho, hc, _⟩ := e.isList
    exact fun A Q E s k q => wpAny_typeOf_ref (k _ _ ho) (by rw [hc]; exact q)) ha hb
theorem dt_ofE (he : PEd c a ta) (hv : ∀ whole, isTrue a c.X.env whole = (do let v ← whole; standAt a.pos; holding [v] (truthy v)) := by intro _; rfl) : PTd c a (tVal ta) := dt_val he hv
end
/-! ### len by a class's own method -/
def rLenO (C : Addr) (sp : Sp) (E : XK) : List V → Hp → VK → Prop := fun xs H Q => ∃ (a dx : Addr) (fs : List (Str × V)), xs = [.ref a] ∧ H a = some (.ins C dx fs) ∧ sp [.ref a] H (fun v H' => ∃ n : Nat, v = .int n ∧ n < 2 ^ 62 ∧ Q (.int n) H') E
theorem call_lenO {X : Cx} {n : Nat} {CX : CXT} {C f : Addr} {fd : FuncData} {ps : List Str} {sp : Sp} {E : XK} (F : FnOk X.prog X.w X.K X.mg X.base CX n f fd ps sp)
    (hs : PySem.W.findIn X.K (.ref C) "__len__" = some (some (.ref f))) (hf : PySem.W.isFn X.K (.ref f) = true) (hb : Binds X.K fd ps []) (hx : Passes CX X E) (hr : Room (n + 1) X.A) : CallR X (.builtin "len") (rLenO C sp E) := by
  intro pins s σ H xs us Q I rv h
  obtain ⟨a, dx, fs, rfl, ha, hsp⟩ := h
  have eu : us = [Value.ref a] := by
    cases rv with
    | cons r1 r2 => cases r2; rw [show _ = Value.ref a from r1]
  subst eu
  obtain ⟨mA, J, _⟩ := ins_get I.hok ha
  obtain ⟨od, J, _⟩ := J.look
  obtain ⟨m, hF⟩ := I.fr
  refine PySem.W.len_K hF I.ok.mod.kin J hs hf ?_
  have e0 : Env0 X.prog X.w X.K X.mg X.base X.A.in1 X.stack s H := by
    have e := I.env0
    exact ⟨e.frames, e.mod, e.bs, e.bsz, e.funs, e.frf, e.hok, e.bare⟩
  have hl := F.len _ _ _ _ hsp
  have r2 : Vals [V.ref a] [Value.ref a] := .cons rfl .nil
  refine wpAny_call (codeAny_mono (F.run X.A.in1 X.stack s H ⟨[.ref a], []⟩ [.ref a] [.ref a] _ E hr.in1 e0 (by
    have := hb s [.ref a] I.kIn (by simpa using hl)
    simpa using this) r2 hsp) fun r s' hq => ?_)
  cases r with
  | error e => exact hx pins σ H s e s' I hq
  | ok fl =>
    cases fl with
    | ret w =>
      obtain ⟨z, H', I', rz, k, ez, hk, q⟩ := I.after hq
      subst ez
      obtain ⟨t, rfl⟩ : ∃ t, w = Value.int (k : Int) t := rz
      exact ⟨⟨by omega, by omega⟩, .int k, H', I'.tok _, ⟨_, rfl⟩, q⟩
    | next => exact False.elim hq
    | brk => exact False.elim hq
    | cont => exact False.elim hq
def dLenO (n : Str) (fs : FSp) (EX : EXT) : DCall := fun ds S Q => one ds fun x => asI n x S fun _ => fs [x] S (fun d S' => ∃ k : Nat, d = .int k ∧ k < 2 ^ 62 ∧ Q d S') EX
section
variable {c : CD} {e : Expr} {pos p : Pos} {tas : TAd} {ls : List (Option NameKind)} {gs : List Str} {G : Loc} {S : Sto}
theorem d_lenO [Calm c] (φ : Fx c.X ls gs) (j : Nat) {n : Str} {k : Nat} {fs : FSp} (F : MeD c.X.mo n "__len__" k [] fs) (hk : k + 1 ≤ c.k) (hm : c.X.mg "len" = none) (hv : bootBuiltins "len" = some (.builtin "len")) (ha : PAd c [e] tas) (hj : gs[j]? = some "len" := by rfl)
    (he : starEach [e] c.X.env = (false, eval e c.X.env) :: starEach [] c.X.env := by rfl) (hpl : (backTo pos (starEach [] c.X.env)).any (·.1) = false := by rfl) :
    PEd c (.Call (.Name "len" p) [e] [] pos) (eCall (dLenO n fs EN0) tas) := by
  obtain ⟨C, f, fd, ps, dd, vs0, cn, cl, me, hf, hbi, hd, hr⟩ := F
  have e0 : vs0 = [] := hr (fun _ => none)
  subst e0
  have e1 : dd = [] := by cases hd; rfl
  subst e1
  refine d_bi φ j (call_lenO hf me.at_ me.fn hbi passL (CD.room hk)) (fun Bl B G σ H ds vs S Q s R r h => ?_) hm hv ha hj he hpl
  obtain ⟨v, x, ev, rx, h⟩ := one_get r h
  subst ev
  obtain ⟨h1, h3⟩ : asI n x S (fun _ => True) ∧ fs [x] S (fun d S' => ∃ k : Nat, d = .int k ∧ k < 2 ^ 62 ∧ Q d S') EN0 := by
    cases x <;> first | exact False.elim h | skip
    case ref a => obtain ⟨k, fl, e, q⟩ := h; exact ⟨⟨k, fl, e, trivial⟩, q⟩
    case ins m fl => obtain ⟨e, q⟩ := h; exact ⟨⟨e, trivial⟩, q⟩
  obtain ⟨a1, C', dx, vs2, flds, ev2, cn', hH, rf, _⟩ := asI_get R rx h1
  have := CN.inj cn cn'
  subst this
  subst ev2
  refine ⟨a1, dx, vs2, rfl, hH, ?_⟩
  refine ⟨B, [x], S, _, EN0, ⟨Same.refl _, R.sub, R.cel, R.nd⟩, ⟨_, [], rfl, rx, rfl⟩, h3, fun u H' B' d S' R' r' q => ?_, fun cls d H' ⟨_, _, _, _, _, _, _, _, z⟩ => z⟩
  obtain ⟨k, ek, hk2, q⟩ := q
  subst ek
  exact ⟨k, r', hk2, B', .int k, S', s.trans R'.lo, R.up R'.lo ⟨R.lo.trans R'.lo, R'.sub, R'.cel, R'.nd⟩, rfl, q⟩
end
/-! ### is True, is False -/
def dIsB (neg : Bool) (x y : D) (S : Sto) (Q : Bool → Sto → Prop) : Prop := match x, y with
  | .bl i, .bl j => Q (if neg then !decide (i = j) else decide (i = j)) S
  | _, _ => False
def eIsB (neg : Bool) (ta tb : TEd) : TEd := fun G S Q => ta G S fun x S1 => tb G S1 fun y S2 => dIsB neg x y S2 fun k S3 => Q (.bl k) S3
def tIsB (neg : Bool) (ta tb : TEd) : TTd := fun G S Q => ta G S fun x S1 => tb G S1 fun y S2 => dIsB neg x y S2 Q
def rIsBs (neg : Bool) : R2 := fun x y H Q => ∃ a b : Bool, x = .bl a ∧ y = .bl b ∧ Q (.bl (if neg then !decide (a = b) else decide (a = b))) H
theorem op_isBs {X : Cx} (neg : Bool) : OpR X (compareOp (opIs neg)) (rIsBs neg) := by
  cases neg with
  | false => exact op_isBl
  | true => exact op_notBl
section
variable {c : CD} {a b : Expr} {pos p : Pos} {ta tb : TEd}
theorem isB_core {neg : Bool} {B H : Hp} {x y : D} {vx vy : V} {S : Sto} {Q : Bool → Sto → Prop} {Q' : VK} (rx : Rep c.X.K B x vx) (ry : Rep c.X.K B y vy) (h : dIsB neg x y S Q) (k : ∀ b, Q b S → Q' (.bl b) H) : rIsBs neg vx vy H Q' := by
  cases x <;> cases y <;> first | exact False.elim h | skip
  case bl.bl i j =>
    cases rx; cases ry
    exact ⟨i, j, rfl, rfl, k _ h⟩
theorem d_isB {op : CmpOp} (neg : Bool) (ho : op = opIs neg) (ha : PEd c a ta) (hb : PEd c b tb) : PEd c (.Compare a [op] [b] pos) (eIsB neg ta tb) := fun G S Q h => by
  subst ho
  refine w_cmp (P := fun x y S Q => dIsB neg x y S fun k S3 => Q (.bl k) S3) (op_isBs neg) (nomark b (by cases neg <;> decide) (by cases neg <;> decide)) (fun Bl B σ H x y vx vy S Q s R rx ry h => ?_) ((ha G S _ h).mono fun x S1 h1 => hb G S1 _ h1)
  exact isB_core rx ry h fun k q => ⟨B, .bl k, S, s, R, rfl, q⟩
theorem dt_isB {op : CmpOp} (neg : Bool) (ho : op = opIs neg) (ha : PEd c a ta) (hb : PEd c b tb) : PTd c (.Compare a [op] [b] pos) (tIsB neg ta tb) := fun G S Q h => by
  subst ho
  refine wt_cmp (P := fun x y S Q => dIsB neg x y S Q) (op_isBs neg) (nomark b (by cases neg <;> decide) (by cases neg <;> decide)) (fun Bl B σ H x y vx vy S Q s R rx ry h => ?_) ((ha G S _ h).mono fun x S1 h1 => hb G S1 _ h1)
  exact isB_core rx ry h fun k q => ⟨k, rfl, B, S, s, R, q⟩
end
end DL
end

section
set_option autoImplicit false
set_option maxRecDepth 100000
set_option maxHeartbeats 4000000
namespace DL
open PySem PySem.Spec PyProof.Rows L2
open PySem.W (Frag)
/-! ### isinstance against a class of the text -/
structure IsF (m : Mo) (n : Str) (C : Addr) : Prop where
  cn : CN m.K n C
  mg : m.mg n = some (.ref C)
  cl : Cls m.K C
  ha : PySem.W.findIn m.K (.ref C) "__class__" = some (some (.builtin "object.__class__"))
  hn : PySem.W.specialIn m.K (.builtin "object.__class__") "__get__" = some (some (.builtin "getset_descriptor.__get__"))
  htk : PySem.W.takesIn m.K (.builtin "object.__class__") = some true
  hm : PySem.W.mroIn m.K C (.type "object") = some true
  no : ∀ T ∈ ["NoneType", "bool", "int", "str", "tuple", "list", "dict"], PySem.W.kitOne m.K (.type T) (.ref C) = some false
theorem kit_no {K : Frag} {T : String} {C : Addr} (h1 : PySem.W.isClsIn K C = true) (h2 : PySem.W.typeIn K (.ref C) = some (.type "type")) (h3 : PySem.W.subIn K (.type T) (.ref C) = some false) : PySem.W.kitOne K (.type T) (.ref C) = some false := by
  have h1' : (PySem.W.clsIn K C).isSome = true := h1
  unfold PySem.W.kitOne PySem.W.kitCls
  rw [if_neg (by simp)]
  show (if ((PySem.W.clsIn K C).isSome && PySem.W.typeIn K (.ref C) == some (.type "type")) = true then PySem.W.subIn K (.type T) (.ref C) else none) = _
  rw [if_pos (by rw [h1', h2]; simp), h3]
def IsC (m : Mo) (n : Str) : Prop := ∃ C, IsF m n C
def dIsC (n : Str) (x : D) (S : Sto) (Q : QD) : Prop := match x with
  | .ins m _ => m = n ∧ Q (.bl true) S
  | .ref a => (∃ (k : Nat) (fs : List (Str × D)), S[k]? = some (a, Cel.ins n fs) ∧ Q (.bl true) S) ∨ ∃ (k : Nat) (ds : List D), S[k]? = some (a, Cel.lst ds) ∧ Q (.bl false) S
  | .ty _ => False
  | _ => Q (.bl false) S
def eIsC (n : Str) (ta : TEd) : TEd := fun G S Q => ta G S fun x S1 => dIsC n x S1 Q
section
variable {c : CD} {e : Expr} {pos p p2 : Pos} {ta : TEd} {ls : List (Option NameKind)} {gs : List Str} {G : Loc} {S : Sto}
def dIsiV (n : Str) (C : Addr) : DCall := fun ds S Q => two ds fun x t => t = .ref C ∧ dIsC n x S Q
theorem b_isC {n : Str} {C : Addr} (F : IsF c.X.mo n C) : BOk c (rIsi c.X.K) (dIsiV n C) := fun Bl B G σ H ds vs S Q s R r h => by
  obtain ⟨v, d, u, t, e, r1, r2, et, h⟩ := two_get r h
  subst e
  subst et
  cases r2
  have own : ∀ {a dx : Addr} {fs : List (Str × V)}, H a = some (.ins C dx fs) → Q (.bl true) S → v = .ref a → rIsi c.X.K [v, .ref C] H (Post c Bl G σ Q) := fun {a dx fs} e1 q ev =>
    ⟨v, .ref C, .ref C, .ref C, true, rfl, .own C, by rw [ev]; exact .base (.ins e1 F.cl F.ha F.hn F.htk F.hm), by unfold PySem.W.kitOne; rw [if_pos (by simp)], B, .bl true, S, s, R, rfl, q⟩
  have off : ∀ {T : String}, tyN d = some T → T ∈ ["NoneType", "bool", "int", "str", "tuple", "list", "dict"] → Q (.bl false) S → rIsi c.X.K [v, .ref C] H (Post c Bl G σ Q) := fun {T} h1 h2 q =>
    ⟨v, .ref C, .type T, .ref C, false, rfl, .own C, tyN_ok R.sub r1 h1, F.no T h2, B, .bl false, S, s, R, rfl, q⟩
  cases d
  case ins m fs =>
    obtain ⟨e1, q⟩ := h
    subst e1
    obtain ⟨C', a, dx, vs, cn, ev, hB, _⟩ := r1
    have := CN.inj F.cn cn
    subst this
    exact own (R.sub _ _ hB) q ev
  case ref a =>
    have r1' : v = .ref a := r1
    rcases h with ⟨k, fs, e1, q⟩ | ⟨k, ds, e1, q⟩
    · obtain ⟨_, C', dx, vs, cn, hH, _⟩ := R.cel (a, .ins n fs) (List.mem_of_getElem? e1)
      have := CN.inj F.cn cn
      subst this
      exact own hH q r1'
    · obtain ⟨_, vs, hH, _⟩ := R.cel (a, .lst ds) (List.mem_of_getElem? e1)
      subst r1'
      exact ⟨_, .ref C, .type "list", .ref C, false, rfl, .own C, .base (.lst hH), F.no "list" (by simp), B, .bl false, S, s, R, rfl, q⟩
  case ty => exact False.elim h
  all_goals exact off rfl (by simp) h
theorem d_isC (φ : Fx c.X ls gs) (j jn : Nat) {n : Str} (F : IsC c.X.mo n) (hm : c.X.mg "isinstance" = none) (ha : PEd c e ta) (hj : gs[j]? = some "isinstance" := by rfl) (hjn : gs[jn]? = some n := by rfl)
    (he : starEach [e, .Name n p2] c.X.env = (false, eval e c.X.env) :: starEach [.Name n p2] c.X.env := by rfl) (he2 : starEach [.Name n p2] c.X.env = (false, eval (.Name n p2) c.X.env) :: starEach [] c.X.env := by rfl) (hpl : (backTo pos (starEach [.Name n p2] c.X.env)).any (·.1) = false := by rfl) :
    PEd c (.Call (.Name "isinstance" p) [e, .Name n p2] [] pos) (eIsC n ta) := fun G S Q h => by
  obtain ⟨C, F⟩ := F
  have φj := φ.gl j _ hj
  have φn := φ.gl jn _ hjn
  refine w_bi (P := dIsiV n C) call_isi (b_isC F) φj.1 hm bb_isinstance φj.2.2 φj.2.1 he hpl ?_
  refine wa_cons he ((ha G S _ h).mono fun x S1 q => ?_)
  refine wa_cons he2 (w_glob φn.1 F.mg φn.2.1 ?_)
  exact wa_nil ⟨rfl, q⟩
end
/-! ### ends that forget cells -/
/-- the ends of a body that may forget cells it made -/
abbrev endX (Q : QD) : DE := { nx := fun _ S' => ∃ S0, S0.Sublist S' ∧ Q .non S0, rt := fun d S' => ∃ S0, S0.Sublist S' ∧ Q d S0 }
theorem fn_okX {m : Mo} {x qual : Str} {st : Stmt} {f : Addr} {fd : FuncData} {N ps : List Str} {k : Nat} {fs : FSp} (F : Fun m.K x qual st f fd) (Sc : FnScope N ps (defScope st)) (len : ∀ ds S Q EX, fs ds S Q EX → ds.length = ps.length)
    (body : ∀ (cdv : Value) (A : Around) (outer : List Env) (s : Shared) (H B : Hp) (E : XK) (EX : EXT) (hE) (hr) (ds : List D) (S : Sto) (Q : QD), fs ds S Q EX →
      WSs (bodyC m N qual (defScope st) f cdv A outer s H B E EX k hE hr Sc.nd) (defBody st) (startG N ds) S (endX Q)) : FnOk m.P m.w m.K m.mg m.base (L2.CX m.P m.w) (k + 1) f fd ps (lift m.K fs) := by
  refine F.okX Sc (fun vs H Q E h => ?_) (fun cdv A outer s H vs Q E hr h => ?_)
  · obtain ⟨B, ds, S, Q', EX, R, r, h, _⟩ := h
    rw [r.length]
    exact len _ _ _ _ h
  · obtain ⟨B, ds, S, Q', EX, R, r, h, hQ, hE⟩ := h
    refine ⟨_, pss_self _, ?_⟩
    have hb := body cdv A outer s H B E EX hE hr ds S Q' h B (L2.start N vs) H (start_rel R r)
    refine tSs_mono hb ⟨fun σ' H' ⟨B', G', S', s', R', S0, h0, q⟩ => ?_, fun v H' ⟨B', d, S', s', R', r', S0, h0, q⟩ => hQ v H' B' d S0 (R'.drop h0) r' q, fun σ' H' ⟨_, _, _, _, _, q⟩ => q, fun σ' H' ⟨_, _, _, _, _, q⟩ => q⟩
    exact hQ .non H' B' .non S0 (R'.toRelH.drop h0) rfl q
theorem fn_okDX {m : Mo} {x qual : Str} {st : Stmt} {f : Addr} {fd : FuncData} {N ps : List Str} {k : Nat} {fs : FSp} {dv : List V} {kws : List (Str × V)} (F : FunD m.K x qual (defArgs st) (defBody st) (defScope st) dv kws f fd) (Sc : FnScope N ps (defScope st)) (len : ∀ ds S Q EX, fs ds S Q EX → ds.length = ps.length)
    (body : ∀ (cdv : Value) (A : Around) (outer : List Env) (s : Shared) (H B : Hp) (E : XK) (EX : EXT) (hE) (hr) (ds : List D) (S : Sto) (Q : QD), fs ds S Q EX →
      WSs (bodyC m N qual (defScope st) f cdv A outer s H B E EX k hE hr Sc.nd) (defBody st) (startG N ds) S (endX Q)) : FnOk m.P m.w m.K m.mg m.base (L2.CX m.P m.w) (k + 1) f fd ps (lift m.K fs) := by
  refine F.ok Sc (fun vs H Q E h => ?_) (fun cdv A outer s H vs Q E hr h => ?_)
  · obtain ⟨B, ds, S, Q', EX, R, r, h, _⟩ := h
    rw [r.length]
    exact len _ _ _ _ h
  · obtain ⟨B, ds, S, Q', EX, R, r, h, hQ, hE⟩ := h
    refine ⟨_, pss_self _, ?_⟩
    have hb := body cdv A outer s H B E EX hE hr ds S Q' h B (L2.start N vs) H (start_rel R r)
    refine tSs_mono hb ⟨fun σ' H' ⟨B', G', S', s', R', S0, h0, q⟩ => ?_, fun v H' ⟨B', d, S', s', R', r', S0, h0, q⟩ => hQ v H' B' d S0 (R'.drop h0) r' q, fun σ' H' ⟨_, _, _, _, _, q⟩ => q, fun σ' H' ⟨_, _, _, _, _, q⟩ => q⟩
    exact hQ .non H' B' .non S0 (R'.toRelH.drop h0) rfl q
end DL
end

section
set_option autoImplicit false
set_option maxRecDepth 100000
set_option maxHeartbeats 4000000
namespace DL
open PySem PySem.Spec PyProof.Rows L2
open PySem.W (Frag)
/-! ### walking a list that may be a cell: it must not be written meanwhile -/
abbrev Pin := List (Addr × List D)
def Has (P : Pin) (S : Sto) : Prop := ∀ q ∈ P, (q.1, Cel.lst q.2) ∈ S
theorem Has.nil {S : Sto} : Has [] S := fun q h => by simp at h
theorem Has.cons {P : Pin} {S : Sto} (h : Has P S) (p : Addr × Cel) : Has P (p :: S) := fun q hq => List.mem_cons_of_mem _ (h q hq)
theorem Has.one {a : Addr} {ds : List D} {S : Sto} (h : (a, Cel.lst ds) ∈ S) : Has [(a, ds)] S := fun q hq => by
  rw [List.mem_singleton] at hq
  subst hq
  exact h
theorem Has.app {P P' : Pin} {S : Sto} (h : Has P S) (h' : Has P' S) : Has (P ++ P') S := fun q hq => (List.mem_append.mp hq).elim (h q) (h' q)
theorem Has.left {P P' : Pin} {S : Sto} (h : Has (P ++ P') S) : Has P S := fun q hq => h q (List.mem_append_left _ hq)
theorem Has.right {P P' : Pin} {S : Sto} (h : Has (P ++ P') S) : Has P' S := fun q hq => h q (List.mem_append_right _ hq)
def YieldsX (c : CD) (B0 : Hp) (J : It) (ds : List D) (P : Pin) : Prop := ∀ (K0 B : Hp) (G : Loc) (S : Sto) (σ : L2.St) (H : Hp), Same B0 B → Rel c.X.K K0 B G S σ H → Has P S → ∀ i,
  (i < ds.length → J.go i H) ∧ (∀ x H', J.yld i H x H' → ∀ d, ds[i]? = some d → ∃ B', Same B B' ∧ Rel c.X.K K0 B' G S σ H' ∧ Rep c.X.K B' d x) ∧ (i = ds.length → J.stop i H)
theorem YieldsX.of {c : CD} {B0 : Hp} {J : It} {ds : List D} (h : Yields c B0 J ds) : YieldsX c B0 J ds [] := fun K0 B G S σ H s R _ => h K0 B G S σ H s R
def WIX (c : CD) (tg iter : Expr) (G : Loc) (S : Sto) (Q : List D → Pin → Sto → Prop) : Prop := ∀ B σ H, c.R B G S σ H → tI c.X tg iter σ H fun J H1 => ∃ B1 ds P S1, Same B B1 ∧ c.R B1 G S1 σ H1 ∧ YieldsX c B1 J ds P ∧ Q ds P S1
theorem WIX.mono {c : CD} {G : Loc} {S : Sto} {tg iter : Expr} {Q Q' : List D → Pin → Sto → Prop} (h : WIX c tg iter G S Q) (k : ∀ b P S, Q b P S → Q' b P S) : WIX c tg iter G S Q' := fun B σ H R => tI_mono (h B σ H R) fun J H' ⟨B', ds, P, S', s, R', y, q⟩ => ⟨B', ds, P, S', s, R', y, k ds P S' q⟩
abbrev TXd := Loc → Sto → (List D → Pin → Sto → Prop) → Prop
def PXd (c : CD) (tg iter : Expr) (t : TXd) : Prop := ∀ G S Q, t G S Q → WIX c tg iter G S Q
def iUp (ti : TAd) : TXd := fun G S Q => ti G S fun ds S1 => Q ds [] S1
/-- a source in the heap -/
def SrcOk (c : CD) (B0 : Hp) (s : Src) (ds : List D) (P : Pin) : Prop := ∀ (K0 B : Hp) (G : Loc) (S : Sto) (σ : L2.St) (H : Hp), Same B0 B → Rel c.X.K K0 B G S σ H → Has P S → ∃ vs, s.has c.X.K H vs ∧ Reps c.X.K B ds vs
/-- what can be walked -/
def itX (x : D) (S : Sto) (P : List D → Pin → Prop) : Prop := match x with
  | .lst ds => P ds []
  | .slst ds => P ds []
  | .tup ds => P ds []
  | .ref a => ∃ ds, (a, Cel.lst ds) ∈ S ∧ P ds [(a, ds)]
  | _ => False
/-- what can be walked of lists alone -/
def itL (x : D) (S : Sto) (P : List D → Pin → Prop) : Prop := match x with
  | .lst ds => P ds []
  | .slst ds => P ds []
  | .ref a => ∃ ds, (a, Cel.lst ds) ∈ S ∧ P ds [(a, ds)]
  | _ => False
/-- .. or of a text's signs -/
def seqX (x : D) (S : Sto) (Q : List D → Pin → Prop) : Prop := match x with
  | .str z => Q (signs z) []
  | x => itX x S Q
def iSqX (t : TEd) : TXd := fun G S Q => t G S fun x S1 => seqX x S1 fun ds P => Q ds P S1
def iEnX (t : TAd) : TXd := fun G S Q => t G S fun ds S1 => one ds fun x => itL x S1 fun ds P => Q (enumD ds) P S1
def iZpX (t : TAd) : TXd := fun G S Q => t G S fun ds S1 => match ds with
  | [x, y] => itX x S1 fun ds P => itX y S1 fun es P' => Q (zipD ds es) (P ++ P') S1
  | _ => False
section
variable {c : CD} {e a b d : Expr} {es : List Expr} {pos p : Pos} {x : Str} {tg : Expr} {ta tb td : TEd} {tt tu : TTd} {tas : TAd} {t u : TSd} {ls : List (Option NameKind)} {gs : List Str} {G : Loc} {S : Sto}
theorem srcOk_lst {B0 : Hp} {a : Addr} {ds : List D} {vs : List V} (h : SqL c.X.K B0 a vs) (r : Reps c.X.K B0 ds vs) : SrcOk c B0 (.lst a) ds [] := fun K0 B G S σ H s R _ => ⟨vs, R.sub.seq (s.seq h), Reps.mono s _ _ r⟩
theorem srcOk_tup {B0 : Hp} {a : Addr} {ds : List D} {vs : List V} (h : SqT c.X.K B0 a vs) (r : Reps c.X.K B0 ds vs) : SrcOk c B0 (.tup a) ds [] := fun K0 B G S σ H s R _ => ⟨vs, sameT R.sub (sameT s h), Reps.mono s _ _ r⟩
theorem srcOk_cell {B0 : Hp} {a : Addr} {ds : List D} : SrcOk c B0 (.lst a) ds [(a, ds)] := fun K0 B G S σ H s R hp => by
  obtain ⟨_, vs, hv, r⟩ := R.cel (a, .lst ds) (hp (a, ds) List.mem_cons_self)
  exact ⟨vs, .of hv, r⟩
theorem itX_get {B H : Hp} {σ : L2.St} {x : D} {v : V} {P : List D → Pin → Prop} (R : c.R B G S σ H) (r : Rep c.X.K B x v) (h : itX x S P) : ∃ (s : Src) (ds : List D) (Pn : Pin), v = .ref s.ad ∧ (∃ vs, s.has c.X.K H vs) ∧ SrcOk c B s ds Pn ∧ P ds Pn := by
  cases x <;> first | exact False.elim h | skip
  case lst ds =>
    obtain ⟨a, vs, e, q, r1⟩ := r
    exact ⟨.lst a, ds, [], e, ⟨vs, .of (R.sub _ _ q)⟩, srcOk_lst (.of q) r1, h⟩
  case slst ds =>
    obtain ⟨a, vs, e, q, r1⟩ := r
    exact ⟨.lst a, ds, [], e, ⟨vs, R.sub.seq q⟩, srcOk_lst q r1, h⟩
  case tup ds =>
    obtain ⟨a, vs, e, q, r1⟩ := r
    exact ⟨.tup a, ds, [], e, ⟨vs, sameT R.sub q⟩, srcOk_tup q r1, h⟩
  case ref a =>
    obtain ⟨ds, hm, h⟩ := h
    cases r
    obtain ⟨_, vs, hv, r1⟩ := R.cel (a, .lst ds) hm
    exact ⟨.lst a, ds, _, rfl, ⟨vs, .of hv⟩, srcOk_cell, h⟩
theorem itL_get {B H : Hp} {σ : L2.St} {x : D} {v : V} {P : List D → Pin → Prop} (R : c.R B G S σ H) (r : Rep c.X.K B x v) (h : itL x S P) : ∃ (a : Addr) (ds : List D) (Pn : Pin), v = .ref a ∧ (∃ vs, SqL c.X.K H a vs) ∧ SrcOk c B (.lst a) ds Pn ∧ P ds Pn := by
  cases x <;> first | exact False.elim h | skip
  case lst ds =>
    obtain ⟨a, vs, e, q, r1⟩ := r
    exact ⟨a, ds, [], e, ⟨vs, .of (R.sub _ _ q)⟩, srcOk_lst (.of q) r1, h⟩
  case slst ds =>
    obtain ⟨a, vs, e, q, r1⟩ := r
    exact ⟨a, ds, [], e, ⟨vs, R.sub.seq q⟩, srcOk_lst q r1, h⟩
  case ref a =>
    obtain ⟨ds, hm, h⟩ := h
    cases r
    obtain ⟨_, vs, hv, r1⟩ := R.cel (a, .lst ds) hm
    exact ⟨a, ds, _, rfl, ⟨vs, .of hv⟩, srcOk_cell, h⟩
theorem yieldsX_lst {B0 : Hp} {a : Addr} {ds : List D} {P : Pin} (ok : SrcOk c B0 (.lst a) ds P) : YieldsX c B0 (Itl c.X.K a) ds P := fun K0 B G S σ H s R hp i => by
  obtain ⟨vs, hH, r⟩ := ok K0 B G S σ H s R hp
  have hH : SqL c.X.K H a vs := hH
  refine ⟨fun hi => ?_, fun x H' y d hd => ?_, fun hi => ⟨vs, hH, by rw [r.length]; exact Nat.le_of_eq hi.symm⟩⟩
  · obtain ⟨v, hv, _⟩ := r.get (List.getElem?_eq_getElem hi)
    exact ⟨vs, v, hH, hv⟩
  · obtain ⟨e1, hy⟩ := y
    subst e1
    obtain ⟨v, hv, rv⟩ := r.get hd
    have hx := hy vs hH
    rw [hv] at hx
    cases hx
    exact ⟨B, Same.refl _, R, rv⟩
theorem yieldsX_tup {B0 : Hp} {a : Addr} {ds : List D} {P : Pin} (ok : SrcOk c B0 (.tup a) ds P) : YieldsX c B0 (Itt c.X.K a) ds P := fun K0 B G S σ H s R hp i => by
  obtain ⟨vs, hH, r⟩ := ok K0 B G S σ H s R hp
  have hH : SqT c.X.K H a vs := hH
  refine ⟨fun hi => ?_, fun x H' y d hd => ?_, fun hi => ⟨vs, hH, by rw [r.length]; exact Nat.le_of_eq hi.symm⟩⟩
  · obtain ⟨v, hv, _⟩ := r.get (List.getElem?_eq_getElem hi)
    exact ⟨vs, v, hH, hv⟩
  · obtain ⟨e1, hy⟩ := y
    subst e1
    obtain ⟨v, hv, rv⟩ := r.get hd
    have hx := hy vs hH
    rw [hv] at hx
    cases hx
    exact ⟨B, Same.refl _, R, rv⟩
theorem yieldsX_enum {B0 : Hp} {a : Addr} {ds : List D} {P : Pin} (ok : SrcOk c B0 (.lst a) ds P) : YieldsX c B0 (Ite c.X.K a) (enumD ds) P := fun K0 B G S σ H s R hp i => by
  obtain ⟨vs, hH, r⟩ := ok K0 B G S σ H s R hp
  have hH : SqL c.X.K H a vs := hH
  refine ⟨fun hi => ?_, fun x H' y d hd => ?_, fun hi => ⟨vs, hH, by rw [r.length]; rw [enum_len] at hi; exact Nat.le_of_eq hi.symm⟩⟩
  · rw [enum_len] at hi
    obtain ⟨v, hv, _⟩ := r.get (List.getElem?_eq_getElem hi)
    exact ⟨vs, v, hH, hv⟩
  · obtain ⟨T, z, e1, hT, e2, hy⟩ := y
    subst e1; subst e2
    have hz := hy vs hH
    obtain ⟨d0, hd0, rz⟩ := r.get' hz
    rw [enum_get hd0] at hd
    cases hd
    exact pair_ok R hT rfl rz
theorem yieldsX_zip {B0 : Hp} {a b : Src} {ds es : List D} {P P' : Pin} (ha : SrcOk c B0 a ds P) (hb : SrcOk c B0 b es P') : YieldsX c B0 (ItzM c.X.K a b) (zipD ds es) (P ++ P') := fun K0 B G S σ H s R hp i => by
  obtain ⟨vs, hA, r⟩ := ha K0 B G S σ H s R hp.left
  obtain ⟨us, hB, r'⟩ := hb K0 B G S σ H s R hp.right
  have hl : (zipD ds es).length = min ds.length es.length := List.length_zipWith
  have l1 := r.length
  have l2 := r'.length
  refine ⟨fun hi => ?_, fun x H' y d hd => ?_, fun hi => ?_⟩
  · rw [hl] at hi
    obtain ⟨v, hv, _⟩ := r.get (List.getElem?_eq_getElem (show i < ds.length by omega))
    obtain ⟨u, hu, _⟩ := r'.get (List.getElem?_eq_getElem (show i < es.length by omega))
    exact ⟨vs, us, v, u, hA, hB, hv, hu⟩
  · obtain ⟨T, z, z2, e1, hT, e2, hy, hy2⟩ := y
    subst e1; subst e2
    have hz := hy vs hA
    have hz2 := hy2 us hB
    obtain ⟨d0, hd0, rz⟩ := r.get' hz
    obtain ⟨d1, hd1, rz1⟩ := r'.get' hz2
    have : (zipD ds es)[i]? = some (D.tup [d0, d1]) := by
      unfold zipD
      rw [List.getElem?_zipWith, hd0, hd1]
    rw [this] at hd
    cases hd
    exact pair_ok R hT rz rz1
  · rw [hl] at hi
    exact ⟨vs, us, hA, hB, by omega, by omega, by omega⟩
theorem dx_up {ti : TAd} (h : PId c tg e ti) : PXd c tg e (iUp ti) := fun G S Q q B σ H R => tI_mono (h G S _ q B σ H R) fun J H' ⟨B', ds, S', s, R', y, q⟩ => ⟨B', ds, [], S', s, R', .of y, q⟩
theorem dx_seq (h : PEd c e ta) : PXd c tg e (iSqX ta) := fun G S Q q B σ H R => by
  refine tI_of (pi_seq (pe_self e)) ?_
  refine tE_mono (h G S _ q B σ H R) fun v H1 ⟨B1, x, S1, s1, R1, r1, h1⟩ => ?_
  have gen : itX x S1 (fun ds P => Q ds P S1) → (∃ a, v = .ref a ∧ (∃ xs, SqL c.X.K H1 a xs) ∧ ∃ B2 ds P S2, Same B B2 ∧ c.R B2 G S2 σ H1 ∧ YieldsX c B2 (Itl c.X.K a) ds P ∧ Q ds P S2) ∨ (∃ a, v = .ref a ∧ (∃ xs, SqT c.X.K H1 a xs) ∧ ∃ B2 ds P S2, Same B B2 ∧ c.R B2 G S2 σ H1 ∧ YieldsX c B2 (Itt c.X.K a) ds P ∧ Q ds P S2) := fun h1 => by
    obtain ⟨s, ds, P, e1, hs, ok, q⟩ := itX_get R1 r1 h1
    cases s with
    | lst a => exact .inl ⟨a, e1, hs, B1, ds, P, S1, s1, R1, yieldsX_lst ok, q⟩
    | tup a => exact .inr ⟨a, e1, hs, B1, ds, P, S1, s1, R1, yieldsX_tup ok, q⟩
  cases x <;> first | exact (gen h1).elim .inl fun z => .inr (.inl z) | skip
  case str z =>
    cases r1
    exact .inr (.inr ⟨z, rfl, B1, signs z, [], S1, s1, R1, .of yields_str, h1⟩)
theorem dx_en (φ : Fx c.X ls gs) (j : Nat) {ts : List Expr} {jj : Nat} {p2 : Pos} (hm : c.X.mg "enumerate" = none) (h : PAd c [a] tas) (hj : gs[j]? = some "enumerate" := by rfl) (hs : starEach [a] c.X.env = [(false, eval a c.X.env)] := by rfl) : PXd c (.Tuple ts jj p2) (.Call (.Name "enumerate" p) [a] [] pos) (iEnX tas) := fun G S Q q B σ H R => by
  refine tI_of (pi_enum (φ.gl j _ hj).1 hm (pa_self _) hs) ?_
  refine tA_mono (h G S _ q B σ H R) fun vs H1 ⟨B1, ds, S1, s1, R1, r1, h1⟩ => ?_
  obtain ⟨v, x, e1, r2, h1⟩ := one_get r1 h1
  subst e1
  obtain ⟨a, ds, P, e1, ⟨vs, hs⟩, ok, q⟩ := itL_get R1 r2 h1
  subst e1
  exact ⟨a, vs, rfl, hs, B1, _, P, S1, s1, R1, yieldsX_enum ok, q⟩
theorem dx_zip (φ : Fx c.X ls gs) (j : Nat) {tts : List Expr} {jj : Nat} {p2 : Pos} (hm : c.X.mg "zip" = none) (h : PAd c [a, b] tas) (hj : gs[j]? = some "zip" := by rfl) (hs : starEach [a, b] c.X.env = (false, eval a c.X.env) :: starEach [b] c.X.env := by rfl) (hpl : (backTo pos (starEach [b] c.X.env)).any (·.1) = false := by rfl) :
    PXd c (.Tuple tts jj p2) (.Call (.Name "zip" p) [a, b] [] pos) (iZpX tas) := fun G S Q q B σ H R => by
  refine tI_of (pi_zipM (φ.gl j _ hj).1 hm (pa_self _) hs hpl) ?_
  refine tA_mono (h G S _ q B σ H R) fun vs H1 ⟨B1, ds, S1, s1, R1, r1, h1⟩ => ?_
  match ds, vs, r1, h1 with
  | [x, y], _, ⟨v, _, e1, r1, w, _, e2, r2, e3⟩, h1 =>
    subst e1 e2 e3
    obtain ⟨sa, ds, P, e1, ⟨vs, h2⟩, ok, h1⟩ := itX_get R1 r1 h1
    obtain ⟨sb, es, P', e2, ⟨us, h4⟩, ok', h1⟩ := itX_get R1 r2 h1
    subst e1 e2
    exact ⟨sa, sb, vs, us, rfl, h2, h4, B1, _, P ++ P', S1, s1, R1, yieldsX_zip ok ok', h1⟩
/-! ### for -/
def sForX (ti : TXd) (g : TGd) (b : TSd) : TSd := fun E G S => ti G S fun ds P S1 => ∃ Iv : Nat → Loc → Sto → Prop, Iv 0 G S1 ∧ (∀ i G S, Iv i G S → Has P S) ∧
  (∀ i d G S, ds[i]? = some d → Iv i G S → g d G S fun G2 S2 => b { E with nx := Iv (i + 1), ct := Iv (i + 1), bk := E.nx } G2 S2) ∧ ∀ G S, Iv ds.length G S → E.nx G S
theorem ws_forX [Calm c] {E : DE} {tg iter : Expr} {body : List Stmt} (hp : PassesOwn (model c.X.prog c.X.w) c.X.A c.X.env c.X.xe) (hs : ∀ x, foldedSetIterable iter c.X.env x = pure x)
    (h : WIX c tg iter G S fun ds P S1 => ∃ Iv : Nat → Loc → Sto → Prop, Iv 0 G S1 ∧ (∀ i G S, Iv i G S → Has P S) ∧ (∀ i d G S, ds[i]? = some d → Iv i G S → WG c tg d G S fun G2 S2 => WSs c body G2 S2 { E with nx := Iv (i + 1), ct := Iv (i + 1), bk := E.nx }) ∧ ∀ G S, Iv ds.length G S → E.nx G S) : WS c (.For tg iter body [] pos) G S E := fun B σ H R => by
  refine tS_of (ps_for hp (Calm.calm (c := c)) (pi_self tg iter) (pg_self tg) (pss_self body) hs) ?_
  refine tI_mono (h B σ H R) fun J H1 ⟨B1, ds, P, S1, s1, R1, y, Iv, h0, hP, hb, he⟩ => ?_
  refine ⟨fun i m σ H => m = ds.length - i ∧ i ≤ ds.length ∧ ∃ B' G S, Same B1 B' ∧ c.R B' G S σ H ∧ Iv i G S, ⟨ds.length, by simp, Nat.zero_le _, B1, G, S1, Same.refl _, R1, h0⟩, ?_⟩
  rintro i m σ H ⟨rfl, hi, B', G', S', s', R', hI⟩
  obtain ⟨y1, y2, y3⟩ := y c.B0 B' G' S' σ H s' R' (hP _ _ _ hI) i
  by_cases hlt : i < ds.length
  · refine .inr ⟨y1 hlt, PostS c B1 (Iv (i + 1)), fun σ2 H2 ⟨B2, G2, S2, s2, R2, h2⟩ => ⟨ds.length - (i + 1), by omega, rfl, hlt, B2, G2, S2, s2, R2, h2⟩, fun x H2 hx => ?_⟩
    obtain ⟨B2, s2, R2, r2⟩ := y2 x H2 hx _ (List.getElem?_eq_getElem hlt)
    refine tG_mono (hb i _ G' S' (List.getElem?_eq_getElem hlt) hI B2 σ H2 x R2 r2) fun σ3 H3 ⟨B3, G3, S3, s3, R3, h3⟩ => ?_
    have sB : Same B1 B3 := (s'.trans s2).trans s3
    refine tSs_mono (h3 B3 σ3 H3 R3) ⟨fun _ _ q => q.le sB fun _ _ q => q, fun v H ⟨B4, d, S, s4, R4, r4, q⟩ => ⟨B4, d, S, (s1.trans sB).trans s4, R4, r4, q⟩, fun _ _ q => q.le (s1.trans sB) fun _ _ q => q, fun _ _ q => q.le sB fun _ _ q => q⟩
  · have e : i = ds.length := by omega
    subst e
    exact .inl ⟨y3 rfl, B', G', S', s1.trans s', R', he G' S' hI⟩
theorem ds_forX [Calm c] {iter : Expr} {body : List Stmt} {ti : TXd} {g : TGd} (hp : PassesOwn (model c.X.prog c.X.w) c.X.A c.X.env c.X.xe) (hi : PXd c tg iter ti) (hg : PGd c tg g) (hb : PSsd c body t) (hs : ∀ x, foldedSetIterable iter c.X.env x = pure x := by intro _; rfl) : PSd c (.For tg iter body [] pos) (sForX ti g t) := fun E G S h =>
  ws_forX hp hs ((hi G S _ h).mono fun ds P S1 ⟨Iv, h0, hP, h1, h2⟩ => ⟨Iv, h0, hP, fun i d G S e q => (hg d G S _ (h1 i d G S e q)).mono fun G2 S2 q2 => hb _ G2 S2 q2, h2⟩)
/-! ### comprehensions -/
def eLcX (ti : TXd) (own : List Nat) (bind : D → Loc → (Loc → Prop) → Prop) (tt : TTd) (te : TEd) : TEd := fun G S Q => ti G S fun ds P S1 => ∃ Iv : Nat → List D → Sto → Prop, Iv 0 [] S1 ∧ (∀ i acc S, Iv i acc S → Has P S) ∧
  (∀ i d acc S p, ds[i]? = some d → Iv i acc S → bind d (wipeG G own) fun G2 => tt G2 ((p, .lst acc) :: S) fun k S2 => ∃ S3, S2 = (p, .lst acc) :: S3 ∧ (k = true → te G2 S2 fun y S4 => ∃ S5, S4 = (p, .lst acc) :: S5 ∧ acc.length < sizeLine ∧ Iv (i + 1) (acc ++ [y]) S5) ∧ (k = false → Iv (i + 1) acc S3)) ∧
  ∀ acc S, Iv ds.length acc S → mk acc S Q
def LcAskX (c : CD) (G : Loc) (scope : Scope) (own : List (Str × Nat)) (ifs : List Expr) (elt : Expr) (bind : D → Loc → (Loc → Prop) → Prop) (Q : QD) (ds : List D) (P : Pin) (S1 : Sto) : Prop := ∃ Iv : Nat → List D → Sto → Prop, Iv 0 [] S1 ∧ (∀ i acc S, Iv i acc S → Has P S) ∧
      (∀ i d acc S p, ds[i]? = some d → Iv i acc S → bind d (wipeG G (own.map (·.2))) fun G2 => WTsB c scope ifs G2 ((p, .lst acc) :: S) fun k S2 => ∃ S3, S2 = (p, .lst acc) :: S3 ∧ (k = true → ∀ s H0 C cl fp, W (blkC c scope s H0 C cl fp) elt G2 S2 fun y S4 => ∃ S5, S4 = (p, .lst acc) :: S5 ∧ acc.length < sizeLine ∧ Iv (i + 1) (acc ++ [y]) S5) ∧ (k = false → Iv (i + 1) acc S3)) ∧
      ∀ acc S, Iv ds.length acc S → mk acc S Q
theorem lc_readX {elt iter : Expr} {ifs : List Expr} {scope : Scope} {own : List (Str × Nat)} {bind : D → Loc → (Loc → Prop) → Prop} {g : TG} {Q : QD} {B : Hp} {σ : L2.St} {H : Hp} (R : c.R B G S σ H)
    (hg : ∀ (B : Hp) (d : D) (v : V) (G : Loc) (S : Sto) (σ : L2.St) (H : Hp) (Q : L2.St → Hp → Prop) (P : Loc → Prop), Rel c.X.K c.B0 B G S σ H → Rep c.X.K B d v → bind d G P → (∀ G2 σ2, Rel c.X.K c.B0 B G2 S σ2 H → wipe σ2 (own.map (·.2)) = wipe σ (own.map (·.2)) → P G2 → Q σ2 H) → g v σ H Q)
    (h : WIX c tg iter G S fun ds P S1 => LcAskX c G scope own ifs elt bind Q ds P S1) :
    tLc (tI c.X tg iter) g (tTsB c scope ifs) (tEB c scope elt) (own.map (·.2)) σ H (Post c B G σ Q) := by
  refine tI_mono (h B σ H R) fun J H1 ⟨B1, ds, P, S1, s1, R1, y, Iv, h0, hP, hb, he⟩ => ?_
  intro Dd hD
  let Wd : Nat → Hp → Prop := fun i H => ∃ B' acc S, Same B1 B' ∧ c.R B' G ((Dd, .lst acc) :: S) σ H ∧ Iv i acc S
  have w0 : Wd 0 (upd H1 Dd (.lst [])) := ⟨B1, [], S1, Same.refl _, R1.cell (c := Cel.lst []) hD ⟨[], upd_same, rfl⟩, h0⟩
  refine ⟨fun i m H => m = ds.length - i ∧ i ≤ ds.length ∧ Wd i H, ⟨ds.length, by simp, Nat.zero_le _, w0⟩, ?_⟩
  rintro i m H ⟨rfl, hi, B', acc, S', s', R', hI⟩
  obtain ⟨y1, y2, y3⟩ := y c.B0 B' G ((Dd, .lst acc) :: S') σ H s' R' ((hP _ _ _ hI).cons _) i
  by_cases hlt : i < ds.length
  · refine .inr ⟨y1 hlt, Wd (i + 1), fun H2 h2 => ⟨ds.length - (i + 1), by omega, rfl, hlt, h2⟩, fun x H2 hx => ?_⟩
    obtain ⟨B2, s2, R2, r2⟩ := y2 x H2 hx _ (List.getElem?_eq_getElem hlt)
    refine hg B2 _ x (wipeG G (own.map (·.2))) _ (wipe σ (own.map (·.2))) H2 _ _ (R2.wiped _) r2 (hb i _ acc S' Dd (List.getElem?_eq_getElem hlt) hI) fun G2 σ2 R3 hw h3 => ?_
    have hww : wipe (wipe σ (own.map (·.2))) (own.map (·.2)) = wipe σ (own.map (·.2)) := lc_read.wipe_wipe _ _
    refine ⟨hw.trans hww, ?_⟩
    have back : ∀ {B4 : Hp} {S4 : Sto} {H4 : Hp}, Same B2 B4 → RelH c.X.K c.B0 B4 S4 H4 → c.R B4 G S4 σ H4 := fun {B4 S4 H4} s4 R4 => R2.up s4 R4
    have fin : ∀ {B4 : Hp} {H4 : Hp} {acc' : List D} {S5 : Sto}, Same B2 B4 → RelH c.X.K c.B0 B4 ((Dd, .lst acc') :: S5) H4 → Iv (i + 1) acc' S5 → Wd (i + 1) H4 := fun {B4 H4 acc' S5} s4 R4 hI => ⟨B4, acc', S5, (s'.trans s2).trans s4, back s4 R4, hI⟩
    have elem : ∀ {B4 : Hp} {S4 : Sto} {H4 : Hp}, Same B2 B4 → Rel c.X.K c.B0 B4 G2 S4 σ2 H4 → (∀ s H0 C cl fp, W (blkC c scope s H0 C cl fp) elt G2 S4 fun y S4 => ∃ S5, S4 = (Dd, .lst acc) :: S5 ∧ acc.length < sizeLine ∧ Iv (i + 1) (acc ++ [y]) S5) →
        tEB c scope elt σ2 H4 fun y H5 => ∃ acc, H5 Dd = some (.lst acc) ∧ acc.length < sizeLine ∧ Wd (i + 1) (upd H5 Dd (.lst (acc ++ [y]))) := fun {B4 S4 H4} s4 R4 hW s H0 C cl fp => by
      refine tE_mono (hW s H0 C cl fp B4 σ2 H4 R4) fun v H5 ⟨B5, d5, S5, s5, R5, r5, S6, e6, hz, hI5⟩ => ?_
      subst e6
      obtain ⟨_, vs, hv, rv⟩ := R5.cel (Dd, .lst acc) List.mem_cons_self
      have R6 : RelH c.X.K c.B0 B5 ((Dd, .lst acc) :: S6) H5 := R5.toRelH
      refine ⟨vs, hv, by rw [Reps.length rv]; exact hz, fin (s4.trans s5) (R6.write (k := 0) (c' := Cel.lst (acc ++ [d5])) rfl ⟨_, upd_same, Reps.append rv ⟨v, [], rfl, r5, rfl⟩⟩) hI5⟩
    have go : ∀ {B4 : Hp} {S4 : Sto} {H4 : Hp} (k : Bool), Same B2 B4 → Rel c.X.K c.B0 B4 G2 S4 σ2 H4 → (∃ S3, S4 = (Dd, .lst acc) :: S3 ∧ (k = true → ∀ s H0 C cl fp, W (blkC c scope s H0 C cl fp) elt G2 S4 fun y S4 => ∃ S5, S4 = (Dd, .lst acc) :: S5 ∧ acc.length < sizeLine ∧ Iv (i + 1) (acc ++ [y]) S5) ∧ (k = false → Iv (i + 1) acc S3)) →
        if k = true then tEB c scope elt σ2 H4 (fun y H5 => ∃ acc, H5 Dd = some (.lst acc) ∧ acc.length < sizeLine ∧ Wd (i + 1) (upd H5 Dd (.lst (acc ++ [y])))) else Wd (i + 1) H4 := fun {B4 S4 H4} k s4 R4 ⟨S3, e3, h1, h2⟩ => by
      cases k with
      | true =>
        rw [if_pos rfl]
        exact elem s4 R4 (h1 rfl)
      | false =>
        rw [if_neg Bool.false_ne_true]
        subst e3
        exact fin s4 R4.toRelH (h2 rfl)
    match ifs, h3 with
    | [], h3 => exact go true (Same.refl _) R3 h3
    | [t], h3 =>
      intro s H0 C cl fp
      refine tT_mono (h3 s H0 C cl fp B2 σ2 H2 R3) fun k H4 ⟨B4, S4, s4, R4, h4⟩ => go k s4 R4 h4
  · have e : i = ds.length := by omega
    subst e
    refine .inl ⟨y3 rfl, ?_⟩
    have hmk := he acc S' hI
    rcases hmk with hq | hq
    · obtain ⟨B6, s6, R6, r6⟩ := R'.toRelH.freeze (k := 0) (a := Dd) (ds := acc) rfl
      exact ⟨B6, .lst acc, S', (s1.trans s').trans s6, R'.up s6 R6, r6, hq⟩
    · exact ⟨B', .ref Dd, _, s1.trans s', R', rfl, hq Dd⟩
theorem lc_askX {elt : Expr} {ifs : List Expr} {scope : Scope} {own : List (Str × Nat)} {bind : D → Loc → (Loc → Prop) → Prop} {G : Loc} {Q : QD} {ds : List D} {P : Pin} {S1 : Sto} (hb : BindOk c scope tg own bind) (ht : PTsB c scope ifs tt) (he : ∀ s H0 C cl fp, PEd (blkC c scope s H0 C cl fp) elt ta)
    (h : ∃ Iv : Nat → List D → Sto → Prop, Iv 0 [] S1 ∧ (∀ i acc S, Iv i acc S → Has P S) ∧
      (∀ i d acc S p, ds[i]? = some d → Iv i acc S → bind d (wipeG G (own.map (·.2))) fun G2 => tt G2 ((p, .lst acc) :: S) fun k S2 => ∃ S3, S2 = (p, .lst acc) :: S3 ∧ (k = true → ta G2 S2 fun y S4 => ∃ S5, S4 = (p, .lst acc) :: S5 ∧ acc.length < sizeLine ∧ Iv (i + 1) (acc ++ [y]) S5) ∧ (k = false → Iv (i + 1) acc S3)) ∧
      ∀ acc S, Iv ds.length acc S → mk acc S Q) : LcAskX c G scope own ifs elt bind Q ds P S1 := by
  obtain ⟨Iv, h0, hP, h1, h2⟩ := h
  refine ⟨Iv, h0, hP, fun i d acc S p e q => ?_, h2⟩
  refine hb.1 _ _ _ _ (h1 i d acc S p e q) fun G2 h3 => ?_
  exact (ht _ _ _ h3).mono fun k S2 ⟨S3, e3, h4, h5⟩ => ⟨S3, e3, fun z s H0 C cl fp => he s H0 C cl fp _ _ _ (h4 z), h5⟩
theorem d_lcX [Calm c] {elt iter : Expr} {ifs : List Expr} {scope : Scope} {bind : D → Loc → (Loc → Prop) → Prop} {ti : TXd} (own : List (Str × Nat)) (ok : L2.blkC c.X.N c.X.env.scope scope own = true) (hb : BindOk c scope tg own bind) (hi : PXd c tg iter ti) (ht : PTsB c scope ifs tt) (he : ∀ s H0 C cl fp, PEd (blkC c scope s H0 C cl fp) elt ta)
    (hs : ∀ x, foldedSetIterable iter c.X.env x = pure x := by intro _; rfl) : PEd c (.ListComp elt [⟨tg, iter, ifs, 0⟩] scope pos) (eLcX ti (own.map (·.2)) bind tt ta) := fun G S Q h B σ H R => by
  have h' := (hi G S _ h).mono fun ds P S1 h1 => lc_askX hb ht he h1
  obtain ⟨_, g, pg, hg⟩ := hb
  exact tE_of (pe_lc (Calm.calm (c := c)) c.nd (pi_self tg iter) (blkOk_by ok) pg (fun s H0 C cl fp => pts_all (c := c) (s := s) (H0 := H0) (C := C) (cl := cl) (fp := fp) ifs) (fun s H0 C cl fp => (⟨fun pins s' σ H Q I h => h s H0 C cl fp pins s' I⟩ : PE _ elt (tEB c scope elt))) hs) (lc_readX R hg h')
theorem ds_setLcX [Calm c] (φ : Fx c.X ls gs) {elt iter : Expr} {ifs : List Expr} {scope : Scope} {bind : D → Loc → (Loc → Prop) → Prop} {ti : TXd} {py spos : Pos} (i : Nat) (own : List (Str × Nat)) (ok : L2.blkC c.X.N c.X.env.scope scope own = true) (hb : BindOk c scope tg own bind) (hii : PXd c tg iter ti) (ht : PTsB c scope ifs tt) (he : ∀ s H0 C cl fp, PEd (blkC c scope s H0 C cl fp) elt ta)
    (hl : (py.line == pos.line) = true := by rfl) (hi : c.X.N[i]? = some x := by rfl) (hki : isLocK (ls.getD i none) = true := by rfl) (hno : (scope.names.any fun (n, k) => n == x && (k == .local || k == .cell)) = false := by decide +kernel) (hs : ∀ x, foldedSetIterable iter c.X.env x = pure x := by intro _; rfl) :
    PSd c (.Assign [.Name x py] (.ListComp elt [⟨tg, iter, ifs, 0⟩] scope pos) spos) (sSet i (eLcX ti (own.map (·.2)) bind tt ta)) := fun E G S h B σ H R => by
  have hx := isLoc_of (φ.kd i x hi) hki
  have hsw := sw_true (elt := elt) (gs := [⟨tg, iter, ifs, 0⟩]) (scope := scope) (pos := pos) (py := py) (l := spos.line) φ.fk hx hl hno
  have h' := (hii G S _ h).mono fun ds P S1 h1 => lc_askX hb ht he h1
  obtain ⟨_, g, pg, hg⟩ := hb
  refine tS_of (ps_setLc (Calm.calm (c := c)) c.nd hi hx hsw (pi_self tg iter) (blkOk_by ok) pg (fun s H0 C cl fp => pts_all (c := c) (s := s) (H0 := H0) (C := C) (cl := cl) (fp := fp) ifs) (fun s H0 C cl fp => (⟨fun pins s' σ H Q I h => h s H0 C cl fp pins s' I⟩ : PE _ elt (tEB c scope elt))) hs) ?_
  refine lc_mono (lc_readX R hg h') fun v H1 ⟨B1, d, S1, s1, R1, r1, q⟩ => ?_
  obtain ⟨hG, q⟩ := inG_get q
  exact ⟨B1, _, S1, s1, R1.set hG r1, q⟩
end
section
variable {m : Mo} {N : List Str} {qual : Str} {sc scope scp2 : Scope} {f : Addr} {cdv : Value} {A : Around} {outer : List Env} {s : Shared} {H B : Hp} {E : XK} {EX : EXT} {k : Nat} {hE : ∀ cls d H', XD m.K B EX cls d H' → E cls d H'}
  {hr : Room k (A.deeper (envOfC qual sc s.heap.objs.size f cdv))} {nd : N.Nodup} {e a b d : Expr} {pos p : Pos} {x y : Str} {tg elt iter : Expr} {ifs : List Expr} {ta : TEd} {tt : TTd} {ti : TXd} {bind : D → Loc → (Loc → Prop) → Prop} {ls ls2 : List (Option NameKind)} {gs gs2 : List Str} {own : List (Str × Nat)}
  {s1 : Shared} {H1 : Hp} {C1 : Addr} {cl1 : List (Str × Addr)} {fp1 : List Addr}
theorem d_lcFX (ls : List (Option NameKind)) (gs : List Str) (own : List (Str × Nat)) (h : fxC N (relS scope sc) ls gs = true) (ok : L2.blkC N sc scope own = true) (hb : fxC N (relS scope sc) ls gs = true → BindOk (bodyC m N qual sc f cdv A outer s H B E EX k hE hr nd) scope tg own bind) (hi : PXd (bodyC m N qual sc f cdv A outer s H B E EX k hE hr nd) tg iter ti)
    (ht : (∀ s1 H1 C cl fp, Fx (blkC (bodyC m N qual sc f cdv A outer s H B E EX k hE hr nd) scope s1 H1 C cl fp).X ls gs) → PTsB (bodyC m N qual sc f cdv A outer s H B E EX k hE hr nd) scope ifs tt)
    (he : ∀ s1 H1 C cl fp, Fx (blkC (bodyC m N qual sc f cdv A outer s H B E EX k hE hr nd) scope s1 H1 C cl fp).X ls gs → PEd (blkC (bodyC m N qual sc f cdv A outer s H B E EX k hE hr nd) scope s1 H1 C cl fp) elt ta) (hs : ∀ z, foldedSetIterable iter (bodyC m N qual sc f cdv A outer s H B E EX k hE hr nd).X.env z = pure z := by intro _; rfl) :
    PEd (bodyC m N qual sc f cdv A outer s H B E EX k hE hr nd) (.ListComp elt [⟨tg, iter, ifs, 0⟩] scope pos) (eLcX ti (own.map (·.2)) bind tt ta) :=
  d_lcX own ok (hb h) hi (ht fun _ _ _ _ _ => fx_blk h) (fun _ _ _ _ _ => he _ _ _ _ _ (fx_blk h)) hs
theorem ds_setLcFX (φ : Fx (bodyC m N qual sc f cdv A outer s H B E EX k hE hr nd).X ls2 gs2) (i : Nat) (ls : List (Option NameKind)) (gs : List Str) (own : List (Str × Nat)) (h : fxC N (relS scope sc) ls gs = true) (ok : L2.blkC N sc scope own = true) (hb : fxC N (relS scope sc) ls gs = true → BindOk (bodyC m N qual sc f cdv A outer s H B E EX k hE hr nd) scope tg own bind) (hii : PXd (bodyC m N qual sc f cdv A outer s H B E EX k hE hr nd) tg iter ti)
    (ht : (∀ s1 H1 C cl fp, Fx (blkC (bodyC m N qual sc f cdv A outer s H B E EX k hE hr nd) scope s1 H1 C cl fp).X ls gs) → PTsB (bodyC m N qual sc f cdv A outer s H B E EX k hE hr nd) scope ifs tt)
    (he : ∀ s1 H1 C cl fp, Fx (blkC (bodyC m N qual sc f cdv A outer s H B E EX k hE hr nd) scope s1 H1 C cl fp).X ls gs → PEd (blkC (bodyC m N qual sc f cdv A outer s H B E EX k hE hr nd) scope s1 H1 C cl fp) elt ta)
    {py spos : Pos} (hl : (py.line == pos.line) = true := by rfl) (hi : N[i]? = some x := by rfl) (hki : isLocK (ls2.getD i none) = true := by rfl) (hno : (scope.names.any fun (n, k) => n == x && (k == .local || k == .cell)) = false := by decide +kernel) (hs : ∀ z, foldedSetIterable iter (bodyC m N qual sc f cdv A outer s H B E EX k hE hr nd).X.env z = pure z := by intro _; rfl) :
    PSd (bodyC m N qual sc f cdv A outer s H B E EX k hE hr nd) (.Assign [.Name x py] (.ListComp elt [⟨tg, iter, ifs, 0⟩] scope pos) spos) (sSet i (eLcX ti (own.map (·.2)) bind tt ta)) :=
  ds_setLcX φ i own ok (hb h) hii (ht fun _ _ _ _ _ => fx_blk h) (fun _ _ _ _ _ => he _ _ _ _ _ (fx_blk h)) hl hi hki hno hs
theorem d_lcFX2 (ls : List (Option NameKind)) (gs : List Str) (own : List (Str × Nat)) (h : fxC N (relS scp2 (relS scope sc)) ls gs = true) (ok : L2.blkC N (relS scope sc) scp2 own = true) (hb : fxC N (relS scp2 (relS scope sc)) ls gs = true → BindOk (blkC (bodyC m N qual sc f cdv A outer s H B E EX k hE hr nd) scope s1 H1 C1 cl1 fp1) scp2 tg own bind)
    (hi : PXd (blkC (bodyC m N qual sc f cdv A outer s H B E EX k hE hr nd) scope s1 H1 C1 cl1 fp1) tg iter ti)
    (ht : (∀ s2 H2 C cl fp, Fx (blkC (blkC (bodyC m N qual sc f cdv A outer s H B E EX k hE hr nd) scope s1 H1 C1 cl1 fp1) scp2 s2 H2 C cl fp).X ls gs) → PTsB (blkC (bodyC m N qual sc f cdv A outer s H B E EX k hE hr nd) scope s1 H1 C1 cl1 fp1) scp2 ifs tt)
    (he : ∀ s2 H2 C cl fp, Fx (blkC (blkC (bodyC m N qual sc f cdv A outer s H B E EX k hE hr nd) scope s1 H1 C1 cl1 fp1) scp2 s2 H2 C cl fp).X ls gs → PEd (blkC (blkC (bodyC m N qual sc f cdv A outer s H B E EX k hE hr nd) scope s1 H1 C1 cl1 fp1) scp2 s2 H2 C cl fp) elt ta)
    (hs : ∀ z, foldedSetIterable iter (blkC (bodyC m N qual sc f cdv A outer s H B E EX k hE hr nd) scope s1 H1 C1 cl1 fp1).X.env z = pure z := by intro _; rfl) :
    PEd (blkC (bodyC m N qual sc f cdv A outer s H B E EX k hE hr nd) scope s1 H1 C1 cl1 fp1) (.ListComp elt [⟨tg, iter, ifs, 0⟩] scp2 pos) (eLcX ti (own.map (·.2)) bind tt ta) :=
  d_lcX own ok (hb h) hi (ht fun _ _ _ _ _ => fx_blk2 h) (fun _ _ _ _ _ => he _ _ _ _ _ (fx_blk2 h)) hs
end
end DL
end

section
set_option autoImplicit false
set_option maxRecDepth 100000
set_option maxHeartbeats 4000000
namespace DL
open PySem PySem.Spec PyProof.Rows L2
open PySem.W (Frag)
/-! ### a list, be it one that stands or a cell -/
def LV (S : Sto) (x : D) (ds : List D) : Prop := x = .lst ds ∨ ∃ (a : Addr) (k : Nat), x = .ref a ∧ S[k]? = some (a, Cel.lst ds)
theorem LV.lst {S : Sto} (ds : List D) : LV S (.lst ds) ds := .inl rfl
theorem LV.cell {S : Sto} {a : Addr} {k : Nat} {ds : List D} (h : S[k]? = some (a, Cel.lst ds)) : LV S (.ref a) ds := .inr ⟨a, k, rfl, h⟩
theorem LV.cons {S : Sto} {x : D} {ds : List D} (h : LV S x ds) (p : Addr × Cel) : LV (p :: S) x ds := h.imp id fun ⟨a, k, e, q⟩ => ⟨a, k + 1, e, q⟩
theorem LV.q {S : Sto} {x : D} {ds : List D} {P : List D → Prop} (h : LV S x ds) (q : P ds) : asQ x S P := by
  rcases h with rfl | ⟨a, k, rfl, e⟩
  · exact q
  · exact ⟨k, ds, e, q⟩
theorem LV.l {S : Sto} {x : D} {ds : List D} {P : List D → Prop} (h : LV S x ds) (q : P ds) : asL x S P := by
  rcases h with rfl | ⟨a, k, rfl, e⟩
  · exact q
  · exact ⟨k, ds, e, q⟩
theorem LV.len {S : Sto} {x : D} {ds : List D} {Q : QD} (h : LV S x ds) (q : Q (.int ds.length) S) : dLen [x] S Q := by
  rcases h with rfl | ⟨a, k, rfl, e⟩
  · exact q
  · exact ⟨k, ds, e, q⟩
theorem LV.isi {S : Sto} {x : D} {ds : List D} {Q : QD} (h : LV S x ds) (q : Q (.bl true) S) : dIsi [x, .ty "list"] S Q := by
  rcases h with rfl | ⟨a, k, rfl, e⟩
  · exact ⟨"list", true, rfl, rfl, q⟩
  · exact ⟨k, ds, true, e, rfl, q⟩
theorem LV.ix {S : Sto} {x : D} {ds : List D} {i : Int} {d : D} {Q : QD} (h : LV S x ds) (e : atI ds i = some d) (q : Q d S) : dIx x (.int i) S Q := by
  rcases h with rfl | ⟨a, k, rfl, e2⟩
  · exact ⟨d, e, q⟩
  · exact ⟨k, ds, e2, d, e, q⟩
theorem LV.sl {S : Sto} {x : D} {ds : List D} {lo hi : Option Int} {Q : QD} (h : LV S x ds) (q : mk (cutD ds lo hi) S Q) : dSl x lo hi S Q := by
  rcases h with rfl | ⟨a, k, rfl, e2⟩
  · exact q
  · exact ⟨k, ds, e2, q⟩
theorem LV.tup {S : Sto} {x : D} {ds : List D} {Q : QD} (h : LV S x ds) (q : Q (.tup ds) S) : dTuple [x] S Q := by
  rcases h with rfl | ⟨a, k, rfl, e2⟩
  · exact q
  · exact ⟨k, ds, e2, q⟩
theorem LV.list {S : Sto} {x : D} {ds : List D} {Q : QD} (h : LV S x ds) (q : mk ds S Q) : dList [x] S Q := by
  rcases h with rfl | ⟨a, k, rfl, e2⟩
  · exact q
  · exact ⟨k, ds, e2, q⟩
/-- walking it: the list must stay -/
theorem LV.it {S : Sto} {x : D} {ds : List D} {Q : List D → Pin → Prop} (h : LV S x ds) (q : ∀ P : Pin, (∀ S', LV S' x ds → Has P S') → Q ds P) : itX x S Q := by
  rcases h with rfl | ⟨a, k, rfl, e2⟩
  · exact q [] fun _ _ => .nil
  · refine ⟨ds, List.mem_of_getElem? e2, q _ fun S' h => ?_⟩
    rcases h with h | ⟨a', k', h, e⟩
    · cases h
    · cases h
      exact .one (List.mem_of_getElem? e)
theorem LV.itl {S : Sto} {x : D} {ds : List D} {Q : List D → Pin → Prop} (h : LV S x ds) (q : ∀ P : Pin, (∀ S', LV S' x ds → Has P S') → Q ds P) : itL x S Q := by
  rcases h with rfl | ⟨a, k, rfl, e2⟩
  · exact q [] fun _ _ => .nil
  · refine ⟨ds, List.mem_of_getElem? e2, q _ fun S' h => ?_⟩
    rcases h with h | ⟨a', k', h, e⟩
    · cases h
    · cases h
      exact .one (List.mem_of_getElem? e)
theorem LV.seq {S : Sto} {x : D} {ds : List D} {Q : List D → Pin → Prop} (h : LV S x ds) (q : ∀ P : Pin, (∀ S', LV S' x ds → Has P S') → Q ds P) : seqX x S Q := by
  have := h.it q
  rcases h with rfl | ⟨a, k, rfl, e2⟩ <;> exact this
/-- == of lists and of plain data -/
theorem pds_lst : ∀ (n : Nat) (ds : List D), ds.all (okD n) = true → ∃ ps, pd (.lst ds) = some (.list ps) ∧ pds ds = some ps ∧ PyData.canLay0 (.list ps) = true ∧ PyData.depth (.list ps) ≤ n + 1 := fun n ds h => by
  obtain ⟨p, e, c, d⟩ := pd_of (n + 1) (.lst ds) h
  have e2 := e
  simp only [pd, Option.map_eq_some_iff] at e2
  obtain ⟨ps, e3, e4⟩ := e2
  subst e4
  exact ⟨ps, e, e3, c, d⟩
theorem eq_cell {neg : Bool} {x y : D} {ds es : List D} {S : Sto} {Q : Bool → Sto → Prop} (n : Nat) (hx : LV S x ds) (hy : LV S y es) (ox : ds.all (okD n) = true) (oy : es.all (okD n) = true) (hn : n < 60) (q1 : ds = es → Q (!neg) S) (q2 : ds ≠ es → Q neg S) : dEq neg x y S Q := by
  have base : dEqP neg (.lst ds) (.lst es) S Q := eq_ok (n + 1) (x := .lst ds) (y := .lst es) ox oy (by omega) (fun e => q1 (D.lst.inj e)) fun e => q2 fun z => e (by rw [z])
  obtain ⟨p, ep, q, eq, h⟩ := base
  obtain ⟨ps, ex, ex2, _, _⟩ := pds_lst n ds ox
  obtain ⟨qs, ey, ey2, _, _⟩ := pds_lst n es oy
  rw [ex] at ep
  rw [ey] at eq
  cases ep
  cases eq
  have asp : ∀ {x : D} {ds : List D} {ps : List PyData} {P : PyData → Prop}, LV S x ds → pd (.lst ds) = some (.list ps) → pds ds = some ps → P (.list ps) → asP x S P := fun {x ds ps P} h e1 e2 q => by
    rcases h with rfl | ⟨a, k, rfl, e⟩
    · exact ⟨_, e1, q⟩
    · exact ⟨k, ds, ps, e, e2, q⟩
  have gen : dEqP neg x y S Q := asp hx ex ex2 (asp hy ey ey2 h)
  rcases hx with rfl | ⟨a, k, rfl, e⟩ <;> rcases hy with rfl | ⟨a', k', rfl, e'⟩ <;> exact gen
theorem one_eq (x : D) (P : D → Prop) : one [x] P = P x := rfl
/-! ### comprehensions -/
def LcInX (G : Loc) (own : List Nat) (bind : D → Loc → (Loc → Prop) → Prop) (tt : TTd) (te : TEd) (ds : List D) (P : Pin) (S1 : Sto) (Q : QD) : Prop := ∃ Iv : Nat → List D → Sto → Prop, Iv 0 [] S1 ∧ (∀ i acc S, Iv i acc S → Has P S) ∧
  (∀ i d acc S p, ds[i]? = some d → Iv i acc S → bind d (wipeG G own) fun G2 => tt G2 ((p, .lst acc) :: S) fun k S2 => ∃ S3, S2 = (p, .lst acc) :: S3 ∧ (k = true → te G2 S2 fun y S4 => ∃ S5, S4 = (p, .lst acc) :: S5 ∧ acc.length < sizeLine ∧ Iv (i + 1) (acc ++ [y]) S5) ∧ (k = false → Iv (i + 1) acc S3)) ∧
  ∀ acc S, Iv ds.length acc S → mk acc S Q
theorem eLcX_eq (ti : TXd) (own : List Nat) (bind : D → Loc → (Loc → Prop) → Prop) (tt : TTd) (te : TEd) : eLcX ti own bind tt te = fun G S Q => ti G S fun ds P S1 => LcInX G own bind tt te ds P S1 Q := rfl
section
variable {S : Sto} {G : Loc} {own : List Nat} {bind : D → Loc → (Loc → Prop) → Prop} {tt : TTd} {te : TEd} {Q : QD} {ds : List D} {P : Pin}
/-- over a list that stands -/
theorem lcx_nil (h : LcIn G own bind tt te ds S Q) : LcInX G own bind tt te ds [] S Q := by
  obtain ⟨Iv, h0, h1, h2⟩ := h
  exact ⟨Iv, h0, fun _ _ _ _ => .nil, h1, h2⟩
theorem lcx_M {α : Type} {src : α → D} {xs : List α} (out : α → D) (hP : Has P S) (hz : xs.length ≤ 1000000)
    (h : ∀ x ∈ xs, ∀ (p : Addr) (acc : List D) (K : QD), K (out x) ((p, Cel.lst acc) :: S) → bind (src x) (wipeG G own) fun G2 => te G2 ((p, Cel.lst acc) :: S) K)
    (hm : ∀ d G P P', bind d G P → (∀ G2, P G2 → P' G2) → bind d G P')
    (q : mk (xs.map out) S Q) : LcInX G own bind tYs te (xs.map src) P S Q := by
  refine ⟨fun i acc S' => S' = S ∧ acc = (xs.take i).map out, ⟨rfl, rfl⟩, fun _ _ _ ⟨e, _⟩ => by rw [e]; exact hP, ?_, ?_⟩
  · rintro i d acc S' p e ⟨rfl, rfl⟩
    rw [List.getElem?_map] at e
    obtain ⟨x, hx, rfl⟩ := Option.map_eq_some_iff.mp e
    have hi : i < xs.length := (List.getElem?_eq_some_iff.mp hx).1
    refine hm _ _ _ _ (h x (List.mem_of_getElem? hx) p ((xs.take i).map out) (fun y S4 => ∃ S5, S4 = (p, .lst ((xs.take i).map out)) :: S5 ∧ ((xs.take i).map out).length < sizeLine ∧ S5 = S' ∧ (xs.take i).map out ++ [y] = (xs.take (i + 1)).map out) ⟨S', rfl, ?_, rfl, ?_⟩) fun G2 q2 => ⟨S', rfl, fun _ => q2, fun z => by cases z⟩
    · rw [List.length_map, List.length_take]
      exact Nat.lt_of_le_of_lt (Nat.min_le_left _ _) (Nat.lt_of_lt_of_le hi (Nat.le_trans hz (by decide)))
    · rw [List.take_add_one, hx, List.map_append]
      rfl
  · rintro acc S' ⟨rfl, rfl⟩
    rw [List.length_map, List.take_length]
    exact q
theorem lcx_F {α : Type} {src : α → D} {xs : List α} (keep : α → Bool) (out : α → D) (hP : Has P S) (hz : xs.length ≤ 1000000)
    (h : ∀ x ∈ xs, ∀ (p : Addr) (acc : List D), bind (src x) (wipeG G own) fun G2 => (∀ P : Bool → Sto → Prop, P (keep x) ((p, Cel.lst acc) :: S) → tt G2 ((p, Cel.lst acc) :: S) P) ∧ (keep x = true → ∀ K : QD, K (out x) ((p, Cel.lst acc) :: S) → te G2 ((p, Cel.lst acc) :: S) K))
    (hm : ∀ d G P P', bind d G P → (∀ G2, P G2 → P' G2) → bind d G P')
    (q : mk ((xs.filter keep).map out) S Q) : LcInX G own bind tt te (xs.map src) P S Q := by
  refine ⟨fun i acc S' => S' = S ∧ acc = ((xs.take i).filter keep).map out, ⟨rfl, rfl⟩, fun _ _ _ ⟨e, _⟩ => by rw [e]; exact hP, ?_, ?_⟩
  · rintro i d acc S' p e ⟨rfl, rfl⟩
    rw [List.getElem?_map] at e
    obtain ⟨x, hx, rfl⟩ := Option.map_eq_some_iff.mp e
    have hi : i < xs.length := (List.getElem?_eq_some_iff.mp hx).1
    have et : xs.take (i + 1) = xs.take i ++ [x] := by rw [List.take_add_one, hx]; rfl
    have hl : (((xs.take i).filter keep).map out).length < sizeLine := by
      rw [List.length_map]
      have h1 := List.length_filter_le keep (xs.take i)
      rw [List.length_take] at h1
      exact Nat.lt_of_le_of_lt h1 (Nat.lt_of_le_of_lt (Nat.min_le_left _ _) (Nat.lt_of_lt_of_le hi (Nat.le_trans hz (by decide))))
    refine hm _ _ _ _ (h x (List.mem_of_getElem? hx) p (((xs.take i).filter keep).map out)) fun G2 q2 => q2.1 _ ⟨S', rfl, fun hk => q2.2 hk _ ⟨S', rfl, hl, rfl, ?_⟩, fun hk => ⟨rfl, ?_⟩⟩
    · rw [et, List.filter_append, List.map_append, List.filter_cons_of_pos hk]
      rfl
    · rw [et, List.filter_append, List.filter_cons_of_neg (by rw [hk]; decide)]
      simp
  · rintro acc S' ⟨rfl, rfl⟩
    rw [List.length_map, List.take_length]
    exact q
end
end DL
end

section
set_option autoImplicit false
set_option maxRecDepth 100000
set_option maxHeartbeats 4000000
namespace DL
open PySem PySem.Spec PyProof.Rows L2
open PySem.W (Frag)
/-! ### x in l of flat data; keys in dicts -/
def flatD : D → Bool
  | .non => true
  | .bl _ => true
  | .int _ => true
  | .str _ => true
  | _ => false
def toV : D → V
  | .non => .non
  | .bl b => .bl b
  | .int i => .int i
  | .str x => .str x
  | _ => .non
theorem flat_v {K : Frag} {B : Hp} {d : D} {v : V} (f : flatD d = true) (r : Rep K B d v) : v = toV d ∧ flatV v = true := by
  cases d <;> first | (cases f; done) | (cases r; exact ⟨rfl, rfl⟩)
theorem flat_vs {K : Frag} {B : Hp} : ∀ {ds : List D} {vs : List V}, ds.all flatD = true → Reps K B ds vs → vs = ds.map toV ∧ vs.all flatV = true
  | [], _, _, r => by
    cases r
    exact ⟨rfl, rfl⟩
  | d :: ds, vs, f, r => by
    obtain ⟨v, r2, e, h1, h2⟩ := r
    subst e
    rw [List.all_cons, Bool.and_eq_true] at f
    obtain ⟨e1, g1⟩ := flat_v f.1 h1
    obtain ⟨e2, g2⟩ := flat_vs f.2 h2
    exact ⟨by rw [List.map_cons, ← e1, ← e2], by rw [List.all_cons, g1, g2]; rfl⟩
/-- whether one of them is equal -/
def inD (x : D) (ds : List D) : Bool := inV (toV x) (ds.map toV)
/-- lists, cells, tuples -/
def asA (x : D) (S : Sto) (P : List D → Prop) : Prop := match x with
  | .tup ds => P ds
  | x => asQ x S P
def kD : Key → D
  | .inl i => .int i
  | .inr x => .str x
theorem kD_v {K : Frag} {B : Hp} {k : Key} {v : V} (r : Rep K B (kD k) v) : v = kV k := by
  cases k <;> exact r
theorem kD_r {K : Frag} {B : Hp} (k : Key) : Rep K B (kD k) (kV k) := by
  cases k <;> rfl
def valK (kvs : List (Key × D)) (k : Key) : Option D := match kvs with
  | [] => none
  | (j, d) :: r => if j = k then some d else valK r k
theorem valK_rep {K : Frag} {B : Hp} {k : Key} : ∀ {kvs : List (Key × D)} {vs : List (Key × V)}, RepK K B kvs vs → (valK kvs k = none ∧ valV vs k = none) ∨ ∃ d v, valK kvs k = some d ∧ valV vs k = some v ∧ Rep K B d v
  | [], _, h => by
    cases h
    exact .inl ⟨rfl, rfl⟩
  | (j, d) :: r, vs, h => by
    obtain ⟨v, us, e, h1, h2⟩ := h
    subst e
    by_cases e : j = k
    · exact .inr ⟨d, v, by show (if j = k then some d else valK r k) = _; rw [if_pos e], valV_pos e, h1⟩
    · have e1 : valK ((j, d) :: r) k = valK r k := by show (if j = k then some d else valK r k) = _; rw [if_neg e]
      rw [e1, valV_neg (p := (j, v)) e]
      exact valK_rep h2
def putD' (kvs : List (Key × D)) (k : Key) (d : D) : List (Key × D) := match kvs with
  | [] => [(k, d)]
  | (j, e) :: r => if j = k then (j, d) :: r else (j, e) :: putD' r k d
def IdK (kvs : List (Key × D)) : Prop := (kvs.map (·.1)).Nodup
theorem RepK.length {K : Frag} {B : Hp} : ∀ {kvs : List (Key × D)} {vs : List (Key × V)}, RepK K B kvs vs → vs.map (·.1) = kvs.map (·.1)
  | [], _, h => by
    cases h
    rfl
  | (j, d) :: r, vs, h => by
    obtain ⟨v, us, e, h1, h2⟩ := h
    subst e
    rw [List.map_cons, List.map_cons, h2.length]
theorem RepK.snoc {K : Frag} {B : Hp} {k : Key} {d : D} {v : V} (q : Rep K B d v) : ∀ {kvs : List (Key × D)} {vs : List (Key × V)}, RepK K B kvs vs → RepK K B (kvs ++ [(k, d)]) (vs ++ [(k, v)])
  | [], _, h => by
    cases h
    exact ⟨v, [], rfl, q, rfl⟩
  | (j, e) :: r, vs, h => by
    obtain ⟨u, us, e, h1, h2⟩ := h
    subst e
    exact ⟨u, us ++ [(k, v)], rfl, h1, h2.snoc q⟩
/-- dict(l): a list of pairs with unlike keys -/
def dDict : DCall := fun ds S Q => one ds fun x => asQ x S fun ds => ∃ kvs : List (Key × D), ds = kvs.map (fun kv => D.tup [kD kv.1, kv.2]) ∧ IdK kvs ∧ Q (.dct kvs) S
theorem valV_no {k : Key} : ∀ {vs : List (Key × V)}, k ∉ vs.map (·.1) → valV vs k = none
  | [], _ => rfl
  | (j, v) :: r, h => by
    rw [List.map_cons, List.mem_cons, not_or] at h
    rw [valV_neg (p := (j, v)) (Ne.symm h.1)]
    exact valV_no h.2
theorem mergeK_id : ∀ (more acc : List (Key × V)), ((acc ++ more).map (·.1)).Nodup → mergeK acc more = acc ++ more
  | [], acc, _ => by
    show acc = acc ++ []
    rw [List.append_nil]
  | (k, v) :: r, acc, h => by
    have hk : k ∉ acc.map (·.1) := fun hm => by
      rw [List.map_append, List.map_cons, List.nodup_append] at h
      exact h.2.2 k hm k List.mem_cons_self rfl
    show mergeK (putK acc k v) r = _
    rw [putK_new v (valV_no hk), mergeK_id r (acc ++ [(k, v)]) (by rw [List.append_assoc]; exact h), List.append_assoc]
    rfl
section
variable {c : CD} {e a b d : Expr} {es : List Expr} {pos p : Pos} {x : Str} {tg : Expr} {ta tb td : TEd} {tt tu : TTd} {tas : TAd} {t u : TSd} {ls : List (Option NameKind)} {gs : List Str} {G : Loc} {S : Sto}
theorem asA_get {B H : Hp} {σ : L2.St} {x : D} {v : V} {P : List D → Prop} (R : c.R B G S σ H) (r : Rep c.X.K B x v) (h : asA x S P) : ∃ a vs ds, v = .ref a ∧ (SqL c.X.K H a vs ∨ SqT c.X.K H a vs) ∧ Reps c.X.K B ds vs ∧ P ds := by
  have gen : asQ x S P → ∃ a vs ds, v = .ref a ∧ (SqL c.X.K H a vs ∨ SqT c.X.K H a vs) ∧ Reps c.X.K B ds vs ∧ P ds := fun h => by
    obtain ⟨a, vs, ds, e, h1, r2, q⟩ := asQ_get R r h
    exact ⟨a, vs, ds, e, .inl h1, r2, q⟩
  cases x <;> first | exact gen h | skip
  case tup ds =>
    obtain ⟨a, vs, e, h1, r2⟩ := r
    exact ⟨a, vs, ds, e, .inr (sameT R.sub h1), r2, h⟩
theorem b_dict : BOk c (fun xs H Q => ∃ (a : Addr) (ps : List Addr) (kvs : List (Key × V)), xs = [.ref a] ∧ SqL c.X.K H a (ps.map V.ref) ∧ Paired (fun p kv => SqT c.X.K H p [kV kv.1, kv.2]) ps kvs ∧
    ∀ p, H p = none → Q (.ref p) (upd H p (.dK (mergeK [] kvs)))) dDict := fun Bl B G σ H ds vs S Q s R r h => by
  obtain ⟨v, d, e, r1, h⟩ := one_get r h
  subst e
  obtain ⟨a, us, ds, e, h1, r2, kvs, e2, hid, q⟩ := asQ_get R r1 h
  subst e
  subst e2
  have all : ∀ (kvs : List (Key × D)) (us : List V), Reps c.X.K B (kvs.map fun kv => D.tup [kD kv.1, kv.2]) us → ∃ (ps : List Addr) (ws : List (Key × V)), us = ps.map V.ref ∧ Paired (fun p kv => SqT c.X.K H p [kV kv.1, kv.2]) ps ws ∧ RepK c.X.K B kvs ws := by
    intro kvs
    induction kvs with
    | nil =>
      intro us r
      cases r
      exact ⟨[], [], rfl, .nil, rfl⟩
    | cons kv kvs ih =>
      intro us r
      obtain ⟨u, us', e, h1, h2⟩ := r
      subst e
      obtain ⟨ps, ws, e3, h3, h4⟩ := ih us' h2
      obtain ⟨p, vs, e4, hq, v1, r3, e5, g1, v2, r4, e6, g2, e7⟩ := h1
      subst e7; subst e6; subst e5; subst e4
      have := kD_v g1
      subst this
      exact ⟨p :: ps, (kv.1, v2) :: ws, by rw [e3]; rfl, .cons (sameT R.sub hq) h3, v2, ws, rfl, g2, h4⟩
  obtain ⟨ps, ws, e3, h3, h4⟩ := all kvs us r2
  refine ⟨a, ps, ws, rfl, by rw [← e3]; exact h1, h3, fun p hp => ?_⟩
  have hm : mergeK [] ws = ws := by
    rw [mergeK_id ws [] (by rw [List.nil_append, h4.length]; exact hid), List.nil_append]
  rw [hm]
  have hb := R.bnone hp
  have sm := same_upd (o := HO.dK ws) hb
  exact ⟨_, .dct kvs, S, s.trans sm, R.laid hp, ⟨p, ws, rfl, upd_same, RepK.mono sm _ _ h4⟩, q⟩
/-- d[k] -/
def dGetK (x y : D) (S : Sto) (Q : QD) : Prop := match x with
  | .dct kvs => ∃ (k : Key) (d : D), y = kD k ∧ valK kvs k = some d ∧ Q d S
  | _ => False
theorem d_getK (ha : PEd c a ta) (hb : PEd c b tb) (hs : NoSl b := by intro _ _; rfl) : PEd c (.Subscript a b pos) (eOp dGetK ta tb) := fun G S Q h B σ H R => by
  refine tE_of (pe_dget (by have := c.hr.units; omega) (pe_self a) (pe_self b) hs) ?_
  refine tE_mono (ha G S _ h B σ H R) fun vx H1 ⟨B1, x, S1, s1, R1, r1, h1⟩ => ?_
  refine tE_mono (hb G S1 _ h1 B1 σ H1 R1) fun vy H2 ⟨B2, y, S2, s2, R2, ry, h2⟩ => ?_
  have rx := Rep.mono s2 x vx r1
  cases x <;> first | exact False.elim h2 | skip
  case dct kvs =>
    obtain ⟨k, d, rfl, hv, q⟩ := h2
    obtain ⟨p, vs, e1, hp, rk⟩ := rx
    subst e1
    have := kD_v ry
    subst this
    rcases valK_rep (k := k) rk with ⟨e, _⟩ | ⟨d', v, e, e2, rv⟩
    · rw [hv] at e
      cases e
    · rw [hv] at e
      cases e
      exact ⟨p, v, rfl, .inl ⟨vs, k, .inl (R2.sub _ _ hp), rfl, e2.symm⟩, B2, d, S2, s1.trans s2, R2, rv, q⟩
/-- x in y -/
def dIn (neg : Bool) (x y : D) (S : Sto) (Q : Bool → Sto → Prop) : Prop := match y with
  | .dct kvs => ∃ k : Key, x = kD k ∧ Q (if neg then !(valK kvs k).isSome else (valK kvs k).isSome) S
  | y => flatD x = true ∧ asA y S fun ds => ds.all flatD = true ∧ Q (if neg then !inD x ds else inD x ds) S
def opIn (neg : Bool) : CmpOp := if neg then .NotIn else .In
def rDIn (neg : Bool) : R2 := fun x y H Q => ∃ a o, y = .ref a ∧ DGet H a x o ∧ Q (.bl (if neg then !o.isSome else o.isSome)) H
theorem op_dIn {X : Cx} (hu : X.A.units + 1 < cLine) (neg : Bool) : OpR X (compareOp (opIn neg)) (rDIn neg) := by
  intro pins s σ H x y v u Q I rx ry h
  obtain ⟨a, o, rfl, g, q⟩ := h
  obtain rfl : u = Value.ref a := ry
  cases neg with
  | false => exact d_in hu I g rx fun s3 I3 => ⟨.bl o.isSome, H, I3, rfl, q⟩
  | true => exact d_notIn hu I g rx fun s3 I3 => ⟨.bl (!o.isSome), H, I3, rfl, q⟩
theorem op_in {X : Cx} (hu : X.A.units + 1 < cLine) (neg : Bool) : OpR X (compareOp (opIn neg)) fun x y H Q => rIn X.K neg x y H Q ∨ rDIn neg x y H Q := by
  cases neg with
  | false => exact op_in_seq.or (op_dIn hu false)
  | true => exact op_notIn_seq.or (op_dIn hu true)
theorem in_core {neg : Bool} {B H : Hp} {σ : L2.St} {x y : D} {vx vy : V} {Q : Bool → Sto → Prop} {Q' : VK} (R : c.R B G S σ H) (rx : Rep c.X.K B x vx) (ry : Rep c.X.K B y vy) (h : dIn neg x y S Q)
    (k : ∀ b, Q b S → Q' (.bl b) H) : rIn c.X.K neg vx vy H Q' ∨ rDIn neg vx vy H Q' := by
  have gen : (flatD x = true ∧ asA y S fun ds => ds.all flatD = true ∧ Q (if neg then !inD x ds else inD x ds) S) → rIn c.X.K neg vx vy H Q' := fun ⟨f, h⟩ => by
    obtain ⟨a, vs, ds, e, hq, r2, fs, q⟩ := asA_get R ry h
    obtain ⟨e1, f1⟩ := flat_v f rx
    obtain ⟨e2, f2⟩ := flat_vs fs r2
    refine ⟨a, vs, e, hq, f1, f2, ?_⟩
    rw [e1, e2]
    exact k _ q
  cases y <;> first | exact .inl (gen h) | skip
  case dct kvs =>
    obtain ⟨ky, rfl, q⟩ := h
    obtain ⟨p, vs, e1, hp, rk⟩ := ry
    subst e1
    have := kD_v rx
    subst this
    refine .inr ⟨p, valV vs ky, rfl, .inl ⟨vs, ky, .inl (R.sub _ _ hp), rfl, rfl⟩, ?_⟩
    rcases valK_rep (k := ky) rk with ⟨e, e2⟩ | ⟨d', v, e, e2, rv⟩
    · rw [e] at q
      rw [e2]
      exact k _ q
    · rw [e] at q
      rw [e2]
      exact k _ q
def eIn (neg : Bool) (ta tb : TEd) : TEd := fun G S Q => ta G S fun x S1 => tb G S1 fun y S2 => dIn neg x y S2 fun k S3 => Q (.bl k) S3
def tIn (neg : Bool) (ta tb : TEd) : TTd := fun G S Q => ta G S fun x S1 => tb G S1 fun y S2 => dIn neg x y S2 Q
theorem in_w (neg : Bool) {op : CmpOp} (ho : op = opIn neg) (hm : behindInMarks op b = false) (ha : PEd c a ta) (hb : PEd c b tb) : PEd c (.Compare a [op] [b] pos) (eIn neg ta tb) := fun G S Q h => by
  subst ho
  refine w_cmp (P := fun x y S Q => dIn neg x y S fun k S3 => Q (.bl k) S3) (op_in (by have := c.hr.units; omega) neg) hm (fun Bl B σ H x y vx vy S Q s R rx ry h => ?_) ((ha G S _ h).mono fun x S1 h1 => hb G S1 _ h1)
  exact in_core R rx ry h fun k q => ⟨B, .bl k, S, s, R, rfl, q⟩
theorem in_t (neg : Bool) {op : CmpOp} (ho : op = opIn neg) (hm : behindInMarks op b = false) (ha : PEd c a ta) (hb : PEd c b tb) : PTd c (.Compare a [op] [b] pos) (tIn neg ta tb) := fun G S Q h => by
  subst ho
  refine wt_cmp (P := fun x y S Q => dIn neg x y S Q) (op_in (by have := c.hr.units; omega) neg) hm (fun Bl B σ H x y vx vy S Q s R rx ry h => ?_) ((ha G S _ h).mono fun x S1 h1 => hb G S1 _ h1)
  exact in_core R rx ry h fun k q => ⟨k, rfl, B, S, s, R, q⟩
theorem d_in' (ha : PEd c a ta) (hb : PEd c b tb) (hm : behindInMarks .In b = false := by rfl) : PEd c (.Compare a [.In] [b] pos) (eIn false ta tb) := in_w false rfl hm ha hb
theorem d_ni (ha : PEd c a ta) (hb : PEd c b tb) (hm : behindInMarks .NotIn b = false := by rfl) : PEd c (.Compare a [.NotIn] [b] pos) (eIn true ta tb) := in_w true rfl hm ha hb
theorem dt_in' (ha : PEd c a ta) (hb : PEd c b tb) (hm : behindInMarks .In b = false := by rfl) : PTd c (.Compare a [.In] [b] pos) (tIn false ta tb) := in_t false rfl hm ha hb
theorem dt_ni (ha : PEd c a ta) (hb : PEd c b tb) (hm : behindInMarks .NotIn b = false := by rfl) : PTd c (.Compare a [.NotIn] [b] pos) (tIn true ta tb) := in_t true rfl hm ha hb
/-! ### reversed(range(n)) -/
def revS (n : Nat) : List D := (List.range n).map fun (i : Nat) => D.int ((n - 1 - i : Nat) : Int)
def iRv (t : TEd) : TAd := fun G S Q => t G S fun x S1 => isI x fun j => smallI j ∧ Q (revS j.toNat) S1
theorem di_rv (φ : Fx c.X ls gs) (j i : Nat) {p2 pos2 : Pos} (hm : c.X.mg "reversed" = none) (hm2 : c.X.mg "range" = none) (h : PEd c a ta) (hj : gs[j]? = some "reversed" := by rfl) (hi : gs[i]? = some "range" := by rfl) (hs : starEach [.Call (.Name "range" p2) [a] [] pos2] c.X.env = (false, eval (.Call (.Name "range" p2) [a] [] pos2) c.X.env) :: starEach [] c.X.env := by rfl) (hs2 : starEach [a] c.X.env = (false, eval a c.X.env) :: starEach [] c.X.env := by rfl) :
    PId c tg (.Call (.Name "reversed" p) [.Call (.Name "range" p2) [a] [] pos2] [] pos) (iRv ta) := fun G S Q q B σ H R => by
  refine tI_of (pi_revR (φ.gl j _ hj).1 hm (prg_1 (φ.gl i _ hi).1 hm2 (pe_self a) hs2) hs) ?_
  refine tE_mono (h G S _ q B σ H R) fun v H1 ⟨B1, x, S1, s1, R1, r1, h1⟩ => ?_
  obtain ⟨n, rfl, sm, q⟩ := isI_get h1
  cases r1
  refine ⟨n, rfl, by decide, by decide, sm.1, sm.2, B1, _, S1, s1, R1, fun K0 B G S σ H s R i => ?_, q⟩
  have hl : (revS n.toNat).length = n.toNat := by unfold revS; rw [List.length_map, List.length_range]
  have e0 : (n - 0).toNat = n.toNat := by rw [Int.sub_zero]
  refine ⟨fun hi => ?_, fun x H' y d hd => ?_, fun hi => ?_⟩
  · rw [hl] at hi
    show i < (n - 0).toNat
    omega
  · obtain ⟨e1, e2⟩ := y
    subst e1; subst e2
    have hi : i < n.toNat := by
      have := (List.getElem?_eq_some_iff.mp hd).1
      rwa [hl] at this
    have hd' : (revS n.toNat)[i]? = some (D.int ((n.toNat - 1 - i : Nat) : Int)) := by
      unfold revS
      rw [List.getElem?_map, List.getElem?_range hi]
      rfl
    rw [hd'] at hd
    cases hd
    refine ⟨B, Same.refl _, R, ?_⟩
    show V.int _ = V.int _
    congr 1
    omega
  · rw [hl] at hi
    show (n - 0).toNat ≤ i
    omega
end
end DL
end

section
set_option autoImplicit false
set_option maxRecDepth 100000
set_option maxHeartbeats 4000000
namespace DL
open PySem PySem.Spec PyProof.Rows L2
open PySem.W (Frag)
/-! ### refusals: raised -/
def XN.ix : XN → Nat
  | .NoughtError => 0 | .NoRow => 1 | .NoBack => 2 | .NothingPut => 3 | .NoMeasure => 4 | .NoPaper => 5 | .TooMany => 6 | .NoNumbers => 7 | .NoLead => 8
  | .NoFit => 9 | .NoInverse => 10 | .NoShort => 11 | .NoLadder => 12 | .NoText => 13 | .NoLine => 14 | .NoName => 15 | .Held => 16 | .NoDrop => 17
/-- whether the one is of the other's class: all are NoughtErrors, else each is its own only -/
def isub (n o : XN) : Bool := match o with
  | .NoughtError => true
  | o => n.ix.beq o.ix
def raiseF (fl : List Str) (ds : List D) (P : List (Str × D) → Prop) : Prop := match fl, ds with
  | [f], [d] => P [(f, d)]
  | [f, g], [d, e] => P [(g, e), (f, d)]
  | _, _ => False
def sRaise (n : XN) (fl : List Str) (EX : EXG) (t : TAd) : TSd := fun _ G S => t G S fun ds S1 => raiseF fl ds fun fs => EX G n fs S1
def sRaise0 (n : XN) (EX : EXG) : TSd := fun _ G S => EX G n [] S
/-- what __init__ of a refusal with one or two fields does -/
def spI1 (C : Addr) (f : Str) : Sp := fun vs H Q E => ∃ a y, vs = [.ref a, y] ∧ H a = some (exo a C none) ∧ ∀ dx, H dx = none → dx ≠ a → Q .non (upd (upd H dx (exd dx [(f, y)])) a (exo a C (some dx)))
def spI2 (C : Addr) (f g : Str) : Sp := fun vs H Q E => ∃ a y z, vs = [.ref a, y, z] ∧ H a = some (exo a C none) ∧ ∀ dx, H dx = none → dx ≠ a → Q .non (upd (upd (upd H dx (exd dx [(f, y)])) a (exo a C (some dx))) dx (exd dx [(g, z), (f, y)]))
def spI (C : Addr) (fl : List Str) : Sp := match fl with
  | [f] => spI1 C f
  | [f, g] => spI2 C f g
  | _ => fun _ _ _ _ => False
/-- a refusal's class with its own __init__, with room to call it -/
def ExD (m : Mo) (n : XN) (k : Nat) (fl : List Str) : Prop := ∃ (C fI : Addr) (fd : FuncData) (ps : List Str), CN m.K n.str C ∧ m.mg n.str = some (.ref C) ∧ OexC m.K C ∧
  PySem.W.findIn m.K (.ref C) "__init__" = some (some (.ref fI)) ∧ PySem.W.typeIn m.K (.ref fI) = some (.type "function") ∧ FnOk m.P m.w m.K m.mg m.base (L2.CX m.P m.w) k fI fd ps (spI C fl) ∧ Binds m.K fd ps []
theorem del_heap {H : Hp} {a dx : Addr} {o1 o2 : HO} (na : H a = none) {H2 : Hp} (h : ∀ b, b ≠ a → b ≠ dx → H2 b = H b) (ne : dx ≠ a) : upd (del H2 a) dx o2 = upd H dx o2 := by
  funext b
  by_cases hd : b = dx
  · subst hd
    rw [upd_same, upd_same]
  · rw [upd_ne hd, upd_ne hd]
    by_cases hb : b = a
    · subst hb
      rw [del_same, na]
    · rw [del_ne hb, h b hb hd]
section
variable {c : CD} {e a b d : Expr} {es : List Expr} {pos p p2 pos2 : Pos} {x : Str} {tas : TAd} {ls : List (Option NameKind)} {gs : List Str} {G : Loc} {S : Sto}
theorem ds_raise [Calm c] (φ : Fx c.X ls gs) (j : Nat) {n : XN} {k : Nat} {fl : List Str} (F : ExD c.X.mo n k fl) (hk : k + 1 ≤ c.k) (ha : PAd c (e :: es) tas) (hj : gs[j]? = some x := by rfl) (hn : x = n.str := by rfl)
    (he : starEach (e :: es) c.X.env = (false, eval e c.X.env) :: starEach es c.X.env := by rfl) (hpl : (backTo pos (starEach es c.X.env)).any (·.1) = false := by rfl) :
    PSd c (.Raise (some (.Call (.Name x p) (e :: es) [] pos)) none pos2) (sRaise n fl c.EX tas) := fun E G S h B σ H R => by
  subst hn
  obtain ⟨C, fI, fd, ps, cn, hm, T, iC, tI, hf, hb⟩ := F
  refine tS_of (ps_raise (Calm.calm (c := c)) c.tk (pmk_oex (sp := spI C fl) (ds := []) (dvs := []) T iC tI hf (CD.room hk) hb .nil passL (φ.gl j _ hj).1 hm (pa_self (e :: es)) (φ.gl j _ hj).2.1 he hpl)) ?_
  refine tA_mono (ha G S _ h B σ H R) fun vs H1 ⟨B1, ds, S1, s1, R1, r1, h1⟩ => ?_
  match fl, ds, h1 with
  | [f], [d], h1 =>
    obtain ⟨v, r2, e1, rv, e2⟩ := r1
    subst e2; subst e1
    refine ⟨by show 1 ≤ 1000; decide, fun a na => ⟨a, v, rfl, upd_same, fun dx ndx ne => ⟨rfl, dx, [(f, v)], upd_same, by rw [upd_ne ne, upd_same], by rw [upd_ne ne] at ndx; exact ndx, ?_⟩⟩⟩
    have ndx' : H1 dx = none := by rw [upd_ne ne] at ndx; exact ndx
    rw [del_heap (o1 := .xd []) na (fun b hb hd => by rw [upd_ne hb, upd_ne hd, upd_ne hb]) ne]
    exact ⟨n, C, [(f, d)], S1, B1, G, cn, rfl, .inr ⟨dx, rfl, by simp, R1.cell (c := .xd [(f, d)]) ndx' ⟨[(f, v)], upd_same, v, [], rfl, rv, rfl⟩⟩, h1⟩
  | [f, g], [d, e'], h1 =>
    obtain ⟨v, r2, e1, rv, w, r3, e3, rw', e2⟩ := r1
    subst e2; subst e3; subst e1
    refine ⟨by show 2 ≤ 1000; decide, fun a na => ⟨a, v, w, rfl, upd_same, fun dx ndx ne => ⟨rfl, dx, [(g, w), (f, v)], by rw [upd_ne ne.symm, upd_same], upd_same, by rw [upd_ne ne] at ndx; exact ndx, ?_⟩⟩⟩
    have ndx' : H1 dx = none := by rw [upd_ne ne] at ndx; exact ndx
    rw [del_heap (o1 := .xd []) na (fun b hb hd => by rw [upd_ne hd, upd_ne hb, upd_ne hd, upd_ne hb]) ne]
    exact ⟨n, C, [(g, e'), (f, d)], S1, B1, G, cn, rfl, .inr ⟨dx, rfl, by simp, R1.cell (c := .xd [(g, e'), (f, d)]) ndx' ⟨[(g, w), (f, v)], upd_same, w, _, rfl, rw', v, [], rfl, rv, rfl⟩⟩, h1⟩
/-- a refusal's class without an own __init__ -/
def Ex0 (m : Mo) (n : XN) : Prop := ∃ (C : Addr) (bmB : List Value) (B newId initId : String), CN m.K n.str C ∧ m.mg n.str = some (.ref C) ∧ ExcBaseFacts B newId initId bmB ∧ PySem.W.excIn m.K C bmB newId = true ∧ PySem.W.keepIn m.K (.ref C) = true ∧
  PySem.W.subIn m.K (.ref C) (.type "BaseException") = some true ∧ PySem.W.typeIn m.K (.ref C) = some (.type "type")
theorem ds_raise0 [Calm c] (φ : Fx c.X ls gs) (j : Nat) {n : XN} {mm : Str} {jj : Nat} {p3 : Pos} (F : Ex0 c.X.mo n) (hj : gs[j]? = some x := by rfl) (hn : x = n.str := by rfl) :
    PSd c (.Raise (some (.Call (.Name x p) [.Constant (.str mm) jj p3] [] pos)) none pos2) (sRaise0 n c.EX) := fun E G S h B σ H R => by
  subst hn
  obtain ⟨C, bmB, Bn, newId, initId, cn, hm, F, q, kC, h1, h2⟩ := F
  refine tS_of (ps_raise (Calm.calm (c := c)) c.tk (pmk_own F q hm kC (raises_own h1 h2) (φ.gl j _ hj).1 (φ.gl j _ hj).2.1)) ?_
  exact ⟨n, C, [], S, B, G, cn, rfl, .inl ⟨rfl, rfl, R⟩, h⟩
end
/-! ### the own __init__ of a refusal -/
theorem fx_cx {CX : CXT} {P : Program} {w : World} {K : Frag} {mg : Str → Option Value} {base : Heap} {N : List Str} {qual : Str} {sc : Scope} {f : Addr} {cdv : Value} {A : Around} {outer : List Env} {s : Shared} {H : Hp} {E : XK} {ls : List (Option NameKind)} {gs : List Str} (h : fxC N sc ls gs = true) :
    Fx (cxOf CX P w K mg base N qual sc f cdv A outer s H E) ls gs := by
  obtain ⟨h1, h2, h3, h4⟩ := fxC_get h
  exact ⟨h2, h3, h4, h1⟩
theorem pv_of {X : Cx} {ls : List (Option NameKind)} {gs : List Str} {x : Str} {pos : Pos} (φ : Fx X ls gs) (i : Nat) (hN : X.N[i]? = some x) (hv : visK (ls.getD i none) = true) : PE X (.Name x pos) (tVar i) :=
  pe_var hN (vis_of (φ.kd i x hN) hv) (φ.dbg i x hN).1 (φ.dbg i x hN).2
theorem init1_ok {m : Mo} {qual fld at_ : Str} {st : Stmt} {f C : Addr} {fd : FuncData} {vm : V} (F : L2.Fun m.K "__init__" qual st f fd) (Sc : FnScope ["self", at_] ["self", at_] (defScope st)) (hno : PySem.W.findIn m.K (.ref C) fld = some none) (O : OexC m.K C)
    (hb : ∀ (cdv : Value) (A : Around) (outer : List Env) (s : Shared) (H : Hp) (E : XK), PSs (cxOf (L2.CX m.P m.w) m.P m.w m.K m.mg m.base ["self", at_] qual (defScope st) f cdv A outer s H E) (defBody st)
      (tSeq (L2.tDrop (tVeI m.K (tCons (tVar 0) (tCons (tC vm) tNil)))) (tOst m.K fld (tVar 0) (tVar 1)))) : FnOk m.P m.w m.K m.mg m.base (L2.CX m.P m.w) 1 f fd ["self", at_] (spI C [fld]) := by
  refine F.okX Sc (fun vs H Q E h => ?_) (fun cdv A outer s H vs Q E hr h => ⟨_, hb cdv A outer s H E, ?_⟩)
  · obtain ⟨a, y, rfl, _⟩ := h
    rfl
  · obtain ⟨a, y, rfl, ea, q⟩ := h
    exact ⟨.ref a, rfl, a, C, [vm], rfl, by show 1 ≤ 1000; decide, O, ea, y, rfl, .ref a, rfl, a, C, rfl, O, hno, .inl ⟨ea, fun dx n ne => q dx n ne⟩⟩
theorem init2_ok {m : Mo} {qual fld fld2 at_ at2 : Str} {st : Stmt} {f C : Addr} {fd : FuncData} {vm : V} (F : L2.Fun m.K "__init__" qual st f fd) (Sc : FnScope ["self", at_, at2] ["self", at_, at2] (defScope st)) (hno : PySem.W.findIn m.K (.ref C) fld = some none) (hno2 : PySem.W.findIn m.K (.ref C) fld2 = some none) (O : OexC m.K C)
    (hb : ∀ (cdv : Value) (A : Around) (outer : List Env) (s : Shared) (H : Hp) (E : XK), PSs (cxOf (L2.CX m.P m.w) m.P m.w m.K m.mg m.base ["self", at_, at2] qual (defScope st) f cdv A outer s H E) (defBody st)
      (tSeq (L2.tDrop (tVeI m.K (tCons (tVar 0) (tCons (tC vm) tNil)))) (tSeq (tOst m.K fld (tVar 0) (tVar 1)) (tOst m.K fld2 (tVar 0) (tVar 2))))) : FnOk m.P m.w m.K m.mg m.base (L2.CX m.P m.w) 1 f fd ["self", at_, at2] (spI C [fld, fld2]) := by
  refine F.okX Sc (fun vs H Q E h => ?_) (fun cdv A outer s H vs Q E hr h => ⟨_, hb cdv A outer s H E, ?_⟩)
  · obtain ⟨a, y, z, rfl, _⟩ := h
    rfl
  · obtain ⟨a, y, z, rfl, ea, q⟩ := h
    refine ⟨.ref a, rfl, a, C, [vm], rfl, by show 1 ≤ 1000; decide, O, ea, y, rfl, .ref a, rfl, a, C, rfl, O, hno, .inl ⟨ea, fun dx n ne => ?_⟩⟩
    exact ⟨z, rfl, .ref a, rfl, a, C, rfl, O, hno2, .inr ⟨dx, [(fld, y)], upd_same, by rw [upd_ne ne, upd_same], by show 1 ≤ 900; decide, q dx n ne⟩⟩
end DL
end

section
set_option autoImplicit false
set_option maxRecDepth 100000
set_option maxHeartbeats 4000000
namespace DL
open PySem PySem.Spec PyProof.Rows L2
open PySem.W (Frag)
/-! ### refusals: caught -/
def isR (a : Addr) (d : D) (P : Prop) : Prop := match d with
  | .ref b => b = a ∧ P
  | _ => False
/-- the cell of the exception's fields goes -/
def dropH (P : Sto → Prop) (S : Sto) : Prop := match S with
  | _ :: S2 => P S2
  | [] => False
def sufE0 (i : Nat) (E : DE) : DE := { nx := fun G S => E.nx (G.set i none) S, rt := E.rt, bk := fun G S => E.bk (G.set i none) S, ct := fun G S => E.ct (G.set i none) S }
def sufE1 (i : Nat) (E : DE) : DE := { nx := fun G => dropH (E.nx (G.set i none)), rt := fun d => dropH (E.rt d), bk := fun G => dropH (E.bk (G.set i none)), ct := fun G => dropH (E.ct (G.set i none)) }
def tryX (kn : XN → Bool) (o : XN) (i : Nat) (ts : Addr → XN → Option Addr → TSd) (E : DE) (EX : EXG) : EXG := fun G n fs S => kn n = true ∧ (isub n o = true → inG G i (∃ S0 : Sto, S0.Sublist S ∧ ∀ a, match fs with
  | [] => ts a n none (sufE0 i E) (G.set i (some (.ref a))) S0
  | f :: r => ∀ dd, ts a n (some dd) (sufE1 i E) (G.set i (some (.ref a))) ((dd, .xd (f :: r)) :: S0))) ∧ (isub n o = false → EX G n fs S)
/-- try: .. except o as v: .. -/
def sTryA (kn : XN → Bool) (o : XN) (i : Nat) (ts : Addr → XN → Option Addr → TSd) (tb : EXG → TSd) (EX : EXG) : TSd := fun E G S => tb (tryX kn o i ts E EX) E G S
def dropE (E : DE) : DE := { nx := fun G => dropH (E.nx G), rt := fun d => dropH (E.rt d), bk := fun G => dropH (E.bk G), ct := fun G => dropH (E.ct G) }
def tryN (kn : XN → Bool) (o : XN) (ts : TSd) (E : DE) (EX : EXG) : EXG := fun G n fs S => kn n = true ∧ (isub n o = true → ∃ S0 : Sto, S0.Sublist S ∧ match fs with
  | [] => ts E G S0
  | f :: r => ∀ dd, ts (dropE E) G ((dd, .xd (f :: r)) :: S0)) ∧ (isub n o = false → EX G n fs S)
/-- try: .. except o: .. -/
def sTryN (kn : XN → Bool) (o : XN) (ts : TSd) (tb : EXG → TSd) (EX : EXG) : TSd := fun E G S => tb (tryN kn o ts E EX) E G S
/-- the context of a try's body -/
def trC (c : CD) (pn : List (Addr × Obj)) (xe : Value → Shared → Prop) (B : Hp) (EX : EXG) (tk : Takes (c.X.tr pn xe) (XW c.X.K B EX)) : CD where
  X := c.X.tr pn xe
  B0 := B
  EX := EX
  k := c.k
  tk := tk
  hr := c.hr
  nd := c.nd
instance calm_tr {c : CD} [q : Calm c] {pn : List (Addr × Obj)} {xe : Value → Shared → Prop} {B : Hp} {EX : EXG} {tk} : Calm (trC c pn xe B EX tk) := ⟨q.calm, q.hd⟩
/-- the context of an except suite -/
def suC (c : CD) (a : Addr) (oe : Obj) (pn : List (Addr × Obj)) (B : Hp) : CD where
  X := c.X.suite a ((a, oe) :: pn)
  B0 := B
  EX := fun _ _ _ _ => False
  k := c.k
  tk := fun u s' x => by
    obtain ⟨_, _, _, _, _, _, _, _, _, _, _, _, _, _, _, _, z⟩ := x
    obtain ⟨_, _, _, _, _, _, _, _, _, z⟩ := z
    exact z.elim
  hr := ⟨c.hr.dp, c.hr.un⟩
  nd := c.nd
theorem fx_tr {c : CD} {pn : List (Addr × Obj)} {xe : Value → Shared → Prop} {B : Hp} {EX : EXG} {tk} {ls : List (Option NameKind)} {gs : List Str} (φ : Fx c.X ls gs) : Fx (trC c pn xe B EX tk).X ls gs := ⟨φ.dbg, φ.kd, φ.gl, φ.fk⟩
theorem fx_su {c : CD} {a : Addr} {oe : Obj} {pn : List (Addr × Obj)} {B : Hp} {ls : List (Option NameKind)} {gs : List Str} (φ : Fx c.X ls gs) : Fx (suC c a oe pn B).X ls gs := ⟨φ.dbg, φ.kd, φ.gl, φ.fk⟩
theorem Rel.unset {K : Frag} {B0 B H : Hp} {G : Loc} {S : Sto} {σ : L2.St} (R : Rel K B0 B G S σ H) (i : Nat) : Rel K B0 B (G.set i none) S (σ.set i none) H :=
  ⟨R.toRelH, by rw [List.length_set, List.length_set]; exact R.len, fun j d h => by
    by_cases ej : j = i
    · subst ej
      by_cases hi : j < G.length
      · rw [List.getElem?_set_self hi] at h
        cases h
      · rw [List.getElem?_eq_none (by rw [List.length_set]; omega)] at h
        cases h
    · rw [List.getElem?_set_ne (Ne.symm ej)] at h
      obtain ⟨v, h1, h2⟩ := R.loc j d h
      exact ⟨v, by rw [List.getElem?_set_ne (Ne.symm ej)]; exact h1, h2⟩⟩
theorem Rel.base {K : Frag} {B0 B B' H : Hp} {G : Loc} {S : Sto} {σ : L2.St} (s : Same B0 B) (R : Rel K B B' G S σ H) : Rel K B0 B' G S σ H := ⟨⟨s.trans R.lo, R.sub, R.cel, R.nd⟩, R.len, R.loc⟩
theorem RelH.base {K : Frag} {B0 B B' H : Hp} {S : Sto} (s : Same B0 B) (R : RelH K B B' S H) : RelH K B0 B' S H := ⟨s.trans R.lo, R.sub, R.cel, R.nd⟩
/-- what the clause asks of the module -/
def TryF (m : Mo) (kn : XN → Bool) (o : XN) : Prop := ∃ Co, CN m.K o.str Co ∧ m.mg o.str = some (.ref Co) ∧ ∀ n, kn n = true → ∃ Cn, CN m.K n.str Cn ∧ PySem.W.exmOne m.K (.ref Cn) (.ref Co) = some (isub n o)
section
variable {c : CD} {pos pos' np : Pos} {x nm : Str} {ls : List (Option NameKind)} {gs : List Str} {body suite : List Stmt} {b0 : Stmt} {kn : XN → Bool} {o : XN} {tb : EXG → TSd}
theorem ds_tryA [Calm c] (φ : Fx c.X ls gs) (j i : Nat) {ts : Addr → XN → Option Addr → TSd} (F : TryF c.X.mo kn o)
    (hb : ∀ pn xe B EX tk, PSsd (trC c pn xe B EX tk) body (tb EX))
    (hsu : ∀ a oe pn B n Cn d, kn n = true → CN c.X.K n.str Cn → Zc (.ref Cn) d oe → (∃ vs, oe.data = .fields vs) → PSsd (suC c a oe pn B) (b0 :: suite) (ts a n d))
    (hi : c.X.N[i]? = some nm := by rfl) (hki : isLocK (ls.getD i none) = true := by rfl) (hj : gs[j]? = some x := by rfl) (hn : x = o.str := by rfl) (hs : c.X.stack = c.X.env :: c.X.outer := by rfl) (hf : c.X.env.frame = some c.X.env.locals := by rfl) :
    PSd c (.Try body [.ExceptHandler (some (.Name x np)) (some nm) (b0 :: suite) pos'] [] [] pos) (sTryA kn o i ts tb c.EX) := fun E G S h B σ H R => by
  subst hn
  obtain ⟨Co, cno, hmo, hF⟩ := F
  refine tS_of (ps_try_as (i := i) (tb := fun W D σ H => ∀ pn xe, Takes (c.X.tr pn xe) W → tSs (c.X.tr pn xe) body D σ H) (ts := fun a cls d D σ H => ∀ oe pn, Zc cls d oe → (∃ vs, oe.data = .fields vs) → tSs (c.X.suite a ((a, oe) :: pn)) (b0 :: suite) D σ H)
    (Wout := XW c.X.K c.B0 c.EX) hs hf c.nd hi (isLoc_of (φ.kd i nm hi) hki) ⟨(φ.gl j _ hj).1, (φ.gl j _ hj).2.1, .inl hmo⟩ c.tk (fun W pn xe tk _ => ⟨fun pins s σ H D I h => h pn xe tk pins s I⟩) (fun a oe cls d pn hz hfl => ⟨fun pins s σ H D I h => h oe pn hz hfl pins s I⟩)) ?_
  intro pn xe tkW
  have sB : Same c.B0 B := R.lo
  have R0 : Rel c.X.K B B G S σ H := ⟨⟨Same.refl _, R.sub, R.cel, R.nd⟩, R.len, R.loc⟩
  have tk' : Takes (c.X.tr pn xe) (XW c.X.K B (tryX kn o i ts E c.EX)) := tkW.imp fun cls d σ' H' ⟨n, C, fs, S', B', G', cn, e, h1, k1, hy, hno⟩ => by
    obtain ⟨Cn, cn2, hx⟩ := hF n k1
    have := CN.inj cn cn2
    subst this
    subst e
    refine ⟨isub n o, hx, fun hb a na oe pn2 hz hfl => ?_, fun hb => ⟨n, C, fs, S', B', G', cn, rfl, ?_, hno hb⟩⟩
    · obtain ⟨hG, S0, hS0, hall⟩ := inG_get (hy hb)
      rcases h1 with ⟨rfl, rfl, R'⟩ | ⟨dd, rfl, ne, R'⟩
      · have J := hsu a oe pn2 B n C none k1 cn hz hfl (sufE0 i E) _ _ (hall a) B' _ _ ((R'.drop hS0).set hG rfl)
        refine tSs_mono J ⟨?_, ?_, ?_, ?_⟩
        · rintro σ2 H2 ⟨B2, G2, S2, s2, R2, q⟩
          exact ⟨B2, _, S2, R'.lo.trans s2, (R2.unset i).base sB, q⟩
        · rintro v H2 ⟨B2, d2, S2, s2, R2, r2, q⟩
          exact ⟨B2, d2, S2, R'.lo.trans s2, R2.base sB, r2, q⟩
        · rintro σ2 H2 ⟨B2, G2, S2, s2, R2, q⟩
          exact ⟨B2, _, S2, R'.lo.trans s2, (R2.unset i).base sB, q⟩
        · rintro σ2 H2 ⟨B2, G2, S2, s2, R2, q⟩
          exact ⟨B2, _, S2, R'.lo.trans s2, (R2.unset i).base sB, q⟩
      · match fs, ne with
        | f :: r, _ =>
          have J := hsu a oe pn2 B n C (some dd) k1 cn hz hfl (sufE1 i E) _ _ (hall a dd) B' _ _ ((R'.drop (hS0.cons_cons _)).set hG rfl)
          refine tSs_mono J ⟨?_, ?_, ?_, ?_⟩
          · rintro σ2 H2 ⟨B2, G2, S2, s2, R2, q⟩
            match S2, q with
            | _ :: S3, q => exact ⟨B2, _, S3, R'.lo.trans s2, ((R2.unset i).base sB).drop (List.sublist_cons_self _ _), q⟩
          · rintro v H2 ⟨B2, d2, S2, s2, R2, r2, q⟩
            match S2, q with
            | _ :: S3, q => exact ⟨B2, d2, S3, R'.lo.trans s2, (R2.base sB).drop (List.sublist_cons_self _ _), r2, q⟩
          · rintro σ2 H2 ⟨B2, G2, S2, s2, R2, q⟩
            match S2, q with
            | _ :: S3, q => exact ⟨B2, _, S3, R'.lo.trans s2, ((R2.unset i).base sB).drop (List.sublist_cons_self _ _), q⟩
          · rintro σ2 H2 ⟨B2, G2, S2, s2, R2, q⟩
            match S2, q with
            | _ :: S3, q => exact ⟨B2, _, S3, R'.lo.trans s2, ((R2.unset i).base sB).drop (List.sublist_cons_self _ _), q⟩
    · rcases h1 with ⟨e1, e2, R'⟩ | ⟨dd, e1, ne, R'⟩
      · exact .inl ⟨e1, e2, R'.base sB⟩
      · exact .inr ⟨dd, e1, ne, R'.base sB⟩
  have J := hb pn xe B _ tk' E G S h B σ H R0
  refine tSs_mono J ⟨?_, ?_, ?_, ?_⟩
  · rintro σ2 H2 ⟨B2, G2, S2, s2, R2, q⟩
    exact ⟨B2, G2, S2, s2, R2.base sB, q⟩
  · rintro v H2 ⟨B2, d2, S2, s2, R2, r2, q⟩
    exact ⟨B2, d2, S2, s2, R2.base sB, r2, q⟩
  · rintro σ2 H2 ⟨B2, G2, S2, s2, R2, q⟩
    exact ⟨B2, G2, S2, s2, R2.base sB, q⟩
  · rintro σ2 H2 ⟨B2, G2, S2, s2, R2, q⟩
    exact ⟨B2, G2, S2, s2, R2.base sB, q⟩
theorem ds_tryN [Calm c] (φ : Fx c.X ls gs) (j : Nat) {ts : TSd} (F : TryF c.X.mo kn o)
    (hb : ∀ pn xe B EX tk, PSsd (trC c pn xe B EX tk) body (tb EX))
    (hsu : ∀ a oe pn B, PSsd (suC c a oe pn B) (b0 :: suite) ts)
    (hj : gs[j]? = some x := by rfl) (hn : x = o.str := by rfl) (hs : c.X.stack = c.X.env :: c.X.outer := by rfl) (hf : c.X.env.frame = some c.X.env.locals := by rfl) :
    PSd c (.Try body [.ExceptHandler (some (.Name x np)) none (b0 :: suite) pos'] [] [] pos) (sTryN kn o ts tb c.EX) := fun E G S h B σ H R => by
  subst hn
  obtain ⟨Co, cno, hmo, hF⟩ := F
  refine tS_of (ps_try_only (tb := fun W D σ H => ∀ pn xe, Takes (c.X.tr pn xe) W → tSs (c.X.tr pn xe) body D σ H) (ts := fun a cls d D σ H => ∀ oe pn, Zc cls d oe → (∃ vs, oe.data = .fields vs) → tSs (c.X.suite a ((a, oe) :: pn)) (b0 :: suite) D σ H)
    (Wout := XW c.X.K c.B0 c.EX) hs hf ⟨(φ.gl j _ hj).1, (φ.gl j _ hj).2.1, .inl hmo⟩ c.tk (fun W pn xe tk _ => ⟨fun pins s σ H D I h => h pn xe tk pins s I⟩) (fun a oe cls d pn hz hfl => ⟨fun pins s σ H D I h => h oe pn hz hfl pins s I⟩)) ?_
  intro pn xe tkW
  have sB : Same c.B0 B := R.lo
  have R0 : Rel c.X.K B B G S σ H := ⟨⟨Same.refl _, R.sub, R.cel, R.nd⟩, R.len, R.loc⟩
  have tk' : Takes (c.X.tr pn xe) (XW c.X.K B (tryN kn o ts E c.EX)) := tkW.imp fun cls d σ' H' ⟨n, C, fs, S', B', G', cn, e, h1, k1, hy, hno⟩ => by
    obtain ⟨Cn, cn2, hx⟩ := hF n k1
    have := CN.inj cn cn2
    subst this
    subst e
    refine ⟨isub n o, hx, fun hb a na oe pn2 hz hfl => ?_, fun hb => ⟨n, C, fs, S', B', G', cn, rfl, ?_, hno hb⟩⟩
    · obtain ⟨S0, hS0, hall⟩ := hy hb
      rcases h1 with ⟨rfl, rfl, R'⟩ | ⟨dd, rfl, ne, R'⟩
      · have J := hsu a oe pn2 B E _ _ hall B' _ _ (R'.drop hS0)
        refine tSs_mono J ⟨?_, ?_, ?_, ?_⟩
        · rintro σ2 H2 ⟨B2, G2, S2, s2, R2, q⟩
          exact ⟨B2, _, S2, R'.lo.trans s2, R2.base sB, q⟩
        · rintro v H2 ⟨B2, d2, S2, s2, R2, r2, q⟩
          exact ⟨B2, d2, S2, R'.lo.trans s2, R2.base sB, r2, q⟩
        · rintro σ2 H2 ⟨B2, G2, S2, s2, R2, q⟩
          exact ⟨B2, _, S2, R'.lo.trans s2, R2.base sB, q⟩
        · rintro σ2 H2 ⟨B2, G2, S2, s2, R2, q⟩
          exact ⟨B2, _, S2, R'.lo.trans s2, R2.base sB, q⟩
      · match fs, ne with
        | f :: r, _ =>
          have J := hsu a oe pn2 B (dropE E) _ _ (hall dd) B' _ _ (R'.drop (hS0.cons_cons _))
          refine tSs_mono J ⟨?_, ?_, ?_, ?_⟩
          · rintro σ2 H2 ⟨B2, G2, S2, s2, R2, q⟩
            match S2, q with
            | _ :: S3, q => exact ⟨B2, _, S3, R'.lo.trans s2, (R2.base sB).drop (List.sublist_cons_self _ _), q⟩
          · rintro v H2 ⟨B2, d2, S2, s2, R2, r2, q⟩
            match S2, q with
            | _ :: S3, q => exact ⟨B2, d2, S3, R'.lo.trans s2, (R2.base sB).drop (List.sublist_cons_self _ _), r2, q⟩
          · rintro σ2 H2 ⟨B2, G2, S2, s2, R2, q⟩
            match S2, q with
            | _ :: S3, q => exact ⟨B2, _, S3, R'.lo.trans s2, (R2.base sB).drop (List.sublist_cons_self _ _), q⟩
          · rintro σ2 H2 ⟨B2, G2, S2, s2, R2, q⟩
            match S2, q with
            | _ :: S3, q => exact ⟨B2, _, S3, R'.lo.trans s2, (R2.base sB).drop (List.sublist_cons_self _ _), q⟩
    · rcases h1 with ⟨e1, e2, R'⟩ | ⟨dd, e1, ne, R'⟩
      · exact .inl ⟨e1, e2, R'.base sB⟩
      · exact .inr ⟨dd, e1, ne, R'.base sB⟩
  have J := hb pn xe B _ tk' E G S h B σ H R0
  refine tSs_mono J ⟨?_, ?_, ?_, ?_⟩
  · rintro σ2 H2 ⟨B2, G2, S2, s2, R2, q⟩
    exact ⟨B2, G2, S2, s2, R2.base sB, q⟩
  · rintro v H2 ⟨B2, d2, S2, s2, R2, r2, q⟩
    exact ⟨B2, d2, S2, s2, R2.base sB, r2, q⟩
  · rintro σ2 H2 ⟨B2, G2, S2, s2, R2, q⟩
    exact ⟨B2, G2, S2, s2, R2.base sB, q⟩
  · rintro σ2 H2 ⟨B2, G2, S2, s2, R2, q⟩
    exact ⟨B2, G2, S2, s2, R2.base sB, q⟩
end
end DL
end

section
set_option autoImplicit false
set_option maxRecDepth 100000
set_option maxHeartbeats 4000000
namespace DL
open PySem PySem.Spec PyProof.Rows L2
open PySem.W (Frag)
/-! ### what a suite asks of the exception -/
section
open PySem.W
variable {prog : Program} {w : World} {A : Around} {E : Value → Shared → Prop} {s : Shared} {K : Frag} {x D : Addr} {ox : Obj}
theorem findObj_dataN' {C : Addr} {name : Str} {a g : Value} {od : Option Obj} (hc : (clsIn K C).isSome = true) (ha : findIn K (.ref C) name = some (some a)) (hg : specialIn K a "__get__" = some (some g)) (ht : takesIn K a = some true) : findObj K C od name = some (.bind g a) := by
  obtain ⟨cd, hc⟩ := Option.isSome_iff_exists.mp hc
  unfold findObj
  rw [hc, Option.bind_some, ha, Option.bind_some]
  simp [hg, ht]
theorem kin_classE' {od : Option Obj} {Q : Option Value → Shared → Prop} (hga : findIn K (.ref D) "__getattribute__" = some (some (.builtin "BaseException.__getattribute__"))) (hgt : findIn K (.ref D) "__getattr__" = some none) (hsub : subIn K (.ref D) (.type "BaseException") = some true)
    (hdct : hasDictIn K D = true) (ha : findIn K (.ref D) "__class__" = some (some (.builtin "object.__class__")))
    (hn : specialIn K (.builtin "object.__class__") "__get__" = some (some (.builtin "getset_descriptor.__get__"))) (htk : takesIn K (.builtin "object.__class__") = some true) (hm : mroIn K D (.type "object") = some true)
    (X : K.In s.heap) (I : InstAt s.heap x ox D od) (h : Q (some (.ref D)) { s with toks := s.toks + 1 }) : wpAny (model prog w) A (getAttr? (.ref x) "__class__") Q E s := by
  have hf : findObj K D od "__class__" = some (.bind (.builtin "getset_descriptor.__get__") (.builtin "object.__class__")) := findObj_dataN' (by obtain ⟨cd, hc, _⟩ := any_some hdct; rw [hc]; rfl) ha hn htk
  obtain ⟨hp, g, d, t, os⟩ := s
  have L0 := I.type (M := model prog w)
  have L1 := looks_findIn (M := model prog w) X hga
  have L2 := looks_findIn (M := model prog w) X hgt
  have L3 := looks_find (M := model prog w) X I hf
  have sub : Looks (model prog w) hp (isInstance (.ref x) (.type "BaseException")) true := L0.andThen (looks_subIn X hsub)
  have hx0 : (false && onTheHeap (Value.builtin "BaseException.__getattribute__")) = false := rfl
  have hx2 : (Value.builtin "BaseException.__getattribute__" == Value.builtin "object.__getattribute__") = false := by decide +kernel
  have hx1 : (onTheHeap (Value.ref D) && Value.builtin "BaseException.__getattribute__" == Value.builtin "object.__getattribute__") = false := by rw [hx2]; rfl
  unfold getAttr? getAttrBy? getAttrBy
  refine wpAny_bind (wpAny_mkText (wpAny_bind (wpAny_attempt (wpAny_holding (wpAny_bind (L0.at (wpAny_bind (L1.at ?_))))))))
  show wpAny _ _ (if (onTheHeap (Value.ref D) && Value.builtin "BaseException.__getattribute__" == Value.builtin "object.__getattribute__") = true then _ else _) _ _ _
  rw [hx1, if_neg Bool.false_ne_true]
  unfold getAttrByItsOwn hookBefore
  refine wpAny_bind ?_
  rw [if_pos (show onTheHeap (Value.ref D) = true from rfl)]
  refine L2.at ?_
  refine wpAny_bind (wpAny_attempt (wpAny_holding ?_))
  unfold callGetattribute
  rw [hx0, if_neg Bool.false_ne_true]
  unfold boundAndCalled
  rw [PySem.F.excAttr_ValueError.ga.bind (.ref x)]
  refine wpAny_bind (wpAny_pure ?_)
  show wpAny _ _ (call (.builtin "BaseException.__getattribute__") [.ref x, .str "__class__" t]) _ _ _
  refine wpAny_call (codeAny_call_builtin PySem.F.excAttr_ValueError.ga.plain PySem.F.entry_bexc_ga ?_)
  refine @check_slot (model prog w) _ _ ⟨hp, g, d, t + 1, os⟩ "BaseException.__getattribute__" "BaseException" "__getattribute__" (.ref x) [.str "__class__" t] [] _ (by decide +kernel) (by decide +kernel) sub (PySem.F.args_bexc_ga (.ref x) (.str "__class__" t)) ?_
  unfold Builtin.«object.__getattribute__»
  refine wpAny_bind (wpAny_of_eq (a := ((Value.ref x : Value), [Value.str "__class__" t])) (by first | rfl | (simp only [slotArgs]; rfl)) ?_)
  refine wpAny_bind (wpAny_pure (wpAny_bind (L0.at (wpAny_bind (L3.at ?_)))))
  show wpAny _ _ (holding [Value.builtin "object.__class__"] (call (.builtin "getset_descriptor.__get__") [.builtin "object.__class__", .ref x, .ref D]) >>= ret) _ _ _
  refine wpAny_bind (wpAny_holding (wpAny_call (class_get (s := ⟨hp, g, d, t + 1, os⟩) (ox := ox) (od := od) X I hm ?_)))
  refine wpAny_pure ?_
  show wpAny _ _ (handedOut (.ref D)) _ _ _
  rw [handedOut_of (v := .ref D) rfl]
  first
    | exact wpAny_pure (wpAny_pure h)
    | exact wpAny_pure h
    | exact wpAny_pure (wpAny_bind (wpAny_pure (wpAny_pure h)))
theorem kitx_exc' (hga : findIn K (.ref D) "__getattribute__" = some (some (.builtin "BaseException.__getattribute__"))) (hgt : findIn K (.ref D) "__getattr__" = some none) (hsub : subIn K (.ref D) (.type "BaseException") = some true) (hdct : hasDictIn K D = true) (ha : findIn K (.ref D) "__class__" = some (some (.builtin "object.__class__")))
    (hn : specialIn K (.builtin "object.__class__") "__get__" = some (some (.builtin "getset_descriptor.__get__"))) (htk : takesIn K (.builtin "object.__class__") = some true) (hm : mroIn K D (.type "object") = some true) :
    KitX K (.ref x) (.ref D) (fun h => ∃ od, InstAt h x ox D od) where
  ty := fun _ _ _ ⟨od, I⟩ => I.type
  it := fun _ _ X _ => by
    obtain ⟨cdD, hcD, _⟩ := any_some hdct
    unfold clsIn at hcD
    split at hcD
    · rename_i c' d' cd' sl' ho
      intro A' Q' E' s' k q
      unfold isType loadHead
      exact wpAny_bind (wpAny_loadPart (k _ _ (X _ _ ho)) (wpAny_pure q))
    · cases hcD
  ne := fun h tp dd its n sl X htp => by
    obtain ⟨cdD, hcD, _⟩ := any_some hdct
    refine Bool.eq_false_iff.mpr fun q => ?_
    have e : D = tp := Value.ref.inj (beq_iff_eq.mp q)
    subst e
    unfold clsIn at hcD
    split at hcD
    · rename_i c' d' cd' sl' ho
      have z := (X _ _ ho).symm.trans htp
      cases z
    · cases hcD
  ca := fun X ⟨od, I⟩ k => kin_classE' hga hgt hsub hdct ha hn htk hm X I k
end
/-- isinstance(e, c), e the exception that the suite holds -/
def rIsX (K : Frag) (D a : Addr) (d : Option Addr) : List V → Hp → VK → Prop := fun xs H Q => ∃ (c : V) (b : Bool), xs = [.ref a, c] ∧ (∀ dd, d = some dd → ∃ fs, H dd = some (.xd fs)) ∧ Q (.bl b) H ∧
  ((∃ cv : Value, (∀ u, RelV c u → u = cv) ∧ PySem.W.kitOne K (.ref D) cv = some b) ∨ ∃ (tp : Addr) (cs : List Addr), c = .ref tp ∧ SqT K H tp (cs.map V.ref) ∧ PySem.W.kitAny K (.ref D) (cs.map Value.ref) = some b)
theorem vals_refs : ∀ {cs : List Addr} {us : List Value}, Vals (cs.map V.ref) us → us = cs.map Value.ref
  | [], us, h => by cases h; rfl
  | c :: cs, us, h => by
    cases h with
    | cons r rs =>
      rename_i u us'
      have r' : u = Value.ref c := r
      rw [r', vals_refs rs]
      rfl
theorem call_isX {X : Cx} {a D : Addr} {oe : Obj} {d : Option Addr} {pn : List (Addr × Obj)} (C : ExcC X.K D) (hz : Zc (.ref D) d oe) (hf : ∃ vs, oe.data = .fields vs) : CallR (X.suite a ((a, oe) :: pn)) (.builtin "isinstance") (rIsX X.K D a d) := by
  intro pins s σ H xs us Q I r h
  obtain ⟨c, b, rfl, hd, q, h⟩ := h
  cases r with
  | cons rx rr =>
    cases rr with
    | cons rt rr =>
      cases rr
      cases rx
      obtain ⟨hget, _⟩ := I.pin (a, oe) (List.mem_append.mpr (.inl List.mem_cons_self))
      obtain ⟨vs, hv⟩ := hf
      have J : ∃ od, PySem.W.InstAt s.heap a oe D od := by
        obtain ⟨h1, h2⟩ := hz
        cases d with
        | none => exact ⟨none, hget, h1, by unfold PySem.W.notCls; rw [hv] <;> rfl, by rw [h2]; trivial⟩
        | some dd =>
          obtain ⟨fs, ef⟩ := hd dd rfl
          have hx : ObjOk X.prog X.w H s.heap dd (.xd fs) := I.hok dd _ ef
          obtain ⟨mA, hns, hr⟩ := hx
          obtain ⟨od, ho, hl⟩ := lookIn_ns hns
          exact ⟨some od, hget, h1, by unfold PySem.W.notCls; rw [hv] <;> rfl, by rw [h2]; exact ho⟩
      rcases h with ⟨cv, hcv, e⟩ | ⟨tp, cs, rfl, hs, e⟩
      · have ec := hcv _ rt
        subst ec
        exact PySem.W.kia_one (kitx_exc' C.hg C.hk C.hs C.hd C.ha C.hn C.ht C.hm) I.kIn J e (fun z => nomatch z) fun tk => ⟨.bl b, H, I.kept (t' := tk) fun _ _ z => z, rfl, q⟩
      · cases rt
        obtain ⟨its, rv, ⟨o, ho, hc, n, hdat⟩, _⟩ := I.tuple hs
        have ei := vals_refs rv
        subst ei
        obtain ⟨oc, od, oda, osl⟩ := o
        dsimp only at hc hdat
        subst hc; subst hdat
        exact PySem.W.kia_tup (kitx_exc' C.hg C.hk C.hs C.hd C.ha C.hn C.ht C.hm) I.kIn J ho e (fun z => nomatch z) fun tk => ⟨.bl b, H, I.kept (t' := tk) fun _ _ z => z, rfl, q⟩
/-! ### by data -/
def headX (d : Option Addr) (S : Sto) (P : Prop) : Prop := match d with
  | none => P
  | some b => match S with
    | (b', .xd _) :: _ => b' = b ∧ P
    | _ => False
def fldX (d : Option Addr) (S : Sto) (f : Str) (P : D → Prop) : Prop := match d with
  | none => False
  | some b => match S with
    | (b', .xd fs) :: _ => b' = b ∧ ∃ v, fs.lookup f = some v ∧ P v
    | _ => False
/-- isinstance(e, o), e the exception, of the class n -/
def eIsX (i : Nat) (a : Addr) (n : XN) (d : Option Addr) (o : XN) : TEd := fun G S Q => rd G i fun x => isR a x (headX d S (Q (.bl (isub n o)) S))
def eIsXs (i : Nat) (a : Addr) (n : XN) (d : Option Addr) (os : List XN) : TEd := fun G S Q => rd G i fun x => isR a x (headX d S (Q (.bl (os.any (isub n))) S))
def eIsV (i : Nat) (a : Addr) (d : Option Addr) : TEd := fun G S Q => rd G i fun x => isR a x (headX d S (Q (.bl true) S))
/-- e.f -/
def eXf (i : Nat) (a : Addr) (d : Option Addr) (f : Str) : TEd := fun G S Q => rd G i fun x => isR a x (fldX d S f fun v => Q v S)
/-- what the module tells of the classes -/
def IsXF (m : Mo) (kn : XN → Bool) (o : XN) : Prop := ∃ Co, m.mg o.str = some (.ref Co) ∧ ∀ n, kn n = true → ∃ Cn, CN m.K n.str Cn ∧ ExcC m.K Cn ∧ PySem.W.kitOne m.K (.ref Cn) (.ref Co) = some (isub n o)
def IsVF (m : Mo) (kn : XN → Bool) : Prop := ∀ n, kn n = true → ∃ Cn, CN m.K n.str Cn ∧ ExcC m.K Cn ∧ PySem.W.kitOne m.K (.ref Cn) (.type "ValueError") = some true
def XfF (m : Mo) (kn : XN → Bool) (f : Str) : Prop := ∀ n, kn n = true → ∃ Cn, CN m.K n.str Cn ∧ XfC m.K Cn ∧ PySem.W.findIn m.K (.ref Cn) f = some none
section
variable {c : CD} {a : Addr} {oe : Obj} {pn : List (Addr × Obj)} {B : Hp} {ls : List (Option NameKind)} {gs : List Str} {kn : XN → Bool} {n o : XN} {Cn : Addr} {d : Option Addr} {x v : Str} {p p1 p2 pos : Pos} {es : List Expr}
def PIs (a : Addr) (d : Option Addr) (t : D) (b : Bool) : DCall := fun ds S Q => ds = [.ref a, t] ∧ headX d S (Q (.bl b) S)
theorem headX_get {K : Frag} {B0 B H : Hp} {G : Loc} {S : Sto} {σ : L2.St} {P : Prop} (R : Rel K B0 B G S σ H) (h : headX d S P) : (∀ dd, d = some dd → ∃ fs, H dd = some (.xd fs)) ∧ P := by
  unfold headX at h
  split at h
  · exact ⟨fun dd z => (by cases z), h⟩
  · split at h
    · obtain ⟨rfl, q⟩ := h
      refine ⟨fun dd z => ?_, q⟩
      cases z
      obtain ⟨_, vs, e, _⟩ := R.cel _ List.mem_cons_self
      exact ⟨vs, e⟩
    · exact h.elim
theorem b_isX1 {cv : Value} {b : Bool} {t : D} (ht : ∀ B w, Rep c.X.K B t w → ∀ u, RelV w u → u = cv) (hk : PySem.W.kitOne c.X.K (.ref Cn) cv = some b) : BOk (suC c a oe pn B) (rIsX c.X.K Cn a d) (PIs a d t b) := fun Bl B' G σ H ds vs S Q s R r h => by
  obtain ⟨rfl, h⟩ := h
  obtain ⟨v, r2, e1, rv, w, r3, e2, rw', e3⟩ := r
  subst e3; subst e2; subst e1
  cases rv
  obtain ⟨hd, q⟩ := headX_get R h
  exact ⟨w, b, rfl, hd, ⟨B', .bl b, S, s, R, rfl, q⟩, .inl ⟨cv, ht B' w rw', hk⟩⟩
theorem reps_refs {K : Frag} {B : Hp} : ∀ {cs : List Addr} {vs : List V}, Reps K B (cs.map D.ref) vs → vs = cs.map V.ref
  | [], vs, h => h
  | c :: cs, vs, h => by
    obtain ⟨v, r, e, h1, h2⟩ := h
    subst e
    cases h1
    rw [reps_refs h2]
    rfl
theorem b_isXs {cs : List Addr} {b : Bool} (hk : PySem.W.kitAny c.X.K (.ref Cn) (cs.map Value.ref) = some b) : BOk (suC c a oe pn B) (rIsX c.X.K Cn a d) (PIs a d (.tup (cs.map D.ref)) b) := fun Bl B' G σ H ds vs S Q s R r h => by
  obtain ⟨rfl, h⟩ := h
  obtain ⟨v, r2, e1, rv, w, r3, e2, ⟨tp, us, e4, hs, ru⟩, e3⟩ := r
  subst e4; subst e3; subst e2; subst e1
  cases rv
  obtain ⟨hd, q⟩ := headX_get R h
  have := reps_refs ru
  subst this
  exact ⟨.ref tp, b, rfl, hd, ⟨B', .bl b, S, s, R, rfl, q⟩, .inr ⟨tp, cs, rfl, sameT R.sub hs, hk⟩⟩
theorem isR_get {x : D} {P : Prop} (h : isR a x P) : x = .ref a ∧ P := by
  unfold isR at h
  split at h
  · obtain ⟨rfl, q⟩ := h
    exact ⟨rfl, q⟩
  · exact h.elim
theorem d_isX (φ : Fx (suC c a oe pn B).X ls gs) (jb jo i : Nat) (kf : kn n = true) (cn : CN c.X.K n.str Cn) (hz : Zc (.ref Cn) d oe) (hf : ∃ vs, oe.data = .fields vs) (F : IsXF c.X.mo kn o) (hm : c.X.mg "isinstance" = none)
    (hv : bootBuiltins "isinstance" = some (.builtin "isinstance")) (hj : gs[jb]? = some "isinstance" := by rfl) (hjo : gs[jo]? = some x := by rfl) (hn : x = o.str := by rfl) (hN : (suC c a oe pn B).X.N[i]? = some v := by rfl) (hvis : visK (ls.getD i none) = true := by rfl)
    (he : starEach (.Name v p1 :: [.Name x p2]) (suC c a oe pn B).X.env = (false, eval (.Name v p1) (suC c a oe pn B).X.env) :: starEach [.Name x p2] (suC c a oe pn B).X.env := by rfl) (hpl : (backTo pos (starEach [.Name x p2] (suC c a oe pn B).X.env)).any (·.1) = false := by rfl) :
    PEd (suC c a oe pn B) (.Call (.Name "isinstance" p) [.Name v p1, .Name x p2] [] pos) (eIsX i a n d o) := fun G S Q h => by
  subst hn
  obtain ⟨Co, hmo, F⟩ := F
  obtain ⟨C', cn', ec, hk⟩ := F n kf
  have := CN.inj cn cn'
  subst this
  refine d_bi φ jb (call_isX ec hz hf) (b_isX1 (t := .ref Co) (cv := .ref Co) (fun B w r u ru => by cases r; exact ru) hk) hm hv (tas := aCons (eVar i) (aCons (eC (.ref Co)) aNil)) (da_cons (d_var φ i hN hvis) (da_cons (fun G S Q h => w_glob (φ.gl jo _ hjo).1 hmo (φ.gl jo _ hjo).2.1 h) da_nil)) hj he hpl G S Q ?_
  obtain ⟨x, ex, h⟩ := rd_get h
  obtain ⟨rfl, h2⟩ := isR_get h
  show rd G i _
  unfold rd
  rw [ex]
  exact ⟨rfl, h2⟩
theorem d_isV (φ : Fx (suC c a oe pn B).X ls gs) (jb jo i : Nat) (kf : kn n = true) (cn : CN c.X.K n.str Cn) (hz : Zc (.ref Cn) d oe) (hf : ∃ vs, oe.data = .fields vs) (F : IsVF c.X.mo kn) (hm : c.X.mg "isinstance" = none)
    (hv : bootBuiltins "isinstance" = some (.builtin "isinstance")) (hmv : c.X.mg "ValueError" = none) (hvv : bootBuiltins "ValueError" = some (.type "ValueError")) (hj : gs[jb]? = some "isinstance" := by rfl) (hjo : gs[jo]? = some "ValueError" := by rfl) (hN : (suC c a oe pn B).X.N[i]? = some v := by rfl) (hvis : visK (ls.getD i none) = true := by rfl)
    (he : starEach (.Name v p1 :: [.Name "ValueError" p2]) (suC c a oe pn B).X.env = (false, eval (.Name v p1) (suC c a oe pn B).X.env) :: starEach [.Name "ValueError" p2] (suC c a oe pn B).X.env := by rfl) (hpl : (backTo pos (starEach [.Name "ValueError" p2] (suC c a oe pn B).X.env)).any (·.1) = false := by rfl) :
    PEd (suC c a oe pn B) (.Call (.Name "isinstance" p) [.Name v p1, .Name "ValueError" p2] [] pos) (eIsV i a d) := fun G S Q h => by
  obtain ⟨C', cn', ec, hk⟩ := F n kf
  have := CN.inj cn cn'
  subst this
  refine d_bi φ jb (call_isX ec hz hf) (b_isX1 (t := .ty "ValueError") (cv := .type "ValueError") (fun B w r u ru => by cases r; exact ru) hk) hm hv (tas := aCons (eVar i) (aCons (eC (.ty "ValueError")) aNil)) (da_cons (d_var φ i hN hvis) (da_cons (d_ty φ jo hmv hvv hjo) da_nil)) hj he hpl G S Q ?_
  obtain ⟨x, ex, h⟩ := rd_get h
  obtain ⟨rfl, h2⟩ := isR_get h
  show rd G i _
  unfold rd
  rw [ex]
  exact ⟨rfl, h2⟩
/-- names of classes, one after the other -/
def RfX (c' : CD) (kn : XN → Bool) (es : List Expr) (os : List XN) : Prop := ∃ cs : List Addr, PAd c' es (fun _ S Q => Q (cs.map D.ref) S) ∧ cs.length = os.length ∧ ∀ n Cn, kn n = true → CN c'.X.K n.str Cn → PySem.W.kitAny c'.X.K (.ref Cn) (cs.map Value.ref) = some (os.any (isub n))
theorem rf_nil {c' : CD} : RfX c' kn [] [] := ⟨[], da_nil, rfl, fun _ _ _ _ => rfl⟩
theorem rf_cons {c' : CD} {os : List XN} (φ : Fx c'.X ls gs) (jo : Nat) (F : IsXF c'.X.mo kn o) (h : RfX c' kn es os) (hjo : gs[jo]? = some x := by rfl) (hn : x = o.str := by rfl) : RfX c' kn (.Name x p2 :: es) (o :: os) := by
  subst hn
  obtain ⟨cs, h1, hl, h2⟩ := h
  obtain ⟨Co, hmo, F⟩ := F
  refine ⟨Co :: cs, ?_, by simp [hl], fun n Cn kf cn => ?_⟩
  · exact da_cons (ta := eC (.ref Co)) (fun G S Q h => w_glob (φ.gl jo _ hjo).1 hmo (φ.gl jo _ hjo).2.1 h) h1
  · obtain ⟨C', cn', ec, hk⟩ := F n kf
    have := CN.inj cn cn'
    subst this
    rw [List.map_cons, List.any_cons]
    unfold PySem.W.kitAny
    rw [hk]
    cases isub n o
    · exact h2 n _ kf cn
    · rfl
theorem d_isXs {os : List XN} {kk : Nat} (φ : Fx (suC c a oe pn B).X ls gs) (jb i : Nat) (kf : kn n = true) (cn : CN c.X.K n.str Cn) (hz : Zc (.ref Cn) d oe) (hf : ∃ vs, oe.data = .fields vs) (he0 : ExcC c.X.K Cn) (F : RfX (suC c a oe pn B) kn es os) (hm : c.X.mg "isinstance" = none)
    (hv : bootBuiltins "isinstance" = some (.builtin "isinstance")) (hl : os.length ≤ 1000 := by decide) (hj : gs[jb]? = some "isinstance" := by rfl) (hN : (suC c a oe pn B).X.N[i]? = some v := by rfl) (hvis : visK (ls.getD i none) = true := by rfl)
    (htp : ∀ t, PAd (suC c a oe pn B) es t → PEd (suC c a oe pn B) (.Tuple es kk p2) (eTup t) := by exact fun t h => d_tup h)
    (he : starEach (.Name v p1 :: [.Tuple es kk p2]) (suC c a oe pn B).X.env = (false, eval (.Name v p1) (suC c a oe pn B).X.env) :: starEach [.Tuple es kk p2] (suC c a oe pn B).X.env := by rfl) (hpl : (backTo pos (starEach [.Tuple es kk p2] (suC c a oe pn B).X.env)).any (·.1) = false := by rfl) :
    PEd (suC c a oe pn B) (.Call (.Name "isinstance" p) [.Name v p1, .Tuple es kk p2] [] pos) (eIsXs i a n d os) := fun G S Q h => by
  obtain ⟨cs, hcs, hlen, hk⟩ := F
  refine d_bi φ jb (call_isX he0 hz hf) (b_isXs (cs := cs) (hk n Cn kf cn)) hm hv (tas := aCons (eVar i) (aCons (eTup fun _ S Q => Q (cs.map D.ref) S) aNil)) (da_cons (d_var φ i hN hvis) (da_cons (htp _ hcs) da_nil)) hj he hpl G S Q ?_
  obtain ⟨x, ex, h⟩ := rd_get h
  obtain ⟨rfl, h2⟩ := isR_get h
  show rd G i _
  unfold rd
  rw [ex]
  exact fit_of (by rw [List.length_map, hlen]; omega) ⟨rfl, h2⟩
theorem d_xf {f : Str} (φ : Fx (suC c a oe pn B).X ls gs) (i : Nat) (kf : kn n = true) (cn : CN c.X.K n.str Cn) (hz : Zc (.ref Cn) d oe) (hf : ∃ vs, oe.data = .fields vs) (F : XfF c.X.mo kn f) (hN : (suC c a oe pn B).X.N[i]? = some v := by rfl) (hvis : visK (ls.getD i none) = true := by rfl)
    (hb : attributeBase (.Name v p1) f c.X.env (eval (.Name v p1) c.X.env) = eval (.Name v p1) c.X.env := by rfl) : PEd (suC c a oe pn B) (.Attribute (.Name v p1) f pos) (eXf i a d f) := fun G S Q h B' σ H R => by
  obtain ⟨C', cn', xc, hno⟩ := F n kf
  have := CN.inj cn cn'
  subst this
  obtain ⟨x, ex, h⟩ := rd_get h
  obtain ⟨rfl, h2⟩ := isR_get h
  unfold fldX at h2
  split at h2
  · exact h2.elim
  · split at h2
    · rename_i b b' fs S'
      obtain ⟨rfl, w, hl, q⟩ := h2
      obtain ⟨u, eu, ru⟩ := R.loc i _ ex
      cases ru
      obtain ⟨_, vs, hH, rf⟩ := R.cel _ List.mem_cons_self
      obtain ⟨z, hz2, rz⟩ := rf.get hl
      exact tE_of (pe_xf xc hno hz hf (pv_of φ i hN hvis) hb) ⟨.ref a, eu, rfl, rfl, _, vs, z, rfl, hH, hz2, B', w, _, Same.refl _, R, rz, q⟩
    · exact h2.elim
end
/-! ### what the module tells, from its parts -/
theorem exm_of {K : Frag} {Cn Co : Addr} {b : Bool} (h1 : PySem.W.subIn K (.ref Co) (.type "BaseException") = some true) (h2 : PySem.W.isClsIn K Co = true) (h3 : PySem.W.typeIn K (.ref Co) = some (.type "type")) (h4 : PySem.W.subIn K (.ref Cn) (.ref Co) = some b) :
    PySem.W.exmOne K (.ref Cn) (.ref Co) = some b := by
  have e1 : (PySem.W.subIn K (.ref Co) (.type "BaseException") == some true) = true := by rw [h1] <;> rfl
  have e2 : ((PySem.W.clsIn K Co).isSome && PySem.W.typeIn K (.ref Co) == some (.type "type")) = true := by
    have h2' : (PySem.W.clsIn K Co).isSome = true := h2
    rw [h2', h3] <;> rfl
  show (if (PySem.W.subIn K (.ref Co) (.type "BaseException") == some true) = true then (if ((PySem.W.clsIn K Co).isSome && PySem.W.typeIn K (.ref Co) == some (.type "type")) = true then PySem.W.subIn K (.ref Cn) (.ref Co) else none) else none) = some b
  rw [if_pos e1, if_pos e2]
  exact h4
theorem kit_of {K : Frag} {Cn Co : Addr} {b : Bool} (h2 : PySem.W.isClsIn K Co = true) (h3 : PySem.W.typeIn K (.ref Co) = some (.type "type")) (h4 : PySem.W.subIn K (.ref Cn) (.ref Co) = some b) (h5 : PySem.W.subIn K (.ref Co) (.ref Co) = some true) :
    PySem.W.kitOne K (.ref Cn) (.ref Co) = some b := by
  unfold PySem.W.kitOne
  by_cases e : Cn = Co
  · subst e
    rw [if_pos (by simp)]
    exact h5.symm.trans h4
  · rw [if_neg (by simpa using e)]
    have e2 : ((PySem.W.clsIn K Co).isSome && PySem.W.typeIn K (.ref Co) == some (.type "type")) = true := by
      have h2' : (PySem.W.clsIn K Co).isSome = true := h2
      rw [h2', h3] <;> rfl
    show (if ((PySem.W.clsIn K Co).isSome && PySem.W.typeIn K (.ref Co) == some (.type "type")) = true then PySem.W.subIn K (.ref Cn) (.ref Co) else none) = some b
    rw [if_pos e2]
    exact h4
theorem kit_ve {K : Frag} {Cn : Addr} (h : PySem.W.subIn K (.ref Cn) (.type "ValueError") = some true) : PySem.W.kitOne K (.ref Cn) (.type "ValueError") = some true := by
  unfold PySem.W.kitOne
  rw [if_neg (by simp)]
  show (if PySem.W.kitMeta "ValueError" = true then PySem.W.subIn K (.ref Cn) (.type "ValueError") else none) = some true
  rw [if_pos (by decide +kernel)]
  exact h
end DL
end

section
set_option autoImplicit false
set_option maxRecDepth 100000
set_option maxHeartbeats 4000000
namespace LK
open PySem PySem.Spec PyProof.Rows L2 DL
open PySem.W (Frag)
/-! ### sums and grids by functions -/
def sumN : Nat → (Nat → Int) → Int
  | 0, _ => 0
  | n + 1, f => sumN n f + f n
def dR (c : Nat) (f : Nat → Int) : D := .tup ((List.range c).map fun j => .int (f j))
def dG (r c : Nat) (f : Nat → Nat → Int) : D := .lst ((List.range r).map fun i => dR c (f i))
def mulG (m : Nat) (f g : Nat → Nat → Int) : Nat → Nat → Int := fun i j => sumN m fun k => f i k * g k j
theorem dR_ext {c : Nat} {f g : Nat → Int} (h : ∀ j, j < c → f j = g j) : dR c f = dR c g := by
  unfold dR
  congr 1
  exact List.map_congr_left fun j hj => by rw [h j (List.mem_range.mp hj)]
theorem dG_ext {r c : Nat} {f g : Nat → Nat → Int} (h : ∀ i j, i < r → j < c → f i j = g i j) : dG r c f = dG r c g := by
  unfold dG
  congr 1
  exact List.map_congr_left fun i hi => dR_ext fun j hj => h i j (List.mem_range.mp hi) hj
theorem range_get {α : Type} {f : Nat → α} {n i : Nat} {d : α} (h : ((List.range n).map f)[i]? = some d) : i < n ∧ d = f i := by
  have hi : i < n := by
    have := (List.getElem?_eq_some_iff.mp h).1
    simpa using this
  rw [range_at f hi] at h
  exact ⟨hi, (Option.some.inj h).symm⟩
theorem span_map (n : Nat) : span 0 n = (List.range n).map fun (k : Nat) => D.int (k : Int) := by
  unfold span
  exact List.map_congr_left fun (k : Nat) _ => by rw [Int.zero_add]
theorem zip_range (n : Nat) (f g : Nat → D) : zipD ((List.range n).map f) ((List.range n).map g) = (List.range n).map fun k => D.tup [f k, g k] := by
  unfold zipD
  rw [List.zipWith_map, List.zipWith_self]
theorem rep_range (c : Nat) (d : D) : (List.replicate c [d]).flatten = (List.range c).map fun _ => d := by
  induction c with
  | zero => rfl
  | succ c ih =>
    rw [List.replicate_succ', List.flatten_append, ih, range_snoc]
    rfl
theorem okR (c : Nat) (f : Nat → Int) (n : Nat) : okD (n + 1) (dR c f) = true := by
  show ((List.range c).map fun j => D.int (f j)).all (okD n) = true
  rw [List.all_eq_true]
  intro x hx
  obtain ⟨j, _, rfl⟩ := List.mem_map.mp hx
  cases n <;> rfl
theorem okG (r c : Nat) (f : Nat → Nat → Int) (n : Nat) : okD (n + 2) (dG r c f) = true := by
  show ((List.range r).map fun i => dR c (f i)).all (okD (n + 1)) = true
  rw [List.all_eq_true]
  intro x hx
  obtain ⟨i, _, rfl⟩ := List.mem_map.mp hx
  exact okR c _ n
theorem dR_inj {c : Nat} {f g : Nat → Int} (h : dR c f = dR c g) : ∀ j, j < c → f j = g j := by
  intro j hj
  have h' : (List.range c).map (fun j => D.int (f j)) = (List.range c).map fun j => D.int (g j) := D.tup.inj h
  have := congrArg (·[j]?) h'
  simp only [range_at _ hj] at this
  exact D.int.inj (Option.some.inj this)
theorem dG_inj {r c : Nat} {f g : Nat → Nat → Int} (h : dG r c f = dG r c g) : ∀ i j, i < r → j < c → f i j = g i j := by
  intro i j hi hj
  have h' : (List.range r).map (fun i => dR c (f i)) = (List.range r).map fun i => dR c (g i) := D.lst.inj h
  have := congrArg (·[i]?) h'
  simp only [range_at _ hi] at this
  exact dR_inj (Option.some.inj this) j hj
theorem sumN_ext {n : Nat} {f g : Nat → Int} (h : ∀ k, k < n → f k = g k) : sumN n f = sumN n g := by
  induction n with
  | zero => rfl
  | succ n ih => unfold sumN; rw [ih fun k hk => h k (by omega), h n (by omega)]
theorem sumN_zero {n : Nat} {f : Nat → Int} (h : ∀ k, k < n → f k = 0) : sumN n f = 0 := by
  induction n with
  | zero => rfl
  | succ n ih => unfold sumN; rw [ih fun k hk => h k (by omega), h n (by omega)]; rfl
theorem sumN_add (n : Nat) (f g : Nat → Int) : sumN n (fun k => f k + g k) = sumN n f + sumN n g := by
  induction n with
  | zero => rfl
  | succ n ih =>
    show sumN n _ + (f n + g n) = (sumN n f + f n) + (sumN n g + g n)
    rw [ih]; omega
theorem sumN_mul (n : Nat) (a : Int) (f : Nat → Int) : sumN n (fun k => a * f k) = a * sumN n f := by
  induction n with
  | zero => simp [sumN]
  | succ n ih => unfold sumN; rw [ih, Int.mul_add]
theorem sumN_mul' (n : Nat) (a : Int) (f : Nat → Int) : sumN n (fun k => f k * a) = sumN n f * a := by
  induction n with
  | zero => simp [sumN]
  | succ n ih => unfold sumN; rw [ih, Int.add_mul]
theorem sumN_swap (n m : Nat) (f : Nat → Nat → Int) : sumN n (fun i => sumN m fun j => f i j) = sumN m fun j => sumN n fun i => f i j := by
  induction n with
  | zero => exact (sumN_zero (f := fun j => sumN 0 fun i => f i j) fun _ _ => rfl).symm
  | succ n ih =>
    show sumN n _ + _ = _
    rw [ih, ← sumN_add]
    rfl
theorem mulG_assoc (m n : Nat) (f g h : Nat → Nat → Int) (i j : Nat) : mulG n (mulG m f g) h i j = mulG m f (mulG n g h) i j := by
  unfold mulG
  have e1 : (sumN n fun k => (sumN m fun l => f i l * g l k) * h k j) = sumN n fun k => sumN m fun l => f i l * g l k * h k j := sumN_ext fun k _ => (sumN_mul' m _ _).symm
  have e2 : (sumN m fun l => f i l * sumN n fun k => g l k * h k j) = sumN m fun l => sumN n fun k => f i l * g l k * h k j := sumN_ext fun l _ => by
    rw [← sumN_mul]
    exact sumN_ext fun k _ => (Int.mul_assoc _ _ _).symm
  rw [e1, e2, sumN_swap]
theorem mulG_ext {m : Nat} {f f' g g' : Nat → Nat → Int} {i j : Nat} (h1 : ∀ k, k < m → f i k = f' i k) (h2 : ∀ k, k < m → g k j = g' k j) : mulG m f g i j = mulG m f' g' i j := sumN_ext fun k hk => by rw [h1 k hk, h2 k hk]
def idG : Nat → Nat → Int := fun i j => if i = j then 1 else 0
theorem sumN_pick (n i : Nat) (f : Nat → Int) (h : i < n) : sumN n (fun k => idG i k * f k) = f i := by
  induction n with
  | zero => omega
  | succ n ih =>
    unfold sumN
    by_cases e : i = n
    · subst e
      rw [sumN_zero fun k hk => by unfold idG; rw [if_neg (by omega), Int.zero_mul]]
      show 0 + (if i = i then (1 : Int) else 0) * f i = f i
      rw [if_pos rfl, Int.zero_add, Int.one_mul]
    · rw [ih (by omega)]
      show f i + (if i = n then (1 : Int) else 0) * f n = f i
      rw [if_neg e, Int.zero_mul, Int.add_zero]
theorem id_mul {m : Nat} (f : Nat → Nat → Int) {i : Nat} (j : Nat) (h : i < m) : mulG m idG f i j = f i j := sumN_pick m i (fun k => f k j) h
theorem mul_id {m : Nat} (f : Nat → Nat → Int) (i : Nat) {j : Nat} (h : j < m) : mulG m f idG i j = f i j := by
  unfold mulG
  rw [← sumN_pick m j (fun k => f i k) h]
  exact sumN_ext fun k _ => by
    unfold idG
    rw [Int.mul_comm]
    by_cases e : k = j
    · rw [if_pos e, if_pos e.symm]
    · rw [if_neg e, if_neg (fun h => e h.symm)]
/-! ### bounds -/
def Bd (b r c : Nat) (f : Nat → Nat → Int) : Prop := ∀ i j, i < r → j < c → (f i j).natAbs < 2 ^ b
theorem sumN_bd {b n : Nat} {f : Nat → Int} (h : ∀ k, k < n → (f k).natAbs < 2 ^ b) : (sumN n f).natAbs ≤ n * 2 ^ b := by
  induction n with
  | zero => simp [sumN]
  | succ n ih =>
    have h1 := ih fun k hk => h k (by omega)
    have h2 := h n (by omega)
    unfold sumN
    rw [Nat.succ_mul]
    omega
theorem mul_bd {a b r m c : Nat} {f g : Nat → Nat → Int} (hm : m < 8) (hf : Bd a r m f) (hg : Bd b m c g) : Bd (a + b + 3) r c (mulG m f g) := fun i j hi hj => by
  have h := sumN_bd (b := a + b) (n := m) (f := fun k => f i k * g k j) fun k hk => bits_mul (hf i k hi hk) (hg k j hk hj)
  refine Nat.lt_of_le_of_lt h ?_
  rw [Nat.pow_add 2 (a + b) 3, Nat.mul_comm m]
  exact Nat.mul_lt_mul_of_pos_left (by omega) (Nat.two_pow_pos _)
theorem mulB_of {a b : Nat} {i j : Int} (hi : i.natAbs < 2 ^ a) (hj : j.natAbs < 2 ^ b) (h0 : 0 < a) (h1 : 0 < b) (h : a + b ≤ 1000000) : MulB i j := mul_ok_w hi hj h0 h1 h
/-! ### promises -/
def handB (x : D) (w : Int) : Bool := match x with
  | .tup es => decide ((es.length : Int) = w) && es.all isIntD
  | _ => false
def sp_is_whole : FSp := fun ds S Q _ => ∃ x, ds = [x] ∧ Pln x ∧ Q (.bl (isIntD x)) S
def sp_is_handful : FSp := fun ds S Q _ => ∃ (x : D) (w : Int), ds = [x, .int w] ∧ Pln x ∧ (∀ es, x = .tup es → es.length ≤ 1000000 ∧ ∀ e ∈ es, Pln e) ∧ Q (.bl (handB x w)) S
/-- what may stand as a row -/
def okE (e : D) : Prop := Pln e ∧ ∀ es, e = .tup es → es.length ≤ 1000000 ∧ ∀ e ∈ es, Pln e
def badAt (w : Int) (es : List D) : Option Nat := es.findIdx? fun e => !handB e w
/-- a list that is checked: whether all are handfuls, or the number of the first that is none -/
def ChkL (x : D) (w : Int) (S : Sto) (ok : Prop) (bad : Nat → Prop) : Prop := (∃ es, LV S x es ∧ es.length ≤ 1000000 ∧ (∀ e ∈ es, okE e) ∧ (badAt w es = none → ok) ∧ ∀ k, badAt w es = some k → bad k) ∨ (Pln x ∧ isLstD x = false ∧ bad 0)
def sp_check_list : FSp := fun ds S Q EX => ∃ (x : D) (w : Int), ds = [x, .int w] ∧ ChkL x w S (Q .non S) fun k => EX .NoRow [("at", .int k)] S
def sp_one_of : FSp := fun ds S Q _ => ∃ (n p : Nat), ds = [.int n, .int p] ∧ n ≤ 1000000 ∧ Q (dR n (idG p)) S
def sp_unit : FSp := fun ds S Q _ => ∃ (n : Nat), ds = [.int n] ∧ n ≤ 1000000 ∧ Q (dG n n idG) S
def sp_sum_of : FSp := fun ds S Q _ => ∃ (m c : Nat) (f : Nat → Int) (g : Nat → Nat → Int), (∃ x, (x = dR m f ∨ x = .lst ((List.range m).map fun j => .int (f j))) ∧ ds = [x, dG m c g, .int c]) ∧ m ≤ 1000000 ∧ c ≤ 1000000 ∧ (∀ k j, k < m → j < c → MulB (f k) (g k j)) ∧ Q (dR c fun j => sumN m fun k => f k * g k j) S
def sp_times : FSp := fun ds S Q EX => (∃ (r m c : Nat) (f g : Nat → Nat → Int), ds = [dG r m f, dG m c g, .int c] ∧ r ≤ 1000000 ∧ m ≤ 1000000 ∧ c ≤ 1000000 ∧ (∀ i k j, i < r → k < m → j < c → MulB (f i k) (g k j)) ∧ Q (dG r c (mulG m f g)) S) ∨
  (∃ (x y : D) (w : Int), ds = [x, y, .int w] ∧ ChkL y w S False fun k => EX .NoRow [("at", .int k)] S) ∨
  ∃ (x : D) (m c : Nat) (g : Nat → Nat → Int), ds = [x, dG m c g, .int c] ∧ m ≤ 1000000 ∧ c ≤ 1000000 ∧ ChkL x m S False fun k => EX .NoRow [("at", .int k)] S
def sp_flipped : FSp := fun ds S Q EX => (∃ (r c : Nat) (f : Nat → Nat → Int), ds = [dG r c f, .int c] ∧ r ≤ 1000000 ∧ c ≤ 1000000 ∧ Q (dG c r fun i j => f j i) S) ∨
  ∃ (x : D) (w : Int), ds = [x, .int w] ∧ ChkL x w S False fun k => EX .NoRow [("at", .int k)] S
abbrev sp__law_draw : FSp := spDraw
theorem ln_is_whole : ∀ ds S Q EX, sp_is_whole ds S Q EX → ds.length = 1 := fun ds S Q EX ⟨x, e, _⟩ => by rw [e]; rfl
theorem ln_is_handful : ∀ ds S Q EX, sp_is_handful ds S Q EX → ds.length = 2 := fun ds S Q EX ⟨_, _, e, _⟩ => by rw [e]; rfl
theorem ln_check_list : ∀ ds S Q EX, sp_check_list ds S Q EX → ds.length = 2 := fun ds S Q EX ⟨_, _, e, _⟩ => by rw [e]; rfl
theorem ln_one_of : ∀ ds S Q EX, sp_one_of ds S Q EX → ds.length = 2 := fun ds S Q EX ⟨_, _, e, _⟩ => by rw [e]; rfl
theorem ln_unit : ∀ ds S Q EX, sp_unit ds S Q EX → ds.length = 1 := fun ds S Q EX ⟨_, e, _⟩ => by rw [e]; rfl
theorem ln_sum_of : ∀ ds S Q EX, sp_sum_of ds S Q EX → ds.length = 3 := fun ds S Q EX ⟨_, _, _, _, ⟨_, _, e⟩, _⟩ => by rw [e]; rfl
theorem ln_times : ∀ ds S Q EX, sp_times ds S Q EX → ds.length = 3 := fun ds S Q EX h => by
  rcases h with ⟨_, _, _, _, _, e, _⟩ | ⟨_, _, _, e, _⟩ | ⟨_, _, _, _, e, _⟩ <;> (rw [e]; rfl)
theorem ln_flipped : ∀ ds S Q EX, sp_flipped ds S Q EX → ds.length = 2 := fun ds S Q EX h => by
  rcases h with ⟨_, _, _, e, _⟩ | ⟨_, _, e, _⟩ <;> (rw [e]; rfl)
abbrev ln__law_draw := ln_draw
-- 0 thing
def t_is_whole (EX : EXT) : TSd := (sSeq (sRet (eAn (eCall dIsi (aCons (eVar 0) (aCons (eC (.ty "int")) aNil))) (eNo (eCall dIsi (aCons (eVar 0) (aCons (eC (.ty "bool")) aNil))))))
    sNext)
-- 0 thing, 1 wide, 2 one
def t_is_handful (EX : EXT) : TSd := (sSeq (sRet (eAn (eCall dIsi (aCons (eVar 0) (aCons (eC (.ty "tuple")) aNil))) (eAn (eEq false (eCall dLen (aCons (eVar 0) aNil)) (eVar 1)) (eCall dAll (aCons (eLc (iSq (eVar 0)) [2] (bind1 2) tYs (eFn sp_is_whole E0X [] (aCons (eVar 2) aNil))) aNil)))))
    sNext)
-- 0 things, 1 wide, 2 at, 3 thing
def t_check_list (EX : EXT) : TSd := (sSeq (sIf (tNo (tVal (eCall dIsi (aCons (eVar 0) (aCons (eC (.ty "list")) aNil))))) (sSeq (sRaise .NoRow ["at"] (kX EX) (aCons (eC (.int 0)) aNil))
    sNext) sNext)
    (sSeq (sForX (iEnX (aCons (eVar 0) aNil)) (gTp 2 (gsCons (gNm 2) (gsCons (gNm 3) gsNil))) (sSeq (sIf (tNo (tVal (eFn sp_is_handful (kX EX) [] (aCons (eVar 3) (aCons (eVar 1) aNil))))) (sSeq (sRaise .NoRow ["at"] (kX EX) (aCons (eVar 2) aNil))
    sNext) sNext)
    sNext))
    sNext))
-- 0 parts, 1 grid, 2 wide, 3 found, 4 many, 5 row, 6 one, 7 other
def t_sum_of (EX : EXT) : TSd := (sSeq (sSet 3 (eOp dMul (eLst (aCons (eC (.int 0)) aNil)) (eVar 2)))
    (sSeq (sFor (iZp (aCons (eVar 0) (aCons (eVar 1) aNil))) (gTp 2 (gsCons (gNm 4) (gsCons (gNm 5) gsNil))) (sSeq (sIf (tEq true (eVar 4) (eC (.int 0))) (sSeq (sSet 3 (eLc (iZp (aCons (eVar 3) (aCons (eVar 5) aNil))) [6, 7] (bind2 6 7) tYs (eOp dAdd (eVar 6) (eOp dMul (eVar 4) (eVar 7)))))
    sNext) sNext)
    sNext))
    (sSeq (sRet (eCall dTuple (aCons (eVar 3) aNil)))
    sNext)))
-- 0 one, 1 other, 2 wide, 3 row
def t_times (EX : EXT) : TSd := (sSeq (sEx (eFn sp_check_list (kX EX) [] (aCons (eVar 1) (aCons (eVar 2) aNil))))
    (sSeq (sEx (eFn sp_check_list (kX EX) [] (aCons (eVar 0) (aCons (eCall dLen (aCons (eVar 1) aNil)) aNil))))
    (sSeq (sRet (eLc (iSq (eVar 0)) [3] (bind1 3) tYs (eFn sp_sum_of E0X [] (aCons (eVar 3) (aCons (eVar 1) (aCons (eVar 2) aNil))))))
    sNext)))
-- 0 grid, 1 wide, 2 k, 3 row
def t_flipped (EX : EXT) : TSd := (sSeq (sEx (eFn sp_check_list (kX EX) [] (aCons (eVar 0) (aCons (eVar 1) aNil))))
    (sSeq (sRet (eLc (iR1 (aCons (eVar 1) aNil)) [2] (bind1 2) tYs (eCall dTuple (aCons (eLc (iSq (eVar 0)) [3] (bind1 3) tYs (eOp dIx (eVar 3) (eVar 2))) aNil))))
    sNext))
-- 0 _law_well, 1 _law_many, 2 _law_found, 3 _law_number
def t__law_draw (EX : EXT) : TSd := (sSeq (sIf (tOrd .Gt (eOp dIx (eVar 0) (eC (.int 0))) (eC (.int 0))) (sSeq (sSet 2 (eOp dMod (eOp dIx (eVar 0) (eC (.int 0))) (eVar 1)))
    (sSeq (sAsg (eOp dDiv (eOp dIx (eVar 0) (eC (.int 0))) (eVar 1)) (gIx (eVar 0) (eC (.int 0))))
    (sSeq (sRet (eVar 2))
    sNext))) sNext)
    (sSeq (sAsg (eOp dAdd (eOp dIx (eVar 0) (eC (.int 2))) (eC (.int 1))) (gIx (eVar 0) (eC (.int 2))))
    (sSeq (sSet 3 (eOp dMod (eOp dMul (eOp dAdd (eOp dAdd (eOp dIx (eVar 0) (eC (.int 1))) (eOp dMul (eC (.int 104729)) (eOp dIx (eVar 0) (eC (.int 2))))) (eC (.int 1))) (eC (.int 48271))) (eC (.int 2147483647))))
    (sSeq (sSet 3 (eOp dMod (eOp dMul (eVar 3) (eOp dAdd (eOp dDiv (eVar 3) (eC (.int 1009))) (eC (.int 69621)))) (eC (.int 2147483647))))
    (sSeq (sRet (eOp dMod (eOp dMod (eOp dMul (eVar 3) (eOp dAdd (eOp dDiv (eVar 3) (eC (.int 2003))) (eC (.int 40692)))) (eC (.int 2147483399))) (eVar 1)))
    sNext)))))
-- 0 many, 1 place, 2 k
def t_one_of (EX : EXT) : TSd := (sSeq (sRet (eCall dTuple (aCons (eLc (iR1 (aCons (eVar 0) aNil)) [2] (bind1 2) tYs (eCall dInt (aCons (eEq false (eVar 2) (eVar 1)) aNil))) aNil)))
    sNext)
-- 0 many, 1 k
def t_unit (EX : EXT) : TSd := (sSeq (sRet (eLc (iR1 (aCons (eVar 0) aNil)) [1] (bind1 1) tYs (eFn sp_one_of E0X [] (aCons (eVar 0) (aCons (eVar 1) aNil)))))
    sNext)
theorem atI_nat {α : Type} {xs : List α} {k : Nat} {x : α} (h : xs[k]? = some x) : atI xs (k : Int) = some x := by
  have hk : k < xs.length := (List.getElem?_eq_some_iff.mp h).1
  unfold atI ixN
  rw [if_pos (by omega), if_pos (by omega)]
  simpa using h
/-! ### the promises are kept -/
local macro_rules | `(tactic| walk_at "ev") => `(tactic| dsimp only [sSeq, sRet, sIf, sSet, sFor, sNext, sEx, eAn, eOo, eNo, eCall, eFn, aCons, aNil, eVar, rd, eC, eOp, eUn, eEq, eOrd, tEq, tOrd, tVal, tNo, tAn, tOo, eTup, eLst, iR1, iR2, iSq, sForX, iSqX, iEnX, iZpX, one_eq, List.getElem?_cons_zero, List.getElem?_cons_succ, List.append_nil])
theorem rd_of {G : DL.Loc} {i : Nat} {d : D} {P : D → Prop} (e : G[i]? = some (some d)) (q : P d) : rd G i P := by
  unfold rd
  rw [e]
  exact q
abbrev endS (Q : QD) : DE := { nx := fun _ S' => Q .non S', rt := Q }
theorem whole_core {x : D} {S : Sto} {Q : QD} {EX : EXT} (hx : Pln x) (q : Q (.bl (isIntD x)) S) : t_is_whole EX (endS Q) [some x] S := by
  unfold t_is_whole
  walk_at "ev"
  refine isi_int hx ?_
  refine ⟨fun h => ?_, fun h => ?_⟩
  · refine (isi_bool hx ?_ : dIsi [x, .ty "bool"] S fun y S1 => dTru y S1 fun k S2 => Q (.bl (!k)) S2)
    show Q (.bl (!isBlD x)) S
    cases x <;> first | exact q | (cases h; done)
  · cases x <;> first | exact q | (cases h; done)
theorem pure_is_whole {ds : List D} {S : Sto} {Q : QD} {EX : EXT} (h : sp_is_whole ds S Q EX) : t_is_whole EX (endS Q) (startG ["thing"] ds) S := by
  obtain ⟨x, rfl, hx, q⟩ := h
  exact whole_core hx q
theorem pure_is_handful {ds : List D} {S : Sto} {Q : QD} {EX : EXT} (h : sp_is_handful ds S Q EX) : t_is_handful EX (endS Q) (startG ["thing", "wide", "one"] ds) S := by
  obtain ⟨x, w, rfl, hx, he, q⟩ := h
  show t_is_handful EX (endS Q) [some x, some (.int w), none] S
  unfold t_is_handful
  walk_at "ev"
  refine isi_tuple hx ?_
  refine ⟨fun h => ?_, fun h => ?_⟩
  · cases x <;> first | (cases h; done) | skip
    case tup es =>
      obtain ⟨hz, hp⟩ := he es rfl
      refine ⟨fun h2 => ?_, fun h2 => ?_⟩
      · have h2' : (es.length : Int) = w := of_decide_eq_true h2
        have lc : LcIn [some (D.tup es), some (.int w), none] [2] (bind1 2) tYs (eFn sp_is_whole E0X [] (aCons (eVar 2) aNil)) es S fun x S1 => dAll [x] S1 Q := by
          refine lc_map (fun i => D.bl (isIntD (es.getD i .non))) hz (fun i d e => ?_) (Or.inl ?_)
          · refine ⟨[some (D.tup es), some (.int w), some d], fun P h => h, fun p acc K hK => ⟨d, rfl, hp d (List.mem_of_getElem? e), ?_⟩⟩
            rw [List.getD_eq_getElem?_getD, e] at hK
            exact hK
          · refine ⟨(List.range es.length).map fun i => isIntD (es.getD i .non), by rw [List.map_map]; rfl, ?_⟩
            have e1 : ((List.range es.length).map fun i => isIntD (es.getD i .non)) = es.map isIntD := by
              refine List.ext_getElem? fun i => ?_
              rw [List.getElem?_map, List.getElem?_map]
              by_cases hi : i < es.length
              · rw [List.getElem?_range hi, List.getElem?_eq_getElem hi, Option.map_some, Option.map_some, List.getD_eq_getElem?_getD, List.getElem?_eq_getElem hi]
                rfl
              · rw [List.getElem?_eq_none (by simp; omega), List.getElem?_eq_none (by omega)]
                rfl
            rw [e1, List.all_map]
            have e2 : handB (.tup es) w = es.all (id ∘ isIntD) := by
              show (decide ((es.length : Int) = w) && es.all isIntD) = _
              rw [decide_eq_true h2']
              rfl
            rw [← e2]
            exact q
        exact lc
      · have h2' : ¬ (es.length : Int) = w := of_decide_eq_false h2
        have e2 : handB (.tup es) w = false := by
          show (decide ((es.length : Int) = w) && es.all isIntD) = _
          rw [decide_eq_false h2']
          rfl
        rw [e2] at q
        exact q
  · cases x <;> first | exact q | (cases h; done)
theorem hand_pln {e : D} {w : Int} (hw : w ≤ 1000000) (h : handB e w = true) : Pln e ∧ ∀ es, e = .tup es → es.length ≤ 1000000 ∧ ∀ e ∈ es, Pln e := by
  cases e <;> first | (cases h; done) | skip
  case tup es =>
    have h' : (decide ((es.length : Int) = w) && es.all isIntD) = true := h
    rw [Bool.and_eq_true, decide_eq_true_eq, List.all_eq_true] at h'
    refine ⟨⟨_, rfl⟩, fun es' e => ?_⟩
    cases e
    refine ⟨by omega, fun e he => ?_⟩
    have := h'.2 e he
    cases e <;> first | (cases this; done) | exact ⟨_, rfl⟩
theorem hand_ok {e : D} {w : Int} (hw : w ≤ 1000000) (h : handB e w = true) : okE e := hand_pln hw h
theorem badAt_none {w : Int} {es : List D} : badAt w es = none ↔ ∀ e ∈ es, handB e w = true := by
  unfold badAt
  rw [List.findIdx?_eq_none_iff]
  exact ⟨fun h e he => by simpa using h e he, fun h e he => by simpa using h e he⟩
theorem badAt_some {w : Int} {es : List D} {k : Nat} (h : badAt w es = some k) : ∃ hk : k < es.length, handB es[k] w = false ∧ ∀ j (hj : j < k), handB (es[j]'(by omega)) w = true := by
  unfold badAt at h
  obtain ⟨hk, h1, h2⟩ := List.findIdx?_eq_some_iff_getElem.mp h
  exact ⟨hk, by simpa using h1, fun j hj => by simpa using h2 j hj⟩
theorem badAt_first {w : Int} {es : List D} {k : Nat} (hk : k < es.length) (h1 : handB es[k] w = false) (h2 : ∀ j (hj : j < k), handB (es[j]'(by omega)) w = true) : badAt w es = some k := by
  unfold badAt
  exact List.findIdx?_eq_some_iff_getElem.mpr ⟨hk, by simpa using h1, fun j hj => by simpa using h2 j hj⟩
theorem pure_check_list {ds : List D} {S : Sto} {Q : QD} {EX : EXT} (h : sp_check_list ds S Q EX) : t_check_list EX (endS Q) (startG ["things", "wide", "at", "thing"] ds) S := by
  obtain ⟨x, w, rfl, ⟨es, hx, hz, he, q, qb⟩ | ⟨hx, nl, qb⟩⟩ := h
  · show t_check_list EX (endS Q) [some x, some (.int w), none, none] S
    unfold t_check_list
    walk_at "ev"
    refine hx.isi ?_
    refine ⟨fun h => (by cases h), fun _ => ?_⟩
    refine hx.itl fun P hP => ?_
    refine ⟨fun i G S' => S' = S ∧ (∀ j (hj : j < i) (hl : j < es.length), handB es[j] w = true) ∧ ∃ a b, G = [some x, some (.int w), a, b], ⟨rfl, fun j hj => absurd hj (by omega), none, none, rfl⟩, fun _ _ _ ⟨e, _⟩ => by rw [e]; exact hP _ hx, ?_, ?_⟩
    · rintro i d G S' e ⟨rfl, ha, a, b, rfl⟩
      have hi : i < es.length := by
        have := (List.getElem?_eq_some_iff.mp e).1
        rw [enum_len] at this
        exact this
      rw [enum_get (List.getElem?_eq_getElem hi)] at e
      cases e
      obtain ⟨p1, p2⟩ := he _ (List.getElem_mem hi)
      refine ⟨es[i], w, rfl, p1, p2, ?_⟩
      cases hh : handB es[i] w with
      | true =>
        refine ⟨fun h => (by cases h), fun _ => ⟨rfl, fun j hj hl => ?_, _, _, rfl⟩⟩
        by_cases e : j = i
        · subst e
          exact hh
        · exact ha j (by omega) hl
      | false => exact ⟨fun _ => qb i (badAt_first hi hh fun j hj => ha j hj (by omega)), fun h => (by cases h)⟩
    · rintro G S' ⟨rfl, ha, a, b, rfl⟩
      rw [enum_len] at ha
      refine q (badAt_none.mpr fun e he => ?_)
      obtain ⟨j, hj, rfl⟩ := List.getElem_of_mem he
      exact ha j hj hj
  · show t_check_list EX (endS Q) [some x, some (.int w), none, none] S
    unfold t_check_list
    walk_at "ev"
    refine isi_list hx ?_
    rw [nl]
    exact ⟨fun _ => qb, fun h => (by cases h)⟩
theorem pure_one_of {ds : List D} {S : Sto} {Q : QD} {EX : EXT} (h : sp_one_of ds S Q EX) : t_one_of EX (endS Q) (startG ["many", "place", "k"] ds) S := by
  obtain ⟨n, p, rfl, hn, q⟩ := h
  refine ⟨⟨by omega, by omega⟩, ?_⟩
  have lc : LcIn [some (D.int n), some (.int p), none] [2] (bind1 2) tYs (eCall dInt (aCons (eEq false (eVar 2) (eVar 1)) aNil)) (span 0 n) S fun x S1 => dTuple [x] S1 Q := by
    refine lc_map (fun i => D.int (idG p i)) (by rw [span_len]; exact hn) (fun i d e => ?_) (Or.inl ?_)
    · rw [span_map] at e
      obtain ⟨hi, rfl⟩ := range_get e
      refine ⟨[some (D.int n), some (.int p), some (.int i)], fun P h => h, fun a acc K hK => ?_⟩
      show K (.int (if decide ((i : Int) = (p : Int)) then 1 else 0)) _
      have : (if decide ((i : Int) = (p : Int)) then (1 : Int) else 0) = idG p i := by
        unfold idG
        by_cases h : p = i
        · subst h; simp
        · have : ¬ (i : Int) = (p : Int) := by omega
          simp [h, this]
      rw [this]
      exact hK
    · rw [span_len]
      exact q
  exact lc
theorem pure_unit {ds : List D} {S : Sto} {Q : QD} {EX : EXT} (h : sp_unit ds S Q EX) : t_unit EX (endS Q) (startG ["many", "k"] ds) S := by
  obtain ⟨n, rfl, hn, q⟩ := h
  refine ⟨⟨by omega, by omega⟩, ?_⟩
  have lc : LcIn [some (D.int n), none] [1] (bind1 1) tYs (eFn sp_one_of E0X [] (aCons (eVar 0) (aCons (eVar 1) aNil))) (span 0 n) S Q := by
    refine lc_map (fun i => dR n (idG i)) (by rw [span_len]; exact hn) (fun i d e => ?_) (Or.inl ?_)
    · rw [span_map] at e
      obtain ⟨hi, rfl⟩ := range_get e
      exact ⟨[some (D.int n), some (.int i)], fun P h => h, fun a acc K hK => ⟨n, i, rfl, hn, hK⟩⟩
    · rw [span_len]
      exact q
  exact lc
theorem pure_sum_of {ds : List D} {S : Sto} {Q : QD} {EX : EXT} (h : sp_sum_of ds S Q EX) : t_sum_of EX (endS Q) (startG ["parts", "grid", "wide", "found", "many", "row", "one", "other"] ds) S := by
  obtain ⟨m, c, f, g, ⟨x, hx, rfl⟩, hm, hc, hB, q⟩ := h
  have it : ∀ P : List D → Prop, P ((List.range m).map fun j => .int (f j)) → itD x P := fun P h => by
    rcases hx with rfl | rfl <;> exact h
  refine Or.inl ⟨by omega, by omega, ?_, Or.inl ?_⟩
  · show 1 * c ≤ sizeLine
    have : sizeLine = 16777216 := rfl
    omega
  refine it _ ?_
  have e0 : (List.replicate (c : Int).toNat [D.int 0]).flatten = (List.range c).map fun j => D.int (sumN 0 fun k => f k * g k j) := rep_range c _
  have ez : zipD ((List.range m).map fun j => D.int (f j)) ((List.range m).map fun i => dR c (g i)) = (List.range m).map fun k => D.tup [.int (f k), dR c (g k)] := zip_range m _ _
  refine ⟨fun i G S' => S' = S ∧ ∃ a b, G = [some x, some (dG m c g), some (.int c), some (.lst ((List.range c).map fun j => D.int (sumN i fun k => f k * g k j))), a, b, none, none], ⟨rfl, none, none, by rw [e0]; rfl⟩, ?_, ?_⟩
  · rintro i d G S' e ⟨rfl, a, b, rfl⟩
    rw [ez] at e
    obtain ⟨hi, rfl⟩ := range_get e
    refine ⟨fun h => ?_, fun h => ?_⟩
    · have ez2 : zipD ((List.range c).map fun j => D.int (sumN i fun k => f k * g k j)) ((List.range c).map fun j => D.int (g i j)) = (List.range c).map fun j => D.tup [.int (sumN i fun k => f k * g k j), .int (g i j)] := zip_range c _ _
      have lc : LcIn [some x, some (dG m c g), some (.int c), some (.lst ((List.range c).map fun j => D.int (sumN i fun k => f k * g k j))), some (.int (f i)), some (dR c (g i)), none, none] [6, 7] (bind2 6 7) tYs (eOp dAdd (eVar 6) (eOp dMul (eVar 4) (eVar 7)))
          (zipD ((List.range c).map fun j => D.int (sumN i fun k => f k * g k j)) ((List.range c).map fun j => D.int (g i j))) S' fun d S1 => inG [some x, some (dG m c g), some (.int c), some (.lst ((List.range c).map fun j => D.int (sumN i fun k => f k * g k j))), some (.int (f i)), some (dR c (g i)), none, none] 3
            (S1 = S' ∧ ∃ a b, [some x, some (dG m c g), some (.int c), some d, some (.int (f i)), some (dR c (g i)), none, none] = [some x, some (dG m c g), some (.int c), some (.lst ((List.range c).map fun j => D.int (sumN (i + 1) fun k => f k * g k j))), a, b, none, none]) := by
        rw [ez2]
        refine lc_map (fun j => D.int (sumN (i + 1) fun k => f k * g k j)) (by rw [rng_len]; exact hc) (fun j d e => ?_) (Or.inl ?_)
        · obtain ⟨hj, rfl⟩ := range_get e
          exact ⟨[some x, some (dG m c g), some (.int c), some (.lst ((List.range c).map fun j => D.int (sumN i fun k => f k * g k j))), some (.int (f i)), some (dR c (g i)), some (.int (sumN i fun k => f k * g k j)), some (.int (g i j))], fun P h => h, fun p acc K hK => ⟨hB i j hi hj, hK⟩⟩
        · rw [rng_len]
          exact ⟨rfl, _, _, rfl⟩
      exact lc
    · have hf : f i = 0 := by simpa using h
      refine ⟨rfl, some (.int (f i)), some (dR c (g i)), ?_⟩
      have : (fun j => D.int (sumN (i + 1) fun k => f k * g k j)) = fun j => D.int (sumN i fun k => f k * g k j) := by
        funext j
        show D.int (sumN i _ + f i * g i j) = _
        rw [hf, Int.zero_mul, Int.add_zero]
      rw [this]
      rfl
  · rintro G S' ⟨rfl, a, b, rfl⟩
    rw [ez, rng_len]
    exact q
theorem handR (c : Nat) (f : Nat → Int) : handB (dR c f) c = true := by
  show (decide ((((List.range c).map fun j => D.int (f j)).length : Int) = c) && ((List.range c).map fun j => D.int (f j)).all isIntD) = true
  rw [rng_len, Bool.and_eq_true, List.all_eq_true]
  refine ⟨by simp, fun x hx => ?_⟩
  obtain ⟨j, _, rfl⟩ := List.mem_map.mp hx
  rfl
theorem check_okL {r c : Nat} {f : Nat → Nat → Int} {x : D} {S : Sto} {Q : QD} {EX : EXT} (hx : LV S x ((List.range r).map fun i => dR c (f i))) (hr : r ≤ 1000000) (hc : c ≤ 1000000) (q : Q .non S) : sp_check_list [x, .int c] S Q EX := by
  have all : ∀ e ∈ ((List.range r).map fun i => dR c (f i)), handB e c = true := fun e he => by
    obtain ⟨i, _, rfl⟩ := List.mem_map.mp he
    exact handR c _
  refine ⟨x, c, rfl, .inl ⟨_, hx, by rw [rng_len]; exact hr, fun e he => hand_ok (by omega) (all e he), fun _ => q, fun k hk => ?_⟩⟩
  rw [badAt_none.mpr all] at hk
  cases hk
theorem ChkL.bad {x : D} {w : Int} {S : Sto} {Q : QD} {EX : EXT} (h : ChkL x w S False fun k => EX .NoRow [("at", .int k)] S) : sp_check_list [x, .int w] S Q EX := by
  rcases h with ⟨es, h1, h2, h3, h4, h5⟩ | h
  · exact ⟨x, w, rfl, .inl ⟨es, h1, h2, h3, fun z => (h4 z).elim, h5⟩⟩
  · exact ⟨x, w, rfl, .inr h⟩
theorem check_ok {r c : Nat} {f : Nat → Nat → Int} {S : Sto} {Q : QD} {EX : EXT} (hr : r ≤ 1000000) (hc : c ≤ 1000000) (q : Q .non S) : sp_check_list [dG r c f, .int c] S Q EX := by
  exact check_okL (.lst _) hr hc q
theorem len_G {r c : Nat} {f : Nat → Nat → Int} {S : Sto} {Q : QD} (q : Q (.int r) S) : dLen [dG r c f] S Q := by
  have : Q (.int ((List.range r).map fun i => dR c (f i)).length) S := by rw [rng_len]; exact q
  exact this
theorem len_R {c : Nat} {f : Nat → Int} {S : Sto} {Q : QD} (q : Q (.int c) S) : dLen [dR c f] S Q := by
  have : Q (.int ((List.range c).map fun j => D.int (f j)).length) S := by rw [rng_len]; exact q
  exact this
theorem pure_times {ds : List D} {S : Sto} {Q : QD} {EX : EXT} (h : sp_times ds S Q EX) : t_times EX (endS Q) (startG ["one", "other", "wide", "row"] ds) S := by
  rcases h with ⟨r, m, c, f, g, rfl, hr, hm, hc, hB, q⟩ | ⟨x, y, w, rfl, hb⟩ | ⟨x, m, c, g, rfl, hm, hc, hb⟩
  rotate_left
  · show t_times EX (endS Q) [some x, some y, some (.int w), none] S
    unfold t_times
    walk_at "ev"
    exact hb.bad
  · show t_times EX (endS Q) [some x, some (dG m c g), some (.int c), none] S
    unfold t_times
    walk_at "ev"
    refine check_ok hm hc ?_
    refine len_G ?_
    exact hb.bad
  show t_times EX (endS Q) [some (dG r m f), some (dG m c g), some (.int c), none] S
  unfold t_times
  walk_at "ev"
  refine check_ok hm hc ?_
  refine len_G ?_
  refine check_ok hr hm ?_
  have lc : LcIn [some (dG r m f), some (dG m c g), some (.int c), none] [3] (bind1 3) tYs (eFn sp_sum_of E0X [] (aCons (eVar 3) (aCons (eVar 1) (aCons (eVar 2) aNil)))) ((List.range r).map fun i => dR m (f i)) S Q := by
    refine lc_map (fun i => dR c (mulG m f g i)) (by rw [rng_len]; exact hr) (fun i d e => ?_) (Or.inl ?_)
    · obtain ⟨hi, rfl⟩ := range_get e
      exact ⟨[some (dG r m f), some (dG m c g), some (.int c), some (dR m (f i))], fun P h => h, fun a acc K hK => ⟨m, c, f i, g, ⟨_, .inl rfl, rfl⟩, hm, hc, fun k j hk hj => hB i k j hi hk hj, hK⟩⟩
    · rw [rng_len]
      exact q
  exact lc
theorem pure_flipped {ds : List D} {S : Sto} {Q : QD} {EX : EXT} (h : sp_flipped ds S Q EX) : t_flipped EX (endS Q) (startG ["grid", "wide", "k", "row"] ds) S := by
  rcases h with ⟨r, c, f, rfl, hr, hc, q⟩ | ⟨x, w, rfl, hb⟩
  rotate_left
  · show t_flipped EX (endS Q) [some x, some (.int w), none, none] S
    unfold t_flipped
    walk_at "ev"
    exact hb.bad
  show t_flipped EX (endS Q) [some (dG r c f), some (.int c), none, none] S
  unfold t_flipped
  walk_at "ev"
  refine check_ok hr hc ?_
  refine ⟨⟨by omega, by omega⟩, ?_⟩
  have lc : LcIn [some (dG r c f), some (.int c), none, none] [2] (bind1 2) tYs (eCall dTuple (aCons (eLc (iSq (eVar 0)) [3] (bind1 3) tYs (eOp dIx (eVar 3) (eVar 2))) aNil)) (span 0 c) S Q := by
    refine lc_map (fun k => dR r fun i => f i k) (by rw [span_len]; exact hc) (fun k d e => ?_) (Or.inl ?_)
    · rw [span_map] at e
      obtain ⟨hk, rfl⟩ := range_get e
      refine ⟨[some (dG r c f), some (.int c), some (.int k), none], fun P h => h, fun a acc K hK => ?_⟩
      have lc2 : LcIn [some (dG r c f), some (.int c), some (.int k), none] [3] (bind1 3) tYs (eOp dIx (eVar 3) (eVar 2)) ((List.range r).map fun i => dR c (f i)) ((a, Cel.lst acc) :: S) fun x S1 => dTuple [x] S1 K := by
        refine lc_map (fun i => D.int (f i k)) (by rw [rng_len]; exact hr) (fun i d e => ?_) (Or.inl ?_)
        · obtain ⟨hi, rfl⟩ := range_get e
          refine ⟨[some (dG r c f), some (.int c), some (.int k), some (dR c (f i))], fun P h => h, fun a acc K hK => ⟨.int (f i k), ?_, hK⟩⟩
          exact atI_nat (range_at (fun j => D.int (f i j)) hk)
        · rw [rng_len]
          exact hK
      exact lc2
    · rw [span_len]
      exact q
  exact lc
theorem draw_core {S : Sto} {Q : QD} {EX : EXT} {w : Addr} {k : Nat} {many : Int} (hw : Wl S k w) (m0 : 0 < many) (m1 : many < 2 ^ 64) (q : ∀ (v : Int) (S' : Sto), 0 ≤ v → v < many → Wst S S' k w → Q (.int v) S') :
    t__law_draw EX (endS Q) [some (.ref w), some (.int many), none, none] S := by
  obtain ⟨a, b, c, hw⟩ := hw
  have hk : k < S.length := (List.getElem?_eq_some_iff.mp hw).1
  have p1 : ∀ z : Int, (2 : Int) ^ 64 > 0 := fun _ => by decide
  refine ⟨k, _, hw, .int a, rfl, fun h => ?_, fun h => ?_⟩
  · have ha : 0 < a := of_decide_eq_true h
    refine ⟨k, _, hw, .int a, rfl, Int.ne_of_gt m0, ?_⟩
    refine ⟨k, _, hw, .int a, rfl, div_ok m0 m1, ?_⟩
    refine ⟨w, k, _, 0, 0, rfl, rfl, hw, rfl, ?_⟩
    have f := fmod_pos (a := a) m0
    exact q _ _ f.1 f.2 ⟨a / many, b, c, rfl⟩
  · refine ⟨k, _, hw, .int c, rfl, ?_⟩
    refine ⟨w, k, _, 2, 2, rfl, rfl, hw, rfl, ?_⟩
    have hw2 : (S.set k (w, Cel.lst [.int a, .int b, .int (c + 1)]))[k]? = some (w, Cel.lst [.int a, .int b, .int (c + 1)]) := List.getElem?_set_self hk
    refine ⟨k, _, hw2, .int b, rfl, k, _, hw2, .int (c + 1), rfl, mul_ok_l (by decide), mul_ok_r (by decide), by decide, ?_⟩
    generalize (b + 104729 * (c + 1) + 1) * 48271 = z
    have f1 := fmod_pos (a := z) (b := 2147483647) (by decide)
    generalize z.fmod 2147483647 = y at f1
    refine ⟨div_ok (by decide) (by decide), mul_ok_l (by omega), by decide, ?_⟩
    generalize y * (y / 1009 + 69621) = z2
    have f2 := fmod_pos (a := z2) (b := 2147483647) (by decide)
    generalize z2.fmod 2147483647 = y2 at f2
    refine ⟨div_ok (by decide) (by decide), mul_ok_l (by omega), by decide, Int.ne_of_gt m0, ?_⟩
    generalize (y2 * (y2 / 2003 + 40692)).fmod 2147483399 = z3
    have f := fmod_pos (a := z3) m0
    exact q _ _ f.1 f.2 ⟨a, b, c + 1, rfl⟩
theorem pure__law_draw {ds : List D} {S : Sto} {Q : QD} {EX : EXT} (h : sp__law_draw ds S Q EX) : t__law_draw EX (endS Q) (startG ["_law_well", "_law_many", "_law_found", "_law_number_here"] ds) S := by
  obtain ⟨w, k, many, rfl, hw, m0, m1, q⟩ := h
  exact draw_core hw m0 m1 q
theorem enum_at {ds : List D} {i : Nat} {d : D} (h : (enumD ds)[i]? = some d) : ∃ x, ds[i]? = some x ∧ d = .tup [.int (i : Int), x] := by
  have hi : i < ds.length := by
    have := (List.getElem?_eq_some_iff.mp h).1
    rw [enum_len] at this
    exact this
  refine ⟨ds[i], List.getElem?_eq_getElem hi, ?_⟩
  rw [enum_get (List.getElem?_eq_getElem hi)] at h
  exact (Option.some.inj h).symm
theorem cut_ints (ns : List Int) (lo hi : Option Int) : ∃ ms : List Int, DL.cutD (ns.map D.int) lo hi = ms.map D.int := by
  unfold DL.cutD
  rw [← List.map_drop, ← List.map_take]
  exact ⟨_, rfl⟩
theorem cut_len (ds : List D) (lo hi : Option Int) : (DL.cutD ds lo hi).length ≤ ds.length := by
  unfold DL.cutD
  rw [List.length_take, List.length_drop]
  omega
end LK
end

section
set_option autoImplicit false
set_option maxRecDepth 100000
set_option maxHeartbeats 4000000
namespace LK
/-! ### determinants by the first row -/
abbrev Mx := Nat → Nat → Int
def sg (j : Nat) : Int := 1 - 2 * ((j % 2 : Nat) : Int)
def cut (j k : Nat) : Nat := if k < j then k else k + 1
def unc (j b : Nat) : Nat := if b < j then b else b - 1
def mnr (M : Mx) (j : Nat) : Mx := fun i k => M (i + 1) (cut j k)
def det : Nat → Mx → Int
  | 0, _ => 1
  | n + 1, M => sumN (n + 1) fun j => sg j * M 0 j * det n (mnr M j)
def upR (A : Mx) (i : Nat) (v : Nat → Int) : Mx := fun a b => if a = i then v b else A a b
theorem sg_succ (j : Nat) : sg (j + 1) = - sg j := by
  unfold sg
  have : (j + 1) % 2 = 1 - j % 2 := by omega
  have h2 : j % 2 < 2 := Nat.mod_lt _ (by decide)
  rw [this]
  omega
theorem sg_sq (j : Nat) : sg j * sg j = 1 := by
  have h2 : j % 2 = 0 ∨ j % 2 = 1 := by omega
  unfold sg
  rcases h2 with h | h <;> rw [h] <;> decide
theorem cut_lt {n j k : Nat} (hk : k < n) : cut j k < n + 1 := by unfold cut; split <;> omega
theorem cut_ne (j k : Nat) : cut j k ≠ j := by unfold cut; split <;> omega
theorem cut_unc {j b : Nat} (h : b ≠ j) : cut j (unc j b) = b := by unfold cut unc; grind
theorem unc_cut (j k : Nat) : unc j (cut j k) = k := by unfold cut unc; grind
theorem unc_lt {n j b : Nat} (hj : j < n + 1) (hb : b < n + 1) (h : b ≠ j) : unc j b < n := by unfold unc; split <;> omega
theorem sumN_neg (n : Nat) (f : Nat → Int) : sumN n (fun k => - f k) = - sumN n f := by
  induction n with
  | zero => rfl
  | succ n ih => show sumN n _ + - f n = - (sumN n f + f n); rw [ih]; omega
theorem sumN_one {n c : Nat} {f : Nat → Int} (hc : c < n) (h : ∀ j, j < n → j ≠ c → f j = 0) : sumN n f = f c := by
  induction n with
  | zero => omega
  | succ n ih =>
    show sumN n f + f n = f c
    by_cases e : c = n
    · subst e; rw [sumN_zero fun k hk => h k (by omega) (by omega)]; omega
    · rw [ih (by omega) fun j hj => h j (by omega), h n (by omega) (fun z => e z.symm)]; omega
theorem sumN_two {n c : Nat} {f : Nat → Int} (hc : c + 1 < n) (h : ∀ j, j < n → j ≠ c → j ≠ c + 1 → f j = 0) (h0 : f c + f (c + 1) = 0) : sumN n f = 0 := by
  have e : sumN n f = sumN n (fun j => (if j = c then f j else 0) + (if j = c + 1 then f j else 0)) := sumN_ext fun j hj => by
    by_cases e1 : j = c
    · subst e1; rw [if_pos rfl, if_neg (by omega)]; omega
    · by_cases e2 : j = c + 1
      · subst e2; rw [if_neg e1, if_pos rfl]; omega
      · rw [if_neg e1, if_neg e2, h j hj e1 e2]; rfl
  rw [e, sumN_add, sumN_one (c := c) (by omega) fun j _ hj => if_neg hj, sumN_one (c := c + 1) (by omega) fun j _ hj => if_neg hj, if_pos rfl, if_pos rfl]
  exact h0
/-- a sum with one place left out -/
theorem sumN_cut {n j : Nat} (hj : j < n + 1) (f : Nat → Int) : sumN n (fun k => f (cut j k)) = sumN (n + 1) fun b => if b = j then 0 else f b := by
  induction n generalizing j with
  | zero => have : j = 0 := by omega
            subst this; rfl
  | succ n ih =>
    show sumN n _ + f (cut j n) = sumN (n + 1) _ + (if n + 1 = j then 0 else f (n + 1))
    by_cases e : n + 1 = j
    · subst e
      rw [if_pos rfl, Int.add_zero]
      have : (fun k => f (cut (n + 1) k)) = fun k => f (cut (n + 1) k) := rfl
      show sumN n (fun k => f (cut (n + 1) k)) + f (cut (n + 1) n) = sumN n _ + _
      have c1 : ∀ k, k < n + 1 → cut (n + 1) k = k := fun k hk => by unfold cut; rw [if_pos hk]
      rw [c1 n (by omega)]
      show _ = sumN n (fun b => if b = n + 1 then 0 else f b) + (if n = n + 1 then 0 else f n)
      rw [if_neg (by omega)]
      congr 1
      exact sumN_ext fun k hk => by rw [c1 k (by omega), if_neg (by omega)]
    · rw [if_neg e, ih (by omega)]
      have : cut j n = n + 1 := by unfold cut; rw [if_neg (by omega)]
      rw [this]
theorem det_ext : ∀ {n : Nat} {A B : Mx}, (∀ i j, i < n → j < n → A i j = B i j) → det n A = det n B
  | 0, _, _, _ => rfl
  | n + 1, A, B, h => sumN_ext fun j hj => by
    rw [h 0 j (by omega) hj, det_ext (A := mnr A j) (B := mnr B j) fun i k hi hk => h (i + 1) (cut j k) (by omega) (cut_lt hk)]
structure Alt (n w : Nat) (f : Mx → Int) : Prop where
  ext : ∀ A B : Mx, (∀ i j, i < n → j < w → A i j = B i j) → f A = f B
  add : ∀ (A : Mx) (i : Nat) (u v : Nat → Int), i < n → f (upR A i fun b => u b + v b) = f (upR A i u) + f (upR A i v)
  mul : ∀ (A : Mx) (i : Nat) (c : Int) (u : Nat → Int), i < n → f (upR A i fun b => c * u b) = c * f (upR A i u)
  adj : ∀ (A : Mx) (i : Nat), i + 1 < n → (∀ j, j < w → A i j = A (i + 1) j) → f A = 0
theorem mnr_up0 (A : Mx) (v : Nat → Int) (j : Nat) : mnr (upR A 0 v) j = mnr A j := by
  funext i k
  show (if i + 1 = 0 then v (cut j k) else A (i + 1) (cut j k)) = A (i + 1) (cut j k)
  rw [if_neg (by omega)]
theorem mnr_up (A : Mx) (i : Nat) (v : Nat → Int) (j : Nat) : mnr (upR A (i + 1) v) j = upR (mnr A j) i fun k => v (cut j k) := by
  funext a k
  show (if a + 1 = i + 1 then v (cut j k) else A (a + 1) (cut j k)) = if a = i then v (cut j k) else A (a + 1) (cut j k)
  by_cases e : a = i
  · rw [if_pos e, if_pos (by omega)]
  · rw [if_neg e, if_neg (by omega)]
theorem upR_same (A : Mx) (i : Nat) (v : Nat → Int) (b : Nat) : upR A i v i b = v b := if_pos rfl
theorem upR_ne {A : Mx} {i a : Nat} (h : a ≠ i) (v : Nat → Int) (b : Nat) : upR A i v a b = A a b := if_neg h
theorem det_add : ∀ (n : Nat) (A : Mx) (i : Nat) (u v : Nat → Int), i < n → det n (upR A i fun b => u b + v b) = det n (upR A i u) + det n (upR A i v)
  | n + 1, A, 0, u, v, _ => by
    show sumN _ _ = sumN _ _ + sumN _ _
    rw [← sumN_add]
    refine sumN_ext fun j _ => ?_
    rw [mnr_up0, mnr_up0, mnr_up0, upR_same, upR_same, upR_same, Int.mul_add, Int.add_mul]
  | n + 1, A, i + 1, u, v, h => by
    show sumN _ _ = sumN _ _ + sumN _ _
    rw [← sumN_add]
    refine sumN_ext fun j _ => ?_
    rw [mnr_up, mnr_up, mnr_up, upR_ne (by omega), upR_ne (by omega), upR_ne (by omega), det_add n _ i (fun k => u (cut j k)) (fun k => v (cut j k)) (by omega), Int.mul_add]
theorem det_smul : ∀ (n : Nat) (A : Mx) (i : Nat) (c : Int) (u : Nat → Int), i < n → det n (upR A i fun b => c * u b) = c * det n (upR A i u)
  | n + 1, A, 0, c, u, _ => by
    show sumN _ _ = c * sumN _ _
    rw [← sumN_mul]
    refine sumN_ext fun j _ => ?_
    rw [mnr_up0, mnr_up0, upR_same, upR_same]
    grind
  | n + 1, A, i + 1, c, u, h => by
    show sumN _ _ = c * sumN _ _
    rw [← sumN_mul]
    refine sumN_ext fun j _ => ?_
    rw [mnr_up, mnr_up, upR_ne (by omega), upR_ne (by omega), det_smul n _ i c (fun k => u (cut j k)) (by omega)]
    grind
theorem anti_sum (n : Nat) (F : Nat → Nat → Int) (h : ∀ a b, a < n → b < n → F a b = - F b a) : sumN n (fun a => sumN n fun b => F a b) = 0 := by
  have e : sumN n (fun a => sumN n fun b => F a b) = - sumN n (fun a => sumN n fun b => F a b) := by
    have e1 : sumN n (fun a => sumN n fun b => F a b) = sumN n fun a => sumN n fun b => - F b a := sumN_ext fun a ha => sumN_ext fun b hb => h a b ha hb
    rw [← sumN_neg]
    rw [e1, sumN_swap]
    exact sumN_ext fun a _ => sumN_neg n _
  omega
theorem cut_cut {j k l : Nat} : cut j (cut k l) = cut (cut j k) (cut (unc (cut j k) j) l) := by
  unfold cut unc
  repeat' split <;> try omega
theorem sg_anti {a b : Nat} (h : a ≠ b) : sg a * sg (unc a b) = - (sg b * sg (unc b a)) := by
  unfold unc
  rcases Nat.lt_or_gt_of_ne h with h | h
  · rw [if_neg (by omega), if_pos h]
    obtain ⟨c, rfl⟩ : ∃ c, b = c + 1 := ⟨b - 1, by omega⟩
    rw [sg_succ, Nat.add_sub_cancel]
    grind
  · rw [if_pos h, if_neg (by omega)]
    obtain ⟨c, rfl⟩ : ∃ c, a = c + 1 := ⟨a - 1, by omega⟩
    rw [sg_succ, Nat.add_sub_cancel]
    grind
theorem det_adj : ∀ (n : Nat) (A : Mx) (i : Nat), i + 1 < n → (∀ j, j < n → A i j = A (i + 1) j) → det n A = 0
  | 0, _, _, h, _ => by omega
  | 1, _, _, h, _ => by omega
  | n + 2, A, 0, _, h => by
    have e : det (n + 2) A = sumN (n + 2) fun a => sumN (n + 2) fun b => if b = a then 0 else sg a * sg (unc a b) * A 0 a * A 0 b * det n (fun i l => A (i + 2) (cut a (cut (unc a b) l))) := by
      refine sumN_ext fun a ha => ?_
      show sg a * A 0 a * sumN (n + 1) (fun k => sg k * A 1 (cut a k) * det n (mnr (mnr A a) k)) = _
      rw [← sumN_mul, ← sumN_cut ha fun b => sg a * sg (unc a b) * A 0 a * A 0 b * det n (fun i l => A (i + 2) (cut a (cut (unc a b) l)))]
      refine sumN_ext fun k hk => ?_
      have h' : A 1 (cut a k) = A 0 (cut a k) := (h _ (cut_lt hk)).symm
      rw [unc_cut, h']
      have : mnr (mnr A a) k = fun i l => A (i + 2) (cut a (cut k l)) := rfl
      rw [this]
      grind
    rw [e]
    refine anti_sum _ _ fun a b ha hb => ?_
    by_cases hab : a = b
    · subst hab
      rw [if_pos rfl]
      rfl
    · rw [if_neg (fun z => hab z.symm), if_neg hab]
      have ec : (fun i l => A (i + 2) (cut a (cut (unc a b) l))) = fun i l => A (i + 2) (cut b (cut (unc b a) l)) := by
        funext i l
        have := cut_cut (j := a) (k := unc a b) (l := l)
        rw [cut_unc (fun z => hab z.symm)] at this
        rw [this]
      rw [ec, sg_anti hab]
      grind
  | n + 2, A, i + 1, hi, h => by
    refine sumN_zero fun j hj => ?_
    rw [det_adj (n + 1) (mnr A j) i (by omega) fun k hk => h _ (cut_lt hk), Int.mul_zero]
theorem det_alt (n : Nat) : Alt n n (det n) := ⟨fun _ _ h => det_ext h, det_add n, det_smul n, det_adj n⟩
/-! ### alternating forms -/
section
variable {n w : Nat} {f : Mx → Int}
theorem up_self (A : Mx) (i : Nat) : upR A i (A i) = A := by
  funext a b
  unfold upR
  split
  · rename_i h; rw [h]
  · rfl
theorem Alt.lin (F : Alt n w f) (A : Mx) {i : Nat} (hi : i < n) (u v : Nat → Int) (c : Int) : f (upR A i fun b => u b + c * v b) = f (upR A i u) + c * f (upR A i v) := by
  rw [F.add A i u (fun b => c * v b) hi, F.mul A i c v hi]
theorem Alt.zero (F : Alt n w f) (A : Mx) {i : Nat} (hi : i < n) (h : ∀ j, j < w → A i j = 0) : f A = 0 := by
  have e := F.mul A i 0 (A i) hi
  rw [Int.zero_mul] at e
  rw [← e]
  refine F.ext _ _ fun a b _ hb => ?_
  unfold upR
  split
  · rename_i z; subst z; show A a b = 0 * A a b; rw [h b hb, Int.zero_mul]
  · rfl
theorem Alt.sum (F : Alt n w f) (A : Mx) {i : Nat} (hi : i < n) (m : Nat) (c : Nat → Int) (v : Nat → Nat → Int) : f (upR A i fun b => sumN m fun k => c k * v k b) = sumN m fun k => c k * f (upR A i (v k)) := by
  induction m with
  | zero => exact F.zero _ hi fun j _ => upR_same _ _ _ _
  | succ m ih =>
    show f (upR A i fun b => sumN m (fun k => c k * v k b) + c m * v m b) = sumN m _ + c m * f (upR A i (v m))
    rw [F.lin A hi (fun b => sumN m fun k => c k * v k b) (v m) (c m), ih]
def exc (A : Mx) (i k : Nat) : Mx := upR (upR A i (A k)) k (A i)
theorem exc_of {n w : Nat} {f : Mx → Int} (F : Alt n w f) {i k : Nat} (hi : i < n) (hk : k < n) (hne : i ≠ k) (alt : ∀ A : Mx, (∀ j, j < w → A i j = A k j) → f A = 0) (A : Mx) : f (exc A i k) = - f A := by
  have two : ∀ u v : Nat → Int, f (upR (upR A i u) k v) = f (upR (upR A k v) i u) := fun u v => F.ext _ _ fun a b _ _ => by
    unfold upR
    by_cases h1 : a = k
    · rw [if_pos h1, if_neg (by omega), if_pos h1]
    · by_cases h2 : a = i
      · rw [if_neg h1, if_pos h2, if_pos h2]
      · rw [if_neg h1, if_neg h2, if_neg h2, if_neg h1]
  have dup : ∀ u : Nat → Int, f (upR (upR A i u) k u) = 0 := fun u => alt _ fun j _ => by rw [upR_ne hne, upR_same, upR_same]
  have h := dup fun b => A i b + A k b
  rw [F.add (upR A i fun b => A i b + A k b) k (A i) (A k) hk, two, two, F.add _ i (A i) (A k) hi, F.add _ i (A i) (A k) hi, ← two, ← two, ← two, ← two, dup, dup] at h
  have e1 : f (upR (upR A i (A i)) k (A k)) = f A := by rw [up_self, up_self]
  rw [e1] at h
  show f (upR (upR A i (A k)) k (A i)) = _
  omega
theorem Alt.alt (F : Alt n w f) : ∀ (d i : Nat) (A : Mx), i + d + 1 < n → (∀ j, j < w → A i j = A (i + d + 1) j) → f A = 0
  | 0, i, A, hn, h => F.adj A i hn h
  | d + 1, i, A, hn, h => by
    have ex := exc_of F (i := i + d + 1) (k := i + d + 2) (by omega) (by omega) (by omega) (fun B hB => F.adj B (i + d + 1) (by omega) hB) A
    have z : f (exc A (i + d + 1) (i + d + 2)) = 0 := F.alt d i _ (by omega) fun j hj => by
      unfold exc
      rw [upR_ne (by omega), upR_ne (by omega), upR_ne (by omega), upR_same]
      exact h j hj
    omega
theorem Alt.eq_rows (F : Alt n w f) {i k : Nat} (hi : i < n) (hk : k < n) (hne : i ≠ k) (A : Mx) (h : ∀ j, j < w → A i j = A k j) : f A = 0 := by
  rcases Nat.lt_or_gt_of_ne hne with l | l
  · obtain ⟨d, rfl⟩ : ∃ d, k = i + d + 1 := ⟨k - i - 1, by omega⟩
    exact F.alt d i A hk h
  · obtain ⟨d, rfl⟩ : ∃ d, i = k + d + 1 := ⟨i - k - 1, by omega⟩
    exact F.alt d k A hi fun j hj => (h j hj).symm
theorem Alt.exch (F : Alt n w f) {i k : Nat} (hi : i < n) (hk : k < n) (hne : i ≠ k) (A : Mx) : f (exc A i k) = - f A := exc_of F hi hk hne (F.eq_rows hi hk hne) A
theorem Alt.rowop (F : Alt n w f) {i k : Nat} (hi : i < n) (hk : k < n) (hne : i ≠ k) (A : Mx) (c : Int) : f (upR A i fun b => A i b + c * A k b) = f A := by
  rw [F.lin A hi (A i) (A k) c, up_self, F.eq_rows hi hk hne (upR A i (A k)) fun j _ => by rw [upR_same, upR_ne (fun z => hne z.symm)]]
  omega
end
/-! ### an alternating form of n rows in n columns is the determinant times its value at the unit -/
def ins (j : Nat) (B : Mx) : Mx := fun a b => match a with
  | 0 => idG j b
  | i + 1 => if b = j then 0 else B i (unc j b)
theorem idG_same (i : Nat) : idG i i = 1 := if_pos rfl
theorem idG_ne {i j : Nat} (h : i ≠ j) : idG i j = 0 := if_neg h
theorem ins_alt {n : Nat} {f : Mx → Int} (F : Alt (n + 1) (n + 1) f) {j : Nat} (hj : j < n + 1) : Alt n n fun B => f (ins j B) where
  ext := fun A B h => F.ext _ _ fun i b hi hb => by
    cases i with
    | zero => rfl
    | succ i =>
      show (if b = j then 0 else A i (unc j b)) = if b = j then 0 else B i (unc j b)
      split
      · rfl
      · rename_i z
        exact h i _ (by omega) (unc_lt hj hb z)
  add := fun A i u v hi => by
    have e : ∀ v : Nat → Int, ins j (upR A i v) = upR (ins j A) (i + 1) fun b => if b = j then 0 else v (unc j b) := up_ins A i
    rw [e, e, e, ← F.add _ _ _ _ (by omega)]
    congr 2
    funext b
    split <;> rfl
  mul := fun A i c u hi => by
    have e : ∀ v : Nat → Int, ins j (upR A i v) = upR (ins j A) (i + 1) fun b => if b = j then 0 else v (unc j b) := up_ins A i
    rw [e, e, ← F.mul _ _ _ _ (by omega)]
    congr 2
    funext b
    split
    · rw [Int.mul_zero]
    · rfl
  adj := fun A i hi h => F.adj _ (i + 1) (by omega) fun b hb => by
    show (if b = j then 0 else A i (unc j b)) = if b = j then 0 else A (i + 1) (unc j b)
    split
    · rfl
    · rename_i z
      exact h _ (unc_lt hj hb z)
where
  up_ins {j : Nat} (A : Mx) (i : Nat) (v : Nat → Int) : ins j (upR A i v) = upR (ins j A) (i + 1) fun b => if b = j then 0 else v (unc j b) := by
    funext a b
    cases a with
    | zero => rw [upR_ne (by omega)]; rfl
    | succ a =>
      show (if b = j then 0 else upR A i v a (unc j b)) = _
      by_cases e : a = i
      · subst e
        rw [upR_same, upR_same]
      · rw [upR_ne e, upR_ne (by omega)]; rfl
theorem ins_id {n : Nat} {f : Mx → Int} (F : Alt (n + 1) (n + 1) f) : ∀ j, j < n + 1 → f (ins j idG) = sg j * f idG
  | 0, _ => by
    have : f (ins 0 idG) = f idG := F.ext _ _ fun a b _ _ => by
      cases a with
      | zero => rfl
      | succ a =>
        show (if b = 0 then 0 else idG a (unc 0 b)) = idG (a + 1) b
        unfold idG unc
        grind
    rw [this]
    show _ = (1 - 2 * 0) * f idG
    omega
  | j + 1, h => by
    have ih := ins_id F j (by omega)
    have ex := F.exch (i := 0) (k := j + 1) (by omega) h (by omega) (ins j idG)
    have : f (exc (ins j idG) 0 (j + 1)) = f (ins (j + 1) idG) := F.ext _ _ fun a b _ _ => by
      unfold exc
      by_cases e : a = j + 1
      · subst e
        rw [upR_same]
        show idG j b = if b = j + 1 then 0 else idG j (unc (j + 1) b)
        unfold idG unc
        grind
      · rw [upR_ne e]
        cases a with
        | zero =>
          rw [upR_same]
          show (if b = j then 0 else idG j (unc j b)) = idG (j + 1) b
          unfold idG unc
          grind
        | succ a =>
          rw [upR_ne (by omega)]
          show (if b = j then 0 else idG a (unc j b)) = if b = j + 1 then 0 else idG a (unc (j + 1) b)
          unfold idG unc
          grind
    rw [← this, ex, ih, sg_succ]
    grind
theorem alt_det : ∀ (n : Nat) (f : Mx → Int), Alt n n f → ∀ A, f A = f idG * det n A
  | 0, f, F, A => by
    have : f A = f idG := F.ext _ _ fun i j hi => absurd hi (by omega)
    rw [this]
    show _ = _ * 1
    omega
  | n + 1, f, F, A => by
    have e0 : f A = f (upR A 0 fun b => sumN (n + 1) fun j => A 0 j * idG j b) := F.ext _ _ fun i b _ hb => by
      by_cases e : i = 0
      · subst e
        rw [upR_same]
        have := mul_id (m := n + 1) A 0 hb
        exact this.symm
      · rw [upR_ne e]
    rw [e0, F.sum A (by omega) (n + 1) (fun j => A 0 j) (fun j => idG j)]
    show _ = _ * sumN (n + 1) _
    rw [← sumN_mul]
    refine sumN_ext fun j hj => ?_
    have clear : ∀ t, t ≤ n → f (upR A 0 (idG j)) = f (fun a b => if a = 0 then idG j b else if a ≤ t ∧ b = j then 0 else A a b) := by
      intro t
      induction t with
      | zero =>
        intro _
        refine F.ext _ _ fun a b _ _ => ?_
        unfold upR
        split
        · rfl
        · rw [if_neg (by omega)]
      | succ t ih =>
        intro ht
        rw [ih (by omega)]
        have r := F.rowop (i := t + 1) (k := 0) (by omega) (by omega) (by omega) (fun a b => if a = 0 then idG j b else if a ≤ t ∧ b = j then 0 else A a b) (- A (t + 1) j)
        rw [← r]
        refine F.ext _ _ fun a b _ _ => ?_
        by_cases e : a = t + 1
        · subst e
          rw [upR_same]
          unfold idG
          grind
        · rw [upR_ne e]
          grind
    have c := clear n (Nat.le_refl n)
    have e1 : f (upR A 0 (idG j)) = f (ins j (mnr A j)) := by
      rw [c]
      refine F.ext _ _ fun a b ha _ => ?_
      cases a with
      | zero => rfl
      | succ a =>
        show (if a + 1 = 0 then _ else if a + 1 ≤ n ∧ b = j then 0 else A (a + 1) b) = if b = j then 0 else A (a + 1) (cut j (unc j b))
        rw [if_neg (by omega)]
        by_cases hb : b = j
        · rw [if_pos hb, if_pos ⟨by omega, hb⟩]
        · rw [if_neg hb, if_neg (fun z => hb z.2), cut_unc hb]
    rw [e1, alt_det n (fun B => f (ins j B)) (ins_alt F hj) (mnr A j), ins_id F j hj]
    grind
theorem det_id (n : Nat) : det n idG = 1 := by
  induction n with
  | zero => rfl
  | succ n ih =>
    show sumN (n + 1) _ = 1
    rw [sumN_one (c := 0) (by omega) fun j _ hj => by rw [idG_ne (fun z => hj z.symm), Int.mul_zero, Int.zero_mul], idG_same]
    have : det n (mnr idG 0) = det n idG := det_ext fun i k _ _ => by
      show idG (i + 1) (cut 0 k) = idG i k
      unfold idG cut
      grind
    rw [this, ih]
    rfl
theorem upR_mul {m : Nat} (A B : Mx) (i : Nat) (v : Nat → Int) : mulG m (upR A i v) B = upR (mulG m A B) i fun b => sumN m fun k => v k * B k b := by
  funext a b
  unfold mulG
  by_cases e : a = i
  · subst e
    rw [upR_same]
    exact sumN_ext fun k _ => by rw [upR_same]
  · rw [upR_ne e]
    exact sumN_ext fun k _ => by rw [upR_ne e]
theorem mul_alt {n m w : Nat} {f : Mx → Int} (F : Alt n w f) (B : Mx) : Alt n m fun A => f (mulG m A B) where
  ext := fun A A' h => F.ext _ _ fun i j hi _ => sumN_ext fun k hk => by rw [h i k hi hk]
  add := fun A i u v hi => by
    rw [upR_mul, upR_mul, upR_mul, ← F.add _ _ _ _ hi]
    congr 2
    funext b
    rw [← sumN_add]
    exact sumN_ext fun k _ => Int.add_mul _ _ _
  mul := fun A i c u hi => by
    rw [upR_mul, upR_mul, ← F.mul _ _ _ _ hi]
    congr 2
    funext b
    rw [← sumN_mul]
    exact sumN_ext fun k _ => Int.mul_assoc _ _ _
  adj := fun A i hi h => F.adj _ i hi fun j _ => sumN_ext fun k hk => by rw [h k hk]
theorem det_mul (n : Nat) (A B : Mx) : det n (mulG n A B) = det n A * det n B := by
  rw [alt_det n (fun A => det n (mulG n A B)) (mul_alt (det_alt n) B) A]
  have : det n (mulG n idG B) = det n B := det_ext fun i j hi _ => id_mul B j hi
  rw [this, Int.mul_comm]
/-! ### columns -/
def upC (A : Mx) (c : Nat) (v : Nat → Int) : Mx := fun a b => if b = c then v a else A a b
theorem mnr_upC_same (A : Mx) (c : Nat) (v : Nat → Int) : mnr (upC A c v) c = mnr A c := by
  funext i k
  exact if_neg (cut_ne c k)
theorem mnr_upC {A : Mx} {c j : Nat} (h : c ≠ j) (v : Nat → Int) : mnr (upC A c v) j = upC (mnr A j) (unc j c) fun i => v (i + 1) := by
  funext i k
  show (if cut j k = c then v (i + 1) else A (i + 1) (cut j k)) = if k = unc j c then v (i + 1) else A (i + 1) (cut j k)
  have : cut j k = c ↔ k = unc j c := ⟨fun e => by rw [← e, unc_cut], fun e => by rw [e, cut_unc h]⟩
  by_cases e : k = unc j c
  · rw [if_pos e, if_pos (this.mpr e)]
  · rw [if_neg e, if_neg (fun z => e (this.mp z))]
theorem det_addC : ∀ (n : Nat) (A : Mx) (c : Nat) (u v : Nat → Int), c < n → det n (upC A c fun b => u b + v b) = det n (upC A c u) + det n (upC A c v)
  | n + 1, A, c, u, v, hc => by
    show sumN _ _ = sumN _ _ + sumN _ _
    rw [← sumN_add]
    refine sumN_ext fun j hj => ?_
    by_cases e : c = j
    · subst e
      rw [mnr_upC_same, mnr_upC_same, mnr_upC_same]
      have s : ∀ v : Nat → Int, upC A c v 0 c = v 0 := fun v => if_pos rfl
      rw [s, s, s, Int.mul_add, Int.add_mul]
    · rw [mnr_upC e, mnr_upC e, mnr_upC e]
      have s : ∀ v : Nat → Int, upC A c v 0 j = A 0 j := fun v => if_neg (fun z => e z.symm)
      rw [s, s, s, det_addC n _ _ (fun i => u (i + 1)) (fun i => v (i + 1)) (unc_lt hj hc e), Int.mul_add]
theorem det_smulC : ∀ (n : Nat) (A : Mx) (c : Nat) (d : Int) (u : Nat → Int), c < n → det n (upC A c fun b => d * u b) = d * det n (upC A c u)
  | n + 1, A, c, d, u, hc => by
    show sumN _ _ = d * sumN _ _
    rw [← sumN_mul]
    refine sumN_ext fun j hj => ?_
    by_cases e : c = j
    · subst e
      rw [mnr_upC_same, mnr_upC_same]
      have s : ∀ v : Nat → Int, upC A c v 0 c = v 0 := fun v => if_pos rfl
      rw [s, s]
      grind
    · rw [mnr_upC e, mnr_upC e]
      have s : ∀ v : Nat → Int, upC A c v 0 j = A 0 j := fun v => if_neg (fun z => e z.symm)
      rw [s, s, det_smulC n _ _ d (fun i => u (i + 1)) (unc_lt hj hc e)]
      grind
theorem det_adjC : ∀ (n : Nat) (A : Mx) (c : Nat), c + 1 < n → (∀ i, i < n → A i c = A i (c + 1)) → det n A = 0
  | 0, _, _, h, _ => by omega
  | n + 1, A, c, hc, h => by
    refine sumN_two hc (fun j hj h1 h2 => ?_) ?_
    · have u1 : unc j (c + 1) = unc j c + 1 := by unfold unc; grind
      rw [det_adjC n (mnr A j) (unc j c) (by rw [← u1]; exact unc_lt hj hc (fun z => h2 z.symm)) fun i hi => ?_, Int.mul_zero]
      show A (i + 1) (cut j (unc j c)) = A (i + 1) (cut j (unc j c + 1))
      rw [← u1, cut_unc (fun z => h1 z.symm), cut_unc (fun z => h2 z.symm)]
      exact h (i + 1) (by omega)
    · have e : det n (mnr A c) = det n (mnr A (c + 1)) := det_ext fun i k hi hk => by
        show A (i + 1) (cut c k) = A (i + 1) (cut (c + 1) k)
        by_cases h1 : k = c
        · subst h1
          have : cut k k = k + 1 := by unfold cut; grind
          have h2 : cut (k + 1) k = k := by unfold cut; grind
          rw [this, h2]
          exact (h (i + 1) (by omega)).symm
        · have : cut c k = cut (c + 1) k := by unfold cut; grind
          rw [this]
      rw [e, h 0 (by omega), sg_succ]
      grind
def tr (A : Mx) : Mx := fun i j => A j i
theorem tr_up (A : Mx) (i : Nat) (v : Nat → Int) : tr (upR A i v) = upC (tr A) i v := rfl
theorem tr_alt (n : Nat) : Alt n n fun A => det n (tr A) where
  ext := fun A B h => det_ext fun i j hi hj => h j i hj hi
  add := fun A i u v hi => by rw [tr_up, tr_up, tr_up]; exact det_addC n _ i u v hi
  mul := fun A i c u hi => by rw [tr_up, tr_up]; exact det_smulC n _ i c u hi
  adj := fun A i hi h => det_adjC n _ i hi h
theorem det_tr (n : Nat) (A : Mx) : det n (tr A) = det n A := by
  rw [alt_det n (fun A => det n (tr A)) (tr_alt n) A]
  have : det n (tr idG) = det n idG := det_ext fun i j _ _ => by
    show idG j i = idG i j
    unfold idG
    grind
  rw [this, det_id]
  omega
theorem det_colEq {n : Nat} {A : Mx} {c d : Nat} (hc : c < n) (hd : d < n) (h : c ≠ d) (e : ∀ i, i < n → A i c = A i d) : det n A = 0 := by
  have := (tr_alt n).eq_rows hc hd h (tr A) e
  exact this
theorem det_colZero {n : Nat} {A : Mx} {c : Nat} (hc : c < n) (e : ∀ i, i < n → A i c = 0) : det n A = 0 := by
  have := (tr_alt n).zero (tr A) hc e
  exact this
end LK
end

section
set_option autoImplicit false
set_option maxRecDepth 100000
set_option maxHeartbeats 4000000
namespace LK
/-! ### borders of the first k rows and columns -/
def sel (k i a : Nat) : Nat := if a < k then a else i
def brd (k : Nat) (M : Mx) (i j : Nat) : Int := det (k + 1) fun a b => M (sel k i a) (sel k j b)
theorem sel_lt {k i a : Nat} (h : a < k) : sel k i a = a := if_pos h
theorem sel_ge {k i a : Nat} (h : ¬ a < k) : sel k i a = i := if_neg h
theorem det_lastC : ∀ (n : Nat) (A : Mx), (∀ a, a < n + 1 → A a n = idG n a) → det (n + 1) A = det n A
  | 0, A, h => by
    show 0 + sg 0 * A 0 0 * 1 = 1
    rw [h 0 (by omega)]
    rfl
  | n + 1, A, h => by
    show sumN (n + 1) _ + sg (n + 1) * A 0 (n + 1) * _ = sumN (n + 1) _
    rw [h 0 (by omega), idG_ne (by omega), Int.mul_zero, Int.zero_mul, Int.add_zero]
    refine sumN_ext fun j hj => ?_
    rw [det_lastC n (mnr A j) fun a ha => ?_]
    show A (a + 1) (cut j n) = idG n a
    have : cut j n = n + 1 := by unfold cut; grind
    rw [this, h (a + 1) (by omega)]
    unfold idG
    grind
theorem det_lastR (n : Nat) (A : Mx) (h : ∀ b, b < n + 1 → A n b = idG n b) : det (n + 1) A = det n A := by
  rw [← det_tr (n + 1) A, ← det_tr n A]
  exact det_lastC n (tr A) h
/-- a border is its row's number times the corner, and a sum of rows above -/
theorem brd_lin (k : Nat) (M : Mx) (i : Nat) : ∃ x : Nat → Int, ∀ j, brd k M i j = det k M * M i j + sumN k fun l => x l * M l j := by
  let N : Mx := fun a b => M (sel k i a) b
  refine ⟨fun l => det (k + 1) (upC N k (idG l)), fun j => ?_⟩
  have e : brd k M i j = det (k + 1) (tr (upR (tr N) k fun a => sumN (k + 1) fun l => M (sel k i l) j * idG l a)) := det_ext fun a b ha hb => by
    show M (sel k i a) (sel k j b) = upR (tr N) k _ b a
    by_cases hbk : b = k
    · subst hbk
      rw [upR_same, sel_ge (Nat.lt_irrefl _)]
      have := mul_id (m := b + 1) (fun _ l => M (sel b i l) j) 0 ha
      exact this.symm
    · rw [upR_ne hbk, sel_lt (i := j) (by omega)]
      rfl
  rw [e, (tr_alt (k + 1)).sum (tr N) (by omega) (k + 1) (fun l => M (sel k i l) j) (fun l => idG l)]
  show sumN k _ + _ = _
  rw [Int.add_comm]
  congr 1
  · show M (sel k i k) j * det (k + 1) (upC N k (idG k)) = _
    rw [sel_ge (Nat.lt_irrefl k), det_lastC k (upC N k (idG k)) fun a _ => if_pos rfl]
    have : det k (upC N k (idG k)) = det k M := det_ext fun a b ha hb => by
      show (if b = k then _ else M (sel k i a) b) = M a b
      rw [if_neg (by omega), sel_lt ha]
    rw [this, Int.mul_comm]
  · refine sumN_ext fun l hl => ?_
    show M (sel k i l) j * det (k + 1) (upC N k (idG l)) = _
    rw [sel_lt hl, Int.mul_comm]
theorem brd_zero {k : Nat} (M : Mx) (i : Nat) {j : Nat} (h : j < k) : brd k M i j = 0 :=
  det_colEq (c := j) (d := k) (by omega) (by omega) (by omega) fun a _ => by rw [sel_lt h, sel_ge (Nat.lt_irrefl k)]
def blk (k : Nat) (M Y : Mx) : Mx := fun a b => if a < k then M a b else if b < k then 0 else Y (a - k) (b - k)
theorem blk_alt (k m : Nat) (M : Mx) : Alt m m fun Y => det (k + m) (blk k M Y) := by
  have up : ∀ (A : Mx) (i : Nat) (v : Nat → Int), blk k M (upR A i v) = upR (blk k M A) (k + i) fun b => if b < k then 0 else v (b - k) := fun A i v => by
    funext a b
    by_cases e : a = k + i
    · subst e
      rw [upR_same]
      unfold blk
      rw [if_neg (by omega)]
      split
      · rfl
      · rw [show k + i - k = i by omega, upR_same]
    · rw [upR_ne e]
      unfold blk
      split
      · rfl
      · split
        · rfl
        · rw [upR_ne (by omega)]
  have F := det_alt (k + m)
  refine ⟨fun A B h => det_ext fun a b ha hb => ?_, fun A i u v hi => ?_, fun A i c u hi => ?_, fun A i hi h => ?_⟩
  · unfold blk
    split
    · rfl
    · split
      · rfl
      · exact h _ _ (by omega) (by omega)
  · rw [up, up, up, ← F.add _ _ _ _ (by omega)]
    congr 2
    funext b
    split <;> rfl
  · rw [up, up, ← F.mul _ _ _ _ (by omega)]
    congr 2
    funext b
    split
    · rw [Int.mul_zero]
    · rfl
  · refine F.adj _ (k + i) (by omega) fun b hb => ?_
    show (if k + i < k then M (k + i) b else if b < k then 0 else A (k + i - k) (b - k)) = if k + i + 1 < k then M (k + i + 1) b else if b < k then 0 else A (k + i + 1 - k) (b - k)
    rw [if_neg (by omega), if_neg (show ¬ k + i + 1 < k by omega)]
    split
    · rfl
    · rw [show k + i - k = i by omega, show k + i + 1 - k = i + 1 by omega]
      exact h _ (by omega)
theorem blk_id (k : Nat) (M : Mx) : ∀ m, det (k + m) (blk k M idG) = det k M
  | 0 => det_ext fun a b ha hb => if_pos ha
  | m + 1 => by
    rw [← blk_id k M m]
    refine det_lastR (k + m) _ fun b hb => ?_
    unfold blk idG
    grind
theorem det_blk (k m : Nat) (M Y : Mx) : det (k + m) (blk k M Y) = det k M * det m Y := by
  rw [alt_det m _ (blk_alt k m M) Y, blk_id]
/-- Sylvester: the borders' determinant -/
theorem sylv (k m : Nat) (M : Mx) : det k M ^ m * det (k + m) M = det k M * det m fun i j => brd k M (k + i) (k + j) := by
  have F := det_alt (k + m)
  have step : ∀ t, t ≤ m → det (k + m) (fun a b => if a < k then M a b else if a < k + t then brd k M a b else M a b) = det k M ^ t * det (k + m) M := by
    intro t
    induction t with
    | zero =>
      intro _
      rw [show det k M ^ 0 = 1 from Int.pow_zero _, Int.one_mul]
      refine det_ext fun a b _ _ => ?_
      split
      · rfl
      · rw [if_neg (by omega)]
    | succ t ih =>
      intro ht
      obtain ⟨x, hx⟩ := brd_lin k M (k + t)
      let R : Mx := fun a b => if a < k then M a b else if a < k + t then brd k M a b else M a b
      have e : det (k + m) (fun a b => if a < k then M a b else if a < k + (t + 1) then brd k M a b else M a b) = det (k + m) (upR R (k + t) fun b => det k M * M (k + t) b + sumN k fun l => x l * M l b) := det_ext fun a b _ _ => by
        by_cases e : a = k + t
        · subst e
          rw [upR_same, if_neg (by omega), if_pos (by omega), hx]
        · rw [upR_ne e]
          show _ = if a < k then M a b else if a < k + t then brd k M a b else M a b
          split
          · rfl
          · by_cases h : a < k + t
            · rw [if_pos h, if_pos (by omega)]
            · rw [if_neg h, if_neg (by omega)]
      rw [e, F.add R (k + t) (fun b => det k M * M (k + t) b) (fun b => sumN k fun l => x l * M l b) (by omega), F.mul R (k + t) _ (fun b => M (k + t) b) (by omega), F.sum R (by omega) k x (fun l => M l)]
      have z : sumN k (fun l => x l * det (k + m) (upR R (k + t) (M l))) = 0 := sumN_zero fun l hl => by
        rw [F.eq_rows (i := l) (k := k + t) (by omega) (by omega) (by omega) _ fun b _ => ?_, Int.mul_zero]
        rw [upR_same, upR_ne (by omega)]
        exact if_pos hl
      rw [z, Int.add_zero]
      have s : det (k + m) (upR R (k + t) fun b => M (k + t) b) = det (k + m) R := det_ext fun a b _ _ => by
        by_cases e : a = k + t
        · subst e
          rw [upR_same]
          show _ = if k + t < k then _ else if k + t < k + t then _ else _
          rw [if_neg (by omega), if_neg (by omega)]
        · rw [upR_ne e]
      rw [s, ih (by omega), Int.pow_succ]
      grind
  rw [← step m (Nat.le_refl m), ← det_blk]
  refine det_ext fun a b ha hb => ?_
  unfold blk
  split
  · rfl
  · first | rw [if_pos ha] | skip
    split
    · rename_i h
      exact brd_zero M a h
    · show brd k M a b = brd k M (k + (a - k)) (k + (b - k))
      rw [show k + (a - k) = a by omega, show k + (b - k) = b by omega]
theorem det_two (Y : Mx) : det 2 Y = Y 0 0 * Y 1 1 - Y 0 1 * Y 1 0 := by
  show (0 + sg 0 * Y 0 0 * (0 + sg 0 * Y 1 1 * 1)) + sg 1 * Y 0 1 * (0 + sg 0 * Y 1 0 * 1) = _
  have h0 : sg 0 = 1 := rfl
  have h1 : sg 1 = -1 := rfl
  rw [h0, h1]
  grind
/-- one turn of clearing: the next borders -/
theorem brd_turn (k : Nat) (M : Mx) (i j : Nat) (h : det k M ≠ 0) : brd k M i j * brd k M k k - brd k M i k * brd k M k j = brd (k + 1) M i j * det k M := by
  let s : Nat → Nat := fun a => if a ≤ k then a else i
  let t : Nat → Nat := fun b => if b ≤ k then b else j
  have S := sylv k 2 fun a b => M (s a) (t b)
  rw [det_two] at S
  have p : det k (fun a b => M (s a) (t b)) = det k M := det_ext fun a b ha hb => by
    show M (if a ≤ k then a else i) (if b ≤ k then b else j) = M a b
    rw [if_pos (by omega), if_pos (by omega)]
  have q : ∀ c d : Nat, c ≤ 1 → d ≤ 1 → brd k (fun a b => M (s a) (t b)) (k + c) (k + d) = brd k M (if c = 0 then k else i) (if d = 0 then k else j) := fun c d hc hd => det_ext fun a b ha hb => by
    have f1 : s (sel k (k + c) a) = sel k (if c = 0 then k else i) a := by
      show (if sel k (k + c) a ≤ k then sel k (k + c) a else i) = _
      unfold sel
      grind
    have f2 : t (sel k (k + d) b) = sel k (if d = 0 then k else j) b := by
      show (if sel k (k + d) b ≤ k then sel k (k + d) b else j) = _
      unfold sel
      grind
    show M (s (sel k (k + c) a)) (t (sel k (k + d) b)) = _
    rw [f1, f2]
  have r : det (k + 2) (fun a b => M (s a) (t b)) = brd (k + 1) M i j := det_ext fun a b ha hb => by
    have f1 : s a = sel (k + 1) i a := by
      show (if a ≤ k then a else i) = _
      unfold sel
      grind
    have f2 : t b = sel (k + 1) j b := by
      show (if b ≤ k then b else j) = _
      unfold sel
      grind
    rw [f1, f2]
  have q00 := q 0 0 (by omega) (by omega)
  have q01 := q 0 1 (by omega) (by omega)
  have q10 := q 1 0 (by omega) (by omega)
  have q11 := q 1 1 (by omega) (by omega)
  simp only [Nat.add_zero, if_true, Nat.one_ne_zero, if_false] at q00 q01 q10 q11
  simp only [Nat.add_zero] at S
  rw [p, q00, q01, q10, q11, r] at S
  have S2 : det k M * (det k M * brd (k + 1) M i j) = det k M * (brd k M k k * brd k M i j - brd k M k j * brd k M i k) := by
    rw [← S]
    grind
  have S3 := Int.eq_of_mul_eq_mul_left h S2
  rw [Int.mul_comm (brd (k + 1) M i j), S3]
  grind
/-- no head below: no weight -/
theorem det_stuck {n k : Nat} (M : Mx) (hk : k < n) (h : det k M ≠ 0) (z : ∀ i, k ≤ i → i < n → brd k M i k = 0) : det n M = 0 := by
  obtain ⟨m, rfl⟩ : ∃ m, n = k + m := ⟨n - k, by omega⟩
  have S := sylv k m M
  rw [det_colZero (n := m) (A := fun i j => brd k M (k + i) (k + j)) (c := 0) (by omega) fun i hi => z (k + i) (by omega) (by omega), Int.mul_zero] at S
  rcases Int.mul_eq_zero.mp S with e | e
  · exact absurd e (Int.pow_ne_zero h)
  · exact e
theorem brd_self (k : Nat) (M : Mx) : brd k M k k = det (k + 1) M := det_ext fun a b ha hb => by
  have : sel k k a = a := by unfold sel; grind
  have h2 : sel k k b = b := by unfold sel; grind
  rw [this, h2]
theorem brd0 (M : Mx) (i j : Nat) : brd 0 M i j = M i j := by
  show 0 + sg 0 * M i j * 1 = M i j
  have h0 : sg 0 = 1 := rfl
  rw [h0]
  omega
end LK
end

section
set_option autoImplicit false
set_option maxRecDepth 100000
set_option maxHeartbeats 4000000
namespace LK
open PySem PySem.Spec PyProof.Rows L2 DL
open PySem.W (Frag)
/-! ### bounds of determinants -/
theorem sumN_le {n : Nat} {f : Nat → Int} {B : Nat} (h : ∀ k, k < n → (f k).natAbs ≤ B) : (sumN n f).natAbs ≤ n * B := by
  induction n with
  | zero => simp [sumN]
  | succ n ih =>
    have h1 := ih fun k hk => h k (by omega)
    have h2 := h n (by omega)
    show (sumN n f + f n).natAbs ≤ _
    rw [Nat.succ_mul]
    omega
theorem sg_abs (j : Nat) : (sg j).natAbs = 1 := by
  have h2 : j % 2 = 0 ∨ j % 2 = 1 := by omega
  unfold sg
  rcases h2 with h | h <;> rw [h] <;> decide
theorem det_bd {b : Nat} : ∀ {n : Nat} {A : Mx}, n ≤ 8 → Bd b n n A → (det n A).natAbs ≤ 2 ^ (n * (b + 3))
  | 0, A, _, _ => by show 1 ≤ 2 ^ (0 * (b + 3)); rw [Nat.zero_mul]; decide
  | n + 1, A, hn, h => by
    have h1 := sumN_le (n := n + 1) (f := fun j => sg j * A 0 j * det n (mnr A j)) (B := 2 ^ b * 2 ^ (n * (b + 3))) fun j hj => by
      have ih := det_bd (n := n) (A := mnr A j) (by omega) fun i k hi hk => h (i + 1) (cut j k) (by omega) (cut_lt hk)
      rw [Int.natAbs_mul, Int.natAbs_mul, sg_abs, Nat.one_mul]
      exact Nat.mul_le_mul (Nat.le_of_lt (h 0 j (by omega) hj)) ih
    refine Nat.le_trans h1 ?_
    have e : (n + 1) * (b + 3) = 3 + (b + n * (b + 3)) := by rw [Nat.succ_mul]; omega
    rw [e, Nat.pow_add 2 3, Nat.pow_add 2 b]
    exact Nat.mul_le_mul_right _ (by show n + 1 ≤ 8; omega)
theorem brd_bd {b n k i j : Nat} {M : Mx} (hn : n ≤ 7) (hb : b ≤ 500) (hk : k < n) (hi : i < n) (hj : j < n) (h : Bd b n n M) : (brd k M i j).natAbs < 2 ^ 4000 := by
  have h1 := det_bd (b := b) (n := k + 1) (A := fun a c => M (sel k i a) (sel k j c)) (by omega) fun a c ha hc => by
    refine h _ _ ?_ ?_
    · unfold sel; split <;> omega
    · unfold sel; split <;> omega
  refine Nat.lt_of_le_of_lt h1 (Nat.pow_lt_pow_right (by decide) ?_)
  have : (k + 1) * (b + 3) ≤ 7 * 503 := Nat.mul_le_mul (by omega) (by omega)
  omega
theorem det_bd2 {b n k : Nat} {M : Mx} (hn : n ≤ 7) (hb : b ≤ 500) (hk : k ≤ n) (h : Bd b n n M) : (det k M).natAbs < 2 ^ 4000 := by
  have h1 := det_bd (b := b) (n := k) (A := M) (by omega) fun a c ha hc => h a c (by omega) (by omega)
  refine Nat.lt_of_le_of_lt h1 (Nat.pow_lt_pow_right (by decide) ?_)
  have : k * (b + 3) ≤ 7 * 503 := Nat.mul_le_mul (by omega) (by omega)
  omega
/-! ### lists of lists -/
end LK
end

section
set_option autoImplicit false
set_option maxRecDepth 100000
set_option maxHeartbeats 4000000
namespace LK
/-! ### systems with a determinant that is not nought -/
/-- C x = 0 has no other answer -/
theorem det_inj {n : Nat} {C : Mx} (hd : det n C ≠ 0) {x : Nat → Int} (h : ∀ i, i < n → sumN n (fun k => C i k * x k) = 0) : ∀ l, l < n → x l = 0 := by
  intro l hl
  have F := tr_alt n
  -- the column l replaced by C x
  have e1 : det n (upC C l fun i => sumN n fun k => C i k * x k) = 0 := det_colZero hl fun i hi => by
    show (if l = l then _ else _) = 0
    rw [if_pos rfl]
    exact h i hi
  have e2 : det n (upC C l fun i => sumN n fun k => C i k * x k) = x l * det n C := by
    have s := F.sum (tr C) hl n x (fun k => tr C k)
    have a1 : det n (tr (upR (tr C) l fun b => sumN n fun k => x k * tr C k b)) = det n (upC C l fun i => sumN n fun k => C i k * x k) := det_ext fun i j hi hj => by
      show upR (tr C) l _ j i = upC C l _ i j
      unfold upR upC
      split
      · exact sumN_ext fun k _ => Int.mul_comm _ _
      · rfl
    rw [← a1]
    refine s.trans ?_
    rw [sumN_one (c := l) hl fun k hk hne => ?_]
    · rw [up_self]
      show x l * det n (tr (tr C)) = _
      rfl
    · rw [F.eq_rows (i := k) (k := l) hk hl hne _ fun j _ => ?_, Int.mul_zero]
      rw [upR_same, upR_ne hne]
  rw [e1] at e2
  rcases Int.mul_eq_zero.mp e2.symm with z | z
  · exact z
  · exact absurd z hd
/-- below the diagonal noughts: the product of the diagonal -/
def prodN : Nat → (Nat → Int) → Int
  | 0, _ => 1
  | n + 1, f => prodN n f * f n
theorem det_tri : ∀ (n : Nat) (M : Mx), (∀ i j, i < n → j < i → M i j = 0) → det n M = prodN n fun i => M i i
  | 0, _, _ => rfl
  | n + 1, M, h => by
    have F := det_alt (n + 1)
    have e : det (n + 1) M = det (n + 1) (upR M n fun b => M n n * idG n b) := det_ext fun i j hi hj => by
      by_cases e : i = n
      · subst e
        rw [upR_same]
        by_cases ej : j = i
        · subst ej
          rw [idG_same, Int.mul_one]
        · rw [idG_ne (fun z => ej z.symm), Int.mul_zero]
          exact h i j hi (by omega)
      · rw [upR_ne e]
    rw [e, F.mul M n _ _ (by omega), det_lastR n _ fun b _ => upR_same _ _ _ _]
    have e2 : det n (upR M n (idG n)) = det n M := det_ext fun i j hi hj => upR_ne (by omega) _ _
    rw [e2, det_tri n M fun i j hi hj => h i j (by omega) hj]
    exact Int.mul_comm _ _
/-! ### stands: rows with heads -/
structure St where
  row : Nat → Int
  parts : Nat → Int
  head : Nat
def comb : List St → List Int → Nat → Int
  | s :: ss, c :: cs, j => c * s.row j + comb ss cs j
  | _, _, _ => 0
def InL (n : Nat) (ss : List St) (v : Nat → Int) : Prop := ∃ cs : List Int, cs.length = ss.length ∧ ∀ j, j < n → v j = comb ss cs j
theorem comb_add : ∀ (ss : List St) (cs ds : List Int) (c : Int) (j : Nat), cs.length = ss.length → ds.length = ss.length → comb ss (List.zipWith (fun a b => a + c * b) cs ds) j = comb ss cs j + c * comb ss ds j
  | [], [], [], c, j, _, _ => by simp [comb]
  | s :: ss, a :: cs, b :: ds, c, j, h1, h2 => by
    show (a + c * b) * s.row j + comb ss _ j = (a * s.row j + comb ss cs j) + c * (b * s.row j + comb ss ds j)
    rw [comb_add ss cs ds c j (by simpa using h1) (by simpa using h2)]
    grind
theorem comb_zero : ∀ (ss : List St) (j : Nat), comb ss (ss.map fun _ => (0 : Int)) j = 0
  | [], _ => rfl
  | s :: ss, j => by
    show 0 * s.row j + comb ss _ j = 0
    rw [comb_zero ss j, Int.zero_mul]
    rfl
theorem InL.zero {n : Nat} {ss : List St} {v : Nat → Int} (h : ∀ j, j < n → v j = 0) : InL n ss v := ⟨ss.map fun _ => 0, by simp, fun j hj => by rw [h j hj, comb_zero]⟩
theorem InL.lin {n : Nat} {ss : List St} {u v w : Nat → Int} (c : Int) (hu : InL n ss u) (hv : InL n ss v) (h : ∀ j, j < n → w j = u j + c * v j) : InL n ss w := by
  obtain ⟨cs, l1, e1⟩ := hu
  obtain ⟨ds, l2, e2⟩ := hv
  refine ⟨List.zipWith (fun a b => a + c * b) cs ds, by rw [List.length_zipWith]; omega, fun j hj => ?_⟩
  rw [comb_add ss cs ds c j l1 l2, h j hj, e1 j hj, e2 j hj]
theorem InL.cons {n : Nat} {s : St} {ss : List St} {v : Nat → Int} (h : InL n ss v) : InL n (s :: ss) v := by
  obtain ⟨cs, l, e⟩ := h
  refine ⟨0 :: cs, by simp [l], fun j hj => ?_⟩
  show v j = 0 * s.row j + comb ss cs j
  rw [e j hj]
  omega
theorem InL.head {n : Nat} {s : St} {ss : List St} {v : Nat → Int} (h : ∀ j, j < n → v j = s.row j) : InL n (s :: ss) v := by
  refine ⟨1 :: ss.map fun _ => 0, by simp, fun j hj => ?_⟩
  show v j = 1 * s.row j + comb ss _ j
  rw [comb_zero, h j hj]
  omega
theorem InL.ext {n : Nat} {ss : List St} {u v : Nat → Int} (hu : InL n ss u) (h : ∀ j, j < n → v j = u j) : InL n ss v := by
  obtain ⟨cs, l, e⟩ := hu
  exact ⟨cs, l, fun j hj => (h j hj).trans (e j hj)⟩
theorem InL.mem {n : Nat} : ∀ {ss : List St} {s : St}, s ∈ ss → InL n ss s.row
  | a :: ss, s, h => by
    rcases List.mem_cons.mp h with e | e
    · subst e
      exact InL.head fun j _ => rfl
    · exact (InL.mem e).cons
/-- what is made of rows that lie in another lattice lies there -/
theorem InL.sub {n : Nat} {ts : List St} : ∀ {ss : List St} {v : Nat → Int}, (∀ s ∈ ss, InL n ts s.row) → InL n ss v → InL n ts v
  | [], v, _, ⟨cs, l, e⟩ => InL.zero fun j hj => e j hj
  | s :: ss, v, h, ⟨cs, l, e⟩ => by
    match cs, l, e with
    | c :: cs, l, e =>
      have h1 : InL n ts (comb ss cs) := InL.sub (ss := ss) (fun a ha => h a (List.mem_cons_of_mem _ ha)) ⟨cs, by simpa using l, fun _ _ => rfl⟩
      refine InL.lin c h1 (h s (List.mem_cons_self ..)) fun j hj => ?_
      rw [e j hj]
      show c * s.row j + comb ss cs j = _
      omega
/-- heads that rise, each number at a head above 0, noughts ahead of it -/
structure Ech (n : Nat) (ss : List St) : Prop where
  one : ∀ s ∈ ss, s.head < n ∧ (∀ j, j < s.head → s.row j = 0) ∧ 0 < s.row s.head
  up : ss.Pairwise fun a b => a.head < b.head
theorem Ech.tail {n : Nat} {s : St} {ss : List St} (h : Ech n (s :: ss)) : Ech n ss := ⟨fun a ha => h.one a (List.mem_cons_of_mem _ ha), (List.pairwise_cons.mp h.up).2⟩
theorem Ech.low {n : Nat} {s : St} {ss : List St} (h : Ech n (s :: ss)) : ∀ a ∈ ss, a.row s.head = 0 := fun a ha => (h.one a (List.mem_cons_of_mem _ ha)).2.1 _ ((List.pairwise_cons.mp h.up).1 a ha)
theorem comb_at {j : Nat} : ∀ {ss : List St} {cs : List Int}, (∀ a ∈ ss, a.row j = 0) → comb ss cs j = 0
  | [], [], _ => rfl
  | [], _ :: _, _ => rfl
  | _ :: _, [], _ => rfl
  | s :: ss, c :: cs, h => by
    show c * s.row j + comb ss cs j = 0
    rw [h s (List.mem_cons_self ..), comb_at fun a ha => h a (List.mem_cons_of_mem _ ha), Int.mul_zero]
    rfl
def Rd (ss : List St) (v : Nat → Int) : Prop := ∀ s ∈ ss, 0 ≤ v s.head ∧ v s.head < s.row s.head
/-- two that are reduced and alike are the same -/
theorem rest_uniq {n : Nat} : ∀ {ss : List St} {u v : Nat → Int}, Ech n ss → Rd ss u → Rd ss v → InL n ss (fun j => u j - v j) → ∀ j, j < n → u j = v j
  | [], u, v, _, _, _, ⟨cs, l, e⟩, j, hj => by
    have : u j - v j = comb [] cs j := e j hj
    have h0 : comb [] cs j = 0 := by cases cs <;> rfl
    omega
  | s :: ss, u, v, E, ru, rv, ⟨cs, l, e⟩, j, hj => by
    match cs, l, e with
    | c :: cs, l, e =>
      obtain ⟨hn, hz, hp⟩ := E.one s (List.mem_cons_self ..)
      have e0 : u s.head - v s.head = c * s.row s.head + comb ss cs s.head := e s.head hn
      rw [comb_at E.low, Int.add_zero] at e0
      have r1 := ru s (List.mem_cons_self ..)
      have r2 := rv s (List.mem_cons_self ..)
      have hc : c = 0 := by
        rcases Int.lt_trichotomy c 0 with h | h | h
        · exfalso
          have : c * s.row s.head ≤ -1 * s.row s.head := Int.mul_le_mul_of_nonneg_right (by omega) (by omega)
          omega
        · exact h
        · exfalso
          have : 1 * s.row s.head ≤ c * s.row s.head := Int.mul_le_mul_of_nonneg_right (by omega) (by omega)
          omega
      subst hc
      refine rest_uniq E.tail (fun a ha => ru a (List.mem_cons_of_mem _ ha)) (fun a ha => rv a (List.mem_cons_of_mem _ ha)) ⟨cs, by simpa using l, fun j hj => ?_⟩ j hj
      have : u j - v j = 0 * s.row j + comb ss cs j := e j hj
      show u j - v j = comb ss cs j
      rw [this]
      omega
/-- the rest by the stands -/
def cutS (v : Nat → Int) (s : St) : Nat → Int := fun j => v j - (v s.head / s.row s.head) * s.row j
def restS (ss : List St) (v : Nat → Int) : Nat → Int := ss.foldl cutS v
theorem cut_low {v : Nat → Int} {s : St} {j : Nat} (h : s.row j = 0) : cutS v s j = v j := by
  unfold cutS
  rw [h, Int.mul_zero, Int.sub_zero]
theorem rest_keeps {n : Nat} {j : Nat} : ∀ {ss : List St} {v : Nat → Int}, (∀ a ∈ ss, a.row j = 0) → restS ss v j = v j
  | [], _, _ => rfl
  | s :: ss, v, h => by
    show restS ss (cutS v s) j = v j
    rw [rest_keeps (n := n) (ss := ss) fun a ha => h a (List.mem_cons_of_mem _ ha), cut_low (h s (List.mem_cons_self ..))]
theorem rest_ok {n : Nat} : ∀ {ss : List St} {v : Nat → Int}, Ech n ss → Rd ss (restS ss v) ∧ InL n ss fun j => v j - restS ss v j
  | [], v, _ => ⟨fun s hs => (by cases hs), InL.zero fun j _ => (by show v j - v j = 0; omega)⟩
  | s :: ss, v, E => by
    obtain ⟨h1, h2⟩ := rest_ok (v := cutS v s) E.tail
    obtain ⟨hn, hz, hp⟩ := E.one s (List.mem_cons_self ..)
    refine ⟨fun a ha => ?_, ?_⟩
    · rcases List.mem_cons.mp ha with e | e
      · subst e
        show 0 ≤ restS ss (cutS v a) a.head ∧ restS ss (cutS v a) a.head < a.row a.head
        rw [rest_keeps (n := n) E.low]
        unfold cutS
        have e1 := Int.emod_add_mul_ediv (v a.head) (a.row a.head)
        have e2 := Int.emod_nonneg (v a.head) (show a.row a.head ≠ 0 by omega)
        have e3 := Int.emod_lt_of_pos (v a.head) hp
        rw [Int.mul_comm] at e1
        omega
      · exact h1 a e
    · refine InL.lin (v s.head / s.row s.head) h2.cons (InL.mem (List.mem_cons_self ..)) fun j _ => ?_
      show v j - restS ss (cutS v s) j = (cutS v s j - restS ss (cutS v s) j) + _ * s.row j
      unfold cutS
      omega
/-! ### tidied -/
def hd (ss : List St) (j : Nat) : Nat := (ss.getD j ⟨fun _ => 0, fun _ => 0, 0⟩).head
def rw_ (ss : List St) (i j : Nat) : Int := (ss.getD i ⟨fun _ => 0, fun _ => 0, 0⟩).row j
def cutB (s later : St) : St := ⟨cutS s.row later, fun i => s.parts i - (s.row later.head / later.row later.head) * later.parts i, s.head⟩
def tid : List St → List St
  | [] => []
  | s :: ss => (tid ss).foldl cutB s :: tid ss
theorem foldB_row : ∀ (ts : List St) (s : St), (ts.foldl cutB s).row = restS ts s.row ∧ (ts.foldl cutB s).head = s.head
  | [], s => ⟨rfl, rfl⟩
  | t :: ts, s => by
    have := foldB_row ts (cutB s t)
    exact ⟨this.1, this.2⟩
theorem tid_heads : ∀ ss : List St, (tid ss).map (·.head) = ss.map (·.head)
  | [] => rfl
  | s :: ss => by
    show ((tid ss).foldl cutB s).head :: (tid ss).map _ = _
    rw [(foldB_row (tid ss) s).2, tid_heads ss]
    rfl
theorem tid_len (ss : List St) : (tid ss).length = ss.length := by
  have := congrArg List.length (tid_heads ss)
  simpa using this
theorem tid_mem_head {ss : List St} {t : St} (h : t ∈ tid ss) : ∃ s ∈ ss, s.head = t.head := by
  have : t.head ∈ (tid ss).map (·.head) := List.mem_map_of_mem h
  rw [tid_heads] at this
  obtain ⟨s, hs, e⟩ := List.mem_map.mp this
  exact ⟨s, hs, e⟩
structure Tdy (n : Nat) (ss : List St) : Prop where
  ech : Ech n ss
  red : ss.Pairwise fun a b => 0 ≤ a.row b.head ∧ a.row b.head < b.row b.head
theorem tid_ok {n : Nat} : ∀ {ss : List St}, Ech n ss → Tdy n (tid ss) ∧ (∀ v, InL n (tid ss) v ↔ InL n ss v) ∧ ∀ (i : Nat) (s t : St), ss[i]? = some s → (tid ss)[i]? = some t → t.row s.head = s.row s.head ∧ t.head = s.head
  | [], _ => ⟨⟨⟨fun s hs => (by cases hs), .nil⟩, .nil⟩, fun v => Iff.rfl, fun i s t h => by simp at h⟩
  | s :: ss, E => by
    obtain ⟨T, L, P⟩ := tid_ok E.tail
    obtain ⟨hn, hz, hp⟩ := E.one s (List.mem_cons_self ..)
    obtain ⟨hr, hh⟩ := foldB_row (tid ss) s
    obtain ⟨R, I⟩ := rest_ok (v := s.row) T.ech
    have up : ∀ t ∈ tid ss, s.head < t.head := fun t ht => by
      obtain ⟨a, ha, e⟩ := tid_mem_head ht
      rw [← e]
      exact (List.pairwise_cons.mp E.up).1 a ha
    have low : ∀ j, j ≤ s.head → ∀ t ∈ tid ss, t.row j = 0 := fun j hj t ht => (T.ech.one t ht).2.1 j (Nat.lt_of_le_of_lt hj (up t ht))
    have at_ : ∀ j, j ≤ s.head → restS (tid ss) s.row j = s.row j := fun j hj => rest_keeps (n := n) (low j hj)
    have memF : ∀ t, t ∈ tid (s :: ss) → t = (tid ss).foldl cutB s ∨ t ∈ tid ss := fun t ht => List.mem_cons.mp ht
    refine ⟨⟨⟨fun t ht => ?_, ?_⟩, ?_⟩, fun v => ⟨fun h => ?_, fun h => ?_⟩, fun i a t h1 h2 => ?_⟩
    · rcases memF t ht with e | e
      · subst e
        rw [hr, hh]
        exact ⟨hn, fun j hj => (at_ j (Nat.le_of_lt hj)).trans (hz j hj), by rw [at_ _ (Nat.le_refl _)]; exact hp⟩
      · exact T.ech.one t e
    · refine List.pairwise_cons.mpr ⟨fun t ht => ?_, T.ech.up⟩
      rw [hh]
      exact up t ht
    · refine List.pairwise_cons.mpr ⟨fun t ht => ?_, T.red⟩
      rw [hr]
      exact R t ht
    · refine InL.sub (fun t ht => ?_) h
      rcases memF t ht with e | e
      · subst e
        rw [hr]
        refine InL.lin (-1) (InL.mem (List.mem_cons_self ..)) (((L _).mp I).cons) fun j _ => ?_
        show _ = s.row j + -1 * (s.row j - restS (tid ss) s.row j)
        omega
      · exact ((L _).mp (InL.mem e)).cons
    · refine InL.sub (fun a ha => ?_) h
      rcases List.mem_cons.mp ha with e | e
      · subst e
        refine InL.lin 1 (InL.mem (s := (tid ss).foldl cutB a) (List.mem_cons_self ..)) I.cons fun j _ => ?_
        rw [hr]
        show a.row j = restS (tid ss) a.row j + 1 * (a.row j - restS (tid ss) a.row j)
        omega
      · exact ((L _).mpr (InL.mem e)).cons
    · cases i with
      | zero =>
        have e1 : s = a := by simpa using h1
        have e2 : (tid ss).foldl cutB s = t := by
          have : (tid (s :: ss))[0]? = some ((tid ss).foldl cutB s) := rfl
          rw [this] at h2
          exact Option.some.inj h2
        subst e1 e2
        rw [hr, hh, at_ _ (Nat.le_refl _)]
        exact ⟨rfl, rfl⟩
      | succ i => exact P i a t (by simpa using h1) h2
/-! ### a row taken in -/
/-- a row as a stand, for the lattices -/
def rS (v : Nat → Int) : St := ⟨v, fun _ => 0, 0⟩
theorem InL.subset {n : Nat} {ss ts : List St} {v : Nat → Int} (h : ∀ s ∈ ss, s ∈ ts) (hv : InL n ss v) : InL n ts v := InL.sub (fun s hs => InL.mem (h s hs)) hv
/-- one exchange of two rows by a turning of weight 1 -/
theorem InL.turn {n : Nat} {F L : List St} {here S : St} {r r' : Nat → Int} {x y one other : Int} (hd : x * one - y * other = 1) (hS : ∀ j, j < n → S.row j = x * here.row j + y * r j) (hr : ∀ j, j < n → r' j = one * r j + other * here.row j) (v : Nat → Int) :
    InL n (rS r' :: (F ++ S :: L)) v ↔ InL n (rS r :: (F ++ here :: L)) v := by
  have m1 : ∀ {a b : St}, a ∈ rS b.row :: (F ++ a :: L) := fun {a b} => by simp
  constructor
  · intro h
    have hh : InL n (rS r :: (F ++ here :: L)) here.row := InL.mem (by simp)
    have hrr : InL n (rS r :: (F ++ here :: L)) r := InL.head fun _ _ => rfl
    have z : InL n (rS r :: (F ++ here :: L)) fun _ => 0 := InL.zero fun _ _ => rfl
    refine InL.sub (fun s hs => ?_) h
    rcases List.mem_cons.mp hs with e | e
    · subst e
      have a1 : InL n (rS r :: (F ++ here :: L)) fun j => one * r j := InL.lin one z hrr fun j _ => by omega
      exact InL.lin other a1 hh fun j hj => hr j hj
    · rcases List.mem_append.mp e with e | e
      · exact InL.mem (by simp [e])
      · rcases List.mem_cons.mp e with e | e
        · subst e
          have a1 : InL n (rS r :: (F ++ here :: L)) fun j => x * here.row j := InL.lin x z hh fun j _ => by omega
          exact InL.lin y a1 hrr fun j hj => hS j hj
        · exact InL.mem (by simp [e])
  · intro h
    have hh : InL n (rS r' :: (F ++ S :: L)) S.row := InL.mem (by simp)
    have hrr : InL n (rS r' :: (F ++ S :: L)) r' := InL.head fun _ _ => rfl
    have z : InL n (rS r' :: (F ++ S :: L)) fun _ => 0 := InL.zero fun _ _ => rfl
    refine InL.sub (fun s hs => ?_) h
    rcases List.mem_cons.mp hs with e | e
    · subst e
      have a1 : InL n (rS r' :: (F ++ S :: L)) fun j => x * r' j := InL.lin x z hrr fun j _ => by omega
      refine InL.lin (-other) a1 hh fun j hj => ?_
      show r j = x * r' j + -other * S.row j
      rw [hr j hj, hS j hj]
      have : r j = (x * one - y * other) * r j := by rw [hd, Int.one_mul]
      grind
    · rcases List.mem_append.mp e with e | e
      · exact InL.mem (by simp [e])
      · rcases List.mem_cons.mp e with e | e
        · subst e
          have a1 : InL n (rS r' :: (F ++ S :: L)) fun j => one * S.row j := InL.lin one z hh fun j _ => by omega
          refine InL.lin (-y) a1 hrr fun j hj => ?_
          rw [hr j hj, hS j hj]
          have : s.row j = (x * one - y * other) * s.row j := by rw [hd, Int.one_mul]
          grind
        · exact InL.mem (by simp [e])
/-- a sorted list cut at a head -/
theorem split_heads {at_ : Nat} : ∀ {ss : List St}, (ss.Pairwise fun a b => a.head < b.head) → ss.filter (fun s => decide (s.head < at_)) ++ ss.filter (fun s => decide (at_ ≤ s.head)) = ss
  | [], _ => rfl
  | s :: ss, h => by
    obtain ⟨h1, h2⟩ := List.pairwise_cons.mp h
    by_cases e : s.head < at_
    · rw [List.filter_cons_of_pos (by simp [e]), List.filter_cons_of_neg (by simp; omega), List.cons_append, split_heads h2]
    · have z : ss.filter (fun s => decide (s.head < at_)) = [] := List.filter_eq_nil_iff.mpr fun a ha => by
        have := h1 a ha
        simp
        omega
      have y : ss.filter (fun s => decide (at_ ≤ s.head)) = ss := List.filter_eq_self.mpr fun a ha => by
        have := h1 a ha
        simp
        omega
      rw [List.filter_cons_of_neg (by simp [e]), z, List.filter_cons_of_pos (by simp; omega), y]
      rfl
end LK
end

section
set_option autoImplicit false
set_option maxRecDepth 100000
set_option maxHeartbeats 4000000
namespace LK
/-! ### how great the numbers of tidy stands can be -/
theorem sumN_front (n : Nat) (f : Nat → Int) : sumN (n + 1) f = f 0 + sumN n fun k => f (k + 1) := by
  induction n with
  | zero => show 0 + f 0 = f 0 + 0; omega
  | succ n ih =>
    show sumN (n + 1) f + f (n + 1) = f 0 + (sumN n (fun k => f (k + 1)) + f (n + 1))
    rw [ih]
    omega
theorem comb_sum : ∀ (ss : List St) (cs : List Int) (j : Nat), cs.length = ss.length → comb ss cs j = sumN ss.length fun k => cs.getD k 0 * rw_ ss k j
  | [], [], j, _ => rfl
  | s :: ss, c :: cs, j, h => by
    show c * s.row j + comb ss cs j = sumN (ss.length + 1) _
    rw [sumN_front, comb_sum ss cs j (by simpa using h)]
    rfl
theorem InL.coef {n : Nat} {ss : List St} {v : Nat → Int} (h : InL n ss v) : ∃ c : Nat → Int, ∀ j, j < n → v j = sumN ss.length fun k => c k * rw_ ss k j := by
  obtain ⟨cs, l, e⟩ := h
  exact ⟨fun k => cs.getD k 0, fun j hj => by rw [e j hj, comb_sum ss cs j l]⟩
theorem InL.of_coef {n : Nat} {ss : List St} {v : Nat → Int} (c : Nat → Int) (h : ∀ j, j < n → v j = sumN ss.length fun k => c k * rw_ ss k j) : InL n ss v := by
  refine ⟨(List.range ss.length).map c, by simp, fun j hj => ?_⟩
  rw [h j hj, comb_sum ss _ j (by simp)]
  refine sumN_ext fun k hk => ?_
  rw [List.getD_eq_getElem?_getD, range_at c hk]
  rfl
/-- the border's sum with its numbers named -/
def brdX (k : Nat) (M : Mx) (i l : Nat) : Int := det (k + 1) (upC (fun a b => M (sel k i a) b) k (idG l))
theorem brd_linX (k : Nat) (M : Mx) (i j : Nat) : brd k M i j = det k M * M i j + sumN k fun l => brdX k M i l * M l j := by
  let N : Mx := fun a b => M (sel k i a) b
  have e : brd k M i j = det (k + 1) (tr (upR (tr N) k fun a => sumN (k + 1) fun l => M (sel k i l) j * idG l a)) := det_ext fun a b ha hb => by
    show M (sel k i a) (sel k j b) = upR (tr N) k _ b a
    by_cases hbk : b = k
    · subst hbk
      rw [upR_same, sel_ge (Nat.lt_irrefl _)]
      have := mul_id (m := b + 1) (fun _ l => M (sel b i l) j) 0 ha
      exact this.symm
    · rw [upR_ne hbk, sel_lt (i := j) (by omega)]
      rfl
  rw [e, (tr_alt (k + 1)).sum (tr N) (by omega) (k + 1) (fun l => M (sel k i l) j) (fun l => idG l)]
  show sumN k _ + _ = _
  rw [Int.add_comm]
  congr 1
  · show M (sel k i k) j * det (k + 1) (upC N k (idG k)) = _
    rw [sel_ge (Nat.lt_irrefl k), det_lastC k (upC N k (idG k)) fun a _ => if_pos rfl]
    have : det k (upC N k (idG k)) = det k M := det_ext fun a b ha hb => by
      show (if b = k then _ else M (sel k i a) b) = M a b
      rw [if_neg (by omega), sel_lt ha]
    rw [this, Int.mul_comm]
  · refine sumN_ext fun l hl => ?_
    show M (sel k i l) j * det (k + 1) (upC N k (idG l)) = _
    rw [sel_lt hl, Int.mul_comm]
    rfl
structure Box (n b : Nat) (ss : List St) (A : Mx) : Prop where
  inL : ∀ i, i < ss.length → InL n ss (A i)
  bd : Bd b ss.length n A
  ne : det ss.length (fun i j => A i (hd ss j)) ≠ 0
theorem st_at {ss : List St} {k : Nat} (hk : k < ss.length) : ∃ s ∈ ss, hd ss k = s.head ∧ ∀ j, rw_ ss k j = s.row j := by
  refine ⟨ss[k], List.getElem_mem hk, ?_, fun j => ?_⟩
  · unfold hd
    rw [List.getD_eq_getElem?_getD, List.getElem?_eq_getElem hk]
    rfl
  · unfold rw_
    rw [List.getD_eq_getElem?_getD, List.getElem?_eq_getElem hk]
    rfl
theorem Ech.at_ {n : Nat} {ss : List St} (E : Ech n ss) {k : Nat} (hk : k < ss.length) : hd ss k < n ∧ (∀ j, j < hd ss k → rw_ ss k j = 0) ∧ 0 < rw_ ss k (hd ss k) := by
  obtain ⟨s, hs, e, er⟩ := st_at hk
  obtain ⟨h1, h2, h3⟩ := E.one s hs
  rw [e]
  exact ⟨h1, fun j hj => by rw [er]; exact h2 j hj, by rw [er]; exact h3⟩
theorem Ech.rise {n : Nat} {ss : List St} (E : Ech n ss) {i k : Nat} (hi : i < k) (hk : k < ss.length) : hd ss i < hd ss k := by
  have := List.pairwise_iff_getElem.mp E.up i k (by omega) hk hi
  unfold hd
  rw [List.getD_eq_getElem?_getD, List.getD_eq_getElem?_getD, List.getElem?_eq_getElem hk, List.getElem?_eq_getElem (show i < ss.length by omega)]
  exact this
theorem prodN_pos : ∀ (n : Nat) (f : Nat → Int), (∀ i, i < n → 0 < f i) → 0 < prodN n f ∧ ∀ i, i < n → f i ≤ prodN n f
  | 0, f, _ => ⟨Int.zero_lt_one, fun i hi => by omega⟩
  | n + 1, f, h => by
    obtain ⟨h1, h2⟩ := prodN_pos n f fun i hi => h i (by omega)
    have h3 := h n (by omega)
    refine ⟨Int.mul_pos h1 h3, fun i hi => ?_⟩
    show f i ≤ prodN n f * f n
    by_cases e : i = n
    · subst e
      have : 1 * f i ≤ prodN i f * f i := Int.mul_le_mul_of_nonneg_right (by omega) (by omega)
      omega
    · have a := h2 i (by omega)
      have : prodN n f * 1 ≤ prodN n f * f n := Int.mul_le_mul_of_nonneg_left (by omega) (by omega)
      omega
theorem Box.split {n b : Nat} {ss : List St} {A : Mx} (E : Ech n ss) (B : Box n b ss A) : ∃ C : Mx, (∀ i j, i < ss.length → j < n → A i j = sumN ss.length fun k => C i k * rw_ ss k j) ∧ det ss.length C ≠ 0 ∧
    (det ss.length fun i j => A i (hd ss j)) = det ss.length C * prodN ss.length fun k => rw_ ss k (hd ss k) := by
  have h : ∀ i, ∃ c : Nat → Int, i < ss.length → ∀ j, j < n → A i j = sumN ss.length fun k => c k * rw_ ss k j := fun i => by
    by_cases hi : i < ss.length
    · obtain ⟨c, e⟩ := (B.inL i hi).coef
      exact ⟨c, fun _ => e⟩
    · exact ⟨fun _ => 0, fun z => absurd z hi⟩
  obtain ⟨C, hC⟩ := Classical.axiomOfChoice h
  have e : (det ss.length fun i j => A i (hd ss j)) = det ss.length C * prodN ss.length fun k => rw_ ss k (hd ss k) := by
    have e1 : (det ss.length fun i j => A i (hd ss j)) = det ss.length (mulG ss.length C fun k j => rw_ ss k (hd ss j)) := det_ext fun i j hi hj => hC i hi _ (E.at_ hj).1
    rw [e1, det_mul, det_tri _ fun k j => rw_ ss k (hd ss j)]
    intro k j hk hj
    exact (E.at_ hk).2.1 _ (E.rise hj hk)
  refine ⟨C, fun i j hi hj => hC i hi j hj, fun z => B.ne ?_, e⟩
  rw [e, z, Int.zero_mul]
theorem Box.tops {n b : Nat} {ss : List St} {A : Mx} (E : Ech n ss) (B : Box n b ss A) (hr : ss.length ≤ 8) {k : Nat} (hk : k < ss.length) : (rw_ ss k (hd ss k)).natAbs ≤ 2 ^ (ss.length * (b + 3)) := by
  obtain ⟨C, _, h0, e⟩ := B.split E
  obtain ⟨p1, p2⟩ := prodN_pos ss.length (fun k => rw_ ss k (hd ss k)) fun i hi => (E.at_ hi).2.2
  have h1 := p2 k hk
  have h2 := (E.at_ hk).2.2
  have h3 := det_bd (b := b) (A := fun i j => A i (hd ss j)) hr fun i j hi hj => B.bd i _ hi (E.at_ hj).1
  rw [e, Int.natAbs_mul] at h3
  have h4 : 1 ≤ (det ss.length C).natAbs := by omega
  have h5 : 1 * (prodN ss.length fun k => rw_ ss k (hd ss k)).natAbs ≤ (det ss.length C).natAbs * (prodN ss.length fun k => rw_ ss k (hd ss k)).natAbs := Nat.mul_le_mul_right _ h4
  have h6 : (rw_ ss k (hd ss k)).natAbs ≤ (prodN ss.length fun k => rw_ ss k (hd ss k)).natAbs := by omega
  omega
theorem Tdy.over {n : Nat} {ss : List St} (T : Tdy n ss) {i k : Nat} (hi : i < k) (hk : k < ss.length) : 0 ≤ rw_ ss i (hd ss k) ∧ rw_ ss i (hd ss k) < rw_ ss k (hd ss k) := by
  have := List.pairwise_iff_getElem.mp T.red i k (by omega) hk hi
  unfold hd rw_
  rw [List.getD_eq_getElem?_getD, List.getD_eq_getElem?_getD, List.getElem?_eq_getElem hk, List.getElem?_eq_getElem (show i < ss.length by omega)]
  exact this
theorem Box.rows {n b : Nat} {ss : List St} {A : Mx} (T : Tdy n ss) (B : Box n b ss A) (hr : ss.length ≤ 7) (hb : 1 ≤ b) {k : Nat} (hk : k < ss.length) {j : Nat} (hj : j < n) :
    (rw_ ss k j).natAbs ≤ ss.length * (2 ^ ((ss.length + 1) * (b + 3)) * 2 ^ (ss.length * (b + 3))) := by
  have E := T.ech
  obtain ⟨C, hC, h0, _⟩ := B.split E
  let M : Mx := fun a c => if a < ss.length then A c (hd ss a) else A c j
  let x : Nat → Int := brdX ss.length M ss.length
  have dM : det ss.length M = det ss.length fun i j => A i (hd ss j) := by
    rw [← det_tr]
    exact det_ext fun a c ha hc => if_pos hc
  have phiA : ∀ c, c < ss.length → det ss.length M * A c j + sumN ss.length (fun l => x l * A c (hd ss l)) = 0 := fun c hc => by
    have e := brd_linX ss.length M ss.length c
    rw [brd_zero M ss.length hc] at e
    have e1 : M ss.length c = A c j := if_neg (Nat.lt_irrefl _)
    have e2 : sumN ss.length (fun l => brdX ss.length M ss.length l * M l c) = sumN ss.length fun l => x l * A c (hd ss l) := sumN_ext fun l hl => by
      show brdX ss.length M ss.length l * (if l < ss.length then A c (hd ss l) else A c j) = _
      rw [if_pos hl]
    rw [e1, e2] at e
    exact e.symm
  let φ : Nat → Int := fun k => det ss.length M * rw_ ss k j + sumN ss.length fun l => x l * rw_ ss k (hd ss l)
  have phiH : ∀ c, c < ss.length → sumN ss.length (fun k => C c k * φ k) = 0 := fun c hc => by
    have e := phiA c hc
    rw [hC c j hc hj] at e
    have e2 : sumN ss.length (fun l => x l * A c (hd ss l)) = sumN ss.length fun l => sumN ss.length fun k => x l * (C c k * rw_ ss k (hd ss l)) := sumN_ext fun l hl => by
      rw [hC c _ hc (E.at_ hl).1, sumN_mul]
    rw [e2, sumN_swap, ← sumN_mul, ← sumN_add] at e
    rw [← e]
    refine sumN_ext fun k _ => ?_
    show C c k * (det ss.length M * rw_ ss k j + sumN ss.length fun l => x l * rw_ ss k (hd ss l)) = _
    rw [Int.mul_add, ← sumN_mul]
    congr 1
    · grind
    · exact sumN_ext fun l _ => by grind
  have zero := det_inj h0 phiH k hk
  have hne : det ss.length M ≠ 0 := by rw [dM]; exact B.ne
  have e : det ss.length M * rw_ ss k j = - sumN ss.length fun l => x l * rw_ ss k (hd ss l) := by
    have : det ss.length M * rw_ ss k j + sumN ss.length (fun l => x l * rw_ ss k (hd ss l)) = 0 := zero
    omega
  have bx : ∀ l, l < ss.length → (x l).natAbs ≤ 2 ^ ((ss.length + 1) * (b + 3)) := fun l hl => det_bd (b := b) (by omega) fun a c ha hc => by
    unfold upC
    split
    · unfold idG
      split
      · have : 2 ^ 1 ≤ 2 ^ b := Nat.pow_le_pow_right (by decide) hb
        show 1 < 2 ^ b
        omega
      · exact Nat.two_pow_pos _
    · show (if sel ss.length ss.length a < ss.length then A c (hd ss (sel ss.length ss.length a)) else A c j).natAbs < 2 ^ b
      split
      · rename_i h
        exact B.bd c _ (by omega) (E.at_ h).1
      · exact B.bd c j (by omega) hj
  have bH : ∀ l, l < ss.length → (rw_ ss k (hd ss l)).natAbs ≤ 2 ^ (ss.length * (b + 3)) := fun l hl => by
    have tl := B.tops E (by omega) hl
    rcases Nat.lt_trichotomy l k with h | h | h
    · rw [(E.at_ hk).2.1 _ (E.rise h hk)]
      exact Nat.zero_le _
    · subst h
      exact tl
    · have := T.over h hl
      omega
  have s := sumN_le (n := ss.length) (f := fun l => x l * rw_ ss k (hd ss l)) (B := 2 ^ ((ss.length + 1) * (b + 3)) * 2 ^ (ss.length * (b + 3))) fun l hl => by
    rw [Int.natAbs_mul]
    exact Nat.mul_le_mul (bx l hl) (bH l hl)
  have e2 := congrArg Int.natAbs e
  rw [Int.natAbs_mul, Int.natAbs_neg] at e2
  have h4 : 1 * (rw_ ss k j).natAbs ≤ (det ss.length M).natAbs * (rw_ ss k j).natAbs := Nat.mul_le_mul_right _ (by omega)
  omega
end LK
end

section
set_option autoImplicit false
set_option maxRecDepth 100000
set_option maxHeartbeats 4000000
namespace LK
/-! ### mathematics: the greatest common divisor, shares -/
theorem gcd_step (a b : Int) : Int.gcd b (a.fmod b) = Int.gcd a b := by
  have e : a.fmod b = a - b * (a.fdiv b) := by
    have := Int.mul_fdiv_add_fmod a b
    omega
  rw [e, Int.gcd_comm a b, Int.sub_eq_add_neg, ← Int.mul_neg, Int.gcd_add_mul_left_right]
theorem fmod_lt (a b : Int) (hb : b ≠ 0) : (a.fmod b).natAbs < b.natAbs := by
  rcases Int.lt_or_gt_of_ne hb with h | h
  · have e : a.fmod b = -((-a).fmod (-b)) := by rw [Int.neg_fmod_neg, Int.neg_neg]
    have h1 := Int.fmod_nonneg_of_pos (-a) (b := -b) (by omega)
    have h2 := Int.fmod_lt_of_pos (-a) (b := -b) (by omega)
    omega
  · have h1 := Int.fmod_nonneg_of_pos a h
    have h2 := Int.fmod_lt_of_pos a h
    omega
/-- the turns of shares, by fuel -/
def shLoop : Nat → Int → Int → Int → Int → Int → Int → Int × Int × Int
  | 0, far, mine, its, _, _, _ => (far, mine, its)
  | n + 1, far, mine, its, near, mp, ip => if near = 0 then (far, mine, its) else shLoop n near mp ip (far - far / near * near) (mine - far / near * mp) (its - far / near * ip)
def shares (a b : Int) : Int × Int × Int :=
  let r := shLoop (b.natAbs + 1) a.natAbs 1 0 b.natAbs 0 1
  (r.1, (if a < 0 then -r.2.1 else r.2.1), (if b < 0 then -r.2.2 else r.2.2))
/-- what holds of the numbers between two turns (a, b without signs) -/
structure Sh (a b far mine its near mp ip : Int) : Prop where
  f0 : 0 ≤ far
  n0 : 0 ≤ near
  e1 : far = mine * a + its * b
  e2 : near = mp * a + ip * b
  g : Int.gcd far near = Int.gcd a b
  b1 : (mp.natAbs : Int) * far + (mine.natAbs : Int) * near = b
  b2 : (ip.natAbs : Int) * far + (its.natAbs : Int) * near = a
  s1 : (0 ≤ mine ∧ mp ≤ 0) ∨ (mine ≤ 0 ∧ 0 ≤ mp)
  s2 : (0 ≤ its ∧ ip ≤ 0) ∨ (its ≤ 0 ∧ 0 ≤ ip)
  m1 : (mine.natAbs : Int) ≤ max 1 b
  m2 : (its.natAbs : Int) ≤ max 1 a
  m3 : (mp.natAbs : Int) ≤ max 1 b
  m4 : (ip.natAbs : Int) ≤ max 1 a
theorem abs_le_of_mul {x f y b : Int} (hx : 0 ≤ x) (hy : 0 ≤ y) (hf : 0 < f) (h : x * f + y = b) : x ≤ b := by
  have : x * 1 ≤ x * f := Int.mul_le_mul_of_nonneg_left (by omega) hx
  omega
theorem natAbs_sub_mul {m q p : Int} (hq : 0 ≤ q) (h : (0 ≤ m ∧ p ≤ 0) ∨ (m ≤ 0 ∧ 0 ≤ p)) : ((m - q * p).natAbs : Int) = (m.natAbs : Int) + q * (p.natAbs : Int) := by
  rcases h with ⟨h1, h2⟩ | ⟨h1, h2⟩
  · have e : (p.natAbs : Int) = -p := by omega
    have : 0 ≤ q * -p := Int.mul_nonneg hq (by omega)
    rw [e, Int.mul_neg] at *
    omega
  · have e : (p.natAbs : Int) = p := by omega
    have : 0 ≤ q * p := Int.mul_nonneg hq h2
    rw [e]
    omega
theorem sign_sub_mul {m q p : Int} (hq : 0 ≤ q) (h : (0 ≤ m ∧ p ≤ 0) ∨ (m ≤ 0 ∧ 0 ≤ p)) : (0 ≤ p ∧ m - q * p ≤ 0) ∨ (p ≤ 0 ∧ 0 ≤ m - q * p) := by
  rcases h with ⟨h1, h2⟩ | ⟨h1, h2⟩
  · have : 0 ≤ q * -p := Int.mul_nonneg hq (by omega)
    rw [Int.mul_neg] at this
    exact .inr ⟨h2, by omega⟩
  · have : 0 ≤ q * p := Int.mul_nonneg hq h2
    exact .inl ⟨h2, by omega⟩
theorem Sh.start (a b : Int) (ha : 0 ≤ a) (hb : 0 ≤ b) : Sh a b a 1 0 b 0 1 :=
  ⟨ha, hb, by omega, by omega, rfl, by simp, by simp, by omega, by omega, by simp; omega, by simp; omega, by simp; omega, by simp; omega⟩
theorem Sh.turn {a b far mine its near mp ip : Int} (h : Sh a b far mine its near mp ip) (hn : near ≠ 0) : Sh a b near mp ip (far - far / near * near) (mine - far / near * mp) (its - far / near * ip) := by
  have hpos : 0 < near := by have := h.n0; omega
  have hq : 0 ≤ far / near := Int.ediv_nonneg h.f0 h.n0
  have er : far - far / near * near = far % near := by
    have := Int.mul_ediv_add_emod far near
    rw [Int.mul_comm] at this
    omega
  have hr0 : 0 ≤ far % near := Int.emod_nonneg _ hn
  have key : ∀ x y z : Int, x * near + y * far = z → (y + far / near * x) * near + x * (far - far / near * near) = x * far + y * near := fun x y z _ => by
    rw [Int.add_mul, Int.mul_sub, Int.mul_assoc, ← Int.mul_assoc x, Int.mul_comm x (far / near), Int.mul_assoc]
    omega
  have k1 : ((mine - far / near * mp).natAbs : Int) * near + (mp.natAbs : Int) * (far - far / near * near) = b := by
    rw [natAbs_sub_mul hq h.s1, key _ _ _ rfl]
    exact h.b1
  have k2 : ((its - far / near * ip).natAbs : Int) * near + (ip.natAbs : Int) * (far - far / near * near) = a := by
    rw [natAbs_sub_mul hq h.s2, key _ _ _ rfl]
    exact h.b2
  refine ⟨h.n0, by omega, h.e2, ?_, ?_, k1, k2, ?_, ?_, h.m3, h.m4, ?_, ?_⟩
  · rw [Int.sub_mul, Int.sub_mul, Int.mul_assoc, Int.mul_assoc]
    have e1 := h.e1
    have e2 : far / near * near = far / near * (mp * a) + far / near * (ip * b) := by rw [← Int.mul_add, ← h.e2]
    omega
  · have := gcd_step far near
    rw [Int.fmod_eq_emod_of_nonneg far h.n0] at this
    rw [er, this]
    exact h.g
  · rcases sign_sub_mul hq h.s1 with z | z
    · exact .inl z
    · exact .inr z
  · rcases sign_sub_mul hq h.s2 with z | z
    · exact .inl z
    · exact .inr z
  · have h1 : 0 ≤ (mp.natAbs : Int) * (far - far / near * near) := Int.mul_nonneg (by omega) (by omega)
    have := abs_le_of_mul (by omega) h1 hpos k1
    omega
  · have h1 : 0 ≤ (ip.natAbs : Int) * (far - far / near * near) := Int.mul_nonneg (by omega) (by omega)
    have := abs_le_of_mul (by omega) h1 hpos k2
    omega
theorem Sh.less {a b far mine its near mp ip : Int} (h : Sh a b far mine its near mp ip) (hn : near ≠ 0) : 0 ≤ far - far / near * near ∧ far - far / near * near < near := by
  have hpos : 0 < near := by have := h.n0; omega
  have er : far - far / near * near = far % near := by
    have := Int.mul_ediv_add_emod far near
    rw [Int.mul_comm] at this
    omega
  have h1 : 0 ≤ far % near := Int.emod_nonneg _ hn
  have h2 : far % near < near := Int.emod_lt_of_pos _ hpos
  omega
/-- what the loop leaves -/
theorem sh_end {a b : Int} : ∀ {n : Nat} {far mine its near mp ip : Int}, Sh a b far mine its near mp ip → near < n → ∃ mp' ip', Sh a b (shLoop n far mine its near mp ip).1 (shLoop n far mine its near mp ip).2.1 (shLoop n far mine its near mp ip).2.2 0 mp' ip'
  | 0, _, _, _, _, _, _, h, hn => by have := h.n0; omega
  | n + 1, far, mine, its, near, mp, ip, h, hn => by
    by_cases h0 : near = 0
    · unfold shLoop
      rw [if_pos h0]
      subst h0
      exact ⟨mp, ip, h⟩
    · unfold shLoop
      rw [if_neg h0]
      have := h.less h0
      exact sh_end (h.turn h0) (by omega)
theorem shares_fst (a b : Int) : (shares a b).1 = (Int.gcd a b : Int) := by
  obtain ⟨mp, ip, h⟩ := sh_end (n := b.natAbs + 1) (Sh.start (a.natAbs : Int) (b.natAbs : Int) (by omega) (by omega)) (by omega)
  have e := h.g
  have f0 := h.f0
  rw [Int.gcd_zero_right] at e
  show (shLoop _ _ _ _ _ _ _).1 = _
  have e2 : Int.gcd (a.natAbs : Int) (b.natAbs : Int) = Int.gcd a b := by simp [Int.gcd]
  omega
theorem shares_sum (a b : Int) : (shares a b).2.1 * a + (shares a b).2.2 * b = (Int.gcd a b : Int) := by
  obtain ⟨mp, ip, h⟩ := sh_end (n := b.natAbs + 1) (Sh.start (a.natAbs : Int) (b.natAbs : Int) (by omega) (by omega)) (by omega)
  have e := shares_fst a b
  have e1 := h.e1
  have f1 : (shares a b).2.1 * a = (shLoop (b.natAbs + 1) a.natAbs 1 0 b.natAbs 0 1).2.1 * (a.natAbs : Int) := by
    show (if a < 0 then -_ else _) * a = _
    split
    · have z : (a.natAbs : Int) = -a := by omega
      rw [z, Int.mul_neg, Int.neg_mul]
    · have z : (a.natAbs : Int) = a := by omega
      rw [z]
  have f2 : (shares a b).2.2 * b = (shLoop (b.natAbs + 1) a.natAbs 1 0 b.natAbs 0 1).2.2 * (b.natAbs : Int) := by
    show (if b < 0 then -_ else _) * b = _
    split
    · have z : (b.natAbs : Int) = -b := by omega
      rw [z, Int.mul_neg, Int.neg_mul]
    · have z : (b.natAbs : Int) = b := by omega
      rw [z]
  rw [f1, f2, ← e]
  exact e1.symm
theorem shares_x (a b : Int) : ((shares a b).2.1.natAbs : Int) ≤ max 1 (b.natAbs : Int) := by
  obtain ⟨mp, ip, h⟩ := sh_end (n := b.natAbs + 1) (Sh.start (a.natAbs : Int) (b.natAbs : Int) (by omega) (by omega)) (by omega)
  have := h.m1
  show ((if a < 0 then -_ else _ : Int).natAbs : Int) ≤ _
  split <;> omega
theorem shares_y (a b : Int) : ((shares a b).2.2.natAbs : Int) ≤ max 1 (a.natAbs : Int) := by
  obtain ⟨mp, ip, h⟩ := sh_end (n := b.natAbs + 1) (Sh.start (a.natAbs : Int) (b.natAbs : Int) (by omega) (by omega)) (by omega)
  have := h.m2
  show ((if b < 0 then -_ else _ : Int).natAbs : Int) ≤ _
  split <;> omega
end LK
end

section
set_option autoImplicit false
set_option maxRecDepth 100000
set_option maxHeartbeats 4000000
namespace LK
/-! ### rows made of given ones; the bounds of tidy stands -/
def Mk (n m : Nat) (G : Mx) (v p : Nat → Int) : Prop := ∀ j, j < n → v j = sumN m fun i => p i * G i j
theorem Mk.lin {n m : Nat} {G : Mx} {u v w p q r : Nat → Int} {x y : Int} (hu : Mk n m G u p) (hv : Mk n m G v q) (hw : ∀ j, j < n → w j = x * u j + y * v j) (hr : ∀ i, i < m → r i = x * p i + y * q i) : Mk n m G w r := fun j hj => by
  rw [hw j hj, hu j hj, hv j hj, ← sumN_mul, ← sumN_mul, ← sumN_add]
  exact sumN_ext fun i hi => by rw [hr i hi]; grind
theorem lt_of_sum_ne {m : Nat} {f : Nat → Int} (h : sumN m f ≠ 0) : ∃ i, i < m ∧ f i ≠ 0 := by
  apply Classical.byContradiction
  intro z
  exact h (sumN_zero fun k hk => Classical.byContradiction fun q => z ⟨k, hk, q⟩)
theorem Ech.le {n : Nat} : ∀ {ss : List St}, Ech n ss → ∀ k, k < ss.length → k ≤ hd ss k := by
  intro ss E k
  induction k with
  | zero => intro _; exact Nat.zero_le _
  | succ k ih =>
    intro hk
    have := E.rise (i := k) (k := k + 1) (by omega) hk
    have := ih (by omega)
    omega
theorem Ech.len {n : Nat} {ss : List St} (E : Ech n ss) : ss.length ≤ n := by
  cases h : ss.length with
  | zero => omega
  | succ k =>
    have := E.le k (by omega)
    have := (E.at_ (k := k) (by omega)).1
    omega
theorem box_of {n b m : Nat} {ss : List St} {G : Mx} (E : Ech n ss) (hG : ∀ i, i < m → InL n ss (G i)) (mk : ∀ s ∈ ss, Mk n m G s.row s.parts) (bd : Bd b m n G) : ∃ A, Box n b ss A := by
  have step : ∀ k, k ≤ ss.length → ∃ A : Mx, (∀ i, i < k → InL n ss (A i) ∧ ∀ j, j < n → (A i j).natAbs < 2 ^ b) ∧ (∀ i, k ≤ i → i < ss.length → ∀ j, j < n → A i j = rw_ ss i j) ∧ det ss.length (fun i j => A i (hd ss j)) ≠ 0 := by
    intro k
    induction k with
    | zero =>
      intro _
      refine ⟨rw_ ss, fun i hi => absurd hi (by omega), fun i _ _ j _ => rfl, ?_⟩
      rw [det_tri _ fun i j => rw_ ss i (hd ss j)]
      · have := (prodN_pos ss.length (fun i => rw_ ss i (hd ss i)) fun i hi => (E.at_ hi).2.2).1
        omega
      · intro i j hi hj
        exact (E.at_ hi).2.1 _ (E.rise hj hi)
    | succ k ih =>
      intro hk
      obtain ⟨A, h1, h2, h3⟩ := ih (by omega)
      obtain ⟨s, hs, _, er⟩ := st_at (ss := ss) (k := k) (by omega)
      let N : Mx := fun i j => A i (hd ss j)
      have F := det_alt ss.length
      have e : det ss.length N = det ss.length (upR N k fun j => sumN m fun i => s.parts i * G i (hd ss j)) := det_ext fun a c ha hc => by
        by_cases z : a = k
        · subst z
          rw [upR_same, ← mk s hs _ (E.at_ hc).1, ← er]
          exact h2 a (Nat.le_refl _) ha _ (E.at_ hc).1
        · rw [upR_ne z]
      have e2 := F.sum N (show k < ss.length by omega) m s.parts fun i j => G i (hd ss j)
      have h3' : det ss.length N ≠ 0 := h3
      rw [e, e2] at h3'
      obtain ⟨i, hi, ne⟩ := lt_of_sum_ne h3'
      refine ⟨upR A k (G i), fun a ha => ?_, fun a h5 h6 j hj => ?_, ?_⟩
      · by_cases z : a = k
        · subst z
          exact ⟨(hG i hi).ext fun j _ => upR_same _ _ _ _, fun j hj => by rw [upR_same]; exact bd i j hi hj⟩
        · obtain ⟨g1, g2⟩ := h1 a (by omega)
          exact ⟨g1.ext fun j _ => upR_ne z _ _, fun j hj => by rw [upR_ne z]; exact g2 j hj⟩
      · rw [upR_ne (by omega)]
        exact h2 a (by omega) h6 j hj
      · intro z
        apply ne
        have : (upR N k fun j => G i (hd ss j)) = fun a c => upR A k (G i) a (hd ss c) := by
          funext a c
          unfold upR
          split <;> rfl
        rw [this, z, Int.mul_zero]
  obtain ⟨A, h1, _, h3⟩ := step ss.length (Nat.le_refl _)
  exact ⟨A, fun i hi => (h1 i hi).1, fun i j hi hj => (h1 i hi).2 j hj, h3⟩
/-- the bits of tidy rows -/
def Bn (n b : Nat) : Nat := (2 * n + 1) * (b + 3) + 3
theorem rows_lt {n b m : Nat} {ss : List St} {G : Mx} (T : Tdy n ss) (hn : n ≤ 7) (hb : 1 ≤ b) (hG : ∀ i, i < m → InL n ss (G i)) (mk : ∀ s ∈ ss, Mk n m G s.row s.parts) (bd : Bd b m n G) : ∀ s ∈ ss, ∀ j, j < n → (s.row j).natAbs < 2 ^ Bn n b := by
  intro s hs j hj
  obtain ⟨A, B⟩ := box_of T.ech hG mk bd
  obtain ⟨k, hk⟩ := List.mem_iff_getElem?.mp hs
  have hk' : k < ss.length := (List.getElem?_eq_some_iff.mp hk).1
  have hr := T.ech.len
  have h := B.rows T (by omega) hb hk' hj
  have e : rw_ ss k j = s.row j := by
    unfold rw_
    rw [List.getD_eq_getElem?_getD, hk]
    rfl
  rw [e, ← Nat.pow_add] at h
  refine Nat.lt_of_le_of_lt h ?_
  have h1 : (ss.length + 1) * (b + 3) + ss.length * (b + 3) ≤ (2 * n + 1) * (b + 3) := by
    rw [← Nat.add_mul]
    exact Nat.mul_le_mul_right _ (by omega)
  refine Nat.lt_of_lt_of_le (Nat.mul_lt_mul_of_lt_of_le (show ss.length < 2 ^ 3 by omega) (Nat.pow_le_pow_right (by decide) h1) (Nat.two_pow_pos _)) ?_
  rw [← Nat.pow_add]
  exact Nat.pow_le_pow_right (by decide) (by unfold Bn; omega)
/-! ### bits -/
theorem lin_bd {x u y w : Int} {a c d e f : Nat} (hx : x.natAbs < 2 ^ a) (hu : u.natAbs < 2 ^ c) (hy : y.natAbs < 2 ^ d) (hw : w.natAbs < 2 ^ e) (h1 : a + c ≤ f) (h2 : d + e ≤ f) : (x * u + y * w).natAbs < 2 ^ (f + 1) := by
  have p1 := Nat.lt_of_lt_of_le (DL.bits_mul hx hu) (Nat.pow_le_pow_right (by decide) h1)
  have p2 := Nat.lt_of_lt_of_le (DL.bits_mul hy hw) (Nat.pow_le_pow_right (by decide) h2)
  rw [Nat.pow_succ]
  omega
theorem up_bd {x : Int} {a c : Nat} (h : x.natAbs < 2 ^ a) (hc : a ≤ c) : x.natAbs < 2 ^ c := Nat.lt_of_lt_of_le h (Nat.pow_le_pow_right (by decide) hc)
theorem ediv_bd {x y : Int} {a : Nat} (h : x.natAbs < 2 ^ a) : (x / y).natAbs < 2 ^ a := Nat.lt_of_le_of_lt (Int.natAbs_ediv_le_natAbs x y) h
theorem cut_bd {n a B : Nat} {v : Nat → Int} {s : St} (hv : ∀ j, j < n → (v j).natAbs < 2 ^ a) (hh : s.head < n) (hs : ∀ j, j < n → (s.row j).natAbs < 2 ^ B) : ∀ j, j < n → (cutS v s j).natAbs < 2 ^ (a + (B + 1)) := fun j hj => by
  have h := lin_bd (x := 1) (u := v j) (y := -(v s.head / s.row s.head)) (w := s.row j) (a := 1) (c := a) (d := a) (e := B) (f := a + B + 0) (by decide) (hv j hj) (by rw [Int.natAbs_neg]; exact ediv_bd (hv _ hh)) (hs j hj)
  by_cases hB : B = 0
  · subst hB
    have z := hs j hj
    have z0 : s.row j = 0 := by
      have : (s.row j).natAbs < 1 := z
      omega
    unfold cutS
    rw [z0, Int.mul_zero, Int.sub_zero]
    exact up_bd (hv j hj) (by omega)
  · have h2 := h (by omega) (by omega)
    have e : cutS v s j = 1 * v j + -(v s.head / s.row s.head) * s.row j := by
      unfold cutS
      grind
    rw [e]
    exact up_bd h2 (by omega)
theorem rest_bd {n B : Nat} : ∀ {ss : List St} {a : Nat} {v : Nat → Int}, (∀ j, j < n → (v j).natAbs < 2 ^ a) → (∀ s ∈ ss, s.head < n ∧ ∀ j, j < n → (s.row j).natAbs < 2 ^ B) → ∀ j, j < n → (restS ss v j).natAbs < 2 ^ (a + ss.length * (B + 1))
  | [], a, v, hv, _, j, hj => by
    show (v j).natAbs < 2 ^ (a + 0 * (B + 1))
    rw [Nat.zero_mul]
    exact hv j hj
  | s :: ss, a, v, hv, hs, j, hj => by
    have h1 := cut_bd hv (hs s (List.mem_cons_self ..)).1 (hs s (List.mem_cons_self ..)).2
    have h2 := rest_bd (ss := ss) h1 (fun t ht => hs t (List.mem_cons_of_mem _ ht)) j hj
    refine up_bd h2 ?_
    rw [List.length_cons, Nat.succ_mul]
    omega
/-! ### the only tidy stands -/
theorem InL.zero_below {n : Nat} {ss : List St} {j0 : Nat} (hz : ∀ s ∈ ss, ∀ j, j < j0 → s.row j = 0) {v : Nat → Int} (h : InL n ss v) : ∀ j, j < j0 → j < n → v j = 0 := fun j hj hn => by
  obtain ⟨cs, l, e⟩ := h
  rw [e j hn]
  exact comb_at fun a ha => hz a ha j hj
theorem Ech.below {n : Nat} {s : St} {ss : List St} (E : Ech n (s :: ss)) : ∀ a ∈ s :: ss, ∀ j, j < s.head → a.row j = 0 := fun a ha j hj => by
  rcases List.mem_cons.mp ha with e | e
  · subst e
    exact (E.one a (List.mem_cons_self ..)).2.1 j hj
  · exact (E.one a (List.mem_cons_of_mem _ e)).2.1 j (Nat.lt_trans hj ((List.pairwise_cons.mp E.up).1 a e))
theorem InL.at_head {n : Nat} {s : St} {ss : List St} {v : Nat → Int} (E : Ech n (s :: ss)) (h : InL n (s :: ss) v) : ∃ c : Int, v s.head = c * s.row s.head ∧ InL n ss fun j => v j - c * s.row j := by
  obtain ⟨cs, l, e⟩ := h
  match cs, l, e with
  | c :: cs, l, e =>
    refine ⟨c, ?_, cs, by simpa using l, fun j hj => ?_⟩
    · rw [e _ (E.one s (List.mem_cons_self ..)).1]
      show c * s.row s.head + comb ss cs s.head = _
      rw [comb_at E.low, Int.add_zero]
    · have := e j hj
      show v j - c * s.row j = comb ss cs j
      rw [this]
      show c * s.row j + comb ss cs j - c * s.row j = comb ss cs j
      omega
theorem InL.tail_iff {n : Nat} {s : St} {ss : List St} {v : Nat → Int} (E : Ech n (s :: ss)) : InL n ss v ↔ InL n (s :: ss) v ∧ v s.head = 0 := by
  obtain ⟨hn, hz, hp⟩ := E.one s (List.mem_cons_self ..)
  constructor
  · intro h
    refine ⟨h.cons, ?_⟩
    obtain ⟨cs, l, e⟩ := h
    rw [e _ hn]
    exact comb_at E.low
  · rintro ⟨h, h0⟩
    obtain ⟨c, hc, h2⟩ := h.at_head E
    rw [h0] at hc
    rcases Int.mul_eq_zero.mp hc.symm with z | z
    · refine h2.ext fun j _ => ?_
      rw [z, Int.zero_mul, Int.sub_zero]
    · omega
theorem Tdy.tail {n : Nat} {s : St} {ss : List St} (T : Tdy n (s :: ss)) : Tdy n ss := ⟨T.ech.tail, (List.pairwise_cons.mp T.red).2⟩
/-- the same head and row -/
def SameR (n : Nat) (s t : St) : Prop := s.head = t.head ∧ ∀ j, j < n → s.row j = t.row j
inductive Alike (n : Nat) : List St → List St → Prop
  | nil : Alike n [] []
  | cons {s t : St} {ss ts : List St} : SameR n s t → Alike n ss ts → Alike n (s :: ss) (t :: ts)
theorem Alike.len {n : Nat} : ∀ {ss ts : List St}, Alike n ss ts → ss.length = ts.length
  | _, _, .nil => rfl
  | _, _, .cons _ h => by rw [List.length_cons, List.length_cons, h.len]
theorem Alike.rd {n : Nat} {v : Nat → Int} : ∀ {ss ts : List St}, Alike n ss ts → (∀ s ∈ ss, s.head < n) → Rd ts v → Rd ss v
  | _, _, .nil, _, _ => fun s hs => by cases hs
  | _, _, .cons (s := s) (t := t) q h, hn, R => fun a ha => by
    rcases List.mem_cons.mp ha with e | e
    · subst e
      have := R t (List.mem_cons_self ..)
      rw [q.1, q.2 _ (by rw [← q.1]; exact hn a (List.mem_cons_self ..))]
      exact this
    · exact h.rd (fun x hx => hn x (List.mem_cons_of_mem _ hx)) (fun x hx => R x (List.mem_cons_of_mem _ hx)) a e
theorem tdy_red {n : Nat} {s : St} {ss : List St} (T : Tdy n (s :: ss)) : Rd ss s.row := fun a ha => (List.pairwise_cons.mp T.red).1 a ha
theorem tdy_uniq {n : Nat} : ∀ {ss ts : List St}, Tdy n ss → Tdy n ts → (∀ v, InL n ss v ↔ InL n ts v) → Alike n ss ts
  | [], [], _, _, _ => .nil
  | s :: ss, [], T, _, h => by
    exfalso
    obtain ⟨hn, hz, hp⟩ := T.ech.one s (List.mem_cons_self ..)
    obtain ⟨cs, l, e⟩ := (h s.row).mp (InL.mem (List.mem_cons_self ..))
    have := e _ hn
    have z : comb [] cs s.head = 0 := by cases cs <;> rfl
    omega
  | [], t :: ts, _, T, h => by
    exfalso
    obtain ⟨hn, hz, hp⟩ := T.ech.one t (List.mem_cons_self ..)
    obtain ⟨cs, l, e⟩ := (h t.row).mpr (InL.mem (List.mem_cons_self ..))
    have := e _ hn
    have z : comb [] cs t.head = 0 := by cases cs <;> rfl
    omega
  | s :: ss, t :: ts, T, U, h => by
    obtain ⟨sn, sz, sp⟩ := T.ech.one s (List.mem_cons_self ..)
    obtain ⟨tn, tz, tp⟩ := U.ech.one t (List.mem_cons_self ..)
    have i1 : InL n (t :: ts) s.row := (h _).mp (InL.mem (List.mem_cons_self ..))
    have i2 : InL n (s :: ss) t.row := (h _).mpr (InL.mem (List.mem_cons_self ..))
    have eh : s.head = t.head := by
      rcases Nat.lt_trichotomy s.head t.head with z | z | z
      · have := i1.zero_below U.ech.below _ z sn
        omega
      · exact z
      · have := i2.zero_below T.ech.below _ z tn
        omega
    obtain ⟨c, hc, c2⟩ := i1.at_head U.ech
    obtain ⟨d, hd', d2⟩ := i2.at_head T.ech
    rw [← eh] at hc
    have tp' : 0 < t.row s.head := by rw [eh]; exact tp
    have top : s.row s.head = t.row s.head := by
      have hd2 : t.row s.head = d * s.row s.head := hd'
      have c1 : 0 < c := by
        rcases Int.lt_or_le 0 c with z | z
        · exact z
        · exfalso
          have := Int.mul_le_mul_of_nonneg_right z (Int.le_of_lt tp')
          omega
      have d1 : 0 < d := by
        rcases Int.lt_or_le 0 d with z | z
        · exact z
        · exfalso
          have := Int.mul_le_mul_of_nonneg_right z (Int.le_of_lt sp)
          omega
      have g1 : 1 * t.row s.head ≤ c * t.row s.head := Int.mul_le_mul_of_nonneg_right (by omega) (by omega)
      have g2 : 1 * s.row s.head ≤ d * s.row s.head := Int.mul_le_mul_of_nonneg_right (by omega) (by omega)
      omega
    have lat : ∀ v, InL n ss v ↔ InL n ts v := fun v => by
      rw [InL.tail_iff T.ech, InL.tail_iff U.ech, h v, eh]
    have A := tdy_uniq T.tail U.tail lat
    refine .cons ⟨eh, ?_⟩ A
    refine rest_uniq T.tail.ech (tdy_red T) (A.rd (fun a ha => (T.tail.ech.one a ha).1) (tdy_red U)) ?_
    refine (InL.tail_iff T.ech).mpr ⟨?_, by show s.row s.head - t.row s.head = 0; omega⟩
    exact InL.lin (-1) (InL.mem (List.mem_cons_self ..)) i2 fun j _ => by omega
end LK
end

section
set_option autoImplicit false
set_option maxRecDepth 100000
set_option maxHeartbeats 4000000
namespace LK
/-! ### taking a row in, turn by turn -/
structure Dim (n b B : Nat) : Prop where
  n7 : n ≤ 7
  b1 : 1 ≤ b
  B1 : 1 ≤ B
  bnd : n * (B + 1) + b ≤ 8000
/-- what is known of the stands that a row is taken into -/
structure Old (n B m P : Nat) (G : Mx) (ss : List St) : Prop where
  tdy : Tdy n ss
  row : ∀ s ∈ ss, ∀ j, j < n → (s.row j).natAbs < 2 ^ B
  made : ∀ s ∈ ss, Mk n m G s.row s.parts
  zero : ∀ s ∈ ss, ∀ i, m ≤ i → s.parts i = 0
  bp : ∀ s ∈ ss, ∀ i, i < m → (s.parts i).natAbs < 2 ^ P
structure TI (n b B m P : Nat) (G : Mx) (ss0 : List St) (v0 : Nat → Int) (k : Nat) (F L : List St) (r p : Nat → Int) : Prop where
  ech : Ech n (F ++ L)
  lat : ∀ w, InL n (rS r :: (F ++ L)) w ↔ InL n (rS v0 :: ss0) w
  made : ∀ s ∈ F ++ L, Mk n m G s.row s.parts
  mkr : Mk n m G r p
  zero : ∀ s ∈ F ++ L, ∀ i, m ≤ i → s.parts i = 0
  zp : ∀ i, m ≤ i → p i = 0
  low : ∀ s ∈ F, ∀ j, j ≤ s.head → r j = 0
  left : (∀ s ∈ L, s ∈ ss0) ∨ ∀ j, j < n → r j = 0
  kk : (∀ j, j < n → r j = 0) ∨ k + L.length ≤ ss0.length
  k0 : k ≤ ss0.length
  sn : ss0.length ≤ n
  br : ∀ j, j < n → (r j).natAbs < 2 ^ (b + k * (B + 1))
  bF : ∀ s ∈ F ++ L, ∀ j, j < n → (s.row j).natAbs < 2 ^ 8000
  bp : ∀ i, i < m → (p i).natAbs < 2 ^ (P + k * 8001)
  bP : ∀ s ∈ F ++ L, ∀ i, i < m → (s.parts i).natAbs < 2 ^ (P + k * 8001)
theorem Dim.B {n b B : Nat} (D : Dim n b B) (h : 0 < n) : B + 1 + b ≤ 8000 := by
  have := D.bnd
  have : 1 * (B + 1) ≤ n * (B + 1) := Nat.mul_le_mul_right _ h
  omega
theorem Dim.step {n b B k : Nat} (D : Dim n b B) (h : k ≤ n) : b + k * (B + 1) ≤ 8000 := by
  have := D.bnd
  have : k * (B + 1) ≤ n * (B + 1) := Nat.mul_le_mul_right _ h
  omega
theorem rows8 {n b B : Nat} (D : Dim n b B) {x : Int} {j : Nat} (hj : j < n) (h : x.natAbs < 2 ^ B) : x.natAbs < 2 ^ 8000 := up_bd h (by have := D.B (show 0 < n by omega); omega)
theorem TI.start {n b B m P : Nat} {G : Mx} {ss : List St} {v p : Nat → Int} (D : Dim n b B) (O : Old n B m P G ss) (hv : ∀ j, j < n → (v j).natAbs < 2 ^ b) (mk : Mk n m G v p) (zp : ∀ i, m ≤ i → p i = 0) (bp : ∀ i, i < m → (p i).natAbs < 2 ^ P) :
    TI n b B m P G ss v 0 [] ss v p where
  ech := O.tdy.ech
  lat := fun w => Iff.rfl
  made := O.made
  mkr := mk
  zero := O.zero
  zp := zp
  low := fun s hs => by cases hs
  left := .inl fun s h => h
  kk := .inr (by omega)
  k0 := Nat.zero_le _
  sn := O.tdy.ech.len
  br := fun j hj => up_bd (hv j hj) (by omega)
  bF := fun s hs j hj => rows8 D hj (O.row s hs j hj)
  bp := fun i hi => up_bd (bp i hi) (by omega)
  bP := fun s hs i hi => up_bd (O.bp s hs i hi) (by omega)
section
variable {n b B m P : Nat} {G : Mx} {ss0 : List St} {v0 : Nat → Int} {k : Nat} {F L : List St} {r p : Nat → Int}
/-- heads ahead of a column go to the found -/
theorem TI.move (I : TI n b B m P G ss0 v0 k F L r p) {h : Nat} (hn : h < n) (hr : ∀ j, j < h → r j = 0) (hne : r h ≠ 0) : TI n b B m P G ss0 v0 k (F ++ L.filter fun s => decide (s.head < h)) (L.filter fun s => decide (h ≤ s.head)) r p := by
  have e : (F ++ L.filter fun s => decide (s.head < h)) ++ (L.filter fun s => decide (h ≤ s.head)) = F ++ L := by
    rw [List.append_assoc, split_heads (List.pairwise_append.mp I.ech.up).2.1]
  refine { ech := by rw [e]; exact I.ech, lat := by rw [e]; exact I.lat, made := by rw [e]; exact I.made, mkr := I.mkr, zero := by rw [e]; exact I.zero, zp := I.zp, low := fun s hs j hj => ?_, left := ?_, kk := ?_, k0 := I.k0, sn := I.sn, br := I.br, bF := by rw [e]; exact I.bF, bp := I.bp, bP := by rw [e]; exact I.bP }
  · rcases List.mem_append.mp hs with z | z
    · exact I.low s z j hj
    · have := (List.mem_filter.mp z).2
      have := of_decide_eq_true this
      exact hr j (by omega)
  · rcases I.left with z | z
    · exact .inl fun s hs => z s (List.mem_filter.mp hs).1
    · exact absurd (z h hn) hne
  · rcases I.kk with z | z
    · exact absurd (z h hn) hne
    · have := List.length_filter_le (fun s : St => decide (h ≤ s.head)) L
      exact .inr (by omega)
/-- the row stands by itself -/
theorem TI.fresh (D : Dim n b B) (I : TI n b B m P G ss0 v0 k F L r p) {h : Nat} (hn : h < n) (hr : ∀ j, j < h → r j = 0) (hne : r h ≠ 0) (hF : ∀ s ∈ F, s.head < h) (hL : ∀ s ∈ L, h < s.head) {sg : Int} (hs : sg = 1 - 2 * (if r h < 0 then 1 else 0)) :
    TI n b B m P G ss0 v0 k F (⟨fun j => sg * r j + 0 * r j, fun i => sg * p i + 0 * p i, h⟩ :: L) (fun _ => 0) (fun _ => 0) := by
  have s1 : sg = 1 ∨ sg = -1 := by
    rw [hs]
    split <;> omega
  have ab : ∀ x : Int, (sg * x + 0 * x).natAbs = x.natAbs := fun x => by
    rcases s1 with e | e <;> rw [e] <;> simp
  have pos : 0 < sg * r h + 0 * r h := by
    rw [hs]
    split <;> omega
  have Up := List.pairwise_append.mp I.ech.up
  have memF : ∀ {s : St}, s ∈ F ++ L → s ∈ F ++ (⟨fun j => sg * r j + 0 * r j, fun i => sg * p i + 0 * p i, h⟩ :: L) := fun hs => by
    rcases List.mem_append.mp hs with e | e
    · exact List.mem_append_left _ e
    · exact List.mem_append_right _ (List.mem_cons_of_mem _ e)
  have cases_ : ∀ {Pr : St → Prop}, (∀ s ∈ F ++ L, Pr s) → Pr ⟨fun j => sg * r j + 0 * r j, fun i => sg * p i + 0 * p i, h⟩ → ∀ s ∈ F ++ (⟨fun j => sg * r j + 0 * r j, fun i => sg * p i + 0 * p i, h⟩ :: L), Pr s := fun h1 h2 s hs => by
    rcases List.mem_append.mp hs with e | e
    · exact h1 s (List.mem_append_left _ e)
    · rcases List.mem_cons.mp e with e | e
      · subst e
        exact h2
      · exact h1 s (List.mem_append_right _ e)
  have b8 := D.step (Nat.le_trans I.k0 I.sn)
  refine { ech := ⟨cases_ I.ech.one ⟨hn, fun j hj => by show sg * r j + 0 * r j = 0; rw [hr j hj]; simp, pos⟩, ?_⟩, lat := fun w => ?_, made := cases_ I.made (I.mkr.lin I.mkr (fun _ _ => rfl) fun _ _ => rfl), mkr := fun j hj => ?_, zero := cases_ I.zero fun i hi => ?_, zp := fun _ _ => rfl, low := fun _ _ _ _ => rfl, left := .inr fun _ _ => rfl, kk := .inl fun _ _ => rfl, k0 := I.k0, sn := I.sn, br := fun j _ => Nat.two_pow_pos _, bF := cases_ I.bF fun j hj => ?_, bp := fun i _ => Nat.two_pow_pos _, bP := cases_ I.bP fun i hi => ?_ }
  · refine List.pairwise_append.mpr ⟨Up.1, List.pairwise_cons.mpr ⟨hL, Up.2.1⟩, fun a ha c hc => ?_⟩
    rcases List.mem_cons.mp hc with e | e
    · subst e
      exact hF a ha
    · exact Up.2.2 a ha c e
  · rw [← I.lat w]
    have z : ∀ {X : List St}, InL n X fun _ => 0 := InL.zero fun _ _ => rfl
    constructor
    · intro q
      refine InL.sub (fun s hs => ?_) q
      rcases List.mem_cons.mp hs with e | e
      · subst e
        exact z
      · exact cases_ (Pr := fun s => InL n (rS r :: (F ++ L)) s.row) (fun s hs => InL.mem (List.mem_cons_of_mem _ hs)) (InL.lin sg z (InL.head fun _ _ => rfl) fun j _ => by show sg * r j + 0 * r j = 0 + sg * r j; omega) s e
    · intro q
      refine InL.sub (fun s hs => ?_) q
      rcases List.mem_cons.mp hs with e | e
      · subst e
        refine InL.lin sg z (InL.mem (s := ⟨fun j => sg * r j + 0 * r j, fun i => sg * p i + 0 * p i, h⟩) (by simp)) fun j _ => ?_
        show r j = 0 + sg * (sg * r j + 0 * r j)
        rcases s1 with e | e <;> rw [e] <;> omega
      · exact InL.mem (List.mem_cons_of_mem _ (memF e))
  · exact (sumN_zero fun i hi => Int.zero_mul _).symm
  · show sg * p i + 0 * p i = 0
    rw [I.zp i hi]
    simp
  · show (sg * r j + 0 * r j).natAbs < _
    rw [ab]
    exact up_bd (I.br j hj) b8
  · show (sg * p i + 0 * p i).natAbs < _
    rw [ab]
    exact I.bp i hi
theorem max1_bd {x y : Int} {a : Nat} (h : (x.natAbs : Int) ≤ max 1 (y.natAbs : Int)) (hy : y.natAbs < 2 ^ a) (ha : 1 ≤ a) : x.natAbs < 2 ^ a := by
  have h2 : 2 ^ 1 ≤ 2 ^ a := Nat.pow_le_pow_right (by decide) ha
  omega
/-- the row and a stand at its head -/
theorem TI.turn (D : Dim n b B) (O : Old n B m P G ss0) {here : St} {L' : List St} (I : TI n b B m P G ss0 v0 k F (here :: L') r p) (hn : here.head < n) (hr : ∀ j, j < here.head → r j = 0) (hne : r here.head ≠ 0) (hF : ∀ s ∈ F, s.head < here.head) {g x y : Int}
    (hg : 0 < g) (e0 : x * here.row here.head + y * r here.head = g) (g1 : g ∣ here.row here.head) (g2 : g ∣ r here.head) (bx : (x.natAbs : Int) ≤ max 1 ((r here.head).natAbs : Int)) (by_ : (y.natAbs : Int) ≤ max 1 ((here.row here.head).natAbs : Int)) :
    TI n b B m P G ss0 v0 (k + 1) (F ++ [⟨fun j => x * here.row j + y * r j, fun i => x * here.parts i + y * p i, here.head⟩]) L'
      (fun j => (here.row here.head / g) * r j + -(r here.head / g) * here.row j) (fun i => (here.row here.head / g) * p i + -(r here.head / g) * here.parts i) := by
  have hm : here ∈ ss0 := by
    rcases I.left with z | z
    · exact z here (List.mem_cons_self ..)
    · exact absurd (z _ hn) hne
  have hk : k + 1 ≤ ss0.length := by
    rcases I.kk with z | z
    · exact absurd (z _ hn) hne
    · rw [List.length_cons] at z
      omega
  have hk2 : k + 1 + L'.length ≤ ss0.length := by
    rcases I.kk with z | z
    · exact absurd (z _ hn) hne
    · rw [List.length_cons] at z
      omega
  have b8 := D.step (Nat.le_trans hk I.sn)
  have b9 : b + k * (B + 1) ≤ 8000 := D.step (Nat.le_trans I.k0 I.sn)
  have hB := D.B (show 0 < n by omega)
  have rb := O.row here hm
  have here_low := (I.ech.one here (by simp)).2.1
  obtain ⟨t, ht⟩ := g1
  obtain ⟨q, hq⟩ := g2
  have et : here.row here.head / g = t := by rw [ht]; exact Int.mul_ediv_cancel_left _ (by omega)
  have eq : r here.head / g = q := by rw [hq]; exact Int.mul_ediv_cancel_left _ (by omega)
  have one : x * t - y * -q = 1 := by
    rw [ht, hq] at e0
    have : g * (x * t + y * q) = g * 1 := by rw [Int.mul_one]; grind
    have := Int.eq_of_mul_eq_mul_left (by omega) this
    rw [Int.mul_neg]
    omega
  have btop := rb _ hn
  have bnum := I.br _ hn
  have bt : t.natAbs < 2 ^ B := by rw [← et]; exact ediv_bd btop
  have bq : (-q).natAbs < 2 ^ (b + k * (B + 1)) := by rw [Int.natAbs_neg, ← eq]; exact ediv_bd bnum
  have b1 : 1 ≤ b := D.b1
  have bn1 : 1 ≤ B := D.B1
  have bx' := max1_bd bx bnum (by omega)
  have by' := max1_bd by_ btop bn1
  have km : (k + 1) * (B + 1) = k * (B + 1) + (B + 1) := Nat.succ_mul _ _
  have Up := List.pairwise_append.mp I.ech.up
  have eA : (F ++ [(⟨fun j => x * here.row j + y * r j, fun i => x * here.parts i + y * p i, here.head⟩ : St)]) ++ L' = F ++ ⟨fun j => x * here.row j + y * r j, fun i => x * here.parts i + y * p i, here.head⟩ :: L' := by rw [List.append_assoc]; rfl
  have cases_ : ∀ {Pr : St → Prop}, (∀ s ∈ F ++ here :: L', Pr s) → Pr ⟨fun j => x * here.row j + y * r j, fun i => x * here.parts i + y * p i, here.head⟩ → ∀ s ∈ F ++ ⟨fun j => x * here.row j + y * r j, fun i => x * here.parts i + y * p i, here.head⟩ :: L', Pr s := fun h1 h2 s hs => by
    rcases List.mem_append.mp hs with e | e
    · exact h1 s (List.mem_append_left _ e)
    · rcases List.mem_cons.mp e with e | e
      · subst e
        exact h2
      · exact h1 s (List.mem_append_right _ (List.mem_cons_of_mem _ e))
  have pk : P + k * 8001 ≤ P + (k + 1) * 8001 := by omega
  rw [et, eq]
  refine { ech := ?_, lat := ?_, made := ?_, mkr := ?_, zero := ?_, zp := fun i hi => ?_, low := ?_, left := ?_, kk := .inr hk2, k0 := hk, sn := I.sn, br := fun j hj => ?_, bF := ?_, bp := fun i hi => ?_, bP := ?_ }
  · rw [eA]
    refine ⟨cases_ I.ech.one ⟨hn, fun j hj => ?_, ?_⟩, ?_⟩
    · show x * here.row j + y * r j = 0
      rw [here_low j hj, hr j hj]
      simp
    · show 0 < x * here.row here.head + y * r here.head
      omega
    · refine List.pairwise_append.mpr ⟨Up.1, List.pairwise_cons.mpr (List.pairwise_cons.mp Up.2.1), fun a ha c hc => ?_⟩
      rcases List.mem_cons.mp hc with e | e
      · subst e
        exact hF a ha
      · exact Up.2.2 a ha c (List.mem_cons_of_mem _ e)
  · intro w
    rw [eA, ← I.lat w]
    exact InL.turn (x := x) (y := y) (one := t) (other := -q) one (fun _ _ => rfl) (fun _ _ => rfl) w
  · rw [eA]
    exact cases_ I.made ((I.made here (by simp)).lin I.mkr (fun _ _ => rfl) fun _ _ => rfl)
  · exact I.mkr.lin (I.made here (by simp)) (fun _ _ => rfl) fun _ _ => rfl
  · rw [eA]
    refine cases_ I.zero fun i hi => ?_
    show x * here.parts i + y * p i = 0
    rw [I.zero here (by simp) i hi, I.zp i hi]
    simp
  · show t * p i + -q * here.parts i = 0
    rw [I.zero here (by simp) i hi, I.zp i hi]
    simp
  · intro s hs j hj
    rcases List.mem_append.mp hs with e | e
    · show t * r j + -q * here.row j = 0
      have := hF s e
      rw [I.low s e j hj, here_low j (by omega)]
      simp
    · have e' : s = _ := List.mem_singleton.mp e
      subst e'
      show t * r j + -q * here.row j = 0
      have hj' : j ≤ here.head := hj
      rcases Nat.lt_or_eq_of_le hj' with z | z
      · rw [hr j z, here_low j z]
        simp
      · subst z
        rw [ht, hq]
        grind
  · rcases I.left with z | z
    · exact .inl fun s hs => z s (List.mem_cons_of_mem _ hs)
    · exact absurd (z _ hn) hne
  · refine up_bd (lin_bd bt (I.br j hj) bq (rb j hj) (Nat.le_refl _) (f := B + (b + k * (B + 1))) (by omega)) (by omega)
  · rw [eA]
    refine cases_ I.bF fun j hj => ?_
    exact up_bd (lin_bd bx' (rb j hj) by' (I.br j hj) (f := B + (b + k * (B + 1))) (by omega) (by omega)) (by omega)
  · exact up_bd (lin_bd (rows8 D hn bt) (I.bp i hi) (up_bd bq (by omega)) (I.bP here (by simp) i hi) (f := 8000 + (P + k * 8001)) (Nat.le_refl _) (by omega)) (by omega)
  · rw [eA]
    refine cases_ (fun s hs i hi => up_bd (I.bP s hs i hi) pk) fun i hi => ?_
    exact up_bd (lin_bd (a := 8000) (d := 8000) (up_bd bx' b9) (I.bP here (by simp) i hi) (rows8 D hn by') (I.bp i hi) (f := 8000 + (P + k * 8001)) (Nat.le_refl _) (by omega)) (by omega)
/-- the row is used up -/
theorem TI.done (I : TI n b B m P G ss0 v0 k F L r p) (h0 : ∀ j, j < n → r j = 0) (w : Nat → Int) : InL n (F ++ L) w ↔ InL n (rS v0 :: ss0) w := by
  rw [← I.lat w]
  refine ⟨fun h => h.cons, fun h => InL.sub (fun s hs => ?_) h⟩
  rcases List.mem_cons.mp hs with e | e
  · subst e
    exact InL.zero h0
  · exact InL.mem e
end
/-! ### tidied: parts -/
theorem foldB_parts {n m : Nat} {G : Mx} : ∀ {ts : List St} {s : St}, (∀ t ∈ ts, Mk n m G t.row t.parts) → Mk n m G s.row s.parts → Mk n m G (ts.foldl cutB s).row (ts.foldl cutB s).parts
  | [], s, _, h => h
  | t :: ts, s, ht, h => by
    refine foldB_parts (ts := ts) (s := cutB s t) (fun a ha => ht a (List.mem_cons_of_mem _ ha)) ?_
    refine Mk.lin (x := 1) (y := -(s.row t.head / t.row t.head)) h (ht t (List.mem_cons_self ..)) (fun j _ => ?_) fun i _ => ?_
    · show s.row j - _ * t.row j = _
      grind
    · show s.parts i - _ * t.parts i = _
      grind
theorem tid_mk {n m : Nat} {G : Mx} : ∀ {ss : List St}, (∀ s ∈ ss, Mk n m G s.row s.parts) → ∀ t ∈ tid ss, Mk n m G t.row t.parts
  | [], _ => fun t ht => by cases ht
  | s :: ss, h => fun t ht => by
    have ih := tid_mk (ss := ss) fun a ha => h a (List.mem_cons_of_mem _ ha)
    rcases List.mem_cons.mp ht with e | e
    · subst e
      exact foldB_parts ih (h s (List.mem_cons_self ..))
    · exact ih t e
theorem foldB_zero {m : Nat} : ∀ {ts : List St} {s : St}, (∀ t ∈ ts, ∀ i, m ≤ i → t.parts i = 0) → (∀ i, m ≤ i → s.parts i = 0) → ∀ i, m ≤ i → (ts.foldl cutB s).parts i = 0
  | [], s, _, h => h
  | t :: ts, s, ht, h => by
    refine foldB_zero (ts := ts) (s := cutB s t) (fun a ha => ht a (List.mem_cons_of_mem _ ha)) fun i hi => ?_
    show s.parts i - _ * t.parts i = 0
    rw [h i hi, ht t (List.mem_cons_self ..) i hi]
    simp
theorem tid_zero {m : Nat} : ∀ {ss : List St}, (∀ s ∈ ss, ∀ i, m ≤ i → s.parts i = 0) → ∀ t ∈ tid ss, ∀ i, m ≤ i → t.parts i = 0
  | [], _ => fun t ht => by cases ht
  | s :: ss, h => fun t ht => by
    have ih := tid_zero (ss := ss) fun a ha => h a (List.mem_cons_of_mem _ ha)
    rcases List.mem_cons.mp ht with e | e
    · subst e
      exact foldB_zero ih (h s (List.mem_cons_self ..))
    · exact ih t e
/-- a stand cut by tidy ones: its numbers on the way -/
structure CutB (n m B a Q : Nat) (s : St) : Prop where
  row : ∀ j, j < n → (s.row j).natAbs < 2 ^ a
  parts : ∀ i, i < m → (s.parts i).natAbs < 2 ^ Q
theorem CutB.cut {n m B a Q P : Nat} {s t : St} (h : CutB n m B a Q s) (ht : t.head < n) (hr : ∀ j, j < n → (t.row j).natAbs < 2 ^ B) (hp : ∀ i, i < m → (t.parts i).natAbs < 2 ^ P) (hq : a + P ≤ Q) : CutB n m B (a + (B + 1)) (Q + 1) (cutB s t) := by
  refine ⟨cut_bd h.row ht hr, fun i hi => ?_⟩
  have hm : (-(s.row t.head / t.row t.head)).natAbs < 2 ^ a := by rw [Int.natAbs_neg]; exact ediv_bd (h.row _ ht)
  show (s.parts i - _ * t.parts i).natAbs < _
  have p1 := h.parts i hi
  have p2 := Nat.lt_of_lt_of_le (DL.bits_mul hm (hp i hi)) (Nat.pow_le_pow_right (by decide) hq)
  have e : s.parts i - (s.row t.head / t.row t.head) * t.parts i = s.parts i + -(s.row t.head / t.row t.head) * t.parts i := by grind
  rw [e, Nat.pow_succ]
  omega
theorem foldB_bd {n m B P : Nat} : ∀ {ts : List St} {s : St} {a Q : Nat}, CutB n m B a Q s → (∀ t ∈ ts, t.head < n ∧ (∀ j, j < n → (t.row j).natAbs < 2 ^ B) ∧ ∀ i, i < m → (t.parts i).natAbs < 2 ^ P) → a + ts.length * (B + 1) + P ≤ Q → CutB n m B (a + ts.length * (B + 1)) (Q + ts.length) (ts.foldl cutB s)
  | [], s, a, Q, h, _, _ => by
    show CutB n m B (a + 0 * (B + 1)) (Q + 0) s
    rw [Nat.zero_mul]
    exact h
  | t :: ts, s, a, Q, h, ht, hq => by
    obtain ⟨t1, t2, t3⟩ := ht t (List.mem_cons_self ..)
    rw [List.length_cons, Nat.succ_mul] at hq
    have h1 := h.cut t1 t2 t3 (by omega)
    have h2 := foldB_bd (ts := ts) h1 (fun x hx => ht x (List.mem_cons_of_mem _ hx)) (by omega)
    rw [List.length_cons, Nat.succ_mul]
    rwa [show a + (B + 1) + ts.length * (B + 1) = a + (ts.length * (B + 1) + (B + 1)) by omega, show Q + 1 + ts.length = Q + (ts.length + 1) by omega] at h2
theorem tid_bp {n m B P : Nat} (hnB : n * (B + 1) ≤ 8000) : ∀ {ss : List St}, (∀ s ∈ ss, (∀ j, j < n → (s.row j).natAbs < 2 ^ 8000) ∧ ∀ i, i < m → (s.parts i).natAbs < 2 ^ P) → (∀ t ∈ tid ss, t.head < n ∧ ∀ j, j < n → (t.row j).natAbs < 2 ^ B) → ss.length ≤ n → ∀ t ∈ tid ss, ∀ i, i < m → (t.parts i).natAbs < 2 ^ (P + ss.length * (16000 + n))
  | [], _, _, _ => fun t ht => by cases ht
  | s :: ss, h, hB, hl => by
    have hl' : ss.length + 1 ≤ n := by rw [List.length_cons] at hl; exact hl
    have ih := tid_bp hnB (ss := ss) (fun a ha => h a (List.mem_cons_of_mem _ ha)) (fun t ht => hB t (List.mem_cons_of_mem _ ht)) (by omega)
    have tl := tid_len ss
    have em : ss.length * (B + 1) ≤ n * (B + 1) := Nat.mul_le_mul_right _ (by omega)
    have f := foldB_bd (ts := tid ss) (s := s) (a := 8000) (Q := P + ss.length * (16000 + n) + 16000) (P := P + ss.length * (16000 + n)) ⟨(h s (List.mem_cons_self ..)).1, fun i hi => up_bd ((h s (List.mem_cons_self ..)).2 i hi) (by omega)⟩
      (fun t ht => ⟨(hB t (List.mem_cons_of_mem _ ht)).1, (hB t (List.mem_cons_of_mem _ ht)).2, ih t ht⟩) (by rw [tl]; omega)
    intro t ht i hi
    rw [List.length_cons, Nat.succ_mul]
    rcases List.mem_cons.mp ht with e | e
    · subst e
      refine up_bd (f.parts i hi) (by rw [tl]; omega)
    · exact up_bd (ih t e i hi) (by omega)
end LK
end

section
set_option autoImplicit false
set_option maxRecDepth 100000
set_option maxHeartbeats 4000000
namespace LK
/-! ### rows put one by one -/
def snocG (m : Nat) (G : Mx) (v : Nat → Int) : Mx := fun i => if i < m then G i else v
theorem snocG_lt {m i : Nat} {G : Mx} {v : Nat → Int} (h : i < m) : snocG m G v i = G i := if_pos h
theorem snocG_at (m : Nat) (G : Mx) (v : Nat → Int) : snocG m G v m = v := if_neg (Nat.lt_irrefl m)
def PB (m : Nat) : Nat := m * 300000 + 1
/-- how great tidy rows of what these rows span can be -/
def Lm (n B m : Nat) (G : Mx) : Prop := ∀ ss : List St, Tdy n ss → (∀ i, i < m → InL n ss (G i)) → (∀ s ∈ ss, Mk n m G s.row s.parts) → ∀ s ∈ ss, ∀ j, j < n → (s.row j).natAbs < 2 ^ B
theorem lm_bn {n b m : Nat} {G : Mx} (hn : n ≤ 7) (hb : 1 ≤ b) (bd : Bd b m n G) : Lm n (Bn n b) m G := fun ss T hG mk => rows_lt T hn hb hG mk bd
structure RI (n b B m : Nat) (G : Mx) (ss : List St) : Prop where
  tdy : Tdy n ss
  row : ∀ s ∈ ss, ∀ j, j < n → (s.row j).natAbs < 2 ^ B
  inL : ∀ i, i < m → InL n ss (G i)
  made : ∀ s ∈ ss, Mk n m G s.row s.parts
  zero : ∀ s ∈ ss, ∀ i, m ≤ i → s.parts i = 0
  bd : Bd b m n G
  bp : ∀ s ∈ ss, ∀ i, i < m → (s.parts i).natAbs < 2 ^ PB m
theorem RI.nil (n b B : Nat) (G : Mx) : RI n b B 0 G [] := ⟨⟨⟨fun s h => (by cases h), .nil⟩, .nil⟩, fun s h => (by cases h), fun i h => absurd h (by omega), fun s h => (by cases h), fun s h => (by cases h), fun i j h => absurd h (by omega), fun s h => (by cases h)⟩
theorem Mk.snoc {n m : Nat} {G : Mx} {u p v : Nat → Int} (h : Mk n m G u p) (z : p m = 0) : Mk n (m + 1) (snocG m G v) u p := fun j hj => by
  show u j = sumN m _ + p m * _
  rw [z, Int.zero_mul, Int.add_zero, h j hj]
  exact sumN_ext fun i hi => by rw [snocG_lt hi]
theorem Mk.unit {n m : Nat} {G : Mx} {v : Nat → Int} : Mk n (m + 1) (snocG m G v) v (idG m) := fun j hj => by
  have := sumN_pick (m + 1) m (fun i => snocG m G v i j) (by omega)
  rw [snocG_at] at this
  exact this.symm
theorem snoc_bd {n b m : Nat} {G : Mx} {v : Nat → Int} (h : Bd b m n G) (hv : ∀ j, j < n → (v j).natAbs < 2 ^ b) : Bd b (m + 1) n (snocG m G v) := fun i j hi hj => by
  unfold snocG
  split
  · exact h i j (by assumption) hj
  · exact hv j hj
section
variable {n b B m : Nat} {G : Mx} {ss : List St} {v : Nat → Int}
theorem RI.rows (R : RI n b B m G ss) (D : Dim n b B) : ∀ s ∈ ss, ∀ j, j < n → (s.row j).natAbs < 2 ^ B := R.row
theorem RI.rest (R : RI n b B m G ss) : Rd ss (restS ss v) ∧ InL n ss fun j => v j - restS ss v j := rest_ok R.tdy.ech
theorem Ech.rd0 (E : Ech n ss) : Rd ss fun _ => 0 := fun s hs => ⟨Int.le_refl _, (E.one s hs).2.2⟩
theorem RI.in_iff (R : RI n b B m G ss) : InL n ss v ↔ ∀ j, j < n → restS ss v j = 0 := by
  obtain ⟨h1, h2⟩ := R.rest (v := v)
  constructor
  · intro h
    exact rest_uniq R.tdy.ech h1 R.tdy.ech.rd0 (InL.lin (-1) h h2 fun j _ => by show restS ss v j - 0 = v j + -1 * (v j - restS ss v j); omega)
  · intro h
    exact h2.ext fun j hj => by rw [h j hj]; omega
/-- the rest of what differs by a sum is the same -/
theorem RI.rest_eq (R : RI n b B m G ss) {u : Nat → Int} : InL n ss (fun j => u j - v j) ↔ ∀ j, j < n → restS ss u j = restS ss v j := by
  obtain ⟨h1, h2⟩ := R.rest (v := u)
  obtain ⟨h3, h4⟩ := R.rest (v := v)
  constructor
  · intro h
    have a := InL.lin (-1) h h2 (w := fun j => restS ss u j - v j) fun j _ => by omega
    exact rest_uniq R.tdy.ech h1 h3 (InL.lin 1 a h4 fun j _ => by omega)
  · intro h
    have a := InL.lin (-1) h2 h4 (w := fun j => u j - v j) fun j hj => by have := h j hj; omega
    exact a
theorem RI.same (R : RI n b B m G ss) (hv : ∀ j, j < n → (v j).natAbs < 2 ^ b) (h : InL n ss v) : RI n b B (m + 1) (snocG m G v) ss where
  tdy := R.tdy
  row := R.row
  inL := fun i hi => by
    unfold snocG
    split
    · exact R.inL i (by assumption)
    · exact h
  made := fun s hs => (R.made s hs).snoc (R.zero s hs m (Nat.le_refl _))
  zero := fun s hs i hi => R.zero s hs i (by omega)
  bd := snoc_bd R.bd hv
  bp := fun s hs i hi => by
    by_cases e : i < m
    · exact up_bd (R.bp s hs i e) (by unfold PB; omega)
    · rw [R.zero s hs i (by omega)]
      exact Nat.two_pow_pos _
theorem RI.old (R : RI n b B m G ss) (D : Dim n b B) : Old n B (m + 1) (PB m) (snocG m G v) ss where
  tdy := R.tdy
  row := R.rows D
  made := fun s hs => (R.made s hs).snoc (R.zero s hs m (Nat.le_refl _))
  zero := fun s hs i hi => R.zero s hs i (by omega)
  bp := fun s hs i hi => by
    by_cases e : i < m
    · exact R.bp s hs i e
    · rw [R.zero s hs i (by omega)]
      exact Nat.two_pow_pos _
theorem RI.start (R : RI n b B m G ss) (D : Dim n b B) (hv : ∀ j, j < n → (v j).natAbs < 2 ^ b) : TI n b B (m + 1) (PB m) (snocG m G v) ss v 0 [] ss v (idG m) :=
  TI.start D (R.old D) hv Mk.unit (fun i hi => idG_ne (by omega)) fun i hi => by
    have : 2 ^ 1 ≤ 2 ^ PB m := Nat.pow_le_pow_right (by decide) (by unfold PB; omega)
    unfold idG
    split
    · show 1 < _
      omega
    · exact Nat.two_pow_pos _
theorem RI.grow (R : RI n b B m G ss) (D : Dim n b B) (hL : Lm n B (m + 1) (snocG m G v)) (hv : ∀ j, j < n → (v j).natAbs < 2 ^ b) {k : Nat} {F L : List St} {r p : Nat → Int} (I : TI n b B (m + 1) (PB m) (snocG m G v) ss v k F L r p) (h0 : ∀ j, j < n → r j = 0) :
    RI n b B (m + 1) (snocG m G v) (tid (F ++ L)) ∧ ∀ t ∈ tid (F ++ L), t.head < n ∧ ∀ j, j < n → (t.row j).natAbs < 2 ^ B := by
  obtain ⟨T, Lt, _⟩ := tid_ok I.ech
  have inl : ∀ i, i < m + 1 → InL n (tid (F ++ L)) (snocG m G v i) := fun i hi => by
    rw [Lt, I.done h0]
    unfold snocG
    split
    · exact (R.inL i (by assumption)).cons
    · exact InL.head fun _ _ => rfl
  have mk := tid_mk I.made
  have bdG := snoc_bd (v := v) R.bd hv
  have rows := hL _ T inl mk
  have tb : ∀ t ∈ tid (F ++ L), t.head < n ∧ ∀ j, j < n → (t.row j).natAbs < 2 ^ B := fun t ht => ⟨(T.ech.one t ht).1, rows t ht⟩
  have nb := D.bnd
  have hl := I.ech.len
  have hk := Nat.le_trans I.k0 I.sn
  have h7 := D.n7
  have bp := tid_bp (m := m + 1) (P := PB m + k * 8001) (show n * (B + 1) ≤ 8000 by omega) (fun s hs => ⟨I.bF s hs, I.bP s hs⟩) tb hl
  have hmul : (F ++ L).length * (16000 + n) ≤ 7 * 16007 := Nat.mul_le_mul (by omega) (by omega)
  exact ⟨⟨T, rows, inl, mk, tid_zero I.zero, bdG, fun t ht i hi => up_bd (bp t ht i hi) (by unfold PB; omega)⟩, tb⟩
end
theorem shares_facts {a b : Int} (ha : 0 < a) : 0 < (shares a b).1 ∧ (shares a b).2.1 * a + (shares a b).2.2 * b = (shares a b).1 ∧ (shares a b).1 ∣ a ∧ (shares a b).1 ∣ b ∧ ((shares a b).2.1.natAbs : Int) ≤ max 1 (b.natAbs : Int) ∧ ((shares a b).2.2.natAbs : Int) ≤ max 1 (a.natAbs : Int) := by
  rw [shares_fst]
  refine ⟨?_, by rw [shares_sum], Int.gcd_dvd_left a b, Int.gcd_dvd_right a b, shares_x a b, shares_y a b⟩
  have : 0 < Int.gcd a b := Int.gcd_pos_of_ne_zero_left _ (by omega)
  omega
end LK
end

section
set_option autoImplicit false
set_option maxRecDepth 100000
set_option maxHeartbeats 4000000
namespace LK
open PySem PySem.Spec PyProof.Rows L2 DL
open PySem.W (Frag)
/-! ### stands and rows by data -/
def dS (n m : Nat) (s : St) : D := .ins "Stand" [("row", dR n s.row), ("parts", dR m s.parts), ("head", .int s.head)]
def rowsF (n : Nat) (g : Addr) (m : Nat) (ss : List St) : List (PySem.Str × D) := [("held_wide", .int n), ("held_given", .ref g), ("held_stands", .lst (ss.map (dS n m)))]
def rowsL (n m : Nat) (G : Mx) : List D := (List.range m).map fun k => dR n (G k)
def isZ (n : Nat) (f : Nat → Int) : Bool := (List.range n).all fun j => decide (f j = 0)
def IsHead (n : Nat) (f : Nat → Int) (h : Nat) : Prop := h < n ∧ f h ≠ 0 ∧ ∀ j, j < h → f j = 0
structure RAt (S : Sto) (x : Addr) (n b B m : Nat) (G : Mx) (ss : List St) (i j : Nat) (g : Addr) : Prop where
  lm : ∀ k, k ≤ m → Lm n B k G
  ob : S[i]? = some (x, Cel.ins "Rows" (rowsF n g m ss))
  gv : S[j]? = some (g, Cel.lst (rowsL n m G))
  ri : RI n b B m G ss
  dim : Dim n b B
  m100 : m ≤ 100
/-- an object of Rows that is no longer written -/
def dRows (n m : Nat) (G : Mx) (ss : List St) : D := .ins "Rows" [("held_wide", .int n), ("held_given", .lst (rowsL n m G)), ("held_stands", .lst (ss.map (dS n m)))]
/-- x is an object of Rows: of cells, or no longer written -/
structure RVal (S : Sto) (x : D) (n b B m : Nat) (G : Mx) (ss : List St) : Prop where
  lm : ∀ k, k ≤ m → Lm n B k G
  ri : RI n b B m G ss
  dim : Dim n b B
  m100 : m ≤ 100
  at_ : (∃ (a : Addr) (i j : Nat) (g : Addr), x = .ref a ∧ S[i]? = some (a, Cel.ins "Rows" (rowsF n g m ss)) ∧ S[j]? = some (g, Cel.lst (rowsL n m G))) ∨ x = dRows n m G ss
theorem RAt.val {S : Sto} {x : Addr} {n b B m : Nat} {G : Mx} {ss : List St} {i j : Nat} {g : Addr} (R : RAt S x n b B m G ss i j g) : RVal S (.ref x) n b B m G ss := ⟨R.lm, R.ri, R.dim, R.m100, .inl ⟨x, i, j, g, rfl, R.ob, R.gv⟩⟩
theorem RVal.push {S : Sto} {x : D} {n b B m : Nat} {G : Mx} {ss : List St} (R : RVal S x n b B m G ss) (p : Addr × Cel) : RVal (p :: S) x n b B m G ss := ⟨R.lm, R.ri, R.dim, R.m100, R.at_.imp (fun ⟨a, i, j, g, e, h1, h2⟩ => ⟨a, i + 1, j + 1, g, e, h1, h2⟩) id⟩
theorem RVal.asI {S : Sto} {x : D} {n b B m : Nat} {G : Mx} {ss : List St} (R : RVal S x n b B m G ss) {P : List (PySem.Str × D) → Prop} (h : ∀ y, LV S y (rowsL n m G) → P [("held_wide", .int n), ("held_given", y), ("held_stands", .lst (ss.map (dS n m)))]) : DL.asI "Rows" x S P := by
  rcases R.at_ with ⟨a, i, j, g, rfl, h1, h2⟩ | rfl
  · exact ⟨i, _, h1, h _ (.cell h2)⟩
  · exact ⟨rfl, h _ (.lst _)⟩
/-! ### promises -/
def sp_shares : FSp := fun ds S Q _ => ∃ i j : Int, ds = [.int i, .int j] ∧ i.natAbs < 2 ^ 8000 ∧ j.natAbs < 2 ^ 8000 ∧ Q (.tup [.int (shares i j).1, .int (shares i j).2.1, .int (shares i j).2.2]) S
def sp_check_handful : FSp := fun ds S Q EX => ∃ (x : D) (w : Int), ds = [x, .int w] ∧ okE x ∧ (handB x w = true → Q .non S) ∧ (handB x w = false → EX .NoRow [("at", .int 0)] S)
theorem chk_hand {n : Nat} {f : Nat → Int} {S : Sto} {Q : QD} {EX : EXT} (hn : n ≤ 1000000) (q : Q .non S) : sp_check_handful [dR n f, .int n] S Q EX :=
  ⟨dR n f, n, rfl, hand_ok (by omega) (handR n f), fun _ => q, fun h => (by rw [handR] at h; cases h)⟩
theorem chk_bad {x : D} {w : Int} {S : Sto} {Q : QD} {EX : EXT} (ok : okE x) (hb : handB x w = false) (q : EX .NoRow [("at", .int 0)] S) : sp_check_handful [x, .int w] S Q EX :=
  ⟨x, w, rfl, ok, fun h => (by rw [hb] at h; cases h), fun _ => q⟩
def sp_is_nothing : FSp := fun ds S Q _ => ∃ (n : Nat) (f : Nat → Int), ds = [dR n f] ∧ n ≤ 1000000 ∧ Q (.bl (isZ n f)) S
def sp_head_of : FSp := fun ds S Q _ => ∃ (n : Nat) (f : Nat → Int) (h : Nat), ds = [dR n f] ∧ n ≤ 1000000 ∧ IsHead n f h ∧ Q (.int h) S
def sp_mixed : FSp := fun ds S Q _ => ∃ (x y : Int) (n : Nat) (f g : Nat → Int), ds = [.int x, dR n f, .int y, dR n g] ∧ n ≤ 1000000 ∧ (∀ j, j < n → MulB x (f j) ∧ MulB y (g j)) ∧ Q (dR n fun j => x * f j + y * g j) S
def sp_Stand___init__ : FSp := fun ds S Q _ => ∃ (a : Addr) (S0 : Sto) (n m : Nat) (f p : Nat → Int) (h : Nat), ds = [.ref a, dR n f, dR m p] ∧ S = (a, Cel.ins "Stand" []) :: S0 ∧ n ≤ 1000000 ∧ IsHead n f h ∧ Q .non ((a, Cel.ins "Stand" [("row", dR n f), ("parts", dR m p), ("head", .int h)]) :: S0)
def sp_Stand_top : FSp := fun ds S Q _ => ∃ (n m : Nat) (s : St), ds = [dS n m s] ∧ s.head < n ∧ Q (.int (s.row s.head)) S
def sp_Stand_mix : FSp := fun ds S Q _ => ∃ (x y : Int) (n m : Nat) (s t : St) (h : Nat), ds = [dS n m s, .int x, dS n m t, .int y] ∧ n ≤ 1000000 ∧ m ≤ 1000000 ∧ (∀ j, j < n → MulB x (s.row j) ∧ MulB y (t.row j)) ∧ (∀ i, i < m → MulB x (s.parts i) ∧ MulB y (t.parts i)) ∧ IsHead n (fun j => x * s.row j + y * t.row j) h ∧
  Q (dS n m ⟨fun j => x * s.row j + y * t.row j, fun i => x * s.parts i + y * t.parts i, h⟩) S
def sp_Stand_longer : FSp := fun ds S Q _ => ∃ (n m : Nat) (s : St), ds = [dS n m s] ∧ n ≤ 1000000 ∧ m ≤ 1000000 ∧ IsHead n s.row s.head ∧ s.parts m = 0 ∧ Q (dS n (m + 1) s) S
def sp_Stand_cut_by : FSp := fun ds S Q _ => ∃ (n m : Nat) (s t : St), ds = [dS n m s, dS n m t] ∧ n ≤ 1000000 ∧ m ≤ 1000000 ∧ IsHead n s.row s.head ∧ s.head < t.head ∧ IsHead n t.row t.head ∧ 0 < t.row t.head ∧ (t.row t.head).natAbs < 2 ^ 8000 ∧
  (∀ j, j < n → MulB (-(s.row t.head / t.row t.head)) (t.row j)) ∧ (∀ i, i < m → MulB (-(s.row t.head / t.row t.head)) (t.parts i)) ∧ Q (dS n m (cutB s t)) S
def sp_tidied : FSp := fun ds S Q _ => ∃ (n m B P : Nat) (ss : List St), ds = [.lst (ss.map (dS n m))] ∧ n ≤ 7 ∧ m ≤ 1000 ∧ n * (B + 1) ≤ 8000 ∧ P ≤ 60000000 ∧ Ech n ss ∧ (∀ s ∈ ss, (∀ j, j < n → (s.row j).natAbs < 2 ^ 8000) ∧ ∀ i, i < m → (s.parts i).natAbs < 2 ^ P) ∧ (∀ t ∈ tid ss, t.head < n ∧ ∀ j, j < n → (t.row j).natAbs < 2 ^ B) ∧
  Q (.lst ((tid ss).map (dS n m))) S
def sp_taken_in : FSp := fun ds S Q _ => ∃ (n b B m P : Nat) (G : Mx) (ss : List St) (v p : Nat → Int), ds = [.lst (ss.map (dS n m)), dR n v, dR m p] ∧ Dim n b B ∧ Old n B m P G ss ∧ m ≤ 1000 ∧ P ≤ 50000000 ∧ TI n b B m P G ss v 0 [] ss v p ∧
  (∀ (k : Nat) (F L : List St) (r p : Nat → Int), TI n b B m P G ss v k F L r p → (∀ j, j < n → r j = 0) → (∀ t ∈ tid (F ++ L), t.head < n ∧ ∀ j, j < n → (t.row j).natAbs < 2 ^ B) ∧ Q (.lst ((tid (F ++ L)).map (dS n m))) S)
def sp_Rows___init__ : FSp := fun ds S Q _ => ∃ (x : Addr) (S0 : Sto) (n b B m : Nat) (G : Mx) (z : D), ds = [.ref x, .int n, z] ∧ (LV S0 z (rowsL n m G) ∨ (z = .non ∧ m = 0)) ∧ S = (x, Cel.ins "Rows" []) :: S0 ∧ Dim n b B ∧ m ≤ 100 ∧ Bd b m n G ∧ (∀ k, k ≤ m → Lm n B k G) ∧ ∀ (g : Addr) (ss : List St), RI n b B m G ss → Q .non ((g, Cel.lst (rowsL n m G)) :: (x, Cel.ins "Rows" (rowsF n g m ss)) :: S0)
def sp_Rows_put : FSp := fun ds S Q EX => (∃ (x : Addr) (n b B m : Nat) (G : Mx) (ss : List St) (i j : Nat) (g : Addr) (v : Nat → Int), ds = [.ref x, dR n v] ∧ RAt S x n b B m G ss i j g ∧ m < 100 ∧ (∀ k, k < n → (v k).natAbs < 2 ^ b) ∧ Lm n B (m + 1) (snocG m G v) ∧
  ∀ ss', RI n b B (m + 1) (snocG m G v) ss' → (InL n ss v → ss' = ss) → Q (.bl (!isZ n (restS ss v))) ((S.set j (g, Cel.lst (rowsL n (m + 1) (snocG m G v)))).set i (x, Cel.ins "Rows" (rowsF n g (m + 1) ss')))) ∨
  ∃ (x : D) (y : D) (n b B m : Nat) (G : Mx) (ss : List St), ds = [x, y] ∧ RVal S x n b B m G ss ∧ okE y ∧ handB y n = false ∧ EX .NoRow [("at", .int 0)] S
def sp_Rows_take_back : FSp := fun ds S Q EX => (∃ (x : Addr) (n b B m : Nat) (G : Mx) (ss : List St) (i j : Nat) (g : Addr), ds = [.ref x] ∧ RAt S x n b B (m + 1) G ss i j g ∧ ∀ (g' : Addr) (ss' : List St), RI n b B m G ss' → Q .non ((g', Cel.lst (rowsL n m G)) :: S.set i (x, Cel.ins "Rows" (rowsF n g' m ss')))) ∨
  ∃ (x : Addr) (n b B : Nat) (G : Mx) (ss : List St) (i j : Nat) (g : Addr), ds = [.ref x] ∧ RAt S x n b B 0 G ss i j g ∧ EX .NothingPut [] S
def sp_Rows_given : FSp := fun ds S Q _ => ∃ (x : D) (n b B m : Nat) (G : Mx) (ss : List St), ds = [x] ∧ RVal S x n b B m G ss ∧ mk (rowsL n m G) S Q
def sp_Rows_told : FSp := fun ds S Q _ => ∃ (x : D) (n b B m : Nat) (G : Mx) (ss : List St), ds = [x] ∧ RVal S x n b B m G ss ∧ mk (ss.map fun s => dR n s.row) S Q
def sp_Rows_rest : FSp := fun ds S Q EX => (∃ (x : D) (n b B m : Nat) (G : Mx) (ss : List St) (v : Nat → Int) (c : Nat), ds = [x, dR n v] ∧ RVal S x n b B m G ss ∧ c ≤ 1000000 ∧ (∀ k, k < n → (v k).natAbs < 2 ^ c) ∧ Q (dR n (restS ss v)) S) ∨
  ∃ (x y : D) (n b B m : Nat) (G : Mx) (ss : List St), ds = [x, y] ∧ RVal S x n b B m G ss ∧ okE y ∧ handB y n = false ∧ EX .NoRow [("at", .int 0)] S
def sp_Rows___len__ : FSp := fun ds S Q _ => ∃ (x : D) (n b B m : Nat) (G : Mx) (ss : List St), ds = [x] ∧ RVal S x n b B m G ss ∧ Q (.int ss.length) S
def sp__wall : FSp := fun _ _ _ _ => False
theorem ln__wall : ∀ ds S Q EX, sp__wall ds S Q EX → ds.length = 0 := fun _ _ _ _ h => False.elim h
theorem ln_shares : ∀ ds S Q EX, sp_shares ds S Q EX → ds.length = 2 := fun ds S Q EX ⟨_, _, e, _⟩ => by rw [e]; rfl
theorem ln_check_handful : ∀ ds S Q EX, sp_check_handful ds S Q EX → ds.length = 2 := fun ds S Q EX ⟨_, _, e, _⟩ => by rw [e]; rfl
theorem ln_is_nothing : ∀ ds S Q EX, sp_is_nothing ds S Q EX → ds.length = 1 := fun ds S Q EX ⟨_, _, e, _⟩ => by rw [e]; rfl
theorem ln_head_of : ∀ ds S Q EX, sp_head_of ds S Q EX → ds.length = 1 := fun ds S Q EX ⟨_, _, _, e, _⟩ => by rw [e]; rfl
theorem ln_mixed : ∀ ds S Q EX, sp_mixed ds S Q EX → ds.length = 4 := fun ds S Q EX ⟨_, _, _, _, _, e, _⟩ => by rw [e]; rfl
theorem ln_Stand___init__ : ∀ ds S Q EX, sp_Stand___init__ ds S Q EX → ds.length = 3 := fun ds S Q EX ⟨_, _, _, _, _, _, _, e, _⟩ => by rw [e]; rfl
theorem ln_Stand_top : ∀ ds S Q EX, sp_Stand_top ds S Q EX → ds.length = 1 := fun ds S Q EX ⟨_, _, _, e, _⟩ => by rw [e]; rfl
theorem ln_Stand_mix : ∀ ds S Q EX, sp_Stand_mix ds S Q EX → ds.length = 4 := fun ds S Q EX ⟨_, _, _, _, _, _, _, e, _⟩ => by rw [e]; rfl
theorem ln_Stand_longer : ∀ ds S Q EX, sp_Stand_longer ds S Q EX → ds.length = 1 := fun ds S Q EX ⟨_, _, _, e, _⟩ => by rw [e]; rfl
theorem ln_Stand_cut_by : ∀ ds S Q EX, sp_Stand_cut_by ds S Q EX → ds.length = 2 := fun ds S Q EX ⟨_, _, _, _, e, _⟩ => by rw [e]; rfl
theorem ln_tidied : ∀ ds S Q EX, sp_tidied ds S Q EX → ds.length = 1 := fun ds S Q EX ⟨_, _, _, _, _, e, _⟩ => by rw [e]; rfl
theorem ln_taken_in : ∀ ds S Q EX, sp_taken_in ds S Q EX → ds.length = 3 := fun ds S Q EX ⟨_, _, _, _, _, _, _, _, _, e, _⟩ => by rw [e]; rfl
theorem ln_Rows___init__ : ∀ ds S Q EX, sp_Rows___init__ ds S Q EX → ds.length = 3 := fun ds S Q EX ⟨_, _, _, _, _, _, _, _, e, _⟩ => by rw [e]; rfl
theorem ln_Rows_put : ∀ ds S Q EX, sp_Rows_put ds S Q EX → ds.length = 2 := fun ds S Q EX h => by
  rcases h with h | h
  · obtain ⟨_, _, _, _, _, _, _, _, _, _, _, e, _⟩ := h; rw [e]; rfl
  · obtain ⟨_, _, _, _, _, _, _, _, e, _⟩ := h; rw [e]; rfl
theorem ln_Rows_take_back : ∀ ds S Q EX, sp_Rows_take_back ds S Q EX → ds.length = 1 := fun ds S Q EX h => by
  rcases h with h | h
  · obtain ⟨_, _, _, _, _, _, _, _, _, _, e, _⟩ := h; rw [e]; rfl
  · obtain ⟨_, _, _, _, _, _, _, _, _, e, _⟩ := h; rw [e]; rfl
theorem ln_Rows_given : ∀ ds S Q EX, sp_Rows_given ds S Q EX → ds.length = 1 := fun ds S Q EX ⟨_, _, _, _, _, _, _, e, _⟩ => by rw [e]; rfl
theorem ln_Rows_told : ∀ ds S Q EX, sp_Rows_told ds S Q EX → ds.length = 1 := fun ds S Q EX ⟨_, _, _, _, _, _, _, e, _⟩ => by rw [e]; rfl
theorem ln_Rows_rest : ∀ ds S Q EX, sp_Rows_rest ds S Q EX → ds.length = 2 := fun ds S Q EX h => by
  rcases h with h | h
  · obtain ⟨_, _, _, _, _, _, _, _, _, e, _⟩ := h; rw [e]; rfl
  · obtain ⟨_, _, _, _, _, _, _, _, e, _⟩ := h; rw [e]; rfl
theorem ln_Rows___len__ : ∀ ds S Q EX, sp_Rows___len__ ds S Q EX → ds.length = 1 := fun ds S Q EX ⟨_, _, _, _, _, _, _, e, _⟩ => by rw [e]; rfl
/-! ### readings -/
-- 0 one, 1 other, 2 far, 3 mine, 4 its, 5 near, 6 my_part, 7 its_part, 8 many
def t_shares (EX : EXT) : TSd := (sSeq (sPar3 2 3 4 (aCons (eCall dAbs (aCons (eVar 0) aNil)) (aCons (eC (.int 1)) (aCons (eC (.int 0)) aNil))))
    (sSeq (sPar3 5 6 7 (aCons (eCall dAbs (aCons (eVar 1) aNil)) (aCons (eC (.int 0)) (aCons (eC (.int 1)) aNil))))
    (sSeq (sWhile (tEq true (eVar 5) (eC (.int 0))) (sSeq (sSet 8 (eOp dDiv (eVar 2) (eVar 5)))
    (sSeq (sPar 2 5 (aCons (eVar 5) (aCons (eOp dSub (eVar 2) (eOp dMul (eVar 8) (eVar 5))) aNil)))
    (sSeq (sPar 3 6 (aCons (eVar 6) (aCons (eOp dSub (eVar 3) (eOp dMul (eVar 8) (eVar 6))) aNil)))
    (sSeq (sPar 4 7 (aCons (eVar 7) (aCons (eOp dSub (eVar 4) (eOp dMul (eVar 8) (eVar 7))) aNil)))
    sNext)))))
    (sSeq (sIf (tOrd .Lt (eVar 0) (eC (.int 0))) (sSeq (sSet 3 (eUn dNeg (eVar 3)))
    sNext) sNext)
    (sSeq (sIf (tOrd .Lt (eVar 1) (eC (.int 0))) (sSeq (sSet 4 (eUn dNeg (eVar 4)))
    sNext) sNext)
    (sSeq (sRet (eTup (aCons (eVar 2) (aCons (eVar 3) (aCons (eVar 4) aNil)))))
    sNext))))))
-- 0 thing, 1 wide
def t_check_handful (EX : EXT) : TSd := (sSeq (sIf (tNo (tVal (eFn sp_is_handful (kX EX) [] (aCons (eVar 0) (aCons (eVar 1) aNil))))) (sSeq (sRaise .NoRow ["at"] (kX EX) (aCons (eC (.int 0)) aNil))
    sNext) sNext)
    sNext)
-- 0 row, 1 one
def t_is_nothing (EX : EXT) : TSd := (sSeq (sRet (eCall dAll (aCons (eLc (iSq (eVar 0)) [1] (bind1 1) tYs (eEq false (eVar 1) (eC (.int 0)))) aNil)))
    sNext)
-- 0 row, 1 k
def t_head_of (EX : EXT) : TSd := (sSeq (sRet (eOp dIx (eLc (iR1 (aCons (eCall dLen (aCons (eVar 0) aNil)) aNil)) [1] (bind1 1) (tEq true (eOp dIx (eVar 0) (eVar 1)) (eC (.int 0))) (eVar 1)) (eC (.int 0))))
    sNext)
-- 0 x, 1 one, 2 y, 3 other, 4 mine, 5 its
def t_mixed (EX : EXT) : TSd := (sSeq (sRet (eCall dTuple (aCons (eLc (iZp (aCons (eVar 1) (aCons (eVar 3) aNil))) [4, 5] (bind2 4 5) tYs (eOp dAdd (eOp dMul (eVar 0) (eVar 4)) (eOp dMul (eVar 2) (eVar 5)))) aNil)))
    sNext)
-- 0 self, 1 row, 2 parts
def t_Stand___init__ (EX : EXT) : TSd := (sSeq (sFld "Stand" "row" (eVar 0) (eVar 1))
    (sSeq (sFld "Stand" "parts" (eVar 0) (eVar 2))
    (sSeq (sFld "Stand" "head" (eVar 0) (eFn sp_head_of (kX EX) [] (aCons (eVar 1) aNil)))
    sNext)))
-- 0 self
def t_Stand_top (EX : EXT) : TSd := (sSeq (sRet (eOp dIx (eFld "Stand" "row" (eVar 0)) (eFld "Stand" "head" (eVar 0))))
    sNext)
-- 0 self, 1 x, 2 other, 3 y
def t_Stand_mix (EX : EXT) : TSd := (sSeq (sRet (eNew "Stand" sp_Stand___init__ (kX EX) [] (aCons (eFn sp_mixed (kX EX) [] (aCons (eVar 1) (aCons (eFld "Stand" "row" (eVar 0)) (aCons (eVar 3) (aCons (eFld "Stand" "row" (eVar 2)) aNil))))) (aCons (eFn sp_mixed (kX EX) [] (aCons (eVar 1) (aCons (eFld "Stand" "parts" (eVar 0)) (aCons (eVar 3) (aCons (eFld "Stand" "parts" (eVar 2)) aNil))))) aNil))))
    sNext)
-- 0 self
def t_Stand_longer (EX : EXT) : TSd := (sSeq (sRet (eNew "Stand" sp_Stand___init__ (kX EX) [] (aCons (eFld "Stand" "row" (eVar 0)) (aCons (eOp dAdd (eFld "Stand" "parts" (eVar 0)) (eTup (aCons (eC (.int 0)) aNil))) aNil))))
    sNext)
-- 0 self, 1 later, 2 many
def t_Stand_cut_by (EX : EXT) : TSd := (sSeq (sSet 2 (eOp dDiv (eOp dIx (eFld "Stand" "row" (eVar 0)) (eFld "Stand" "head" (eVar 1))) (eMeth "Stand" "top" sp_Stand_top (kX EX) [] (eVar 1) aNil)))
    (sSeq (sIf (tEq false (eVar 2) (eC (.int 0))) (sSeq (sRet (eVar 0))
    sNext) sNext)
    (sSeq (sRet (eMeth "Stand" "mix" sp_Stand_mix (kX EX) [] (eVar 0) (aCons (eC (.int 1)) (aCons (eVar 1) (aCons (eUn dNeg (eVar 2)) aNil)))))
    sNext)))
-- 0 stands, 1 found, 2 stand, 3 later
def t_tidied (EX : EXT) : TSd := (sSeq (sSet 1 (eLst aNil))
    (sSeq (sFor (iSq (eRev (eVar 0))) (gNm 2) (sSeq (sFor (iSq (eVar 1)) (gNm 3) (sSeq (sSet 2 (eMeth "Stand" "cut_by" sp_Stand_cut_by (kX EX) [] (eVar 2) (aCons (eVar 3) aNil)))
    sNext))
    (sSeq (sSet 1 (eOp dAdd (eLst (aCons (eVar 2) aNil)) (eVar 1)))
    sNext)))
    (sSeq (sRet (eVar 1))
    sNext)))
-- 0 stands, 1 row, 2 parts, 3 found, 4 left, 5 at, 6 sign, 7 here, 8 top, 9 number, 10 most, 11 x, 12 y, 13 one, 14 other, 15 stand
def t_taken_in (EX : EXT) : TSd := (sSeq (sSet 3 (eLst aNil))
    (sSeq (sSet 4 (eCall dList (aCons (eVar 0) aNil)))
    (sSeq (sWhile (tNo (tVal (eFn sp_is_nothing (kX EX) [] (aCons (eVar 1) aNil)))) (sSeq (sSet 5 (eFn sp_head_of (kX EX) [] (aCons (eVar 1) aNil)))
    (sSeq (sSet 3 (eOp dAdd (eVar 3) (eLc (iSq (eVar 4)) [15] (bind1 15) (tOrd .Lt (eFld "Stand" "head" (eVar 15)) (eVar 5)) (eVar 15))))
    (sSeq (sSet 4 (eLc (iSq (eVar 4)) [15] (bind1 15) (tOrd .GtE (eFld "Stand" "head" (eVar 15)) (eVar 5)) (eVar 15)))
    (sSeq (sIf (tOo (tEqL false (eVar 4) (eLst aNil)) (tOrd .Gt (eFld "Stand" "head" (eOp dIx (eVar 4) (eC (.int 0)))) (eVar 5))) (sSeq (sSet 6 (eOp dSub (eC (.int 1)) (eOp dMul (eC (.int 2)) (eCall dInt (aCons (eOrd .Lt (eOp dIx (eVar 1) (eVar 5)) (eC (.int 0))) aNil)))))
    (sSeq (sSet 4 (eOp dAdd (eLst (aCons (eNew "Stand" sp_Stand___init__ (kX EX) [] (aCons (eFn sp_mixed (kX EX) [] (aCons (eVar 6) (aCons (eVar 1) (aCons (eC (.int 0)) (aCons (eVar 1) aNil))))) (aCons (eFn sp_mixed (kX EX) [] (aCons (eVar 6) (aCons (eVar 2) (aCons (eC (.int 0)) (aCons (eVar 2) aNil))))) aNil))) aNil)) (eVar 4)))
    (sSeq (sSet 1 (eOp dTmulA (eTup (aCons (eC (.int 0)) aNil)) (eCall dLen (aCons (eVar 1) aNil))))
    sNext))) (sSeq (sSet 7 (eOp dIx (eVar 4) (eC (.int 0))))
    (sSeq (sPar 8 9 (aCons (eMeth "Stand" "top" sp_Stand_top (kX EX) [] (eVar 7) aNil) (aCons (eOp dIx (eVar 1) (eVar 5)) aNil)))
    (sSeq (sAsg (eFn sp_shares (kX EX) [] (aCons (eVar 8) (aCons (eVar 9) aNil))) (gTp 3 (gsCons (gNm 10) (gsCons (gNm 11) (gsCons (gNm 12) gsNil)))))
    (sSeq (sEx (eMc .list mApp (eVar 3) (aCons (eNew "Stand" sp_Stand___init__ (kX EX) [] (aCons (eFn sp_mixed (kX EX) [] (aCons (eVar 11) (aCons (eFld "Stand" "row" (eVar 7)) (aCons (eVar 12) (aCons (eVar 1) aNil))))) (aCons (eFn sp_mixed (kX EX) [] (aCons (eVar 11) (aCons (eFld "Stand" "parts" (eVar 7)) (aCons (eVar 12) (aCons (eVar 2) aNil))))) aNil))) aNil)))
    (sSeq (sSet 4 (eSl (eVar 4) (oSome (eC (.int 1))) oNo))
    (sSeq (sPar 13 14 (aCons (eOp dDiv (eVar 8) (eVar 10)) (aCons (eUn dNeg (eOp dDiv (eVar 9) (eVar 10))) aNil)))
    (sSeq (sPar 1 2 (aCons (eFn sp_mixed (kX EX) [] (aCons (eVar 13) (aCons (eVar 1) (aCons (eVar 14) (aCons (eFld "Stand" "row" (eVar 7)) aNil))))) (aCons (eFn sp_mixed (kX EX) [] (aCons (eVar 13) (aCons (eVar 2) (aCons (eVar 14) (aCons (eFld "Stand" "parts" (eVar 7)) aNil))))) aNil)))
    sNext))))))))
    (sFz 3 sNext))))))
    (sSeq (sRet (eFn sp_tidied (kX EX) [] (aCons (eOp dAdd (eVar 3) (eVar 4)) aNil)))
    sNext))))
-- 0 self, 1 wide, 2 rows, 3 row
def t_Rows___init__ (EX : EXT) : TSd := (sSeq (sIf (tNone false (eVar 2)) (sSeq (sSet 2 (eLst aNil))
    sNext) sNext)
    (sSeq (sEx (eFn sp_check_list (kX EX) [] (aCons (eVar 2) (aCons (eVar 1) aNil))))
    (sSeq (sFld "Rows" "held_wide" (eVar 0) (eVar 1))
    (sSeq (sFld "Rows" "held_given" (eVar 0) (eLst aNil))
    (sSeq (sFld "Rows" "held_stands" (eVar 0) (eLst aNil))
    (sSeq (sForX (iSqX (eVar 2)) (gNm 3) (sSeq (sEx (eMeth "Rows" "put" sp_Rows_put (kX EX) [] (eVar 0) (aCons (eVar 3) aNil)))
    sNext))
    sNext))))))
-- 0 self, 1 row, 2 grew, 3 parts, 4 stand
def t_Rows_put (EX : EXT) : TSd := (sSeq (sEx (eFn sp_check_handful (kX EX) [] (aCons (eVar 1) (aCons (eFld "Rows" "held_wide" (eVar 0)) aNil))))
    (sSeq (sSet 2 (eNo (eFn sp_is_nothing (kX EX) [] (aCons (eMeth "Rows" "rest" sp_Rows_rest (kX EX) [] (eVar 0) (aCons (eVar 1) aNil)) aNil))))
    (sSeq (sSet 3 (eOp dAdd (eOp dTmulA (eTup (aCons (eC (.int 0)) aNil)) (eCall dLen (aCons (eFld "Rows" "held_given" (eVar 0)) aNil))) (eTup (aCons (eC (.int 1)) aNil))))
    (sSeq (sEx (eMc .list mApp (eFld "Rows" "held_given" (eVar 0)) (aCons (eVar 1) aNil)))
    (sSeq (sFld "Rows" "held_stands" (eVar 0) (eLc (iSq (eFld "Rows" "held_stands" (eVar 0))) [4] (bind1 4) tYs (eMeth "Stand" "longer" sp_Stand_longer E0X [] (eVar 4) aNil)))
    (sSeq (sIf (tVal (eVar 2)) (sSeq (sFld "Rows" "held_stands" (eVar 0) (eFn sp_taken_in (kX EX) [] (aCons (eFld "Rows" "held_stands" (eVar 0)) (aCons (eVar 1) (aCons (eVar 3) aNil)))))
    sNext) sNext)
    (sSeq (sRet (eVar 2))
    sNext)))))))
-- 0 self, 1 left, 2 row
def t_Rows_take_back (EX : EXT) : TSd := (sSeq (sIf (tEqL false (eFld "Rows" "held_given" (eVar 0)) (eLst aNil)) (sSeq (sRaise0 .NothingPut (kX EX))
    sNext) sNext)
    (sSeq (sSet 1 (eSl (eFld "Rows" "held_given" (eVar 0)) oNo (oSome (eUn dNeg (eC (.int 1))))))
    (sSeq (sFld "Rows" "held_given" (eVar 0) (eLst aNil))
    (sSeq (sFld "Rows" "held_stands" (eVar 0) (eLst aNil))
    (sSeq (sFor (iSq (eVar 1)) (gNm 2) (sSeq (sEx (eMeth "Rows" "put" sp_Rows_put (kX EX) [] (eVar 0) (aCons (eVar 2) aNil)))
    sNext))
    sNext)))))
-- 0 self
def t_Rows_given (EX : EXT) : TSd := (sSeq (sRet (eCall dList (aCons (eFld "Rows" "held_given" (eVar 0)) aNil)))
    sNext)
-- 0 self, 1 stand
def t_Rows_told (EX : EXT) : TSd := (sSeq (sRet (eLc (iSq (eFld "Rows" "held_stands" (eVar 0))) [1] (bind1 1) tYs (eFld "Stand" "row" (eVar 1))))
    sNext)
-- 0 self, 1 handful, 2 stand, 3 many
def t_Rows_rest (EX : EXT) : TSd := (sSeq (sEx (eFn sp_check_handful (kX EX) [] (aCons (eVar 1) (aCons (eFld "Rows" "held_wide" (eVar 0)) aNil))))
    (sSeq (sFor (iSq (eFld "Rows" "held_stands" (eVar 0))) (gNm 2) (sSeq (sSet 3 (eOp dDiv (eOp dIx (eVar 1) (eFld "Stand" "head" (eVar 2))) (eMeth "Stand" "top" sp_Stand_top (kX EX) [] (eVar 2) aNil)))
    (sSeq (sSet 1 (eFn sp_mixed (kX EX) [] (aCons (eC (.int 1)) (aCons (eVar 1) (aCons (eUn dNeg (eVar 3)) (aCons (eFld "Stand" "row" (eVar 2)) aNil))))))
    sNext)))
    (sSeq (sRet (eVar 1))
    sNext)))
-- 0 self
def t_Rows___len__ (EX : EXT) : TSd := (sSeq (sRet (eCall dLen (aCons (eFld "Rows" "held_stands" (eVar 0)) aNil)))
    sNext)
/-! ### the promises are kept -/
local macro_rules | `(tactic| walk_at "ev") => `(tactic| dsimp only [sSeq, sRet, sIf, sSet, sFor, sNext, sEx, sPar, sAsg, DL.sFld, eAn, eOo, eNo, eCall, eFn, eMeth, eNew, eFld, aCons, aNil, eVar, rd, eC, eOp, eUn, eEq, eOrd, tEq, tOrd, tVal, tNo, tAn, tOo, tEqL, eEqL, tNone, eTup, eLst, eSl, oNo, oSome, eRev, iR1, iR2, iSq, iZp, sForX, iSqX, iEnX, iZpX, one_eq, gNm, gTp, gsCons, gsNil, eLc_eq, inG, List.set_cons_zero, List.set_cons_succ, List.getElem?_cons_zero, List.getElem?_cons_succ, List.append_nil])
theorem mul1_ok (x : Int) : MulB 1 x := mul_ok_l (by decide)
theorem mulB_le {a b : Nat} {i j : Int} (hi : i.natAbs < 2 ^ a) (hj : j.natAbs < 2 ^ b) (h : a + b ≤ 134000000) : MulB i j := by
  have x := PySem.Flt.log2_lt_of (show 0 < a + 1 by omega) (up_bd hi (show a ≤ a + 1 by omega))
  have y := PySem.Flt.log2_lt_of (show 0 < b + 1 by omega) (up_bd hj (show b ≤ b + 1 by omega))
  have g : ∀ x : Int, Builtin.Int.intBits x ≤ x.natAbs.log2 + 1 := fun x => by
    unfold Builtin.Int.intBits
    split <;> omega
  have h1 := g i
  have h2 := g j
  have e : bitsLine = 134217728 := by decide
  show IntMulOk i j
  unfold IntMulOk
  intro z
  rw [Bool.and_eq_true] at z
  have z2 := z.2
  unfold Builtin.Int.intTooBig at z2
  have z3 := of_decide_eq_true z2
  rw [e] at z3
  omega
theorem putD_len (f : PySem.Str) (d : D) : ∀ fs : List (PySem.Str × D), (putD f d fs).length ≤ fs.length + 1
  | [] => Nat.le_refl _
  | (g, x) :: r => by
    unfold putD
    split
    · simp
    · have := putD_len f d r
      simp only [List.length_cons]
      omega
theorem isZ_iff {n : Nat} {f : Nat → Int} : isZ n f = true ↔ ∀ j, j < n → f j = 0 := by
  unfold isZ
  rw [List.all_eq_true]
  exact ⟨fun h j hj => of_decide_eq_true (h j (List.mem_range.mpr hj)), fun h j hj => decide_eq_true (h j (List.mem_range.mp hj))⟩
theorem isZ_false {n : Nat} {f : Nat → Int} (h : isZ n f = false) : ∃ k, IsHead n f k := by
  have key : ∀ m, m ≤ n → (∃ k, k < m ∧ IsHead n f k) ∨ ∀ j, j < m → f j = 0 := by
    intro m
    induction m with
    | zero => exact fun _ => .inr fun j hj => absurd hj (by omega)
    | succ m ih =>
      intro hm
      rcases ih (by omega) with ⟨k, hk, hh⟩ | z
      · exact .inl ⟨k, by omega, hh⟩
      · by_cases e : f m = 0
        · exact .inr fun j hj => by
            by_cases ej : j = m
            · subst ej; exact e
            · exact z j (by omega)
        · exact .inl ⟨m, by omega, by omega, e, z⟩
  rcases key n (Nat.le_refl n) with ⟨k, _, hh⟩ | z
  · exact ⟨k, hh⟩
  · rw [isZ_iff.mpr z] at h
    cases h
theorem pure_check_handful {ds : List D} {S : Sto} {Q : QD} {EX : EXT} (h : sp_check_handful ds S Q EX) : t_check_handful EX (endS Q) (startG ["thing", "wide"] ds) S := by
  obtain ⟨x, w, rfl, ⟨h1, h2⟩, q, qb⟩ := h
  refine ⟨x, w, rfl, h1, h2, ?_⟩
  cases hh : handB x w with
  | true => exact ⟨fun z => (by cases z), fun _ => q hh⟩
  | false => exact ⟨fun _ => qb hh, fun z => (by cases z)⟩
theorem pure_is_nothing {ds : List D} {S : Sto} {Q : QD} {EX : EXT} (h : sp_is_nothing ds S Q EX) : t_is_nothing EX (endS Q) (startG ["row", "one"] ds) S := by
  obtain ⟨n, f, rfl, hn, q⟩ := h
  show t_is_nothing EX (endS Q) [some (dR n f), none] S
  unfold t_is_nothing
  walk_at "ev"
  refine lc_M (src := fun j => D.int (f j)) (fun j => D.bl (decide (f j = 0))) (by rw [List.length_range]; exact hn) (fun j hj p acc K hK => hK) bind1_mono (Or.inl ?_)
  refine ⟨(List.range n).map fun j => decide (f j = 0), by rw [List.map_map]; rfl, ?_⟩
  rw [List.all_map]
  exact q
theorem filter_head {n h : Nat} {f : Nat → Int} (H : IsHead n f h) : ∃ r, (List.range n).filter (fun k => !decide (f k = 0)) = h :: r := by
  obtain ⟨h1, h2, h3⟩ := H
  have e : List.range n = List.range h ++ (List.range (n - h)).map fun i => h + i := by
    rw [← List.range_add, show h + (n - h) = n by omega]
  rw [e, List.filter_append]
  have z : (List.range h).filter (fun k => !decide (f k = 0)) = [] := List.filter_eq_nil_iff.mpr fun a ha => by
    rw [decide_eq_true (h3 a (List.mem_range.mp ha))]
    decide
  rw [z, List.nil_append]
  obtain ⟨m, em⟩ : ∃ m, n - h = m + 1 := ⟨n - h - 1, by omega⟩
  rw [em, List.range_succ_eq_map, List.map_cons, Nat.add_zero, List.filter_cons_of_pos (by rw [decide_eq_false h2]; rfl)]
  exact ⟨_, rfl⟩
theorem pure_head_of {ds : List D} {S : Sto} {Q : QD} {EX : EXT} (h : sp_head_of ds S Q EX) : t_head_of EX (endS Q) (startG ["row", "k"] ds) S := by
  obtain ⟨n, f, h, rfl, hn, H, q⟩ := h
  show t_head_of EX (endS Q) [some (dR n f), none] S
  unfold t_head_of
  walk_at "ev"
  refine len_R ?_
  refine ⟨⟨by omega, by omega⟩, ?_⟩
  rw [Int.toNat_natCast, span_map]
  refine lc_F (fun k => !decide (f k = 0)) (fun k => D.int (k : Int)) (by rw [List.length_range]; exact hn) (fun k hk p acc => ⟨fun P hP => ?_, fun _ K hK => hK⟩) bind1_mono (Or.inl ?_)
  · exact ⟨.int (f k), atI_nat (range_at (fun j => D.int (f j)) (List.mem_range.mp hk)), hP⟩
  · obtain ⟨r, er⟩ := filter_head H
    rw [er]
    exact ⟨.int h, atI_nat (k := 0) rfl, q⟩
theorem pure_mixed {ds : List D} {S : Sto} {Q : QD} {EX : EXT} (h : sp_mixed ds S Q EX) : t_mixed EX (endS Q) (startG ["x", "one", "y", "other", "mine", "its"] ds) S := by
  obtain ⟨x, y, n, f, g, rfl, hn, hB, q⟩ := h
  show t_mixed EX (endS Q) [some (.int x), some (dR n f), some (.int y), some (dR n g), none, none] S
  unfold t_mixed
  walk_at "ev"
  show LcIn _ _ _ _ _ (zipD ((List.range n).map fun j => D.int (f j)) ((List.range n).map fun j => D.int (g j))) _ _
  rw [zip_range]
  refine lc_M (src := fun j => D.tup [D.int (f j), D.int (g j)]) (fun j => D.int (x * f j + y * g j)) (by rw [List.length_range]; exact hn) (fun j hj p acc K hK => ?_) bind2_mono' (Or.inl q)
  obtain ⟨b1, b2⟩ := hB j (List.mem_range.mp hj)
  exact ⟨b1, b2, hK⟩
theorem pure_Stand___init__ {ds : List D} {S : Sto} {Q : QD} {EX : EXT} (h : sp_Stand___init__ ds S Q EX) : t_Stand___init__ EX (endS Q) (startG ["self", "row", "parts"] ds) S := by
  obtain ⟨a, S0, n, m, f, p, h, rfl, rfl, hn, H, q⟩ := h
  have l1 := putD_len "row" (dR n f) []
  have l2 := putD_len "parts" (dR m p) (putD "row" (dR n f) [])
  have l0 : ([] : List (PySem.Str × D)).length = 0 := rfl
  refine ⟨0, [], rfl, by decide, 0, _, rfl, by omega, n, f, h, rfl, hn, H, 0, _, rfl, by omega, ?_⟩
  exact q
theorem pure_Stand_top {ds : List D} {S : Sto} {Q : QD} {EX : EXT} (h : sp_Stand_top ds S Q EX) : t_Stand_top EX (endS Q) (startG ["self"] ds) S := by
  obtain ⟨n, m, s, rfl, hs, q⟩ := h
  exact ⟨rfl, _, rfl, rfl, _, rfl, .int (s.row s.head), atI_nat (range_at (fun j => D.int (s.row j)) hs), q⟩
/-- a new stand is frozen at once -/
theorem new_stand {n m h : Nat} {f p : Nat → Int} {S : Sto} {Q : QD} {EX : EXT} (hn : n ≤ 1000000) (H : IsHead n f h) (q : Q (dS n m ⟨f, p, h⟩) S) : ∀ x, sp_Stand___init__ [.ref x, dR n f, dR m p] ((x, Cel.ins "Stand" []) :: S) (fun d S2 => d = .non ∧ mkI "Stand" x S2 Q) EX := fun x =>
  ⟨x, S, n, m, f, p, h, rfl, rfl, hn, H, rfl, .inr ⟨0, _, rfl, .inl q⟩⟩
theorem pure_Stand_mix {ds : List D} {S : Sto} {Q : QD} {EX : EXT} (h : sp_Stand_mix ds S Q EX) : t_Stand_mix EX (endS Q) (startG ["self", "x", "other", "y"] ds) S := by
  obtain ⟨x, y, n, m, s, t, h, rfl, hn, hm, b1, b2, H, q⟩ := h
  refine ⟨rfl, _, rfl, rfl, _, rfl, x, y, n, s.row, t.row, rfl, hn, b1, rfl, _, rfl, rfl, _, rfl, x, y, m, s.parts, t.parts, rfl, hm, b2, ?_⟩
  exact new_stand hn H q
theorem pure_Stand_longer {ds : List D} {S : Sto} {Q : QD} {EX : EXT} (h : sp_Stand_longer ds S Q EX) : t_Stand_longer EX (endS Q) (startG ["self"] ds) S := by
  obtain ⟨n, m, s, rfl, hn, hm, H, z, q⟩ := h
  have e : D.tup (((List.range m).map fun i => D.int (s.parts i)) ++ [D.int 0]) = dR (m + 1) s.parts := by
    unfold dR
    rw [range_snoc, z]
  refine ⟨rfl, _, rfl, rfl, _, rfl, ?_⟩
  refine ⟨by rw [rng_len]; show m + 1 ≤ 16777216; omega, ?_⟩
  rw [e]
  exact new_stand hn H q
theorem div8 {i j : Int} (h : 0 < j) (hb : j.natAbs < 2 ^ 8000) : CDivW i j := wide_div h hb (by decide) (by decide)
theorem pure_Stand_cut_by {ds : List D} {S : Sto} {Q : QD} {EX : EXT} (h : sp_Stand_cut_by ds S Q EX) : t_Stand_cut_by EX (endS Q) (startG ["self", "later", "many"] ds) S := by
  obtain ⟨n, m, s, t, rfl, hn, hm, H, hlt, T, tp, tb, b1, b2, q⟩ := h
  refine ⟨rfl, _, rfl, rfl, _, rfl, .int (s.row t.head), atI_nat (range_at (fun j => D.int (s.row j)) T.1), rfl, rfl, n, m, t, rfl, T.1, div8 tp tb, ?_⟩
  have e2 : ∀ j, 1 * s.row j + -(s.row t.head / t.row t.head) * t.row j = cutS s.row t j := fun j => by unfold cutS; grind
  refine ⟨fun h => ?_, fun _ => ?_⟩
  · have z : s.row t.head / t.row t.head = 0 := by simpa using h
    have e : dS n m s = dS n m (cutB s t) := by
      unfold dS cutB
      show _ = D.ins "Stand" [("row", dR n (cutS s.row t)), ("parts", dR m fun i => s.parts i - (s.row t.head / t.row t.head) * t.parts i), ("head", .int s.head)]
      rw [show dR n (cutS s.row t) = dR n s.row from dR_ext fun j _ => by unfold cutS; rw [z]; omega, show (dR m fun i => s.parts i - (s.row t.head / t.row t.head) * t.parts i) = dR m s.parts from dR_ext fun j _ => by rw [z]; omega]
    show Q (dS n m s) S
    rw [e]
    exact q
  · refine ⟨rfl, rfl, 1, -(s.row t.head / t.row t.head), n, m, s, t, s.head, rfl, hn, hm, fun j hj => ⟨mul1_ok _, b1 j hj⟩, fun i hi => ⟨mul1_ok _, b2 i hi⟩, ?_, ?_⟩
    · have low : ∀ j, j ≤ s.head → t.row j = 0 := fun j hj => T.2.2 j (by omega)
      refine ⟨H.1, ?_, fun j hj => ?_⟩
      · show 1 * s.row s.head + _ * t.row s.head ≠ 0
        rw [low _ (Nat.le_refl _), Int.mul_zero, Int.one_mul, Int.add_zero]
        exact H.2.1
      · show 1 * s.row j + _ * t.row j = 0
        rw [low _ (Nat.le_of_lt hj), Int.mul_zero, Int.one_mul, Int.add_zero]
        exact H.2.2 j hj
    · have e : (⟨fun j => 1 * s.row j + -(s.row t.head / t.row t.head) * t.row j, fun i => 1 * s.parts i + -(s.row t.head / t.row t.head) * t.parts i, s.head⟩ : St) = cutB s t := by
        unfold cutB
        congr 1
        · funext j
          exact e2 j
        · funext i
          grind
      rw [e]
      exact q
/-! ### tidied -/
theorem tid_drop : ∀ (k : Nat) (ss : List St), (tid ss).drop k = tid (ss.drop k)
  | 0, _ => rfl
  | k + 1, [] => rfl
  | k + 1, s :: ss => tid_drop k ss
theorem Ech.head {n : Nat} {ss : List St} (E : Ech n ss) : ∀ s ∈ ss, IsHead n s.row s.head := fun s hs => by
  obtain ⟨h1, h2, h3⟩ := E.one s hs
  exact ⟨h1, by omega, h2⟩
theorem cut_run {n m B P : Nat} {s : St} {T : List St} (h7 : n ≤ 7) (hnB : n * (B + 1) ≤ 8000) (hP : P ≤ 60000000) (E : Ech n (s :: T)) (hb : ∀ a ∈ s :: T, (∀ j, j < n → (a.row j).natAbs < 2 ^ 8000) ∧ ∀ i, i < m → (a.parts i).natAbs < 2 ^ P)
    (hB : ∀ t ∈ tid T, t.head < n ∧ ∀ j, j < n → (t.row j).natAbs < 2 ^ B) {j : Nat} {t : St} (ht : (tid T)[j]? = some t) :
    IsHead n (((tid T).take j).foldl cutB s).row (((tid T).take j).foldl cutB s).head ∧ (((tid T).take j).foldl cutB s).head < t.head ∧ IsHead n t.row t.head ∧ 0 < t.row t.head ∧ (t.row t.head).natAbs < 2 ^ 8000 ∧
      (∀ k, k < n → MulB (-((((tid T).take j).foldl cutB s).row t.head / t.row t.head)) (t.row k)) ∧ ∀ k, k < m → MulB (-((((tid T).take j).foldl cutB s).row t.head / t.row t.head)) (t.parts k) := by
  have tm := List.mem_of_getElem? ht
  have hj : j < (tid T).length := (List.getElem?_eq_some_iff.mp ht).1
  have hl := E.len
  rw [List.length_cons] at hl
  have tl := tid_len T
  obtain ⟨TT, _, _⟩ := tid_ok E.tail
  obtain ⟨t1, t2, t3⟩ := TT.ech.one t tm
  have hr := foldB_row ((tid T).take j) s
  have up : ∀ a ∈ tid T, s.head < a.head := fun a ha => by
    obtain ⟨c, hc, e⟩ := tid_mem_head ha
    rw [← e]
    exact (List.pairwise_cons.mp E.up).1 c hc
  have low : ∀ q, q ≤ s.head → ∀ a ∈ (tid T).take j, a.row q = 0 := fun q hq a ha => (TT.ech.one a (List.mem_of_mem_take ha)).2.1 q (Nat.lt_of_le_of_lt hq (up a (List.mem_of_mem_take ha)))
  have keep : ∀ q, q ≤ s.head → (((tid T).take j).foldl cutB s).row q = s.row q := fun q hq => by
    rw [hr.1]
    exact rest_keeps (n := n) (low q hq)
  obtain ⟨s1, s2, s3⟩ := E.one s (List.mem_cons_self ..)
  have nB : 0 < n := by omega
  have B8 : B ≤ 8000 := by
    have : 1 * (B + 1) ≤ n * (B + 1) := Nat.mul_le_mul_right _ nB
    omega
  have tp := tid_bp hnB (ss := T) (fun a ha => hb a (List.mem_cons_of_mem _ ha)) hB (by omega)
  have m1 : T.length * (16000 + n) ≤ 7 * 16007 := Nat.mul_le_mul (by omega) (by omega)
  have ltk : ((tid T).take j).length = j := by rw [List.length_take]; omega
  have m2 : j * (B + 1) ≤ n * (B + 1) := Nat.mul_le_mul_right _ (by omega)
  have f := foldB_bd (ts := (tid T).take j) (s := s) (m := m) (a := 8000) (Q := P + T.length * (16000 + n) + 16000) (P := P + T.length * (16000 + n)) ⟨(hb s (List.mem_cons_self ..)).1, fun i hi => up_bd ((hb s (List.mem_cons_self ..)).2 i hi) (by omega)⟩
    (fun a ha => ⟨(hB a (List.mem_of_mem_take ha)).1, (hB a (List.mem_of_mem_take ha)).2, tp a (List.mem_of_mem_take ha)⟩) (by rw [ltk]; omega)
  rw [ltk] at f
  have mb : (-((((tid T).take j).foldl cutB s).row t.head / t.row t.head)).natAbs < 2 ^ (8000 + j * (B + 1)) := by
    rw [Int.natAbs_neg]
    exact ediv_bd (f.row _ t1)
  refine ⟨⟨by rw [hr.2]; exact s1, ?_, fun q hq => ?_⟩, by rw [hr.2]; exact up t tm, ⟨t1, by omega, t2⟩, t3, up_bd ((hB t tm).2 _ t1) B8, fun k hk => mulB_le mb ((hB t tm).2 k hk) (by omega), fun k hk => mulB_le mb (tp t tm k hk) (by omega)⟩
  · rw [hr.2, keep _ (Nat.le_refl _)]
    omega
  · rw [hr.2] at hq
    rw [keep _ (Nat.le_of_lt hq)]
    exact s2 q hq
theorem Ech.drop {n : Nat} : ∀ {ss : List St} (k : Nat), Ech n ss → Ech n (ss.drop k)
  | _, 0, E => E
  | [], k + 1, E => E
  | s :: ss, k + 1, E => Ech.drop (ss := ss) k E.tail
theorem pure_tidied {ds : List D} {S : Sto} {Q : QD} {EX : EXT} (h : sp_tidied ds S Q EX) : t_tidied EX (endS Q) (startG ["stands", "found", "stand", "later"] ds) S := by
  obtain ⟨n, m, B, P, ss, rfl, h7, hm, hnB, hP, E, hb, hB, q⟩ := h
  have sz : sizeLine = 16777216 := rfl
  have hl := E.len
  refine Or.inl ?_
  refine Or.inl ?_
  refine ⟨fun i G S' => S' = S ∧ ∃ x y : Option D, G = [some (.lst (ss.map (dS n m))), some (.lst ((tid (ss.drop (ss.length - i))).map (dS n m))), x, y], ⟨rfl, none, none, ?_⟩, ?_, ?_⟩
  · rw [Nat.sub_zero, List.drop_length]
    rfl
  · rintro i d G S' e ⟨rfl, x, y, rfl⟩
    rw [← List.map_reverse, List.getElem?_map] at e
    obtain ⟨s, hs, rfl⟩ := Option.map_eq_some_iff.mp e
    have hi : i < ss.length := by
      have := (List.getElem?_eq_some_iff.mp hs).1
      rwa [List.length_reverse] at this
    rw [List.getElem?_reverse hi] at hs
    have ed : ss.drop (ss.length - (i + 1)) = s :: ss.drop (ss.length - i) := by
      rw [List.drop_eq_getElem_cons (show ss.length - (i + 1) < ss.length by omega), show ss.length - (i + 1) + 1 = ss.length - i by omega]
      congr 1
      rw [List.getElem?_eq_getElem (by omega)] at hs
      rw [← Option.some.inj hs]
      congr 1
      omega
    have E1 : Ech n (s :: ss.drop (ss.length - i)) := by rw [← ed]; exact E.drop _
    have hb1 : ∀ a ∈ s :: ss.drop (ss.length - i), (∀ j, j < n → (a.row j).natAbs < 2 ^ 8000) ∧ ∀ i, i < m → (a.parts i).natAbs < 2 ^ P := fun a ha => hb a (List.mem_of_mem_drop (by rw [ed]; exact ha))
    have hB1 : ∀ t ∈ tid (ss.drop (ss.length - i)), t.head < n ∧ ∀ j, j < n → (t.row j).natAbs < 2 ^ B := fun t ht => hB t (List.mem_of_mem_drop (by rw [tid_drop]; exact ht))
    have lT : (tid (ss.drop (ss.length - i))).length ≤ 7 := by rw [tid_len, List.length_drop]; omega
    refine ⟨fun j G S'' => S'' = S' ∧ ∃ y : Option D, G = [some (.lst (ss.map (dS n m))), some (.lst ((tid (ss.drop (ss.length - i))).map (dS n m))), some (dS n m (((tid (ss.drop (ss.length - i))).take j).foldl cutB s)), y], ⟨rfl, y, rfl⟩, ?_, ?_⟩
    · rintro j d G S'' e ⟨rfl, y, rfl⟩
      rw [List.getElem?_map] at e
      obtain ⟨t, ht, rfl⟩ := Option.map_eq_some_iff.mp e
      obtain ⟨c1, c2, c3, c4, c5, c6, c7⟩ := cut_run h7 hnB hP E1 hb1 hB1 ht
      refine ⟨rfl, rfl, n, m, _, t, rfl, by omega, by omega, c1, c2, c3, c4, c5, c6, c7, ?_⟩
      refine ⟨rfl, some (dS n m t), ?_⟩
      rw [List.take_add_one, ht, Option.toList_some, List.foldl_append]
      rfl
    · rintro G S'' ⟨rfl, y, rfl⟩
      rw [List.length_map, List.take_length]
      refine Or.inl ?_
      refine ⟨?_, Or.inl ⟨rfl, some (dS n m ((tid (ss.drop (ss.length - i))).foldl cutB s)), y, ?_⟩⟩
      · rw [List.length_map]
        show 1 + _ ≤ _
        omega
      · rw [ed]
        rfl
  · rintro G S' ⟨rfl, x, y, rfl⟩
    rw [List.length_reverse, List.length_map, Nat.sub_self]
    exact q
/-! ### taken_in -/
theorem filter_keep {h : Nat} (L : List St) : (L.filter fun s => cmpI .Lt (s.head : Int) (h : Int)) = L.filter fun s => decide (s.head < h) := List.filter_congr fun s _ => by
  show decide ((s.head : Int) < (h : Int)) = decide (s.head < h)
  exact decide_eq_decide.mpr (by omega)
theorem filter_left {h : Nat} (L : List St) : (L.filter fun s => cmpI .GtE (s.head : Int) (h : Int)) = L.filter fun s => decide (h ≤ s.head) := List.filter_congr fun s _ => by
  show decide ((s.head : Int) ≥ (h : Int)) = decide (h ≤ s.head)
  exact decide_eq_decide.mpr (by omega)
theorem zero_R (n : Nat) : D.tup (List.replicate (n : Int).toNat [D.int 0]).flatten = dR n fun _ => 0 := by
  rw [Int.toNat_natCast, rep_range]
  rfl
def Iv_taken (n b B m P : Nat) (G : Mx) (ss : List St) (v : Nat → Int) (S : Sto) : Nat → DL.Loc → Sto → Prop := fun μ Gl S' => S' = S ∧ ∃ (k : Nat) (F L : List St) (r p p0 : Nat → Int) (o5 o6 o7 o8 o9 o10 o11 o12 o13 o14 : Option D), TI n b B m P G ss v k F L r p ∧ ((∀ j, j < n → r j = 0) ∨ p0 = p) ∧
  Gl = [some (.lst (ss.map (dS n m))), some (dR n r), some (dR m p0), some (.lst (F.map (dS n m))), some (.lst (L.map (dS n m))), o5, o6, o7, o8, o9, o10, o11, o12, o13, o14, none] ∧ μ = if isZ n r then 0 else L.length + 1
theorem isZ_zero (n : Nat) : isZ n (fun _ => 0) = true := isZ_iff.mpr fun _ _ => rfl
section
variable {n b B m P k h : Nat} {G : Mx} {ss F L : List St} {v r p p0 : Nat → Int} {S : Sto} {EX : EXT} {E : DE} {o6 o7 o8 o9 o10 o11 o12 o13 o14 : Option D} {pc : Addr}
theorem fresh_core (D0 : Dim n b B) (hm : m ≤ 1000) (hP : P ≤ 50000000) (I : TI n b B m P G ss v k F L r p) (H : IsHead n r h) (hF : ∀ s ∈ F, s.head < h) (hL : ∀ s ∈ L, h < s.head)
    (hE : ∀ Gl S', Iv_taken n b B m P G ss v S 0 Gl S' → E.nx Gl S') :
    (sSeq (sSet 6 (eOp dSub (eC (.int 1)) (eOp dMul (eC (.int 2)) (eCall dInt (aCons (eOrd .Lt (eOp dIx (eVar 1) (eVar 5)) (eC (.int 0))) aNil)))))
    (sSeq (sSet 4 (eOp dAdd (eLst (aCons (eNew "Stand" sp_Stand___init__ (kX EX) [] (aCons (eFn sp_mixed (kX EX) [] (aCons (eVar 6) (aCons (eVar 1) (aCons (eC (.int 0)) (aCons (eVar 1) aNil))))) (aCons (eFn sp_mixed (kX EX) [] (aCons (eVar 6) (aCons (eVar 2) (aCons (eC (.int 0)) (aCons (eVar 2) aNil))))) aNil))) aNil)) (eVar 4)))
    (sSeq (sSet 1 (eOp dTmulA (eTup (aCons (eC (.int 0)) aNil)) (eCall dLen (aCons (eVar 1) aNil))))
    sNext))) { E with nx := fun G' S' => (sFz 3 sNext) E G' S' }
      [some (.lst (ss.map (dS n m))), some (dR n r), some (dR m p), some (.ref pc), some (.lst (L.map (dS n m))), some (.int h), o6, o7, o8, o9, o10, o11, o12, o13, o14, none] ((pc, Cel.lst (F.map (dS n m))) :: S) := by
  have h7 := D0.n7
  have k8 : k * 8001 ≤ 7 * 8001 := Nat.mul_le_mul_right _ (by have := I.k0; have := I.sn; omega)
  have ll := I.ech.len
  rw [List.length_append] at ll
  refine ⟨.int (r h), atI_nat (range_at (fun j => D.int (r j)) H.1), mul_ok_l (by decide), ?_⟩
  have es : (1 : Int) - 2 * (if (decide (r h < 0)) = true then 1 else 0) = 1 - 2 * (if r h < 0 then 1 else 0) := by simp
  refine ⟨(1 : Int) - 2 * (if (decide (r h < 0)) = true then 1 else 0), 0, n, r, r, rfl, by omega, fun j hj => ⟨mul_ok_l ?_, mul_ok_l (by decide)⟩, ?_⟩
  · split <;> decide
  refine ⟨(1 : Int) - 2 * (if (decide (r h < 0)) = true then 1 else 0), 0, m, p, p, rfl, by omega, fun j hj => ⟨mul_ok_l ?_, mul_ok_l (by decide)⟩, ?_⟩
  · split <;> decide
  have I2 := I.fresh D0 H.1 H.2.2 H.2.1 hF hL es
  refine new_stand (by omega) (I2.ech.head _ (List.mem_append_right F (List.mem_cons_self ..))) ?_
  refine Or.inl ?_
  refine ⟨by rw [List.length_map]; show 1 + _ ≤ 16777216; omega, Or.inl ?_⟩
  walk_at "ev"
  refine fit_of (by show 1 ≤ 1000000; decide) ?_
  refine len_R ?_
  refine ⟨by omega, by omega, by decide, ?_⟩
  rw [zero_R]
  refine ⟨0, rfl, ?_⟩
  exact hE _ _ ⟨rfl, k, F, _, fun _ => 0, fun _ => 0, p, _, _, _, _, _, _, _, _, _, _, I2, .inl fun _ _ => rfl, rfl, by rw [isZ_zero]; rfl⟩
theorem turn_core (D0 : Dim n b B) (O : Old n B m P G ss) {here : St} (hm : m ≤ 1000) (hP : P ≤ 50000000) (I : TI n b B m P G ss v k F (here :: L) r p) (H : IsHead n r here.head) (hF : ∀ s ∈ F, s.head < here.head)
    (hE : ∀ μ Gl S', μ ≤ L.length + 1 → Iv_taken n b B m P G ss v S μ Gl S' → E.nx Gl S') :
    (sSeq (sSet 7 (eOp dIx (eVar 4) (eC (.int 0))))
    (sSeq (sPar 8 9 (aCons (eMeth "Stand" "top" sp_Stand_top (kX EX) [] (eVar 7) aNil) (aCons (eOp dIx (eVar 1) (eVar 5)) aNil)))
    (sSeq (sAsg (eFn sp_shares (kX EX) [] (aCons (eVar 8) (aCons (eVar 9) aNil))) (gTp 3 (gsCons (gNm 10) (gsCons (gNm 11) (gsCons (gNm 12) gsNil)))))
    (sSeq (sEx (eMc .list mApp (eVar 3) (aCons (eNew "Stand" sp_Stand___init__ (kX EX) [] (aCons (eFn sp_mixed (kX EX) [] (aCons (eVar 11) (aCons (eFld "Stand" "row" (eVar 7)) (aCons (eVar 12) (aCons (eVar 1) aNil))))) (aCons (eFn sp_mixed (kX EX) [] (aCons (eVar 11) (aCons (eFld "Stand" "parts" (eVar 7)) (aCons (eVar 12) (aCons (eVar 2) aNil))))) aNil))) aNil)))
    (sSeq (sSet 4 (eSl (eVar 4) (oSome (eC (.int 1))) oNo))
    (sSeq (sPar 13 14 (aCons (eOp dDiv (eVar 8) (eVar 10)) (aCons (eUn dNeg (eOp dDiv (eVar 9) (eVar 10))) aNil)))
    (sSeq (sPar 1 2 (aCons (eFn sp_mixed (kX EX) [] (aCons (eVar 13) (aCons (eVar 1) (aCons (eVar 14) (aCons (eFld "Stand" "row" (eVar 7)) aNil))))) (aCons (eFn sp_mixed (kX EX) [] (aCons (eVar 13) (aCons (eVar 2) (aCons (eVar 14) (aCons (eFld "Stand" "parts" (eVar 7)) aNil))))) aNil)))
    sNext))))))) { E with nx := fun G' S' => (sFz 3 sNext) E G' S' }
      [some (.lst (ss.map (dS n m))), some (dR n r), some (dR m p), some (.ref pc), some (.lst ((here :: L).map (dS n m))), some (.int here.head), o6, o7, o8, o9, o10, o11, o12, o13, o14, none] ((pc, Cel.lst (F.map (dS n m))) :: S) := by
  have h7 := D0.n7
  have kn := Nat.le_trans I.k0 I.sn
  have k8 : k * 8001 ≤ 7 * 8001 := Nat.mul_le_mul_right _ (by omega)
  have ll := I.ech.len
  rw [List.length_append, List.length_cons] at ll
  have b8 := D0.step kn
  have hB := D0.B (show 0 < n by have := H.1; omega)
  have hm0 : here ∈ ss := by
    rcases I.left with z | z
    · exact z here (List.mem_cons_self ..)
    · exact absurd (z _ H.1) H.2.1
  obtain ⟨e1, e2, e3⟩ := O.tdy.ech.one here hm0
  have rb := O.row here hm0
  have tb := rows8 D0 H.1 (rb _ H.1)
  have nb : (r here.head).natAbs < 2 ^ 8000 := up_bd (I.br _ H.1) b8
  obtain ⟨g0, gs, g1, g2, gx, gy⟩ := shares_facts (b := r here.head) e3
  have gle : (shares (here.row here.head) (r here.head)).1.natAbs < 2 ^ 8000 := by
    have := Int.le_of_dvd e3 g1
    omega
  have xb := max1_bd gx nb (by decide)
  have yb := max1_bd gy tb (by decide)
  refine ⟨_, atI_nat (k := 0) rfl, ?_⟩
  refine ⟨rfl, rfl, n, m, here, rfl, H.1, ?_⟩
  refine ⟨.int (r here.head), atI_nat (range_at (fun j => D.int (r j)) H.1), ?_⟩
  refine ⟨here.row here.head, r here.head, rfl, tb, nb, ?_⟩
  refine ⟨⟨0, _, rfl, trivial⟩, rfl, _, rfl, (shares (here.row here.head) (r here.head)).2.1, (shares (here.row here.head) (r here.head)).2.2, n, here.row, r, rfl, by omega, fun j hj => ⟨mulB_le xb (rows8 D0 hj (rb j hj)) (by decide), mulB_le yb (up_bd (I.br j hj) b8) (by decide)⟩, ?_⟩
  refine ⟨rfl, _, rfl, (shares (here.row here.head) (r here.head)).2.1, (shares (here.row here.head) (r here.head)).2.2, m, here.parts, p, rfl, by omega, fun j hj => ⟨mulB_le xb (I.bP here (by simp) j hj) (by omega), mulB_le yb (I.bp j hj) (by omega)⟩, ?_⟩
  have I2 := I.turn D0 O H.1 H.2.2 H.2.1 hF g0 gs g1 g2 gx gy
  refine new_stand (by omega) (I2.ech.head _ (List.mem_append_left _ (List.mem_append_right F (List.mem_cons_self ..)))) ?_
  refine ⟨0, _, rfl, by rw [List.length_map]; show _ < 16777216; omega, ?_⟩
  refine Or.inl ?_
  have ec : cutD (((here :: L).map (dS n m))) (some 1) none = L.map (dS n m) := by
    have h1 := cut_of (n := L.length + 1) (a := 1) (fun i => ((here :: L).map (dS n m)).getD i .non) (by omega)
    have e0 : ((List.range (L.length + 1)).map fun i => ((here :: L).map (dS n m)).getD i .non) = (here :: L).map (dS n m) := by
      refine (range_eq (by rw [List.length_map]; rfl) fun i hi => ?_).symm
      rw [List.getD_eq_getElem?_getD, List.getElem?_eq_getElem (by rw [List.length_map]; exact hi)]
      rfl
    rw [e0] at h1
    refine h1.trans ?_
    refine (range_eq (by rw [List.length_map]; omega) fun i hi => ?_).symm
    rw [List.getD_eq_getElem?_getD, Nat.add_comm 1 i, List.map_cons, List.getElem?_cons_succ, List.getElem?_eq_getElem (by rw [List.length_map]; omega)]
    rfl
  rw [ec]
  refine ⟨div8 g0 gle, div8 g0 gle, ?_⟩
  have ob : (here.row here.head / (shares (here.row here.head) (r here.head)).1).natAbs < 2 ^ 8000 := ediv_bd tb
  have qb : (-(r here.head / (shares (here.row here.head) (r here.head)).1)).natAbs < 2 ^ 8000 := by rw [Int.natAbs_neg]; exact ediv_bd nb
  refine ⟨rfl, _, rfl, _, _, n, r, here.row, rfl, by omega, fun j hj => ⟨mulB_le ob (up_bd (I.br j hj) b8) (by decide), mulB_le qb (rows8 D0 hj (rb j hj)) (by decide)⟩, ?_⟩
  refine ⟨rfl, _, rfl, _, _, m, p, here.parts, rfl, by omega, fun j hj => ⟨mulB_le ob (I.bp j hj) (by omega), mulB_le qb (I.bP here (by simp) j hj) (by omega)⟩, ?_⟩
  refine ⟨0, rfl, ?_⟩
  let mo := (shares (here.row here.head) (r here.head)).1
  refine hE _ _ _ ?_ ⟨rfl, k + 1, _, L, _, _, _, some (.int here.head), o6, some (dS n m here), some (.int (here.row here.head)), some (.int (r here.head)), some (.int mo), some (.int (shares (here.row here.head) (r here.head)).2.1), some (.int (shares (here.row here.head) (r here.head)).2.2), some (.int (here.row here.head / mo)), some (.int (-(r here.head / mo))), I2, .inr rfl, ?_, rfl⟩
  · split <;> omega
  · rw [List.map_append]
    rfl
end
theorem pure_taken_in {ds : List D} {S : Sto} {Q : QD} {EX : EXT} (h : sp_taken_in ds S Q EX) : t_taken_in EX (endS Q) (startG ["stands", "row", "parts", "found", "left", "at", "sign", "here", "top", "number", "most", "x", "y", "one", "other", "stand"] ds) S := by
  obtain ⟨n, b, B, m, P, G, ss, v, p, rfl, D0, O, hm, hP, I0, fin⟩ := h
  have sz : sizeLine = 16777216 := rfl
  have h7 := D0.n7
  refine Or.inl ?_
  refine Or.inl ?_
  refine ⟨Iv_taken n b B m P G ss v S, if isZ n v then 0 else ss.length + 1, ⟨rfl, 0, [], ss, v, p, p, none, none, none, none, none, none, none, none, none, none, I0, .inr rfl, rfl, rfl⟩, ?_⟩
  rintro μ Gl S' ⟨rfl, k, F, L, r, p1, p0, o5, o6, o7, o8, o9, o10, o11, o12, o13, o14, I, hp, rfl, rfl⟩
  have ll := I.ech.len
  have kn := Nat.le_trans I.k0 I.sn
  have k8 : k * 8001 ≤ 7 * 8001 := Nat.mul_le_mul_right _ (by omega)
  rw [List.length_append] at ll
  refine ⟨n, r, rfl, by omega, fun hz => ?_, fun hz => ?_⟩
  · have hz' : isZ n r = false := by simpa using hz
    obtain ⟨h, H⟩ := isZ_false hz'
    have ep : p0 = p1 := by
      rcases hp with z | z
      · rw [isZ_iff.mpr z] at hz'
        cases hz'
      · exact z
    subst ep
    have I2 := I.move H.1 H.2.2 H.2.1
    refine ⟨n, r, h, rfl, by omega, H, ?_⟩
    refine (lc_F (src := dS n m) (xs := L) (bind := bind1 15) (own := [15]) (te := eVar 15) (tt := tOrd .Lt (eFld "Stand" "head" (eVar 15)) (eVar 5)) (G := [some (.lst (ss.map (dS n m))), some (dR n r), some (dR m p0), some (.lst (F.map (dS n m))), some (.lst (L.map (dS n m))), some (.int h), o6, o7, o8, o9, o10, o11, o12, o13, o14, none])
      (fun s => cmpI .Lt (s.head : Int) (h : Int)) (dS n m) (by omega) (fun s hs p acc => ⟨fun P hP => ⟨rfl, _, rfl, hP⟩, fun _ K hK => hK⟩) bind1_mono (Or.inl ?_) : LcIn _ _ _ _ _ _ _ _)
    rw [filter_keep]
    have hfl := List.length_filter_le (fun s : St => decide (s.head < h)) L
    refine ⟨by rw [List.length_map, List.length_map, sz]; omega, Or.inr fun pc => ?_⟩
    rw [← List.map_append]
    refine (lc_F (src := dS n m) (xs := L) (bind := bind1 15) (own := [15]) (te := eVar 15) (tt := tOrd .GtE (eFld "Stand" "head" (eVar 15)) (eVar 5)) (G := [some (.lst (ss.map (dS n m))), some (dR n r), some (dR m p0), some (.ref pc), some (.lst (L.map (dS n m))), some (.int h), o6, o7, o8, o9, o10, o11, o12, o13, o14, none])
      (fun s => cmpI .GtE (s.head : Int) (h : Int)) (dS n m) (by omega) (fun s hs p acc => ⟨fun P hP => ⟨rfl, _, rfl, hP⟩, fun _ K hK => hK⟩) bind1_mono (Or.inl ?_) : LcIn _ _ _ _ _ _ _ _)
    rw [filter_left]
    have hF : ∀ s ∈ F ++ L.filter (fun s => decide (s.head < h)), s.head < h := fun s hs => by
      rcases List.mem_append.mp hs with z | z
      · apply Classical.byContradiction
        intro q
        exact H.2.1 (I.low s z h (by omega))
      · exact of_decide_eq_true (List.mem_filter.mp z).2
    have hLge : ∀ s ∈ L.filter (fun s => decide (h ≤ s.head)), h ≤ s.head := fun s hs => of_decide_eq_true (List.mem_filter.mp hs).2
    have hLl := List.length_filter_le (fun s : St => decide (h ≤ s.head)) L
    generalize F ++ L.filter (fun s => decide (s.head < h)) = F' at *
    generalize L.filter (fun s => decide (h ≤ s.head)) = L' at *
    have dn : ∀ (E : DE) μ' Gl S'', μ' < L.length + 1 → Iv_taken n b B m P G ss v S' μ' Gl S'' → ∃ m', m' < (if isZ n r = true then 0 else L.length + 1) ∧ Iv_taken n b B m P G ss v S' m' Gl S'' := fun E μ' Gl S'' h1 h2 => ⟨μ', by rw [hz']; exact h1, h2⟩
    cases L' with
    | nil =>
      refine Or.inl (Or.inr ⟨rfl, rfl, ⟨fun _ => ⟨fun _ => ?_, fun z => by cases z⟩, fun z => by cases z⟩⟩)
      exact fresh_core D0 hm hP I2 H hF (fun s hs => by cases hs) fun Gl S'' q => ⟨0, by rw [hz']; show 0 < L.length + 1; omega, q⟩
    | cons here L2 =>
      refine Or.inl (Or.inl ⟨by simp, ⟨fun z => (by cases z), fun _ => ?_⟩⟩)
      refine ⟨_, atI_nat (k := 0) rfl, rfl, _, rfl, ?_⟩
      rw [List.length_cons] at hLl
      refine ⟨fun hg => ?_, fun hg => ?_⟩
      · have hg' : h < here.head := by
          have : (here.head : Int) > (h : Int) := of_decide_eq_true hg
          omega
        refine fresh_core D0 hm hP I2 H hF (fun s hs => ?_) fun Gl S'' q => ⟨0, by rw [hz']; show 0 < L.length + 1; omega, q⟩
        rcases List.mem_cons.mp hs with z | z
        · rw [z]; exact hg'
        · have := (List.pairwise_cons.mp (List.pairwise_append.mp I2.ech.up).2.1).1 s z
          omega
      · have hg' : here.head = h := by
          have : ¬ (here.head : Int) > (h : Int) := of_decide_eq_false hg
          have := hLge here (List.mem_cons_self ..)
          omega
        subst hg'
        exact turn_core D0 O hm hP I2 H hF fun μ' Gl S'' h1 q => ⟨μ', by rw [hz']; show μ' < L.length + 1; omega, q⟩
  · have hz' : isZ n r = true := by simpa using hz
    have z0 := isZ_iff.mp hz'
    obtain ⟨hB, q⟩ := fin k F L r p1 I z0
    refine ⟨by rw [List.length_map, List.length_map, sz]; omega, Or.inl ?_⟩
    rw [← List.map_append]
    have nb := D0.bnd
    exact ⟨n, m, B, P + k * 8001, F ++ L, rfl, h7, hm, by omega, by omega, I.ech, fun s hs => ⟨I.bF s hs, I.bP s hs⟩, hB, q⟩
/-! ### rows -/
theorem rowsL_len (n m : Nat) (G : Mx) : (rowsL n m G).length = m := rng_len _ _
theorem rowsL_snoc (n m : Nat) (G : Mx) (v : Nat → Int) : rowsL n m G ++ [dR n v] = rowsL n (m + 1) (snocG m G v) := by
  unfold rowsL
  rw [range_snoc, snocG_at]
  congr 1
  exact List.map_congr_left fun i hi => by rw [snocG_lt (List.mem_range.mp hi)]
theorem rowsL_ext {n m : Nat} {G G' : Mx} (h : ∀ i j, i < m → j < n → G i j = G' i j) : rowsL n m G = rowsL n m G' := List.map_congr_left fun i hi => dR_ext fun j hj => h i j (List.mem_range.mp hi) hj
theorem RI.congr {n b B m : Nat} {G G' : Mx} {ss : List St} (R : RI n b B m G ss) (h : ∀ i j, i < m → j < n → G i j = G' i j) : RI n b B m G' ss where
  tdy := R.tdy
  row := R.row
  inL := fun i hi => (R.inL i hi).ext fun j hj => (h i j hi hj).symm
  made := fun s hs j hj => by
    rw [R.made s hs j hj]
    exact sumN_ext fun i hi => by rw [h i j hi hj]
  zero := R.zero
  bd := fun i j hi hj => by rw [← h i j hi hj]; exact R.bd i j hi hj
  bp := R.bp
theorem Mk.congr {n m : Nat} {G G' : Mx} {v p : Nat → Int} (h : Mk n m G v p) (e : ∀ i j, i < m → j < n → G i j = G' i j) : Mk n m G' v p := fun j hj => by
  rw [h j hj]
  exact sumN_ext fun i hi => by rw [e i j hi hj]
theorem Lm.congr {n B m : Nat} {G G' : Mx} (h : Lm n B m G) (e : ∀ i j, i < m → j < n → G i j = G' i j) : Lm n B m G' := fun ss T hG mk =>
  h ss T (fun i hi => (hG i hi).ext fun j hj => e i j hi hj) fun s hs => (mk s hs).congr fun i j hi hj => (e i j hi hj).symm
theorem snoc_same {k i j : Nat} {G : Mx} (hi : i < k + 1) : snocG k G (G k) i j = G i j := by
  unfold snocG
  split
  · rfl
  · rw [show i = k by omega]
theorem rest_D (n : Nat) (w : Nat → Int) (s : St) : (dR n fun j => 1 * w j + -(w s.head / s.row s.head) * s.row j) = dR n (cutS w s) := dR_ext fun j _ => by
  unfold cutS
  grind
theorem pure_Rows_rest {ds : List D} {S : Sto} {Q : QD} {EX : EXT} (h : sp_Rows_rest ds S Q EX) : t_Rows_rest EX (endS Q) (startG ["self", "handful", "stand", "many"] ds) S := by
  rcases h with ⟨x, n, b, B, m, G, ss, v, c, rfl, R, hc, hv, q⟩ | ⟨x, y, n, b, B, m, G, ss, rfl, R, ok, hb, q⟩
  rotate_left
  · exact R.asI fun _ _ => ⟨_, rfl, y, n, rfl, ok, fun h => (by rw [hb] at h; cases h), fun _ => q⟩
  have h7 := R.dim.n7
  have rows := R.ri.rows R.dim
  have hl := R.ri.tdy.ech.len
  refine R.asI fun _ _ => ⟨_, rfl, _, n, rfl, hand_ok (by omega) (handR n v), fun _ => ?_, fun h => (by rw [handR] at h; cases h)⟩
  refine R.asI fun _ _ => ⟨_, rfl, ?_⟩
  refine ⟨fun k Gl S' => S' = S ∧ ∃ o2 o3 : Option D, Gl = [some x, some (dR n (restS (ss.take k) v)), o2, o3], ⟨rfl, none, none, rfl⟩, ?_, ?_⟩
  · rintro k d Gl S' e ⟨rfl, o2, o3, rfl⟩
    rw [List.getElem?_map] at e
    obtain ⟨s, hs, rfl⟩ := Option.map_eq_some_iff.mp e
    have hk : k < ss.length := (List.getElem?_eq_some_iff.mp hs).1
    have sm := List.mem_of_getElem? hs
    have H := R.ri.tdy.ech.head s sm
    obtain ⟨_, _, hp⟩ := R.ri.tdy.ech.one s sm
    have rb := rest_bd (ss := ss.take k) hv fun t ht => ⟨(R.ri.tdy.ech.one t (List.mem_of_mem_take ht)).1, rows t (List.mem_of_mem_take ht)⟩
    have hB := R.dim.B (show 0 < n by have := H.1; omega)
    have lk : (ss.take k).length * (B + 1) ≤ 7 * 8000 := Nat.mul_le_mul (by rw [List.length_take]; omega) (by omega)
    have mb : (-(restS (ss.take k) v s.head / s.row s.head)).natAbs < 2 ^ (c + (ss.take k).length * (B + 1)) := by
      rw [Int.natAbs_neg]
      exact ediv_bd (rb _ H.1)
    refine ⟨rfl, _, rfl, .int (restS (ss.take k) v s.head), atI_nat (range_at (fun j => D.int (restS (ss.take k) v j)) H.1), rfl, rfl, n, m, s, rfl, H.1, div8 hp (rows8 R.dim H.1 (rows s sm _ H.1)), ?_⟩
    refine ⟨rfl, _, rfl, 1, _, n, restS (ss.take k) v, s.row, rfl, by omega, fun j hj => ⟨mul1_ok _, mulB_le mb (rows s sm j hj) (by omega)⟩, ?_⟩
    rw [rest_D]
    refine ⟨rfl, some (dS n m s), some (.int (restS (ss.take k) v s.head / s.row s.head)), ?_⟩
    have e1 : restS (ss.take (k + 1)) v = cutS (restS (ss.take k) v) s := by
      unfold restS
      rw [List.take_add_one, hs, Option.toList_some, List.foldl_append]
      rfl
    rw [e1]
    rfl
  · rintro Gl S' ⟨rfl, o2, o3, rfl⟩
    rw [List.length_map, List.take_length]
    exact q
theorem at_ne {S : Sto} {i j : Nat} {x g : Addr} {c : PySem.Str} {fs : List (PySem.Str × D)} {l : List D} (h : S[i]? = some (x, Cel.ins c fs)) (h2 : S[j]? = some (g, Cel.lst l)) : i ≠ j := fun e => by
  subst e
  rw [h] at h2
  cases h2
theorem set_at {S : Sto} {i : Nat} {p q : Addr × Cel} (h : S[i]? = some p) : (S.set i q)[i]? = some q := List.getElem?_set_self (List.getElem?_eq_some_iff.mp h).1
theorem set_off {S : Sto} {i j : Nat} {p q : Addr × Cel} (h : S[i]? = some p) (hne : i ≠ j) : (S.set j q)[i]? = some p := by rw [List.getElem?_set_ne (Ne.symm hne)]; exact h
theorem putRows (n : Nat) (g : Addr) (m : Nat) (ss : List St) (d : D) : putD "held_stands" d (rowsF n g m ss) = ([("held_wide", .int n), ("held_given", .ref g), ("held_stands", d)] : List (PySem.Str × D)) := rfl
theorem tup_unit (m : Nat) : D.tup ((List.replicate (m : Int).toNat [D.int 0]).flatten ++ [D.int 1]) = dR (m + 1) (idG m) := by
  rw [Int.toNat_natCast, rep_range]
  unfold dR
  rw [range_snoc, idG_same]
  congr 2
  exact List.map_congr_left fun i hi => by rw [idG_ne (by have := List.mem_range.mp hi; omega)]
theorem pure_Rows_put {ds : List D} {S : Sto} {Q : QD} {EX : EXT} (h : sp_Rows_put ds S Q EX) : t_Rows_put EX (endS Q) (startG ["self", "row", "grew", "parts", "stand"] ds) S := by
  rcases h with ⟨x, n, b, B, m, G, ss, i, j, g, v, rfl, R, hm, hv, hL, q⟩ | ⟨x, y, n, b, B, m, G, ss, rfl, R, ok, hb, q⟩
  rotate_left
  · exact R.asI fun _ _ => ⟨_, rfl, y, n, rfl, ok, fun h => (by rw [hb] at h; cases h), fun _ => q⟩
  have sz : sizeLine = 16777216 := rfl
  have h7 := R.dim.n7
  have hij := at_ne R.ob R.gv
  have hl := R.ri.tdy.ech.len
  have hB8 : b ≤ 8000 := by have := R.dim.bnd; omega
  show t_Rows_put EX (endS Q) [some (.ref x), some (dR n v), none, none, none] S
  unfold t_Rows_put
  walk_at "ev"
  refine ⟨i, _, R.ob, _, rfl, _, n, rfl, hand_ok (by omega) (handR n v), fun _ => ?_, fun h => (by rw [handR] at h; cases h)⟩
  refine ⟨i, _, R.ob, rfl, .inl ⟨.ref x, n, b, B, m, G, ss, v, b, rfl, R.val, by omega, hv, n, _, rfl, by omega, ?_⟩⟩
  show fit [D.int 0] _
  refine fit_of (by show 1 ≤ 1000000; decide) ?_
  refine ⟨i, _, R.ob, _, rfl, j, _, R.gv, ?_⟩
  show dTmulA (D.tup [D.int 0]) (.int ((rowsL n m G).length : Nat)) S _
  rw [rowsL_len]
  refine ⟨by omega, by omega, by decide, ?_⟩
  show fit [D.int 1] _
  refine fit_of (by show 1 ≤ 1000000; decide) ?_
  refine ⟨?_, ?_⟩
  · rw [Int.toNat_natCast, rep_range, rng_len]
    show m + 1 ≤ _
    omega
  rw [tup_unit]
  refine ⟨i, _, R.ob, _, rfl, ⟨j, _, R.gv, trivial⟩, j, _, R.gv, by rw [rowsL_len]; omega, ?_⟩
  rw [rowsL_snoc]
  have o1 := set_off (q := (g, Cel.lst (rowsL n (m + 1) (snocG m G v)))) R.ob hij
  refine ⟨i, _, o1, _, rfl, ?_⟩
  refine lc_M (src := dS n m) (xs := ss) (dS n (m + 1)) (by omega) (fun s hs p acc K hK => ?_) bind1_mono (Or.inl ?_)
  · exact ⟨rfl, rfl, n, m, s, rfl, by omega, by omega, R.ri.tdy.ech.head s hs, R.ri.zero s hs m (Nat.le_refl _), hK⟩
  refine ⟨i, _, o1, by show 3 < 1000; decide, ?_⟩
  rw [putRows]
  have o2 := set_at (q := (x, Cel.ins "Rows" (rowsF n g (m + 1) ss))) o1
  refine ⟨fun hg => ?_, fun hg => ?_⟩
  · refine ⟨i, _, o2, _, rfl, n, b, B, m + 1, PB m, snocG m G v, ss, v, idG m, rfl, R.dim, R.ri.old R.dim, by omega, by unfold PB; omega, R.ri.start R.dim hv, fun k F L r p I z => ?_⟩
    obtain ⟨R2, tb⟩ := R.ri.grow R.dim hL hv I z
    refine ⟨tb, i, _, o2, by show 3 < 1000; decide, ?_⟩
    rw [putRows, List.set_set]
    refine q _ R2 fun hin => ?_
    exfalso
    have := R.ri.in_iff.mp hin
    rw [isZ_iff.mpr this] at hg
    cases hg
  · refine q ss (R.ri.same hv (R.ri.in_iff.mpr (isZ_iff.mp ?_))) fun _ => rfl
    simpa using hg
theorem pure_Rows___init__ {ds : List D} {S : Sto} {Q : QD} {EX : EXT} (h : sp_Rows___init__ ds S Q EX) : t_Rows___init__ EX (endS Q) (startG ["self", "wide", "rows", "row"] ds) S := by
  obtain ⟨x, S0, n, b, B, m, G, z, rfl, hz, rfl, D0, hm, hG, hL, q⟩ := h
  have h7 := D0.n7
  suffices go : ∀ z, LV S0 z (rowsL n m G) → ((sSeq (sEx (eFn sp_check_list (kX EX) [] (aCons (eVar 2) (aCons (eVar 1) aNil))))
    (sSeq (sFld "Rows" "held_wide" (eVar 0) (eVar 1))
    (sSeq (sFld "Rows" "held_given" (eVar 0) (eLst aNil))
    (sSeq (sFld "Rows" "held_stands" (eVar 0) (eLst aNil))
    (sSeq (sForX (iSqX (eVar 2)) (gNm 3) (sSeq (sEx (eMeth "Rows" "put" sp_Rows_put (kX EX) [] (eVar 0) (aCons (eVar 3) aNil)))
    sNext))
    sNext)))))) (endS Q) [some (.ref x), some (.int n), some z, none] ((x, Cel.ins "Rows" []) :: S0) by
    rcases hz with hz | ⟨rfl, rfl⟩
    · have := go z hz
      rcases hz with rfl | ⟨a, k, rfl, _⟩
      · exact ⟨fun z => (by cases z), fun _ => this⟩
      · exact ⟨fun z => (by cases z), fun _ => this⟩
    · exact ⟨fun _ => Or.inl (go _ (.lst _)), fun z => (by cases z)⟩
  clear hz z
  intro z hz
  walk_at "ev"
  refine check_okL (f := G) (hz.cons _) (by omega) (by omega) ?_
  have l1 := putD_len "held_wide" (.int n) []
  refine ⟨0, _, rfl, by decide, Or.inr fun g => ?_⟩
  refine ⟨1, _, rfl, by have : ([] : List (PySem.Str × D)).length = 0 := rfl; omega, Or.inl ?_⟩
  have l2 := putD_len "held_given" (.ref g) (putD "held_wide" (.int n) [])
  refine ⟨1, _, rfl, by have : ([] : List (PySem.Str × D)).length = 0 := rfl; omega, ?_⟩
  refine LV.seq ((hz.cons _).cons _) fun P hP => ?_
  refine ⟨fun k Gl S' => ∃ (ss : List St) (o3 : Option D), RI n b B k G ss ∧ S' = (g, Cel.lst (rowsL n k G)) :: (x, Cel.ins "Rows" (rowsF n g k ss)) :: S0 ∧ Gl = [some (.ref x), some (.int n), some z, o3], ⟨[], none, RI.nil n b B G, rfl, rfl⟩, ?_, ?_, ?_⟩
  · rintro k Gl S' ⟨ss, o3, R, rfl, rfl⟩
    exact hP _ ((hz.cons _).cons _)
  · rintro k d Gl S' e ⟨ss, o3, R, rfl, rfl⟩
    obtain ⟨hk, rfl⟩ := range_get e
    refine ⟨1, _, rfl, rfl, .inl ⟨x, n, b, B, k, G, ss, 1, 0, g, G k, rfl, ⟨fun q hq => hL q (by omega), rfl, rfl, R, D0, by omega⟩, by omega, fun j hj => hG k j hk hj, (hL (k + 1) hk).congr fun i j hi _ => (snoc_same hi).symm, fun ss' R' _ => ?_⟩⟩
    have eG : ∀ i j, i < k + 1 → j < n → snocG k G (G k) i j = G i j := fun i j hi _ => by
      unfold snocG
      split
      · rfl
      · rw [show i = k by omega]
    refine ⟨ss', some (dR n (G k)), R'.congr eG, ?_, rfl⟩
    rw [rowsL_ext eG]
    rfl
  · rintro Gl S' ⟨ss, o3, R, rfl, rfl⟩
    rw [rowsL_len] at R ⊢
    exact q g ss R
theorem cut_last {n : Nat} (f : Nat → D) : DL.cutD ((List.range (n + 1)).map f) none (some (-1)) = (List.range n).map f := by
  have e : HT.sIx (n + 1) (n + 1) (some (-1)) = n := by
    show (if (-1 : Int) < 0 then ((-1 : Int) + ((n + 1 : Nat) : Int)).toNat else min (-1 : Int).toNat (n + 1)) = n
    rw [if_pos (by decide)]
    omega
  unfold DL.cutD
  rw [rng_len, e]
  refine range_eq (by rw [List.length_take, List.length_drop, rng_len]; show min (n - 0) (n + 1 - 0) = n; omega) fun i hi => ?_
  show (List.take (n - 0) (List.drop 0 _))[i]? = _
  rw [List.drop_zero, Nat.sub_zero, List.getElem?_take, if_pos hi, range_at f (by omega)]
theorem pure_Rows_take_back {ds : List D} {S : Sto} {Q : QD} {EX : EXT} (h : sp_Rows_take_back ds S Q EX) : t_Rows_take_back EX (endS Q) (startG ["self", "left", "row"] ds) S := by
  rcases h with ⟨x, n, b, B, m, G, ss, i, j, g, rfl, R, q⟩ | ⟨x, n, b, B, G, ss, i, j, g, rfl, R, q⟩
  rotate_left
  · exact ⟨i, _, R.ob, _, rfl, Or.inl ⟨j, _, R.gv, .inr ⟨rfl, rfl, fun _ => q, fun z => (by cases z)⟩⟩⟩
  have h7 := R.dim.n7
  have hm := R.m100
  refine ⟨i, _, R.ob, _, rfl, Or.inl ⟨j, _, R.gv, .inl ⟨by rw [rowsL_len]; simp, ⟨fun z => (by cases z), fun _ => ?_⟩⟩⟩⟩
  refine ⟨i, _, R.ob, _, rfl, j, _, R.gv, Or.inl ?_⟩
  rw [show DL.cutD (rowsL n (m + 1) G) none (some (-1)) = rowsL n m G from cut_last fun k => dR n (G k)]
  refine Or.inr fun g' => ?_
  have o1 : ((g', Cel.lst []) :: S)[i + 1]? = some (x, Cel.ins "Rows" (rowsF n g (m + 1) ss)) := R.ob
  refine ⟨i + 1, _, o1, by show 3 < 1000; decide, Or.inl ?_⟩
  have o2 := set_at (q := (x, Cel.ins "Rows" (putD "held_given" (.ref g') (rowsF n g (m + 1) ss)))) o1
  refine ⟨i + 1, _, o2, by show 3 < 1000; decide, ?_⟩
  rw [List.set_set]
  refine ⟨fun k Gl S' => ∃ (ss' : List St) (o2 : Option D), RI n b B k G ss' ∧ S' = (g', Cel.lst (rowsL n k G)) :: S.set i (x, Cel.ins "Rows" (rowsF n g' k ss')) ∧ Gl = [some (.ref x), some (.lst (rowsL n m G)), o2], ⟨[], none, RI.nil n b B G, rfl, rfl⟩, ?_, ?_⟩
  · rintro k d Gl S' e ⟨ss', o2, R', rfl, rfl⟩
    obtain ⟨hk, rfl⟩ := range_get e
    have oi : ((g', Cel.lst (rowsL n k G)) :: S.set i (x, Cel.ins "Rows" (rowsF n g' k ss')))[i + 1]? = some (x, Cel.ins "Rows" (rowsF n g' k ss')) := set_at R.ob
    refine ⟨i + 1, _, oi, rfl, .inl ⟨x, n, b, B, k, G, ss', i + 1, 0, g', G k, rfl, ⟨fun q hq => R.lm q (by omega), oi, rfl, R', R.dim, by omega⟩, by omega, fun j hj => R.ri.bd k j (by omega) hj, (R.lm (k + 1) (by omega)).congr fun i j hi _ => (snoc_same hi).symm, fun ss2 R2 _ => ?_⟩⟩
    have eG : ∀ i j, i < k + 1 → j < n → snocG k G (G k) i j = G i j := fun i j hi _ => by
      unfold snocG
      split
      · rfl
      · rw [show i = k by omega]
    refine ⟨ss2, some (dR n (G k)), R2.congr eG, ?_, rfl⟩
    rw [rowsL_ext eG]
    show (g', _) :: (S.set i _).set i _ = _
    rw [List.set_set]
  · rintro Gl S' ⟨ss', o2, R', rfl, rfl⟩
    rw [rowsL_len] at R' ⊢
    exact q g' ss' R'
theorem pure_Rows_given {ds : List D} {S : Sto} {Q : QD} {EX : EXT} (h : sp_Rows_given ds S Q EX) : t_Rows_given EX (endS Q) (startG ["self"] ds) S := by
  obtain ⟨x, n, b, B, m, G, ss, rfl, R, q⟩ := h
  exact R.asI fun y hy => ⟨_, rfl, hy.list q⟩
theorem pure_Rows_told {ds : List D} {S : Sto} {Q : QD} {EX : EXT} (h : sp_Rows_told ds S Q EX) : t_Rows_told EX (endS Q) (startG ["self", "stand"] ds) S := by
  obtain ⟨x, n, b, B, m, G, ss, rfl, R, q⟩ := h
  have hl := R.ri.tdy.ech.len
  have h7 := R.dim.n7
  show t_Rows_told EX (endS Q) [some x, none] _
  unfold t_Rows_told
  walk_at "ev"
  refine R.asI fun _ _ => ⟨_, rfl, ?_⟩
  exact lc_M (src := dS n m) (xs := ss) (fun s => dR n s.row) (by omega) (fun s hs p acc K hK => ⟨rfl, _, rfl, hK⟩) bind1_mono q
theorem pure_Rows___len__ {ds : List D} {S : Sto} {Q : QD} {EX : EXT} (h : sp_Rows___len__ ds S Q EX) : t_Rows___len__ EX (endS Q) (startG ["self"] ds) S := by
  obtain ⟨x, n, b, B, m, G, ss, rfl, R, q⟩ := h
  refine R.asI fun _ _ => ⟨_, rfl, ?_⟩
  show Q (.int ((ss.map (dS n m)).length : Nat)) S
  rw [List.length_map]
  exact q
theorem pure_shares {ds : List D} {S : Sto} {Q : QD} {EX : EXT} (h : sp_shares ds S Q EX) : t_shares EX (endS Q) (startG ["one", "other", "far", "mine", "its", "near", "my_part", "its_part", "many"] ds) S := by
  obtain ⟨a, b, rfl, ha, hb, q⟩ := h
  let R := shLoop (b.natAbs + 1) a.natAbs 1 0 b.natAbs 0 1
  refine ⟨fun m G S' => S' = S ∧ ∃ (far mine its near mp ip : Int) (x : Option D), far.natAbs ≤ max a.natAbs b.natAbs ∧ near.natAbs ≤ max a.natAbs b.natAbs ∧ G = [some (.int a), some (.int b), some (.int far), some (.int mine), some (.int its), some (.int near), some (.int mp), some (.int ip), x] ∧ Sh a.natAbs b.natAbs far mine its near mp ip ∧ near < (m : Int) ∧ shLoop m far mine its near mp ip = R, b.natAbs + 1, ⟨rfl, _, _, _, _, _, _, none, by omega, by omega, rfl, Sh.start _ _ (by omega) (by omega), by omega, rfl⟩, ?_⟩
  rintro m G S' ⟨rfl, far, mine, its, near, mp, ip, x, hf8, hn8, rfl, hs, hm, hR⟩
  have w8 : ∀ {z y : Int} {c : Nat}, (z.natAbs : Int) ≤ max 1 (y.natAbs : Int) → y.natAbs < 2 ^ c → 1 < 2 ^ c → z.natAbs < 2 ^ c := fun {z y c} h1 h2 h3 => by omega
  have p8 : 1 < 2 ^ 8000 := Nat.one_lt_two_pow (by decide)
  refine ⟨fun h => ?_, fun h => ?_⟩
  · have hn : near ≠ 0 := by simpa using h
    have n0 := hs.n0
    have hpos : 0 < near := by omega
    have nb : near.natAbs < 2 ^ 8000 := by
      exact Nat.lt_of_le_of_lt hn8 (Nat.max_lt.mpr ⟨ha, hb⟩)
    have qb : (far / near).natAbs < 2 ^ 8000 := by
      have h1 := Int.ediv_le_self near hs.f0
      have h2 : 0 ≤ far / near := Int.ediv_nonneg hs.f0 hs.n0
      have h3 := hf8
      have h4 : max a.natAbs b.natAbs < 2 ^ 8000 := Nat.max_lt.mpr ⟨ha, hb⟩
      omega
    have mpb : mp.natAbs < 2 ^ 8000 := w8 (by simpa using hs.m3) hb p8
    have ipb : ip.natAbs < 2 ^ 8000 := w8 (by simpa using hs.m4) ha p8
    refine ⟨wide_div hpos nb (by decide) (by decide), ?_⟩
    refine ⟨mul_ok_w qb nb (by decide) (by decide) (by decide), ?_⟩
    refine ⟨mul_ok_w qb mpb (by decide) (by decide) (by decide), ?_⟩
    refine ⟨mul_ok_w qb ipb (by decide) (by decide) (by decide), ?_⟩
    have ml := hs.less hn
    obtain ⟨m', rfl⟩ : ∃ m', m = m' + 1 := ⟨m - 1, by omega⟩
    refine ⟨m', by omega, rfl, _, _, _, _, _, _, _, by omega, by omega, rfl, hs.turn hn, by omega, ?_⟩
    unfold shLoop at hR
    rw [if_neg hn] at hR
    exact hR
  · have hn : near = 0 := by simpa using h
    have hR' : (far, mine, its) = R := by
      obtain ⟨m', rfl⟩ : ∃ m', m = m' + 1 := ⟨m - 1, by omega⟩
      unfold shLoop at hR
      rw [if_pos hn] at hR
      exact hR
    have q' : Q (.tup [.int far, .int (if a < 0 then -mine else mine), .int (if b < 0 then -its else its)]) S' := by
      have e : shares a b = (far, (if a < 0 then -mine else mine), (if b < 0 then -its else its)) := by
        show (R.1, (if a < 0 then -R.2.1 else R.2.1), (if b < 0 then -R.2.2 else R.2.2)) = _
        rw [← hR']
      rw [e] at q
      exact q
    refine ⟨fun h1 => ?_, fun h1 => ?_⟩
    · have h1' : a < 0 := of_decide_eq_true h1
      rw [if_pos h1'] at q'
      refine ⟨fun h2 => ?_, fun h2 => ?_⟩
      · rw [if_pos (of_decide_eq_true h2)] at q'
        exact q'
      · rw [if_neg (of_decide_eq_false h2)] at q'
        exact q'
    · rw [if_neg (of_decide_eq_false h1)] at q'
      refine ⟨fun h2 => ?_, fun h2 => ?_⟩
      · rw [if_pos (of_decide_eq_true h2)] at q'
        exact q'
      · rw [if_neg (of_decide_eq_false h2)] at q'
        exact q'
end LK
end

section
set_option autoImplicit false
set_option maxRecDepth 100000
set_option maxHeartbeats 4000000
namespace LK
open PySem PySem.Spec PyProof.Rows L2 DL
open PySem.W (Frag)
/-! ### what laws over rows share -/
def pickI (x : D) : Int := match x with
  | .int i => i
  | _ => 0
theorem row_of {ys : List D} {c : Nat} {P : Int → Prop} (hl : ys.length = c) (h : ∀ (j : Nat) (y : D), ys[j]? = some y → ∃ v, y = .int v ∧ P v) : ∃ f : Nat → Int, D.tup ys = dR c f ∧ ∀ j, j < c → P (f j) := by
  refine ⟨fun j => pickI (ys.getD j .non), ?_, fun j hj => ?_⟩
  · unfold dR
    congr 1
    refine List.ext_getElem? fun j => ?_
    by_cases hj : j < c
    · rw [range_at _ hj]
      have e : ys[j]? = some ys[j] := List.getElem?_eq_getElem (by omega)
      obtain ⟨v, e2, _⟩ := h j _ e
      show ys[j]? = some (D.int (pickI (ys.getD j .non)))
      rw [List.getD_eq_getElem?_getD, e, e2]
      rfl
    · rw [List.getElem?_eq_none (by omega), List.getElem?_eq_none (by simp; omega)]
  · have e : ys[j]? = some ys[j] := List.getElem?_eq_getElem (by omega)
    obtain ⟨v, e2, hv⟩ := h j _ e
    show P (pickI (ys.getD j .non))
    rw [List.getD_eq_getElem?_getD, e, e2]
    exact hv
theorem grid_of {ys : List D} {r c : Nat} {P : Int → Prop} (hl : ys.length = r) (h : ∀ (j : Nat) (y : D), ys[j]? = some y → ∃ f, y = dR c f ∧ ∀ j, j < c → P (f j)) : ∃ f : Nat → Nat → Int, D.lst ys = dG r c f ∧ ∀ i j, i < r → j < c → P (f i j) := by
  have h' : ∀ i, ∃ f : Nat → Int, i < r → ys[i]? = some (dR c f) ∧ ∀ j, j < c → P (f j) := fun i => by
    by_cases hi : i < r
    · have e : ys[i]? = some ys[i] := List.getElem?_eq_getElem (by omega)
      obtain ⟨f, e2, hf⟩ := h i _ e
      exact ⟨f, fun _ => ⟨by rw [e, e2], hf⟩⟩
    · exact ⟨fun _ => 0, fun z => absurd z hi⟩
  obtain ⟨f, hf⟩ := Classical.axiomOfChoice h'
  refine ⟨f, ?_, fun i j hi hj => (hf i hi).2 j hj⟩
  unfold dG
  congr 1
  refine List.ext_getElem? fun i => ?_
  by_cases hi : i < r
  · rw [range_at _ hi]
    exact (hf i hi).1
  · rw [List.getElem?_eq_none (by omega), List.getElem?_eq_none (by simp; omega)]
/-- a tuple of drawn numbers -/
theorem draw_R {Pr : Int → Prop} {S : Sto} {G : DL.Loc} {own : List Nat} {bind : D → DL.Loc → (DL.Loc → Prop) → Prop} {te : TEd} {Q : QD} {k : Nat} {w : Addr} {lo : Int} {n : Nat} (hw : Wl S k w) (hz : n ≤ 1000000)
    (h : ∀ (i : Nat), i < n → ∀ (p : Addr) (acc : List D) (S1 : Sto) (K : QD), Wl S1 k w → (∀ v S2, Pr v → Wst S1 S2 k w → K (.int v) ((p, Cel.lst acc) :: S2)) → bind (.int (lo + (i : Int))) (wipeG G own) fun G2 => te G2 ((p, Cel.lst acc) :: S1) K)
    (hm : ∀ d G P P', bind d G P → (∀ G2, P G2 → P' G2) → bind d G P')
    (q : ∀ (f : Nat → Int) S', (∀ j, j < n → Pr (f j)) → Wst S S' k w → dTuple [.lst ((List.range n).map fun j => .int (f j))] S' Q) : LcIn G own bind tYs te (span lo n) S fun x S1 => dTuple [x] S1 Q := by
  refine ⟨fun i acc S' => Wst S S' k w ∧ acc.length = i ∧ ∀ (j : Nat) (y : D), acc[j]? = some y → ∃ v, y = .int v ∧ Pr v, ⟨wst_self hw, rfl, fun j y e => by simp at e⟩, ?_, ?_⟩
  · rintro i d acc S' p e ⟨t, rfl, ha⟩
    have hi : acc.length < n := by
      have := (List.getElem?_eq_some_iff.mp e).1
      rwa [span_len] at this
    rw [span_get hi] at e
    cases e
    refine hm _ _ _ _ (h _ hi p acc S' (fun y S4 => ∃ S5, S4 = (p, .lst acc) :: S5 ∧ acc.length < sizeLine ∧ Wst S S5 k w ∧ (acc ++ [y]).length = acc.length + 1 ∧ ∀ (j : Nat) (z : D), (acc ++ [y])[j]? = some z → ∃ v, z = .int v ∧ Pr v) (hw.to t) fun v S2 hv t2 => ?_) fun G2 q2 => ⟨S', rfl, fun _ => q2, fun z => by cases z⟩
    refine ⟨S2, rfl, Nat.lt_of_lt_of_le hi (Nat.le_trans hz (by decide)), t.trans t2, by simp, fun j z ez => ?_⟩
    rw [List.getElem?_append] at ez
    split at ez
    · exact ha j z ez
    · rename_i hj
      have : j = acc.length := by
        have := (List.getElem?_eq_some_iff.mp ez).1
        simp at this
        omega
      subst this
      simp at ez
      subst ez
      exact ⟨v, rfl, hv⟩
  · rintro acc S' ⟨t, hl, ha⟩
    rw [span_len] at hl
    obtain ⟨f, ef, hf⟩ := row_of (c := n) (P := Pr) hl ha
    have e2 : acc = (List.range n).map fun j => D.int (f j) := D.tup.inj ef
    rw [e2]
    exact Or.inl (q f S' hf t)
/-- a list of drawn numbers -/
theorem row_ofI {ys : List D} {c : Nat} {P : Nat → Int → Prop} (hl : ys.length = c) (h : ∀ (j : Nat) (y : D), ys[j]? = some y → ∃ v, y = .int v ∧ P j v) : ∃ f : Nat → Int, ys = ((List.range c).map fun j => D.int (f j)) ∧ ∀ j, j < c → P j (f j) := by
  refine ⟨fun j => pickI (ys.getD j .non), ?_, fun j hj => ?_⟩
  · refine List.ext_getElem? fun j => ?_
    by_cases hj : j < c
    · rw [range_at _ hj]
      have e : ys[j]? = some ys[j] := List.getElem?_eq_getElem (by omega)
      obtain ⟨v, e2, _⟩ := h j _ e
      show ys[j]? = some (D.int (pickI (ys.getD j .non)))
      rw [List.getD_eq_getElem?_getD, e, e2]
      rfl
    · rw [List.getElem?_eq_none (by omega), List.getElem?_eq_none (by simp; omega)]
  · have e : ys[j]? = some ys[j] := List.getElem?_eq_getElem (by omega)
    obtain ⟨v, e2, hv⟩ := h j _ e
    show P j (pickI (ys.getD j .non))
    rw [List.getD_eq_getElem?_getD, e, e2]
    exact hv
theorem draw_L {Pr : Nat → Int → Prop} {src : Nat → D} {S : Sto} {G : DL.Loc} {own : List Nat} {bind : D → DL.Loc → (DL.Loc → Prop) → Prop} {te : TEd} {Q : QD} {k : Nat} {w : Addr} {n : Nat} (hw : Wl S k w) (hz : n ≤ 1000000)
    (h : ∀ (i : Nat), i < n → ∀ (p : Addr) (acc : List D) (S1 : Sto) (K : QD), Wl S1 k w → (∀ v S2, Pr i v → Wst S1 S2 k w → K (.int v) ((p, Cel.lst acc) :: S2)) → bind (src i) (wipeG G own) fun G2 => te G2 ((p, Cel.lst acc) :: S1) K)
    (hm : ∀ d G P P', bind d G P → (∀ G2, P G2 → P' G2) → bind d G P')
    (q : ∀ (f : Nat → Int) S', (∀ j, j < n → Pr j (f j)) → Wst S S' k w → mk ((List.range n).map fun j => D.int (f j)) S' Q) : LcIn G own bind tYs te ((List.range n).map src) S Q := by
  refine ⟨fun i acc S' => Wst S S' k w ∧ acc.length = i ∧ ∀ (j : Nat) (y : D), acc[j]? = some y → ∃ v, y = .int v ∧ Pr j v, ⟨wst_self hw, rfl, fun j y e => by simp at e⟩, ?_, ?_⟩
  · rintro i d acc S' p e ⟨t, rfl, ha⟩
    obtain ⟨hi, rfl⟩ := range_get e
    refine hm _ _ _ _ (h _ hi p acc S' (fun y S4 => ∃ S5, S4 = (p, .lst acc) :: S5 ∧ acc.length < sizeLine ∧ Wst S S5 k w ∧ (acc ++ [y]).length = acc.length + 1 ∧ ∀ (j : Nat) (z : D), (acc ++ [y])[j]? = some z → ∃ v, z = .int v ∧ Pr j v) (hw.to t) fun v S2 hv t2 => ?_) fun G2 q2 => ⟨S', rfl, fun _ => q2, fun z => by cases z⟩
    refine ⟨S2, rfl, Nat.lt_of_lt_of_le hi (Nat.le_trans hz (by decide)), t.trans t2, by simp, fun j z ez => ?_⟩
    rw [List.getElem?_append] at ez
    split at ez
    · exact ha j z ez
    · rename_i hj
      have : j = acc.length := by
        have := (List.getElem?_eq_some_iff.mp ez).1
        simp at this
        omega
      subst this
      simp at ez
      subst ez
      exact ⟨v, rfl, hv⟩
  · rintro acc S' ⟨t, hl, ha⟩
    rw [rng_len] at hl
    obtain ⟨f, e2, hf⟩ := row_ofI (c := n) (P := Pr) hl ha
    rw [e2]
    exact q f S' hf t
/-- a list of drawn rows -/
theorem draw_G {Pr : Int → Prop} {S : Sto} {G : DL.Loc} {own : List Nat} {bind : D → DL.Loc → (DL.Loc → Prop) → Prop} {te : TEd} {Q : QD} {k : Nat} {w : Addr} {lo : Int} {r n : Nat} (hw : Wl S k w) (hz : r ≤ 1000000)
    (h : ∀ (i : Nat), i < r → ∀ (p : Addr) (acc : List D) (S1 : Sto) (K : QD), Wl S1 k w → (∀ f S2, (∀ j, j < n → Pr (f j)) → Wst S1 S2 k w → K (dR n f) ((p, Cel.lst acc) :: S2)) → bind (.int (lo + (i : Int))) (wipeG G own) fun G2 => te G2 ((p, Cel.lst acc) :: S1) K)
    (hm : ∀ d G P P', bind d G P → (∀ G2, P G2 → P' G2) → bind d G P')
    (q : ∀ (f : Nat → Nat → Int) S', (∀ i j, i < r → j < n → Pr (f i j)) → Wst S S' k w → Q (dG r n f) S') : LcIn G own bind tYs te (span lo r) S Q := by
  refine ⟨fun i acc S' => Wst S S' k w ∧ acc.length = i ∧ ∀ (j : Nat) (y : D), acc[j]? = some y → ∃ f, y = dR n f ∧ ∀ j, j < n → Pr (f j), ⟨wst_self hw, rfl, fun j y e => by simp at e⟩, ?_, ?_⟩
  · rintro i d acc S' p e ⟨t, rfl, ha⟩
    have hi : acc.length < r := by
      have := (List.getElem?_eq_some_iff.mp e).1
      rwa [span_len] at this
    rw [span_get hi] at e
    cases e
    refine hm _ _ _ _ (h _ hi p acc S' (fun y S4 => ∃ S5, S4 = (p, .lst acc) :: S5 ∧ acc.length < sizeLine ∧ Wst S S5 k w ∧ (acc ++ [y]).length = acc.length + 1 ∧ ∀ (j : Nat) (z : D), (acc ++ [y])[j]? = some z → ∃ f, z = dR n f ∧ ∀ j, j < n → Pr (f j)) (hw.to t) fun f S2 hf t2 => ?_) fun G2 q2 => ⟨S', rfl, fun _ => q2, fun z => by cases z⟩
    refine ⟨S2, rfl, Nat.lt_of_lt_of_le hi (Nat.le_trans hz (by decide)), t.trans t2, by simp, fun j z ez => ?_⟩
    rw [List.getElem?_append] at ez
    split at ez
    · exact ha j z ez
    · rename_i hj
      have : j = acc.length := by
        have := (List.getElem?_eq_some_iff.mp ez).1
        simp at this
        omega
      subst this
      simp at ez
      subst ez
      exact ⟨f, rfl, hf⟩
  · rintro acc S' ⟨t, hl, ha⟩
    rw [span_len] at hl
    obtain ⟨f, ef, hf⟩ := grid_of (c := n) (P := Pr) hl ha
    refine Or.inl ?_
    rw [ef]
    exact q f S' hf t
/-! ### the object and the well -/
theorem RAt.well {S S' : Sto} {x : Addr} {n b B m : Nat} {G : Mx} {ss : List St} {i j : Nat} {g : Addr} {k : Nat} {w : Addr} (R : RAt S x n b B m G ss i j g) (hw : Wl S k w) (t : Wst S S' k w) : RAt S' x n b B m G ss i j g := by
  obtain ⟨a0, b0, c0, h0⟩ := hw
  obtain ⟨a1, b1, c1, rfl⟩ := t
  have ik : i ≠ k := at_ne R.ob h0
  have jk : j ≠ k := fun e => by
    have h1 := R.gv
    rw [e, h0] at h1
    have h2 := Cel.lst.inj (Prod.mk.inj (Option.some.inj h1)).2
    cases m with
    | zero => cases h2
    | succ m =>
      unfold rowsL at h2
      rw [List.range_succ_eq_map, List.map_cons] at h2
      cases h2
  exact ⟨R.lm, set_off R.ob ik, set_off R.gv jk, R.ri, R.dim, R.m100⟩
/-- behind a row put -/
theorem RAt.put {S : Sto} {x : Addr} {n b B m : Nat} {G : Mx} {ss : List St} {i j : Nat} {g : Addr} {v : Nat → Int} {ss' : List St} (R : RAt S x n b B m G ss i j g) (hm : m < 100) (hL : Lm n B (m + 1) (snocG m G v)) (R' : RI n b B (m + 1) (snocG m G v) ss') :
    RAt ((S.set j (g, Cel.lst (rowsL n (m + 1) (snocG m G v)))).set i (x, Cel.ins "Rows" (rowsF n g (m + 1) ss'))) x n b B (m + 1) (snocG m G v) ss' i j g := by
  have hij := at_ne R.ob R.gv
  refine ⟨fun k hk => ?_, set_at (set_off R.ob hij), set_off (set_at R.gv) (Ne.symm hij), R', R.dim, hm⟩
  by_cases e : k = m + 1
  · rw [e]
    exact hL
  · exact (R.lm k (by omega)).congr fun i j hi _ => by rw [snocG_lt (by omega)]
theorem RAt.back {S : Sto} {x : Addr} {n b B m : Nat} {G : Mx} {ss : List St} {i j : Nat} {g : Addr} {g' : Addr} {ss' : List St} (R : RAt S x n b B (m + 1) G ss i j g) (R' : RI n b B m G ss') :
    RAt ((g', Cel.lst (rowsL n m G)) :: S.set i (x, Cel.ins "Rows" (rowsF n g' m ss'))) x n b B m G ss' (i + 1) 0 g' := by
  refine ⟨fun k hk => R.lm k (by omega), set_at R.ob, rfl, R', R.dim, by have := R.m100; omega⟩
theorem RI.only {n b B m b' B' m' : Nat} {G G' : Mx} {ss ts : List St} (R : RI n b B m G ss) (R' : RI n b' B' m' G' ts) (h1 : ∀ i, i < m → InL n ts (G i)) (h2 : ∀ i, i < m' → InL n ss (G' i)) : Alike n ss ts := by
  have mem : ∀ {b B m : Nat} {G : Mx} {ss ts : List St}, RI n b B m G ss → (∀ i, i < m → InL n ts (G i)) → ∀ v, InL n ss v → InL n ts v := fun {b B m G ss ts} R h v hv => by
    refine InL.sub (fun s hs => ?_) hv
    have key : ∀ k, k ≤ m → InL n ts fun j => sumN k fun i => s.parts i * G i j := by
      intro k
      induction k with
      | zero => exact fun _ => InL.zero fun _ _ => rfl
      | succ k ih => exact fun hk => InL.lin (s.parts k) (ih (by omega)) (h k (by omega)) fun j _ => rfl
    exact (key m (Nat.le_refl _)).ext fun j hj => R.made s hs j hj
  exact tdy_uniq R.tdy R'.tdy fun v => ⟨mem R h1 v, mem R' h2 v⟩
theorem Alike.inL {n : Nat} : ∀ {ss ts : List St} {v : Nat → Int}, Alike n ss ts → InL n ss v → InL n ts v
  | _, _, v, .nil, h => h
  | _, _, v, .cons (s := s) (t := t) (ss := ss) (ts := ts) q A, ⟨cs, l, e⟩ => by
    match cs, l, e with
    | c :: cs, l, e =>
      have h1 : InL n ts (comb ss cs) := Alike.inL A ⟨cs, by simpa using l, fun _ _ => rfl⟩
      refine InL.lin c h1.cons (InL.mem (s := t) (List.mem_cons_self ..)) fun j hj => ?_
      rw [e j hj, ← q.2 j hj]
      show c * s.row j + comb ss cs j = _
      omega
theorem Alike.symm {n : Nat} : ∀ {ss ts : List St}, Alike n ss ts → Alike n ts ss
  | _, _, .nil => .nil
  | _, _, .cons q A => .cons ⟨q.1.symm, fun j hj => (q.2 j hj).symm⟩ A.symm
theorem Alike.rest {n : Nat} {ss ts : List St} {v : Nat → Int} (A : Alike n ss ts) (E : Ech n ss) (F : Ech n ts) : ∀ j, j < n → restS ss v j = restS ts v j := by
  obtain ⟨h1, h2⟩ := rest_ok (v := v) E
  obtain ⟨h3, h4⟩ := rest_ok (v := v) F
  refine rest_uniq E h1 (A.rd (fun s hs => (E.one s hs).1) h3) ?_
  exact InL.lin (-1) (A.symm.inL h4) h2 fun j _ => by omega
theorem Alike.told {n : Nat} : ∀ {ss ts : List St}, Alike n ss ts → (ss.map fun s => dR n s.row) = ts.map fun s => dR n s.row
  | _, _, .nil => rfl
  | _, _, .cons q A => by
    rw [List.map_cons, List.map_cons, A.told, dR_ext q.2]
/-! ### taking told rows off, by a law's own words -/
theorem eqR {neg : Bool} {n : Nat} {f g : Nat → Int} {S : Sto} {Q : Bool → Sto → Prop} (q1 : (∀ j, j < n → f j = g j) → Q (!neg) S) (q2 : ¬ (∀ j, j < n → f j = g j) → Q neg S) : dEq neg (dR n f) (dR n g) S Q :=
  eq_ok 1 (okR n f 0) (okR n g 0) (by decide) (fun e => q1 (dR_inj e)) fun e => q2 fun h => e (dR_ext h)
theorem eqR_same {neg : Bool} {n : Nat} {f g : Nat → Int} {S : Sto} {Q : Bool → Sto → Prop} (h : ∀ j, j < n → f j = g j) (q : Q (!neg) S) : dEq neg (dR n f) (dR n g) S Q := eqR (fun _ => q) fun z => absurd h z
theorem dim5 {n : Nat} (h : n ≤ 5) : Dim n 100 (Bn n 100) := by
  refine ⟨by omega, by decide, by unfold Bn; omega, ?_⟩
  have : n = 0 ∨ n = 1 ∨ n = 2 ∨ n = 3 ∨ n = 4 ∨ n = 5 := by omega
  rcases this with e | e | e | e | e | e <;> subst e <;> decide
theorem bd_le {b r r' c : Nat} {f : Mx} (h : Bd b r c f) (hr : r' ≤ r) : Bd b r' c f := fun i j hi hj => h i j (by omega) hj
theorem lm_all {n b m : Nat} {G : Mx} (hn : n ≤ 7) (hb : 1 ≤ b) (bd : Bd b m n G) : ∀ k, k ≤ m → Lm n (Bn n b) k G := fun k hk => lm_bn hn hb (bd_le bd hk)
end LK
end

section
set_option autoImplicit false
set_option maxRecDepth 100000
set_option maxHeartbeats 4000000
namespace LK
/-! ### what rows span, by themselves -/
def spL (m : Nat) (G : Mx) : List St := (List.range m).map fun i => rS (G i)
theorem spL_mem {n m i : Nat} {G : Mx} (h : i < m) : InL n (spL m G) (G i) := InL.mem (s := rS (G i)) (List.mem_map.mpr ⟨i, List.mem_range.mpr h, rfl⟩)
theorem spL_sub {n m : Nat} {G : Mx} {ts : List St} {v : Nat → Int} (h : ∀ i, i < m → InL n ts (G i)) (hv : InL n (spL m G) v) : InL n ts v := InL.sub (fun s hs => by
  obtain ⟨i, hi, rfl⟩ := List.mem_map.mp hs
  exact h i (List.mem_range.mp hi)) hv
/-- two lists of rows span the same -/
def SpE (n m : Nat) (G : Mx) (m' : Nat) (G' : Mx) : Prop := (∀ i, i < m → InL n (spL m' G') (G i)) ∧ ∀ i, i < m' → InL n (spL m G) (G' i)
theorem SpE.refl (n m : Nat) (G : Mx) : SpE n m G m G := ⟨fun i hi => spL_mem hi, fun i hi => spL_mem hi⟩
theorem SpE.trans {n m1 m2 m3 : Nat} {G1 G2 G3 : Mx} (a : SpE n m1 G1 m2 G2) (b : SpE n m2 G2 m3 G3) : SpE n m1 G1 m3 G3 := ⟨fun i hi => spL_sub b.1 (a.1 i hi), fun i hi => spL_sub a.2 (b.2 i hi)⟩
theorem SpE.symm {n m m' : Nat} {G G' : Mx} (a : SpE n m G m' G') : SpE n m' G' m G := ⟨a.2, a.1⟩
theorem RI.sp {n b B m : Nat} {G : Mx} {ss : List St} (R : RI n b B m G ss) (v : Nat → Int) : InL n ss v ↔ InL n (spL m G) v := by
  constructor
  · intro h
    refine InL.sub (fun s hs => ?_) h
    have key : ∀ k, k ≤ m → InL n (spL m G) fun j => sumN k fun i => s.parts i * G i j := by
      intro k
      induction k with
      | zero => exact fun _ => InL.zero fun _ _ => rfl
      | succ k ih => exact fun hk => InL.lin (s.parts k) (ih (by omega)) (spL_mem (by omega)) fun j _ => rfl
    exact (key m (Nat.le_refl _)).ext fun j hj => R.made s hs j hj
  · exact spL_sub R.inL
theorem SpE.alike {n b B m b' B' m' : Nat} {G G' : Mx} {ss ts : List St} (R : RI n b B m G ss) (R' : RI n b' B' m' G' ts) (h : SpE n m G m' G') : Alike n ss ts :=
  R.only R' (fun i hi => (R'.sp _).mpr (h.1 i hi)) fun i hi => (R.sp _).mpr (h.2 i hi)
theorem Alike.spE {n b B m b' B' m' : Nat} {G G' : Mx} {ss ts : List St} (R : RI n b B m G ss) (R' : RI n b' B' m' G' ts) (A : Alike n ss ts) : SpE n m G m' G' :=
  ⟨fun i hi => (R'.sp _).mp (A.inL (R.inL i hi)), fun i hi => (R.sp _).mp (A.symm.inL (R'.inL i hi))⟩
/-- one row told otherwise -/
theorem SpE.row {n m k : Nat} {G : Mx} {v : Nat → Int} (hk : k < m) (h1 : InL n (spL m G) v) (h2 : InL n (spL m (upR G k v)) (G k)) : SpE n m G m (upR G k v) := by
  refine ⟨fun i hi => ?_, fun i hi => ?_⟩
  · by_cases e : i = k
    · rw [e]; exact h2
    · exact (spL_mem (n := n) (G := upR G k v) hi).ext fun j _ => (upR_ne e v j).symm
  · by_cases e : i = k
    · rw [e]; exact h1.ext fun j _ => upR_same _ _ _ _
    · exact (spL_mem (n := n) (G := G) hi).ext fun j _ => upR_ne e v j
/-- a row put in -/
def insG (G : Mx) (p : Nat) (v : Nat → Int) : Mx := fun i => if i < p then G i else if i = p then v else G (i - 1)
theorem SpE.ins {n m p : Nat} {G : Mx} {v : Nat → Int} (hp : p ≤ m) (h : InL n (spL m G) v) : SpE n m G (m + 1) (insG G p v) := by
  refine ⟨fun i hi => ?_, fun i hi => ?_⟩
  · by_cases e : i < p
    · exact (spL_mem (n := n) (G := insG G p v) (show i < m + 1 by omega)).ext fun j _ => by unfold insG; rw [if_pos e]
    · exact (spL_mem (n := n) (G := insG G p v) (show i + 1 < m + 1 by omega)).ext fun j _ => by unfold insG; rw [if_neg (by omega), if_neg (by omega)]; rfl
  · unfold insG
    split
    · exact spL_mem (by omega)
    · split
      · exact h
      · exact spL_mem (by omega)
theorem exc_sp {n m a o : Nat} {G : Mx} (ha : a < m) (ho : o < m) : SpE n m G m (upR (upR G a (G o)) o (G a)) := by
  have pick : ∀ i, i < m → ∃ k, k < m ∧ ∀ j, upR (upR G a (G o)) o (G a) i j = G k j := fun i hi => by
    by_cases e1 : i = o
    · exact ⟨a, ha, fun j => by rw [e1, upR_same]⟩
    · by_cases e2 : i = a
      · exact ⟨o, ho, fun j => by rw [upR_ne e1, e2, upR_same]⟩
      · exact ⟨i, hi, fun j => by rw [upR_ne e1, upR_ne e2]⟩
  refine ⟨fun i hi => ?_, fun i hi => ?_⟩
  · by_cases e1 : i = a
    · exact (spL_mem (n := n) (G := upR (upR G a (G o)) o (G a)) ho).ext fun j _ => by rw [upR_same, e1]
    · by_cases e2 : i = o
      · by_cases e3 : a = o
        · exact absurd (e2.trans e3.symm) e1
        · exact (spL_mem (n := n) (G := upR (upR G a (G o)) o (G a)) ha).ext fun j _ => by rw [upR_ne e3, upR_same, e2]
      · exact (spL_mem (n := n) (G := upR (upR G a (G o)) o (G a)) hi).ext fun j _ => by rw [upR_ne e2, upR_ne e1]
  · obtain ⟨k, hk, e⟩ := pick i hi
    exact (spL_mem (n := n) (G := G) hk).ext fun j _ => e j
theorem spL_lin {n m a o : Nat} {G : Mx} (ha : a < m) (ho : o < m) (c d : Int) : InL n (spL m G) fun j => c * G a j + d * G o j :=
  InL.lin d (InL.lin c (InL.zero (v := fun _ => 0) fun _ _ => rfl) (spL_mem ha) fun j _ => by show c * G a j = 0 + c * G a j; omega) (spL_mem ho) fun j _ => rfl
/-! ### told rows handed in again -/
theorem toldL_rows (n : Nat) (ss : List St) : (ss.map fun s => dR n s.row) = rowsL n ss.length (rw_ ss) := by
  refine DL.range_eq (by rw [List.length_map]) fun i hi => ?_
  rw [List.getElem?_map, List.getElem?_eq_getElem hi]
  congr 2
  unfold rw_
  rw [List.getD_eq_getElem?_getD, List.getElem?_eq_getElem hi]
  rfl
theorem rw_take {ss : List St} {k i : Nat} (h : i < k) : rw_ (ss.take k) i = rw_ ss i := by
  unfold rw_
  rw [List.getD_eq_getElem?_getD, List.getD_eq_getElem?_getD, List.getElem?_take, if_pos h]
theorem rw_mem {ss : List St} {i : Nat} (h : i < ss.length) : ∃ s ∈ ss, s.row = rw_ ss i := by
  refine ⟨ss[i], List.getElem_mem h, ?_⟩
  unfold rw_
  rw [List.getD_eq_getElem?_getD, List.getElem?_eq_getElem h]
  rfl
theorem Tdy.take {n : Nat} {ss : List St} (T : Tdy n ss) (k : Nat) : Tdy n (ss.take k) :=
  ⟨⟨fun s hs => T.ech.one s (List.mem_of_mem_take hs), T.ech.up.sublist (List.take_sublist k ss)⟩, T.red.sublist (List.take_sublist k ss)⟩
theorem take_sp {n : Nat} {ss : List St} {k : Nat} (hk : k ≤ ss.length) (v : Nat → Int) : InL n (ss.take k) v ↔ InL n (spL k (rw_ ss)) v := by
  have hl : (ss.take k).length = k := by rw [List.length_take]; omega
  constructor
  · intro h
    refine InL.sub (fun s hs => ?_) h
    obtain ⟨i, hi⟩ := List.mem_iff_getElem?.mp hs
    have hi' : i < k := by have := (List.getElem?_eq_some_iff.mp hi).1; omega
    refine (spL_mem (G := rw_ ss) hi').ext fun j _ => ?_
    rw [← rw_take hi']
    unfold rw_
    rw [List.getD_eq_getElem?_getD, hi]
    rfl
  · refine spL_sub fun i hi => ?_
    obtain ⟨s, hs, e⟩ := rw_mem (ss := ss.take k) (i := i) (by omega)
    rw [← rw_take hi, ← e]
    exact InL.mem hs
theorem made_sp {n m : Nat} {G : Mx} {ss : List St} (hG : ∀ i, i < m → InL n ss (G i)) (mk : ∀ s ∈ ss, Mk n m G s.row s.parts) (v : Nat → Int) : InL n ss v ↔ InL n (spL m G) v := by
  constructor
  · intro h
    refine InL.sub (fun s hs => ?_) h
    have key : ∀ k, k ≤ m → InL n (spL m G) fun j => sumN k fun i => s.parts i * G i j := by
      intro k
      induction k with
      | zero => exact fun _ => InL.zero fun _ _ => rfl
      | succ k ih => exact fun hk => InL.lin (s.parts k) (ih (by omega)) (spL_mem (by omega)) fun j _ => rfl
    exact (key m (Nat.le_refl _)).ext fun j hj => mk s hs j hj
  · exact spL_sub hG
theorem Alike.row_lt {n B : Nat} : ∀ {ss ts : List St}, Alike n ss ts → (∀ t ∈ ts, ∀ j, j < n → (t.row j).natAbs < 2 ^ B) → ∀ s ∈ ss, ∀ j, j < n → (s.row j).natAbs < 2 ^ B
  | _, _, .nil, _ => fun s hs => by cases hs
  | _, _, .cons (s := a) (t := b) q A, h => fun s hs j hj => by
    rcases List.mem_cons.mp hs with e | e
    · rw [e, q.2 j hj]
      exact h b (List.mem_cons_self ..) j hj
    · exact A.row_lt (fun t ht => h t (List.mem_cons_of_mem _ ht)) s e j hj
theorem told_lm {n B : Nat} {ss : List St} (T : Tdy n ss) (hB : ∀ s ∈ ss, ∀ j, j < n → (s.row j).natAbs < 2 ^ B) : ∀ k, k ≤ ss.length → Lm n B k (rw_ ss) := fun k hk ts U hG mk => by
  have A := tdy_uniq U (T.take k) fun v => (made_sp hG mk v).trans (take_sp hk v).symm
  exact A.row_lt fun t ht => hB t (List.mem_of_mem_take ht)
theorem told_bd {n B : Nat} {ss : List St} (hB : ∀ s ∈ ss, ∀ j, j < n → (s.row j).natAbs < 2 ^ B) : Bd B ss.length n (rw_ ss) := fun i j hi hj => by
  obtain ⟨s, hs, e⟩ := rw_mem hi
  rw [← e]
  exact hB s hs j hj
/-! ### a lattice of small index -/
theorem lead {n : Nat} : ∀ {ts : List St} {v : Nat → Int} {h : Nat}, Ech n ts → InL n ts v → h < n → (∀ j, j < h → v j = 0) → v h ≠ 0 → ∃ t ∈ ts, t.head = h ∧ t.row h ∣ v h
  | [], v, h, _, ⟨cs, l, e⟩, hn, _, h0 => by
    exfalso
    have : comb [] cs h = 0 := by cases cs <;> rfl
    exact h0 ((e h hn).trans this)
  | t :: ts, v, h, E, L, hn, hz, h0 => by
    obtain ⟨c, hc, L2⟩ := L.at_head E
    obtain ⟨tn, tz, tp⟩ := E.one t (List.mem_cons_self ..)
    rcases Nat.lt_trichotomy t.head h with q | q | q
    · have c0 : c = 0 := by
        rw [hz _ q] at hc
        rcases Int.mul_eq_zero.mp hc.symm with z | z
        · exact z
        · omega
      obtain ⟨s, hs, e1, e2⟩ := lead (v := fun j => v j - c * t.row j) E.tail L2 hn (fun j hj => by rw [hz j hj, c0]; omega) (by show v h - c * t.row h ≠ 0; rw [c0]; omega)
      refine ⟨s, List.mem_cons_of_mem _ hs, e1, ?_⟩
      have e3 : v h - c * t.row h = v h := by rw [c0]; omega
      rwa [e3] at e2
    · subst q
      exact ⟨t, List.mem_cons_self .., rfl, c, by rw [hc, Int.mul_comm]⟩
    · exfalso
      exact h0 (L.zero_below E.below h q hn)
theorem red_bd {n B : Nat} : ∀ {ss : List St} {v : Nat → Int} {c : Nat}, Tdy n ss → (∀ s ∈ ss, ∀ j, j < n → (s.row j).natAbs < 2 ^ B) → InL n ss v → (∀ s ∈ ss, (v s.head).natAbs ≤ c * (s.row s.head).natAbs) → ∀ j, j < n → (v j).natAbs + c * 2 ^ B ≤ c * 2 ^ ss.length * 2 ^ B
  | [], v, c, _, _, ⟨cs, l, e⟩, _, j, hj => by
    have : comb [] cs j = 0 := by cases cs <;> rfl
    rw [e j hj, this]
    show 0 + c * 2 ^ B ≤ c * 1 * 2 ^ B
    rw [Nat.mul_one, Nat.zero_add]
    exact Nat.le_refl _
  | s :: ss, v, c, T, hB, L, hv, j, hj => by
    obtain ⟨q, hq, L2⟩ := L.at_head T.ech
    obtain ⟨sn, sz, sp⟩ := T.ech.one s (List.mem_cons_self ..)
    have qb : q.natAbs ≤ c := by
      have h1 := hv s (List.mem_cons_self ..)
      rw [hq, Int.natAbs_mul] at h1
      exact Nat.le_of_mul_le_mul_right h1 (by omega)
    have ih := red_bd (v := fun j => v j - q * s.row j) (c := 2 * c) T.tail (fun t ht => hB t (List.mem_cons_of_mem _ ht)) L2 (fun t ht => by
      have h1 := hv t (List.mem_cons_of_mem _ ht)
      have h2 := (List.pairwise_cons.mp T.red).1 t ht
      have h3 : (s.row t.head).natAbs ≤ (t.row t.head).natAbs := by omega
      have h4 : (q * s.row t.head).natAbs ≤ c * (t.row t.head).natAbs := by
        rw [Int.natAbs_mul]
        exact Nat.mul_le_mul qb h3
      show (v t.head - q * s.row t.head).natAbs ≤ 2 * c * (t.row t.head).natAbs
      rw [Nat.mul_assoc, Nat.two_mul]
      omega) j hj
    have h5 : (q * s.row j).natAbs ≤ c * 2 ^ B := by
      rw [Int.natAbs_mul]
      exact Nat.mul_le_mul qb (Nat.le_of_lt (hB s (List.mem_cons_self ..) j hj))
    have h6 : (v j - q * s.row j).natAbs + 2 * c * 2 ^ B ≤ 2 * c * 2 ^ ss.length * 2 ^ B := ih
    have e1 : c * 2 ^ (s :: ss).length * 2 ^ B = 2 * c * 2 ^ ss.length * 2 ^ B := by
      rw [List.length_cons, Nat.pow_succ]
      grind
    rw [e1]
    have e2 : 2 * c * 2 ^ B = c * 2 ^ B + c * 2 ^ B := by rw [Nat.mul_assoc, Nat.two_mul]
    omega
/-- tidy rows of a lattice between L and c times L -/
theorem mul_lm {n B m c e : Nat} {ss : List St} {G : Mx} (T : Tdy n ss) (hB : ∀ s ∈ ss, ∀ j, j < n → (s.row j).natAbs < 2 ^ B) (hc : 0 < c) (he : c * 2 ^ ss.length ≤ 2 ^ e) (h1 : ∀ i, i < m → InL n ss (G i)) (h2 : ∀ s ∈ ss, InL n (spL m G) fun j => (c : Int) * s.row j) : Lm n (B + e) m G := fun ts U hG mk t ht j hj => by
  have sp := made_sp hG mk
  have tin : InL n ss t.row := spL_sub h1 ((sp _).mp (InL.mem ht))
  have tops : ∀ s ∈ ss, ∃ u ∈ ts, u.head = s.head ∧ (u.row u.head).natAbs ≤ c * (s.row s.head).natAbs := fun s hs => by
    obtain ⟨sn, sz, spos⟩ := T.ech.one s hs
    have l0 : (c : Int) * s.row s.head ≠ 0 := Int.mul_ne_zero (by omega) (by omega)
    obtain ⟨u, hu, e1, e2⟩ := lead (v := fun j => (c : Int) * s.row j) U.ech ((sp _).mpr (h2 s hs)) sn (fun j hj => by rw [sz j hj, Int.mul_zero]) l0
    refine ⟨u, hu, e1, ?_⟩
    have e3 := Int.natAbs_dvd_natAbs.mpr e2
    have e4 := Nat.le_of_dvd (Int.natAbs_pos.mpr l0) e3
    rw [e1]
    rw [Int.natAbs_mul] at e4
    exact e4
  have hv : ∀ s ∈ ss, (t.row s.head).natAbs ≤ c * (s.row s.head).natAbs := fun s hs => by
    obtain ⟨u, hu, e1, e2⟩ := tops s hs
    have up := U.ech.up
    obtain ⟨a, ha⟩ := List.mem_iff_getElem?.mp ht
    obtain ⟨b, hb⟩ := List.mem_iff_getElem?.mp hu
    obtain ⟨ha1, ha2⟩ := List.getElem?_eq_some_iff.mp ha
    obtain ⟨hb1, hb2⟩ := List.getElem?_eq_some_iff.mp hb
    rw [← e1] at e2 ⊢
    rcases Nat.lt_trichotomy a b with q | q | q
    · have := List.pairwise_iff_getElem.mp U.red a b ha1 hb1 q
      rw [ha2, hb2] at this
      omega
    · subst q
      have : t = u := ha2.symm.trans hb2
      rw [this]
      exact e2
    · have := List.pairwise_iff_getElem.mp up b a hb1 ha1 q
      rw [ha2, hb2] at this
      rw [(U.ech.one t ht).2.1 _ this]
      exact Nat.zero_le _
  have b := red_bd T hB tin hv j hj
  have p : c * 2 ^ ss.length * 2 ^ B ≤ 2 ^ (B + e) := by
    rw [Nat.add_comm, Nat.pow_add]
    exact Nat.mul_le_mul_right _ he
  have q : 0 < c * 2 ^ B := Nat.mul_pos hc (Nat.two_pow_pos _)
  omega
end LK
namespace LK
/-! ### a told row so many times -/
theorem dim60 {n : Nat} (h : n ≤ 5) : Dim n 60 (Bn n 60) ∧ Dim n (Bn n 60) (Bn n 60) ∧ Dim n (Bn n 60 + 3) (Bn n 60 + 8) := by
  have : n = 0 ∨ n = 1 ∨ n = 2 ∨ n = 3 ∨ n = 4 ∨ n = 5 := by omega
  rcases this with e | e | e | e | e | e <;> subst e <;> exact ⟨⟨by decide, by decide, by decide, by decide⟩, ⟨by decide, by decide, by decide, by decide⟩, ⟨by decide, by decide, by decide, by decide⟩⟩
theorem told_again {n b B : Nat} {ss us : List St} (T : Tdy n ss) (R : RI n b B ss.length (rw_ ss) us) : Alike n us ss :=
  tdy_uniq R.tdy T fun v => by
    have h := take_sp (n := n) (ss := ss) (k := ss.length) (Nat.le_refl _) v
    rw [List.take_length] at h
    exact (R.sp v).trans h.symm
def lessG (ss : List St) (a : Nat) (c : Int) : Mx := upR (rw_ ss) a fun j => c * rw_ ss a j
section
variable {n B a : Nat} {c : Nat} {ss : List St}
theorem less_bd (hB : Bd B ss.length n (rw_ ss)) (hc : c ≤ 7) : Bd (B + 3) ss.length n (lessG ss a c) := fun i j hi hj => by
  have h3 : 2 ^ (B + 3) = 2 ^ B * 8 := by rw [Nat.pow_add]
  unfold lessG upR
  split
  · rename_i e
    subst e
    have h := hB i j hi hj
    show ((c : Int) * rw_ ss i j).natAbs < _
    rw [Int.natAbs_mul, Int.natAbs_natCast, h3]
    have : c * (rw_ ss i j).natAbs ≤ 7 * (rw_ ss i j).natAbs := Nat.mul_le_mul_right _ hc
    omega
  · have h := hB i j hi hj
    show (rw_ ss i j).natAbs < _
    omega
theorem less_in {k i : Nat} (hk : k ≤ ss.length) (hi : i < k) : InL n (ss.take k) (lessG ss a c i) := by
  refine (take_sp hk _).mpr ?_
  unfold lessG
  by_cases e : i = a
  · exact InL.lin (c : Int) (InL.zero (v := fun _ => 0) fun _ _ => rfl) (spL_mem (G := rw_ ss) hi) fun j _ => by rw [e, upR_same]; omega
  · exact (spL_mem (G := rw_ ss) hi).ext fun j _ => upR_ne e _ _
theorem less_up {k : Nat} (hk : k ≤ ss.length) : ∀ s ∈ ss.take k, InL n (spL k (lessG ss a c)) fun j => (c : Int) * s.row j := fun s hs => by
  obtain ⟨i, hi⟩ := List.mem_iff_getElem?.mp hs
  have hi' : i < k := by
    have := (List.getElem?_eq_some_iff.mp hi).1
    rw [List.length_take] at this
    omega
  have er : s.row = rw_ ss i := by
    rw [← rw_take hi']
    unfold rw_
    rw [List.getD_eq_getElem?_getD, hi]
    rfl
  rw [er]
  by_cases e : i = a
  · refine (spL_mem (G := lessG ss a c) hi').ext fun j _ => ?_
    unfold lessG
    rw [e, upR_same]
  · refine InL.lin (c : Int) (InL.zero (v := fun _ => 0) fun _ _ => rfl) (spL_mem (G := lessG ss a c) hi') fun j _ => ?_
    unfold lessG
    rw [upR_ne e]
    omega
theorem less_lm (T : Tdy n ss) (hB : ∀ s ∈ ss, ∀ j, j < n → (s.row j).natAbs < 2 ^ B) (hc : 0 < c) (h7 : c ≤ 7) (hl : ss.length ≤ 5) : ∀ k, k ≤ ss.length → Lm n (B + 8) k (lessG ss a c) := fun k hk =>
  mul_lm (c := c) (e := 8) (T.take k) (fun s hs => hB s (List.mem_of_mem_take hs)) hc (by
    have h1 : 2 ^ (ss.take k).length ≤ 2 ^ 5 := Nat.pow_le_pow_right (by decide) (by rw [List.length_take]; omega)
    have h2 : c * 2 ^ (ss.take k).length ≤ 7 * 2 ^ 5 := Nat.mul_le_mul h7 h1
    exact Nat.le_trans h2 (by decide)) (fun i hi => less_in hk hi) (less_up hk)
/-- it does not span the told row itself -/
theorem less_not (T : Tdy n ss) (ha : a < ss.length) (h2 : 2 ≤ c) : ¬ InL n (spL ss.length (lessG ss a c)) (rw_ ss a) := fun h => by
  let t : St := ⟨fun j => (c : Int) * rw_ ss a j, fun _ => 0, hd ss a⟩
  have hat := T.ech.at_ ha
  have g : ∀ i (h : i < (ss.set a t).length), (ss.set a t)[i].head = hd ss i ∧ (ss.set a t)[i].row = lessG ss a c i := fun i h => by
    rw [List.length_set] at h
    rw [List.getElem_set]
    unfold lessG
    by_cases e : a = i
    · subst e
      rw [if_pos rfl]
      refine ⟨rfl, ?_⟩
      funext j
      rw [upR_same]
    · rw [if_neg e]
      refine ⟨?_, ?_⟩
      · unfold hd
        rw [List.getD_eq_getElem?_getD, List.getElem?_eq_getElem h]
        rfl
      · funext j
        rw [upR_ne (fun z => e z.symm)]
        unfold rw_
        rw [List.getD_eq_getElem?_getD, List.getElem?_eq_getElem h]
        rfl
  have E : Ech n (ss.set a t) := by
    refine ⟨fun s hs => ?_, List.pairwise_iff_getElem.mpr fun i j hi hj hij => ?_⟩
    · rcases List.mem_or_eq_of_mem_set hs with q | q
      · exact T.ech.one s q
      · subst q
        refine ⟨hat.1, fun j hj => ?_, ?_⟩
        · show (c : Int) * rw_ ss a j = 0
          rw [hat.2.1 j hj, Int.mul_zero]
        · exact Int.mul_pos (by omega) hat.2.2
    · rw [(g i hi).1, (g j hj).1]
      rw [List.length_set] at hj
      exact T.ech.rise hij hj
  have L : InL n (ss.set a t) (rw_ ss a) := spL_sub (fun i hi => by
    have hi' : i < (ss.set a t).length := by rw [List.length_set]; exact hi
    rw [← (g i hi').2]
    exact InL.mem (List.getElem_mem hi')) h
  obtain ⟨u, hu, e1, e2⟩ := lead E L hat.1 hat.2.1 (by omega)
  obtain ⟨i, hi, eu⟩ := List.mem_iff_getElem.mp hu
  have ei : i = a := by
    have h1 := (g i hi).1
    rw [eu, e1] at h1
    rw [List.length_set] at hi
    rcases Nat.lt_trichotomy i a with q | q | q
    · have := T.ech.rise q ha
      omega
    · exact q
    · have := T.ech.rise q hi
      omega
  subst ei
  have h3 := (g i hi).2
  rw [eu] at h3
  rw [h3] at e2
  unfold lessG at e2
  rw [upR_same] at e2
  have e3 := Int.natAbs_dvd_natAbs.mpr e2
  rw [Int.natAbs_mul] at e3
  have p := Int.natAbs_pos.mpr (show rw_ ss i (hd ss i) ≠ 0 by omega)
  have e4 := Nat.le_of_dvd p e3
  have : 2 * (rw_ ss i (hd ss i)).natAbs ≤ (c : Int).natAbs * (rw_ ss i (hd ss i)).natAbs := Nat.mul_le_mul_right _ (by omega)
  omega
/-- with the row itself put behind it spans the same -/
theorem less_more (ha : a < ss.length) : SpE n ss.length (rw_ ss) (ss.length + 1) (snocG ss.length (lessG ss a c) (rw_ ss a)) := by
  have last : InL n (spL (ss.length + 1) (snocG ss.length (lessG ss a c) (rw_ ss a))) (rw_ ss a) := (spL_mem (G := snocG ss.length (lessG ss a c) (rw_ ss a)) (show ss.length < ss.length + 1 by omega)).ext fun j _ => by rw [snocG_at]
  refine ⟨fun i hi => ?_, fun i hi => ?_⟩
  · by_cases e : i = a
    · rw [e]; exact last
    · refine (spL_mem (G := snocG ss.length (lessG ss a c) (rw_ ss a)) (show i < ss.length + 1 by omega)).ext fun j _ => ?_
      rw [snocG_lt hi]
      unfold lessG
      rw [upR_ne e]
  · unfold snocG
    split
    · rename_i h
      have := less_in (n := n) (a := a) (c := c) (ss := ss) (Nat.le_refl _) h
      exact (take_sp (Nat.le_refl _) _).mp this
    · exact spL_mem ha
end
end LK
end

section
set_option autoImplicit false
set_option maxRecDepth 100000
set_option maxHeartbeats 4000000
namespace LK
open PySem PySem.Spec PyProof.Rows L2 DL
open PySem.W (Frag)
def toldL (n : Nat) (ss : List St) : List D := ss.map fun s => dR n s.row
def sp_Rows_made : FSp := fun ds S Q _ => ∃ (x : D) (n b B m : Nat) (G : Mx) (ss : List St), ds = [x] ∧ RVal S x n b B m G ss ∧ mk (ss.map fun s => dR m s.parts) S Q
def sp_Rows_classes : FSp := fun ds S Q _ => ∃ (x : D) (n b B m : Nat) (G : Mx) (ss : List St), ds = [x] ∧ RVal S x n b B m G ss ∧ Q (.int (if ss.length < n then 0 else prodN ss.length fun k => rw_ ss k (hd ss k))) S
def sp_Rows___eq__ : FSp := fun ds S Q _ => (∃ (x y : D) (n b B m : Nat) (G : Mx) (ss : List St) (n' b' B' m' : Nat) (G' : Mx) (ts : List St), ds = [x, y] ∧ RVal S x n b B m G ss ∧ RVal S y n' b' B' m' G' ts ∧
    ∀ k : Bool, (k = true ↔ n = n' ∧ Alike n ss ts) → Q (.bl k) S) ∨
  ∃ (x y : D), ds = [x, y] ∧ ((∃ i, y = .int i) ∨ ∃ l, y = .lst l) ∧ Q (.bl false) S
def sp_told_rows : FSp := fun ds S Q EX => (∃ (z : D) (n b B m : Nat) (G : Mx), ds = [z, .int n] ∧ LV S z (rowsL n m G) ∧ Dim n b B ∧ m ≤ 100 ∧ Bd b m n G ∧ (∀ k, k ≤ m → Lm n B k G) ∧ ∀ ss, RI n b B m G ss → Q (.lst (toldL n ss)) S) ∨
  ∃ (x : D) (w : Int), ds = [x, .int w] ∧ ChkL x w S False fun k => EX .NoRow [("at", .int k)] S
def sp_same_span : FSp := fun ds S Q EX => (∃ (z y : D) (n b B m : Nat) (G : Mx) (b' B' m' : Nat) (G' : Mx), ds = [z, y, .int n] ∧ LV S z (rowsL n m G) ∧ LV S y (rowsL n m' G') ∧ Dim n b B ∧ m ≤ 100 ∧ Bd b m n G ∧ (∀ k, k ≤ m → Lm n B k G) ∧ Dim n b' B' ∧ m' ≤ 100 ∧ Bd b' m' n G' ∧ (∀ k, k ≤ m' → Lm n B' k G') ∧
    ∀ ss ts (k : Bool), RI n b B m G ss → RI n b' B' m' G' ts → (k = true ↔ Alike n ss ts) → Q (.bl k) S) ∨
  (∃ (x y : D) (w : Int), ds = [x, y, .int w] ∧ ChkL x w S False fun k => EX .NoRow [("at", .int k)] S) ∨
  ∃ (x y : D) (n b B m : Nat) (G : Mx), ds = [x, y, .int n] ∧ LV S x (rowsL n m G) ∧ Dim n b B ∧ m ≤ 100 ∧ Bd b m n G ∧ (∀ k, k ≤ m → Lm n B k G) ∧ ChkL y n S False fun k => EX .NoRow [("at", .int k)] S
theorem ln_Rows_made : ∀ ds S Q EX, sp_Rows_made ds S Q EX → ds.length = 1 := fun ds S Q EX ⟨_, _, _, _, _, _, _, e, _⟩ => by rw [e]; rfl
theorem ln_Rows_classes : ∀ ds S Q EX, sp_Rows_classes ds S Q EX → ds.length = 1 := fun ds S Q EX ⟨_, _, _, _, _, _, _, e, _⟩ => by rw [e]; rfl
theorem ln_Rows___eq__ : ∀ ds S Q EX, sp_Rows___eq__ ds S Q EX → ds.length = 2 := fun ds S Q EX h => by
  rcases h with ⟨_, _, _, _, _, _, _, _, _, _, _, _, _, _, e, _⟩ | ⟨_, _, e, _⟩ <;> (rw [e]; rfl)
theorem ln_told_rows : ∀ ds S Q EX, sp_told_rows ds S Q EX → ds.length = 2 := fun ds S Q EX h => by
  rcases h with ⟨_, _, _, _, _, _, e, _⟩ | ⟨_, _, e, _⟩ <;> (rw [e]; rfl)
theorem ln_same_span : ∀ ds S Q EX, sp_same_span ds S Q EX → ds.length = 3 := fun ds S Q EX h => by
  rcases h with ⟨_, _, _, _, _, _, _, _, _, _, _, e, _⟩ | ⟨_, _, _, e, _⟩ | ⟨_, _, _, _, _, _, _, e, _⟩ <;> (rw [e]; rfl)
-- 0 self, 1 stand
def t_Rows_made (EX : EXT) : TSd := (sSeq (sRet (eLc (iSq (eFld "Rows" "held_stands" (eVar 0))) [1] (bind1 1) tYs (eFld "Stand" "parts" (eVar 1))))
    sNext)
-- 0 self, 1 other
def t_Rows___eq__ (EX : EXT) : TSd := (sSeq (sIf (tNo (tVal (eIsC "Rows" (eVar 1)))) (sSeq (sRet (eC (.bl false)))
    sNext) sNext)
    (sSeq (sRet (eAn (eEq false (eFld "Rows" "held_wide" (eVar 0)) (eFld "Rows" "held_wide" (eVar 1))) (eEq false (eMeth "Rows" "told" sp_Rows_told (kX EX) [] (eVar 0) aNil) (eMeth "Rows" "told" sp_Rows_told (kX EX) [] (eVar 1) aNil))))
    sNext))
-- 0 rows, 1 wide
def t_told_rows (EX : EXT) : TSd := (sSeq (sEx (eFn sp_check_list (kX EX) [] (aCons (eVar 0) (aCons (eVar 1) aNil))))
    (sSeq (sRet (eMeth "Rows" "told" sp_Rows_told (kX EX) [] (eNew "Rows" sp_Rows___init__ (kX EX) [] (aCons (eVar 1) (aCons (eVar 0) aNil))) aNil))
    sNext))
-- 0 one, 1 other, 2 wide
def t_same_span (EX : EXT) : TSd := (sSeq (sRet (eEq false (eFn sp_told_rows (kX EX) [] (aCons (eVar 0) (aCons (eVar 2) aNil))) (eFn sp_told_rows (kX EX) [] (aCons (eVar 1) (aCons (eVar 2) aNil)))))
    sNext)
local macro_rules | `(tactic| walk_at "ev") => `(tactic| dsimp only [sSeq, sRet, sIf, sSet, sFor, sNext, sEx, sPar, sAsg, DL.sFld, eAn, eOo, eNo, eCall, eFn, eMeth, eNew, eFld, aCons, aNil, eVar, rd, eC, eOp, eUn, eEq, eOrd, tEq, tOrd, tVal, tNo, tAn, tOo, tEqL, eEqL, tNone, eTup, eLst, eSl, oNo, oSome, eRev, iR1, iR2, iSq, iZp, gNm, gTp, gsCons, gsNil, eLc_eq, inG, bind1, bind2, wipeG, List.set_cons_zero, List.set_cons_succ, List.getElem?_cons_zero, List.getElem?_cons_succ, List.append_nil])
theorem head_uniq {n : Nat} {f : Nat → Int} {h k : Nat} (a : IsHead n f h) (b : IsHead n f k) : h = k := by
  rcases Nat.lt_trichotomy h k with z | z | z
  · exact absurd (b.2.2 h z) a.2.1
  · exact z
  · exact absurd (a.2.2 k z) b.2.1
theorem told_inj {n : Nat} : ∀ {ss ts : List St}, Ech n ss → Ech n ts → toldL n ss = toldL n ts → Alike n ss ts
  | [], [], _, _, _ => .nil
  | s :: ss, [], _, _, h => by cases h
  | [], t :: ts, _, _, h => by cases h
  | s :: ss, t :: ts, E, F, h => by
    have h' : dR n s.row :: toldL n ss = dR n t.row :: toldL n ts := h
    obtain ⟨h1, h2⟩ := List.cons.inj h'
    have e := dR_inj h1
    refine .cons ⟨?_, e⟩ (told_inj E.tail F.tail h2)
    obtain ⟨a1, a2, a3⟩ := E.head s (List.mem_cons_self ..)
    refine head_uniq (n := n) (f := s.row) ⟨a1, a2, a3⟩ ?_
    obtain ⟨b1, b2, b3⟩ := F.head t (List.mem_cons_self ..)
    exact ⟨b1, by rw [e _ b1]; exact b2, fun j hj => by rw [e j (by omega)]; exact b3 j hj⟩
theorem told_ok (n : Nat) (ss : List St) (k : Nat) : okD (k + 2) (.lst (toldL n ss)) = true := by
  show (ss.map fun s => dR n s.row).all (okD (k + 1)) = true
  rw [List.all_eq_true]
  intro x hx
  obtain ⟨s, _, rfl⟩ := List.mem_map.mp hx
  exact okR n _ k
theorem told_eq {n : Nat} {ss ts : List St} {S : Sto} {Q : Bool → Sto → Prop} {neg : Bool} (E : Ech n ss) (F : Ech n ts) (q1 : Alike n ss ts → Q (!neg) S) (q2 : ¬ Alike n ss ts → Q neg S) : dEq neg (.lst (toldL n ss)) (.lst (toldL n ts)) S Q :=
  eq_ok 2 (told_ok n ss 0) (told_ok n ts 0) (by decide) (fun e => q1 (told_inj E F (D.lst.inj e))) fun e => q2 fun A => e (by unfold toldL; rw [A.told])
theorem pure_Rows_made {ds : List D} {S : Sto} {Q : QD} {EX : EXT} (h : sp_Rows_made ds S Q EX) : t_Rows_made EX (endS Q) (startG ["self", "stand"] ds) S := by
  obtain ⟨x, n, b, B, m, G, ss, rfl, R, q⟩ := h
  have hl := R.ri.tdy.ech.len
  have h7 := R.dim.n7
  show t_Rows_made EX (endS Q) [some x, none] _
  unfold t_Rows_made
  walk_at "ev"
  refine R.asI fun _ _ => ⟨_, rfl, ?_⟩
  exact lc_M (src := dS n m) (xs := ss) (fun s => dR m s.parts) (by omega) (fun s hs p acc K hK => ⟨rfl, _, rfl, hK⟩) bind1_mono q
theorem RVal.isC {S : Sto} {x : D} {n b B m : Nat} {G : Mx} {ss : List St} (R : RVal S x n b B m G ss) {Q : QD} (q : Q (.bl true) S) : dIsC "Rows" x S Q := by
  rcases R.at_ with ⟨a, i, j, g, rfl, h1, h2⟩ | rfl
  · exact .inl ⟨i, _, h1, q⟩
  · exact ⟨rfl, q⟩
theorem pure_Rows___eq__ {ds : List D} {S : Sto} {Q : QD} {EX : EXT} (h : sp_Rows___eq__ ds S Q EX) : t_Rows___eq__ EX (endS Q) (startG ["self", "other"] ds) S := by
  rcases h with ⟨x, y, n, b, B, m, G, ss, n', b', B', m', G', ts, rfl, R, R', q⟩ | ⟨x, y, rfl, hy, q⟩
  · show t_Rows___eq__ EX (endS Q) [some x, some y] S
    unfold t_Rows___eq__
    walk_at "ev"
    dsimp only [eIsC]
    walk_at "ev"
    refine R'.isC ?_
    refine ⟨fun z => (by cases z), fun _ => ?_⟩
    refine R.asI fun _ _ => ⟨_, rfl, ?_⟩
    refine R'.asI fun _ _ => ⟨_, rfl, ?_⟩
    refine ⟨fun h => ?_, fun h => ?_⟩
    · have e : n = n' := by
        have : (n : Int) = (n' : Int) := of_decide_eq_true h
        omega
      subst e
      refine R.asI fun _ _ => ⟨rfl, x, n, b, B, m, G, ss, rfl, R, .inl ?_⟩
      refine R'.asI fun _ _ => ⟨rfl, y, n, b', B', m', G', ts, rfl, R', .inl ?_⟩
      exact told_eq R.ri.tdy.ech R'.ri.tdy.ech (fun A => q true ⟨fun _ => ⟨rfl, A⟩, fun _ => rfl⟩) fun A => q false ⟨fun z => (by cases z), fun z => absurd z.2 A⟩
    · have e : ¬ n = n' := fun e => by
        have : ¬ (n : Int) = (n' : Int) := of_decide_eq_false h
        omega
      exact q false ⟨fun z => (by cases z), fun z => absurd z.1 e⟩
  · rcases hy with ⟨i, rfl⟩ | ⟨l, rfl⟩
    · exact ⟨fun _ => q, fun z => by cases z⟩
    · exact ⟨fun _ => q, fun z => by cases z⟩
theorem rows_new {n b B m : Nat} {G : Mx} {S : Sto} {Q : QD} {EX : EXT} (D0 : Dim n b B) (hm : m ≤ 100) (hG : Bd b m n G) (hL : ∀ k, k ≤ m → Lm n B k G) (q : ∀ (x g : Addr) (ss : List St), RAt ((g, Cel.lst (rowsL n m G)) :: (x, Cel.ins "Rows" (rowsF n g m ss)) :: S) x n b B m G ss 1 0 g → Q (.ref x) ((g, Cel.lst (rowsL n m G)) :: (x, Cel.ins "Rows" (rowsF n g m ss)) :: S)) :
    ∀ x, sp_Rows___init__ (.ref x :: ([.int n, .lst (rowsL n m G)] ++ [])) ((x, Cel.ins "Rows" []) :: S) (fun d S2 => d = .non ∧ mkI "Rows" x S2 Q) EX := fun x =>
  ⟨x, S, n, b, B, m, G, _, rfl, .inl (.lst _), rfl, D0, hm, hG, hL, fun g ss R => ⟨rfl, Or.inl (q x g ss ⟨hL, rfl, rfl, R, D0, hm⟩)⟩⟩
theorem lm_none {n B : Nat} {G : Mx} : ∀ k, k ≤ 0 → Lm n B k G := fun k hk ss T hG mk s hs j hj => by
  have e := mk s hs j hj
  have z : k = 0 := by omega
  subst z
  have : s.row j = 0 := e
  rw [this]
  exact Nat.two_pow_pos _
theorem rows_new0 {n b B : Nat} {S : Sto} {Q : QD} {EX : EXT} (D0 : Dim n b B) (q : ∀ (x g : Addr), RAt ((g, Cel.lst (rowsL n 0 fun _ _ => 0)) :: (x, Cel.ins "Rows" (rowsF n g 0 [])) :: S) x n b B 0 (fun _ _ => 0) [] 1 0 g → Q (.ref x) ((g, Cel.lst (rowsL n 0 fun _ _ => 0)) :: (x, Cel.ins "Rows" (rowsF n g 0 [])) :: S)) :
    ∀ x, sp_Rows___init__ (.ref x :: ([.int n] ++ [.non])) ((x, Cel.ins "Rows" []) :: S) (fun d S2 => d = .non ∧ mkI "Rows" x S2 Q) EX := fun x =>
  ⟨x, S, n, b, B, 0, fun _ _ => 0, _, rfl, .inr ⟨rfl, rfl⟩, rfl, D0, by omega, fun i j hi => absurd hi (by omega), lm_none, fun g ss R => by
    have e : ss = [] := by
      cases ss with
      | nil => rfl
      | cons s ss =>
        obtain ⟨h1, h2, h3⟩ := R.tdy.ech.one s (List.mem_cons_self ..)
        have h4 : s.row s.head = 0 := R.made s (List.mem_cons_self ..) s.head h1
        omega
    subst e
    exact ⟨rfl, Or.inl (q x g ⟨lm_none, rfl, rfl, R, D0, by omega⟩)⟩⟩
theorem rows_newL {n b B m : Nat} {G : Mx} {z : D} {S : Sto} {Q : QD} {EX : EXT} (hz : LV S z (rowsL n m G)) (D0 : Dim n b B) (hm : m ≤ 100) (hG : Bd b m n G) (hL : ∀ k, k ≤ m → Lm n B k G) (q : ∀ (x g : Addr) (ss : List St), RAt ((g, Cel.lst (rowsL n m G)) :: (x, Cel.ins "Rows" (rowsF n g m ss)) :: S) x n b B m G ss 1 0 g → Q (.ref x) ((g, Cel.lst (rowsL n m G)) :: (x, Cel.ins "Rows" (rowsF n g m ss)) :: S)) :
    ∀ x, sp_Rows___init__ (.ref x :: ([.int n, z] ++ [])) ((x, Cel.ins "Rows" []) :: S) (fun d S2 => d = .non ∧ mkI "Rows" x S2 Q) EX := fun x =>
  ⟨x, S, n, b, B, m, G, _, rfl, .inl hz, rfl, D0, hm, hG, hL, fun g ss R => ⟨rfl, Or.inl (q x g ss ⟨hL, rfl, rfl, R, D0, hm⟩)⟩⟩
/-- the new object is no longer written -/
theorem rows_fz {n b B m : Nat} {G : Mx} {z : D} {S : Sto} {Q : QD} {EX : EXT} (hz : LV S z (rowsL n m G)) (D0 : Dim n b B) (hm : m ≤ 100) (hG : Bd b m n G) (hL : ∀ k, k ≤ m → Lm n B k G) (q : ∀ (ss : List St), RVal S (dRows n m G ss) n b B m G ss → Q (dRows n m G ss) S) :
    ∀ x, sp_Rows___init__ (.ref x :: ([.int n, z] ++ [])) ((x, Cel.ins "Rows" []) :: S) (fun d S2 => d = .non ∧ mkI "Rows" x S2 Q) EX := fun x =>
  ⟨x, S, n, b, B, m, G, _, rfl, .inl hz, rfl, D0, hm, hG, hL, fun g ss R => ⟨rfl, Or.inr ⟨1, _, rfl, Or.inr ⟨"held_given", g, 0, _, rfl, rfl, q ss ⟨hL, R, D0, hm, .inr rfl⟩⟩⟩⟩⟩
theorem rows_fz0 {n b B : Nat} {S : Sto} {Q : QD} {EX : EXT} (D0 : Dim n b B) (q : RVal S (dRows n 0 (fun _ _ => 0) []) n b B 0 (fun _ _ => 0) [] → Q (dRows n 0 (fun _ _ => 0) []) S) :
    ∀ x, sp_Rows___init__ (.ref x :: ([.int n] ++ [.non])) ((x, Cel.ins "Rows" []) :: S) (fun d S2 => d = .non ∧ mkI "Rows" x S2 Q) EX := fun x =>
  ⟨x, S, n, b, B, 0, fun _ _ => 0, _, rfl, .inr ⟨rfl, rfl⟩, rfl, D0, by omega, fun i j hi => absurd hi (by omega), lm_none, fun g ss R => by
    have e : ss = [] := by
      cases ss with
      | nil => rfl
      | cons s ss =>
        obtain ⟨h1, h2, h3⟩ := R.tdy.ech.one s (List.mem_cons_self ..)
        have h4 : s.row s.head = 0 := R.made s (List.mem_cons_self ..) s.head h1
        omega
    subst e
    exact ⟨rfl, Or.inr ⟨1, _, rfl, Or.inr ⟨"held_given", g, 0, _, rfl, rfl, q ⟨lm_none, R, D0, by omega, .inr rfl⟩⟩⟩⟩⟩
theorem pure_told_rows {ds : List D} {S : Sto} {Q : QD} {EX : EXT} (h : sp_told_rows ds S Q EX) : t_told_rows EX (endX Q) (startG ["rows", "wide"] ds) S := by
  rcases h with ⟨z, n, b, B, m, G, rfl, hz, D0, hm, hG, hL, q⟩ | ⟨x, w, rfl, hb⟩
  · have h7 := D0.n7
    show t_told_rows EX (endX Q) [some z, some (.int n)] S
    unfold t_told_rows
    walk_at "ev"
    refine check_okL (f := G) hz (by omega) (by omega) ?_
    refine rows_fz hz D0 hm hG hL fun ss A => ?_
    refine A.asI fun _ _ => ⟨rfl, _, n, b, B, m, G, ss, rfl, A, Or.inl ?_⟩
    exact ⟨S, .refl _, q ss A.ri⟩
  · show t_told_rows EX (endX Q) [some x, some (.int w)] S
    unfold t_told_rows
    walk_at "ev"
    exact hb.bad
theorem pure_same_span {ds : List D} {S : Sto} {Q : QD} {EX : EXT} (h : sp_same_span ds S Q EX) : t_same_span EX (endX Q) (startG ["one", "other", "wide"] ds) S := by
  rcases h with ⟨z, y, n, b, B, m, G, b', B', m', G', rfl, hz, hy, D0, hm, hG, hL, D1, hm', hG', hL', q⟩ | ⟨x, y, w, rfl, hb⟩ | ⟨z, y, n, b, B, m, G, rfl, hz, D0, hm, hG, hL, hb⟩
  · refine .inl ⟨z, n, b, B, m, G, rfl, hz, D0, hm, hG, hL, fun ss R => ?_⟩
    refine .inl ⟨y, n, b', B', m', G', rfl, hy, D1, hm', hG', hL', fun ts R' => ?_⟩
    exact told_eq R.tdy.ech R'.tdy.ech (fun A => ⟨S, .refl _, q ss ts true R R' ⟨fun _ => A, fun _ => rfl⟩⟩) fun A => ⟨S, .refl _, q ss ts false R R' ⟨fun z => (by cases z), fun z => absurd z A⟩⟩
  · exact .inr ⟨x, w, rfl, hb⟩
  · refine .inl ⟨z, n, b, B, m, G, rfl, hz, D0, hm, hG, hL, fun ss R => ?_⟩
    exact .inr ⟨y, n, rfl, hb⟩
end LK
end

section
set_option autoImplicit false
set_option maxRecDepth 100000
set_option maxHeartbeats 4000000
namespace LK
/-! ### a measure by which told rows come to nothing and a rest does not -/
def dotN (n : Nat) (v w : Nat → Int) : Int := sumN n fun j => v j * w j
theorem dot_ext {n : Nat} {v w w' : Nat → Int} (h : ∀ j, j < n → v j * w j = v j * w' j) : dotN n v w = dotN n v w' := sumN_ext h
theorem dot_lin {n k : Nat} {v w : Nat → Int} {a c : Int} (hk : k < n) : dotN n v (fun j => a * w j + c * idG k j) = a * dotN n v w + c * v k := by
  unfold dotN
  rw [show (fun j => v j * (a * w j + c * idG k j)) = fun j => a * (v j * w j) + c * (idG k j * v j) by funext j; grind, sumN_add, sumN_mul, sumN_mul, sumN_pick n k v hk]
theorem Ech.same {n : Nat} {ss : List St} (E : Ech n ss) {s t : St} (hs : s ∈ ss) (ht : t ∈ ss) (h : s.head = t.head) : s = t := by
  obtain ⟨i, hi⟩ := List.mem_iff_getElem?.mp hs
  obtain ⟨j, hj⟩ := List.mem_iff_getElem?.mp ht
  obtain ⟨h1, e1⟩ := List.getElem?_eq_some_iff.mp hi
  obtain ⟨h2, e2⟩ := List.getElem?_eq_some_iff.mp hj
  have up := List.pairwise_iff_getElem.mp E.up
  rcases Nat.lt_trichotomy i j with z | z | z
  · have := up i j h1 h2 z
    rw [e1, e2] at this
    omega
  · subst z
    rw [hi] at hj
    exact Option.some.inj hj
  · have := up j i h2 h1 z
    rw [e1, e2] at this
    omega
structure MI (n : Nat) (ss : List St) (col i : Nat) (w : Nat → Int) (W : Int) : Prop where
  hi : ∀ j, col < j → w j = 0
  lo : ∀ j, j < i → w j = 0
  at_ : w col = W
  pos : 0 < W
  nul : ∀ s ∈ ss, i ≤ s.head → s.head < col → dotN n s.row w = 0
theorem MI.start {n : Nat} {ss : List St} {col : Nat} : MI n ss col col (idG col) 1 where
  hi := fun j h => by unfold idG; rw [if_neg (by omega)]
  lo := fun j h => by unfold idG; rw [if_neg (by omega)]
  at_ := by unfold idG; rw [if_pos rfl]
  pos := by decide
  nul := fun s _ h1 h2 => absurd h1 (by omega)
theorem MI.skip {n : Nat} {ss : List St} {col i : Nat} {w : Nat → Int} {W : Int} (I : MI n ss col (i + 1) w W) (h : ∀ s ∈ ss, s.head ≠ i) : MI n ss col i w W where
  hi := I.hi
  lo := fun j hj => I.lo j (by omega)
  at_ := I.at_
  pos := I.pos
  nul := fun s hs h1 h2 => I.nul s hs (by have := h s hs; omega) h2
/-- the numbers behind a turn -/
def mvN (n : Nat) (s : St) (w : Nat → Int) : Nat → Int := fun j => if j = s.head then -(dotN n s.row w / (Int.gcd (dotN n s.row w) (s.row s.head) : Int)) else s.row s.head / (Int.gcd (dotN n s.row w) (s.row s.head) : Int) * w j
theorem gcd_pos_r {a b : Int} (h : 0 < b) : 0 < (Int.gcd a b : Int) := by
  have : 0 < Int.gcd a b := Int.gcd_pos_of_ne_zero_right _ (by omega)
  omega
theorem MI.turn {n : Nat} {ss : List St} {col i : Nat} {w : Nat → Int} {W : Int} (E : Ech n ss) (I : MI n ss col (i + 1) w W) {s : St} (hs : s ∈ ss) (h : s.head = i) (hc : i < col) :
    MI n ss col i (mvN n s w) (s.row s.head / (Int.gcd (dotN n s.row w) (s.row s.head) : Int) * W) := by
  obtain ⟨s1, s2, s3⟩ := E.one s hs
  have gp := gcd_pos_r (a := dotN n s.row w) s3
  have ga : (Int.gcd (dotN n s.row w) (s.row s.head) : Int) ∣ s.row s.head := Int.gcd_dvd_right _ _
  have gb : (Int.gcd (dotN n s.row w) (s.row s.head) : Int) ∣ dotN n s.row w := Int.gcd_dvd_left _ _
  generalize hg : (Int.gcd (dotN n s.row w) (s.row s.head) : Int) = g at gp ga gb ⊢
  obtain ⟨a, ea⟩ := ga
  obtain ⟨b, eb⟩ := gb
  have qa : s.row s.head / g = a := by rw [ea, Int.mul_ediv_cancel_left _ (by omega)]
  have qb : dotN n s.row w / g = b := by rw [eb, Int.mul_ediv_cancel_left _ (by omega)]
  have ap : 0 < a := by
    rcases Int.lt_trichotomy a 0 with z | z | z
    · have := Int.mul_neg_of_pos_of_neg gp z
      omega
    · rw [z, Int.mul_zero] at ea
      omega
    · exact z
  have wk : w s.head = 0 := I.lo _ (by omega)
  have e : mvN n s w = fun j => a * w j + (-b) * idG s.head j := by
    funext j
    unfold mvN
    rw [hg, qa, qb]
    unfold idG
    by_cases e : j = s.head
    · subst e
      rw [if_pos rfl, if_pos rfl, wk]
      omega
    · rw [if_neg e, if_neg (by omega)]
      omega
  rw [qa]
  refine ⟨fun j hj => ?_, fun j hj => ?_, ?_, Int.mul_pos ap I.pos, fun t ht h1 h2 => ?_⟩
  · rw [e]
    show a * w j + -b * idG s.head j = 0
    rw [I.hi j hj]
    unfold idG
    rw [if_neg (by omega)]
    omega
  · rw [e]
    show a * w j + -b * idG s.head j = 0
    rw [I.lo j (by omega)]
    unfold idG
    rw [if_neg (by omega)]
    omega
  · rw [e]
    show a * w col + -b * idG s.head col = a * W
    rw [I.at_]
    unfold idG
    rw [if_neg (by omega)]
    omega
  · rw [e, dot_lin s1]
    by_cases et : t.head = i
    · have := E.same ht hs (by omega)
      subst this
      rw [eb, ea]
      grind
    · rw [I.nul t ht (by omega) h2]
      obtain ⟨_, t2, _⟩ := E.one t ht
      rw [t2 s.head (by omega)]
      omega
/-- a row with its head at the column, or farther right; a rest with its head at the column -/
theorem MI.dot_at {n : Nat} {ss : List St} {col i : Nat} {w : Nat → Int} {W : Int} (I : MI n ss col i w W) (hc : col < n) {v : Nat → Int} (hv : ∀ j, j < col → v j = 0) : dotN n v w = v col * W := by
  unfold dotN
  rw [sumN_one hc fun j hj hne => ?_, I.at_]
  rcases Nat.lt_or_ge j col with z | z
  · rw [hv j z, Int.zero_mul]
  · rw [I.hi j (by omega), Int.mul_zero]
theorem mvN_bd {n B c : Nat} {s : St} {w : Nat → Int} (hn : n ≤ 8) (hp : 0 < s.row s.head) (hh : s.head < n) (hr : ∀ j, j < n → (s.row j).natAbs < 2 ^ B) (hw : ∀ j, j < n → (w j).natAbs < 2 ^ c) : (dotN n s.row w).natAbs < 2 ^ (B + c + 4) ∧ ∀ j, j < n → (mvN n s w j).natAbs < 2 ^ (B + c + 4) := by
  have d0 : (dotN n s.row w).natAbs ≤ n * 2 ^ (B + c) := sumN_bd fun k hk => by
    rw [Int.natAbs_mul, Nat.pow_add]
    exact Nat.mul_lt_mul'' (hr k hk) (hw k hk)
  have d1 : n * 2 ^ (B + c) ≤ 8 * 2 ^ (B + c) := Nat.mul_le_mul_right _ hn
  have p0 : 0 < 2 ^ (B + c) := Nat.two_pow_pos _
  have e4 : 2 ^ (B + c + 4) = 2 ^ (B + c) * 16 := by rw [Nat.pow_add]
  have gp := gcd_pos_r (a := dotN n s.row w) hp
  have dl : (dotN n s.row w).natAbs < 2 ^ (B + c + 4) := by omega
  refine ⟨dl, fun j hj => ?_⟩
  unfold mvN
  split
  · rw [Int.natAbs_neg]
    exact Nat.lt_of_le_of_lt (Int.natAbs_ediv_le_natAbs _ _) dl
  · have h1 : (s.row s.head / (Int.gcd (dotN n s.row w) (s.row s.head) : Int)).natAbs < 2 ^ B := Nat.lt_of_le_of_lt (Int.natAbs_ediv_le_natAbs _ _) (hr _ hh)
    have h2 : (s.row s.head / (Int.gcd (dotN n s.row w) (s.row s.head) : Int) * w j).natAbs < 2 ^ (B + c) := by
      rw [Int.natAbs_mul, Nat.pow_add]
      exact Nat.mul_lt_mul'' h1 (hw j hj)
    omega
/-- a measure by which the stands come to nothing and the rest does not -/
def IsMs (n : Nat) (ss : List St) (v : Nat → Int) (b : Int) (w : Nat → Int) : Prop := 2 ≤ b ∧ (∀ j, j < n → 0 ≤ w j ∧ w j < b) ∧ (∀ s ∈ ss, b ∣ dotN n s.row w) ∧ ¬ b ∣ dotN n v w
theorem dot_mod {n : Nat} {v w : Nat → Int} {b : Int} (hb : 0 < b) : b ∣ dotN n v (fun j => (w j).fmod b) ↔ b ∣ dotN n v w := by
  have e : dotN n v w = dotN n v (fun j => (w j).fmod b) + b * sumN n fun j => v j * (w j).fdiv b := by
    unfold dotN
    rw [← sumN_mul, ← sumN_add]
    refine sumN_ext fun j _ => ?_
    have := Int.mul_fdiv_add_fmod (w j) b
    have h2 : w j = (w j).fmod b + b * (w j).fdiv b := by omega
    have h3 := congrArg (v j * ·) h2
    exact h3.trans (by rw [Int.mul_add, Int.mul_left_comm])
  rw [e]
  exact (Int.dvd_add_left (Int.dvd_mul_right _ _)).symm
theorem MI.done {n : Nat} {ss : List St} {h : Nat} {w v : Nat → Int} {W b : Int} (E : Ech n ss) (I : MI n ss h 0 w W) (hh : h < n) (v0 : ∀ j, j < h → v j = 0) (vh : v h ≠ 0) (rd : ∀ s ∈ ss, 0 ≤ v s.head ∧ v s.head < s.row s.head)
    (hb : (∃ s ∈ ss, s.head = h ∧ b = s.row h * W) ∨ ((∀ s ∈ ss, s.head ≠ h) ∧ b = ((v h * W).natAbs : Int) + 1)) : IsMs n ss v b fun j => (w j).fmod b := by
  have W0 := I.pos
  have dv := I.dot_at hh v0
  have far : ∀ s ∈ ss, h < s.head → dotN n s.row w = 0 := fun s hs hl => by
    obtain ⟨_, s2, _⟩ := E.one s hs
    rw [I.dot_at hh fun j hj => s2 j (by omega), s2 h hl, Int.zero_mul]
  have fm : ∀ {b : Int}, 2 ≤ b → ∀ j, j < n → 0 ≤ (w j).fmod b ∧ (w j).fmod b < b := fun hb j _ => by
    rw [Int.fmod_eq_emod_of_nonneg _ (by omega)]
    exact ⟨Int.emod_nonneg _ (by omega), Int.emod_lt_of_pos _ (by omega)⟩
  rcases hb with ⟨s0, hs0, e0, rfl⟩ | ⟨hno, rfl⟩
  · obtain ⟨r1, r2⟩ := rd s0 hs0
    rw [e0] at r1 r2
    have t2 : 2 ≤ s0.row h := by omega
    have b2 : 2 ≤ s0.row h * W := by
      have : 2 * 1 ≤ s0.row h * W := Int.mul_le_mul t2 (by omega) (by decide) (by omega)
      omega
    refine ⟨b2, fm b2, fun s hs => (dot_mod (by omega)).mpr ?_, fun z => ?_⟩
    · rcases Nat.lt_trichotomy s.head h with z | z | z
      · rw [I.nul s hs (by omega) z]
        exact Int.dvd_zero _
      · have := E.same hs hs0 (by omega)
        subst this
        obtain ⟨_, s2, _⟩ := E.one s hs
        rw [I.dot_at hh fun j hj => s2 j (by omega)]
        exact Int.dvd_refl _
      · rw [far s hs z]
        exact Int.dvd_zero _
    · have z := (dot_mod (by omega)).mp z
      rw [dv] at z
      have z2 := Int.dvd_of_mul_dvd_mul_right (by omega) z
      have := Int.le_of_dvd (by omega) z2
      omega
  · have vw : v h * W ≠ 0 := Int.mul_ne_zero vh (by omega)
    refine ⟨by omega, fm (by omega), fun s hs => (dot_mod (by omega)).mpr ?_, fun z => ?_⟩
    · rcases Nat.lt_trichotomy s.head h with z | z | z
      · rw [I.nul s hs (by omega) z]
        exact Int.dvd_zero _
      · exact absurd z (hno s hs)
      · rw [far s hs z]
        exact Int.dvd_zero _
    · have z := (dot_mod (by omega)).mp z
      rw [dv] at z
      obtain ⟨k, ek⟩ := z
      have e1 : (v h * W).natAbs = (((v h * W).natAbs : Int) + 1).natAbs * k.natAbs := by
        rw [← Int.natAbs_mul, ← ek]
      have k0 : k.natAbs ≠ 0 := fun e => by
        rw [e, Nat.mul_zero] at e1
        omega
      have : (((v h * W).natAbs : Int) + 1).natAbs * 1 ≤ (((v h * W).natAbs : Int) + 1).natAbs * k.natAbs := Nat.mul_le_mul_left _ (by omega)
      omega
end LK
end

section
set_option autoImplicit false
set_option maxRecDepth 100000
set_option maxHeartbeats 4000000
namespace LK
open PySem PySem.Spec PyProof.Rows L2 DL
open PySem.W (Frag)
/-! ### what laws over rows share, second part -/
def headL (ss : List St) : List D := ss.map fun s => D.int (s.head : Int)
theorem draw_Gm {Pr : Int → Prop} {S : Sto} {G : DL.Loc} {own : List Nat} {bind : D → DL.Loc → (DL.Loc → Prop) → Prop} {te : TEd} {Q : QD} {k : Nat} {w : Addr} {lo : Int} {r n : Nat} (hw : Wl S k w) (hz : r ≤ 1000000)
    (h : ∀ (i : Nat), i < r → ∀ (p : Addr) (acc : List D) (S1 : Sto) (K : QD), Wl S1 k w → (∀ f S2, (∀ j, j < n → Pr (f j)) → Wst S1 S2 k w → K (dR n f) ((p, Cel.lst acc) :: S2)) → bind (.int (lo + (i : Int))) (wipeG G own) fun G2 => te G2 ((p, Cel.lst acc) :: S1) K)
    (hm : ∀ d G P P', bind d G P → (∀ G2, P G2 → P' G2) → bind d G P')
    (q : ∀ (f : Nat → Nat → Int) S', (∀ i j, i < r → j < n → Pr (f i j)) → Wst S S' k w → mk (rowsL n r f) S' Q) : LcIn G own bind tYs te (span lo r) S Q := by
  refine ⟨fun i acc S' => Wst S S' k w ∧ acc.length = i ∧ ∀ (j : Nat) (y : D), acc[j]? = some y → ∃ f, y = dR n f ∧ ∀ j, j < n → Pr (f j), ⟨wst_self hw, rfl, fun j y e => by simp at e⟩, ?_, ?_⟩
  · rintro i d acc S' p e ⟨t, rfl, ha⟩
    have hi : acc.length < r := by
      have := (List.getElem?_eq_some_iff.mp e).1
      rwa [span_len] at this
    rw [span_get hi] at e
    cases e
    refine hm _ _ _ _ (h _ hi p acc S' (fun y S4 => ∃ S5, S4 = (p, .lst acc) :: S5 ∧ acc.length < sizeLine ∧ Wst S S5 k w ∧ (acc ++ [y]).length = acc.length + 1 ∧ ∀ (j : Nat) (z : D), (acc ++ [y])[j]? = some z → ∃ f, z = dR n f ∧ ∀ j, j < n → Pr (f j)) (hw.to t) fun f S2 hf t2 => ?_) fun G2 q2 => ⟨S', rfl, fun _ => q2, fun z => by cases z⟩
    refine ⟨S2, rfl, Nat.lt_of_lt_of_le hi (Nat.le_trans hz (by decide)), t.trans t2, by simp, fun j z ez => ?_⟩
    rw [List.getElem?_append] at ez
    split at ez
    · exact ha j z ez
    · rename_i hj
      have : j = acc.length := by
        have := (List.getElem?_eq_some_iff.mp ez).1
        simp at this
        omega
      subst this
      simp at ez
      subst ez
      exact ⟨f, rfl, hf⟩
  · rintro acc S' ⟨t, hl, ha⟩
    rw [span_len] at hl
    obtain ⟨f, ef, hf⟩ := grid_of (c := n) (P := Pr) hl ha
    have e : acc = rowsL n r f := D.lst.inj ef
    rw [e]
    exact q f S' hf t
theorem rowsL_set {n r a : Nat} {f : Mx} {v : Nat → Int} : (rowsL n r f).set a (dR n v) = rowsL n r fun i => if i = a then v else f i := by
  unfold rowsL
  refine List.ext_getElem? fun i => ?_
  by_cases hi : i < r
  · rw [range_at _ hi, List.getElem?_set]
    by_cases e : a = i
    · subst e
      rw [if_pos rfl, rng_len, if_pos hi]
      show _ = some (dR n (if a = a then v else f a))
      rw [if_pos rfl]
    · rw [if_neg e, range_at _ hi]
      show _ = some (dR n (if i = a then v else f i))
      rw [if_neg (Ne.symm e)]
  · rw [List.getElem?_eq_none (by rw [List.length_set, rng_len]; omega), List.getElem?_eq_none (by rw [rng_len]; omega)]
theorem rowsL_at {n r i : Nat} {f : Mx} (h : i < r) : atI (rowsL n r f) (i : Int) = some (dR n (f i)) := atI_nat (range_at (fun i => dR n (f i)) h)
theorem bd1 {i : Nat} {d : D} {G : DL.Loc} {own : List Nat} {P : DL.Loc → Prop} (h : i < (wipeG G own).length) (p : P ((wipeG G own).set i (some d))) : bind1 i d (wipeG G own) P := inG_of h p
theorem isI_of {i : Int} {P : Int → Prop} (h : P i) : isI (.int i) P := h
theorem lst_ints_all {n : Nat} {S : Sto} {Q : QD} (q : Q (.bl true) S) : dAll [.lst ((List.range n).map fun _ => D.bl true)] S Q := by
  refine ⟨(List.range n).map fun _ => true, by rw [List.map_map]; rfl, ?_⟩
  have : (((List.range n).map fun _ => true).all id) = true := by
    rw [List.all_eq_true]
    intro x hx
    obtain ⟨_, _, rfl⟩ := List.mem_map.mp hx
    rfl
  rw [this]
  exact q
theorem told_at {n : Nat} {ss : List St} {k : Nat} {d : D} (e : (toldL n ss)[k]? = some d) : ∃ s, ss[k]? = some s ∧ d = dR n s.row := by
  unfold toldL at e
  rw [List.getElem?_map] at e
  obtain ⟨s, hs, rfl⟩ := Option.map_eq_some_iff.mp e
  exact ⟨s, hs, rfl⟩
theorem cut_take (ds : List D) {k : Nat} (h : k ≤ ds.length) : DL.cutD ds none (some (k : Int)) = ds.take k := by
  have e : HT.sIx ds.length ds.length (some (k : Int)) = k := by
    show (if (k : Int) < 0 then ((k : Int) + (ds.length : Int)).toNat else min (k : Int).toNat ds.length) = k
    rw [if_neg (by omega)]
    omega
  unfold DL.cutD
  rw [e]
  show List.take (k - 0) (List.drop 0 ds) = _
  rw [List.drop_zero, Nat.sub_zero]
theorem okI_all (ks : List Nat) : (ks.map fun (k : Nat) => D.int (k : Int)).all (okD 0) = true := by
  rw [List.all_eq_true]
  intro x hx
  obtain ⟨k, _, rfl⟩ := List.mem_map.mp hx
  rfl
theorem headL_ok (ss : List St) : (headL ss).all (okD 0) = true := by
  rw [List.all_eq_true]
  intro x hx
  obtain ⟨k, _, rfl⟩ := List.mem_map.mp hx
  rfl
theorem headL_len (ss : List St) : (headL ss).length = ss.length := List.length_map ..
theorem headL_at {ss : List St} {k : Nat} {s : St} (h : ss[k]? = some s) : (headL ss)[k]? = some (D.int (s.head : Int)) := by
  unfold headL
  rw [List.getElem?_map, h]
  rfl
theorem atI_last {xs : List D} {x : D} (h : xs[xs.length - 1]? = some x) : atI xs (-1) = some x := by
  have hk : xs.length - 1 < xs.length := (List.getElem?_eq_some_iff.mp h).1
  unfold atI ixN
  rw [if_neg (by omega), if_pos (by omega)]
  simpa [show ((-1 : Int) + (xs.length : Int)).toNat = xs.length - 1 by omega] using h
theorem pair_get {α : Type} {R : α → α → Prop} {l : List α} (h : l.Pairwise R) {i j : Nat} {a b : α} (hi : l[i]? = some a) (hj : l[j]? = some b) (hij : i < j) : R a b := by
  obtain ⟨h1, e1⟩ := List.getElem?_eq_some_iff.mp hi
  obtain ⟨h2, e2⟩ := List.getElem?_eq_some_iff.mp hj
  have := List.pairwise_iff_getElem.mp h i j h1 h2 hij
  rwa [e1, e2] at this
theorem sum_rangeN (m : Nat) (f : Nat → Int) : ((List.range m).map f).sum = sumN m f := by
  induction m with
  | zero => rfl
  | succ m ih =>
    rw [List.range_succ, List.map_append, List.sum_append, ih]
    show sumN m f + (f m + 0) = sumN m f + f m
    omega
theorem zip_th {n : Nat} {ss : List St} {k : Nat} {d : D} (e : (zipD (toldL n ss) (headL ss))[k]? = some d) : ∃ s, ss[k]? = some s ∧ d = .tup [dR n s.row, .int s.head] := by
  unfold zipD toldL headL at e
  rw [List.zipWith_map, List.zipWith_self, List.getElem?_map] at e
  obtain ⟨s, hs, rfl⟩ := Option.map_eq_some_iff.mp e
  exact ⟨s, hs, rfl⟩
theorem rows_ne_well {S : Sto} {j k : Nat} {g w : Addr} {n m : Nat} {G : Mx} (h1 : S[j]? = some (g, Cel.lst (rowsL n m G))) (hw : Wl S k w) : j ≠ k := fun e => by
  obtain ⟨a0, b0, c0, h0⟩ := hw
  rw [e, h0] at h1
  have h2 := Cel.lst.inj (Prod.mk.inj (Option.some.inj h1)).2
  cases m with
  | zero => cases h2
  | succ m =>
    unfold rowsL at h2
    rw [List.range_succ_eq_map, List.map_cons] at h2
    cases h2
theorem RAt.cons {S : Sto} {x : Addr} {n b B m : Nat} {G : Mx} {ss : List St} {i j : Nat} {g : Addr} (R : RAt S x n b B m G ss i j g) (p : Addr × Cel) : RAt (p :: S) x n b B m G ss (i + 1) (j + 1) g := ⟨R.lm, R.ob, R.gv, R.ri, R.dim, R.m100⟩
theorem RAt.other {S : Sto} {x : Addr} {n b B m : Nat} {G : Mx} {ss : List St} {i j : Nat} {g : Addr} (R : RAt S x n b B m G ss i j g) {k : Nat} {q : Addr × Cel} (h1 : i ≠ k) (h2 : j ≠ k) : RAt (S.set k q) x n b B m G ss i j g := ⟨R.lm, set_off R.ob h1, set_off R.gv h2, R.ri, R.dim, R.m100⟩
theorem toldL_ok (n : Nat) (ss : List St) : (toldL n ss).all (okD 1) = true := told_ok n ss 0
theorem rowsL_ok (n m : Nat) (G : Mx) : (rowsL n m G).all (okD 1) = true := okG m n G 0
theorem bd2 {i j : Nat} {x y : D} {G : DL.Loc} {own : List Nat} {P : DL.Loc → Prop} (hi : i < (wipeG G own).length) (hj : j < (wipeG G own).length) (p : P (((wipeG G own).set i (some x)).set j (some y))) : bind2 i j (.tup [x, y]) (wipeG G own) P := inG_of hi (inG_of hj p)
end LK
end

section
set_option autoImplicit false
set_option maxRecDepth 100000
set_option maxHeartbeats 4000000
namespace LK
open PySem PySem.Spec PyProof.Rows L2 DL
open PySem.W (Frag)
def sp_divisor : FSp := fun ds S Q _ => ∃ i j : Int, ds = [.int i, .int j] ∧ Q (.int (Int.gcd i j)) S
def sp_measure_beyond : FSp := fun ds S Q _ => ∃ (n B c : Nat) (ss : List St) (v : Nat → Int) (h : Nat), ds = [.lst (toldL n ss), dR n v] ∧ n ≤ 7 ∧ B ≤ 8000 ∧ c ≤ 2000000 ∧ Ech n ss ∧ (∀ s ∈ ss, ∀ j, j < n → (s.row j).natAbs < 2 ^ B) ∧ IsHead n v h ∧ (∀ j, j < n → (v j).natAbs < 2 ^ c) ∧ Rd ss v ∧
  ∀ (b : Int) (w : Nat → Int), IsMs n ss v b w → b.natAbs < 2 ^ (c + 70000) → Q (.tup [.int b, dR n w]) S
def sp_Rows_paper : FSp := fun ds S Q EX => (∃ (x : D) (n b B m : Nat) (G : Mx) (ss : List St) (v : Nat → Int) (c : Nat), ds = [x, dR n v] ∧ RVal S x n b B m G ss ∧ c ≤ 1000000 ∧ (∀ k, k < n → (v k).natAbs < 2 ^ c) ∧
  (∀ p : Nat → Int, InL n ss v → Mk n m G v p → (∀ i, i < m → (p i).natAbs < 2 ^ (c + 100000 + PB m)) → Q (.tup [.str "in", dR m p]) S) ∧
  ∀ (b : Int) (w : Nat → Int), ¬ InL n ss v → IsMs n ss v b w → b.natAbs < 2 ^ (c + 200000) → Q (.tup [.str "out", .tup [.int b, dR n w]]) S) ∨
  ∃ (x y : D) (n b B m : Nat) (G : Mx) (ss : List St), ds = [x, y] ∧ RVal S x n b B m G ss ∧ okE y ∧ handB y n = false ∧ EX .NoRow [("at", .int 0)] S
theorem ln_divisor : ∀ ds S Q EX, sp_divisor ds S Q EX → ds.length = 2 := fun ds S Q EX ⟨_, _, e, _⟩ => by rw [e]; rfl
theorem ln_measure_beyond : ∀ ds S Q EX, sp_measure_beyond ds S Q EX → ds.length = 2 := fun ds S Q EX ⟨_, _, _, _, _, _, e, _⟩ => by rw [e]; rfl
theorem ln_Rows_paper : ∀ ds S Q EX, sp_Rows_paper ds S Q EX → ds.length = 2 := fun ds S Q EX h => by
  rcases h with ⟨_, _, _, _, _, _, _, _, _, e, _⟩ | ⟨_, _, _, _, _, _, _, _, e, _⟩ <;> (rw [e]; rfl)
-- 0 one, 1 other
def t_divisor (EX : EXT) : TSd := (sSeq (sWhile (tEq true (eVar 1) (eC (.int 0))) (sSeq (sPar 0 1 (aCons (eVar 1) (aCons (eOp dMod (eVar 0) (eVar 1)) aNil)))
    sNext))
    (sSeq (sRet (eCall dAbs (aCons (eVar 0) aNil)))
    sNext))
-- 0 told, 1 rest, 2 heads, 3 column, 4 numbers, 5 bottom, 6 k, 7 row, 8 total, 9 most, 10 wider, 11 one, 12 other
def t_measure_beyond (EX : EXT) : TSd := (sSeq (sSet 2 (eCall dDict (aCons (eLcX (iSqX (eVar 0)) [7] (bind1 7) tYs (eTup (aCons (eFn sp_head_of E0X [] (aCons (eVar 7) aNil)) (aCons (eVar 7) aNil)))) aNil)))
    (sSeq (sSet 3 (eFn sp_head_of (kX EX) [] (aCons (eVar 1) aNil)))
    (sSeq (sSet 4 (eLc (iR1 (aCons (eCall dLen (aCons (eVar 1) aNil)) aNil)) [6] (bind1 6) tYs (eCall dInt (aCons (eEq false (eVar 6) (eVar 3)) aNil))))
    (sSeq (sSet 5 (eC (.int 1)))
    (sSeq (sIf (tIn false (eVar 3) (eVar 2)) (sSeq (sSet 5 (eOp dIx (eOp dGetK (eVar 2) (eVar 3)) (eVar 3)))
    sNext) sNext)
    (sSeq (sFor (iRv (eVar 3)) (gNm 6) (sSeq (sIf (tIn false (eVar 6) (eVar 2)) (sSeq (sSet 7 (eOp dGetK (eVar 2) (eVar 6)))
    (sSeq (sSet 8 (eCall dSum (aCons (eLcX (iZpX (aCons (eVar 7) (aCons (eVar 4) aNil))) [11, 12] (bind2 11 12) tYs (eOp dMul (eVar 11) (eVar 12))) aNil)))
    (sSeq (sSet 9 (eFn sp_divisor (kX EX) [] (aCons (eVar 8) (aCons (eOp dIx (eVar 7) (eVar 6)) aNil))))
    (sSeq (sSet 10 (eOp dDiv (eOp dIx (eVar 7) (eVar 6)) (eVar 9)))
    (sSeq (sSet 4 (eLcX (iSqX (eVar 4)) [11] (bind1 11) tYs (eOp dMul (eVar 10) (eVar 11))))
    (sSeq (sSet 5 (eOp dMul (eVar 10) (eVar 5)))
    (sSeq (sAsg (eUn dNeg (eOp dDiv (eVar 8) (eVar 9))) (gIx (eVar 4) (eVar 6)))
    sNext))))))) sNext)
    sNext))
    (sSeq (sIf (tIn true (eVar 3) (eVar 2)) (sSeq (sSet 5 (eOp dAdd (eCall dAbs (aCons (eOp dMul (eOp dIx (eVar 1) (eVar 3)) (eOp dIx (eVar 4) (eVar 3))) aNil)) (eC (.int 1))))
    sNext) sNext)
    (sSeq (sRet (eTup (aCons (eVar 5) (aCons (eCall dTuple (aCons (eLcX (iSqX (eVar 4)) [11] (bind1 11) tYs (eOp dMod (eVar 11) (eVar 5))) aNil)) aNil))))
    sNext))))))))
-- 0 self, 1 handful, 2 rest, 3 parts, 4 stand, 5 many
def t_Rows_paper (EX : EXT) : TSd := (sSeq (sSet 2 (eMeth "Rows" "rest" sp_Rows_rest (kX EX) [] (eVar 0) (aCons (eVar 1) aNil)))
    (sSeq (sIf (tNo (tVal (eFn sp_is_nothing (kX EX) [] (aCons (eVar 2) aNil)))) (sSeq (sRet (eTup (aCons (eC (.str ("out" : PySem.Str))) (aCons (eFn sp_measure_beyond (kX EX) [] (aCons (eMeth "Rows" "told" sp_Rows_told (kX EX) [] (eVar 0) aNil) (aCons (eVar 2) aNil))) aNil))))
    sNext) sNext)
    (sSeq (sSet 3 (eLst aNil))
    (sSeq (sFor (iSq (eFld "Rows" "held_stands" (eVar 0))) (gNm 4) (sSeq (sSet 5 (eOp dDiv (eOp dIx (eVar 1) (eFld "Stand" "head" (eVar 4))) (eMeth "Stand" "top" sp_Stand_top (kX EX) [] (eVar 4) aNil)))
    (sSeq (sSet 1 (eFn sp_mixed (kX EX) [] (aCons (eC (.int 1)) (aCons (eVar 1) (aCons (eUn dNeg (eVar 5)) (aCons (eFld "Stand" "row" (eVar 4)) aNil))))))
    (sSeq (sEx (eMc .list mApp (eVar 3) (aCons (eVar 5) aNil)))
    sNext))))
    (sFz 3 (sSeq (sRet (eTup (aCons (eC (.str ("in" : PySem.Str))) (aCons (eFn sp_sum_of (kX EX) [] (aCons (eVar 3) (aCons (eMeth "Rows" "made" sp_Rows_made (kX EX) [] (eVar 0) aNil) (aCons (eCall dLen (aCons (eFld "Rows" "held_given" (eVar 0)) aNil)) aNil)))) aNil))))
    sNext))))))
-- 0 self, 1 found, 2 stand
def t_Rows_classes (EX : EXT) : TSd := (sSeq (sIf (tOrd .Lt (eCall dLen (aCons (eFld "Rows" "held_stands" (eVar 0)) aNil)) (eFld "Rows" "held_wide" (eVar 0))) (sSeq (sRet (eC (.int 0)))
    sNext) sNext)
    (sSeq (sSet 1 (eC (.int 1)))
    (sSeq (sFor (iSq (eFld "Rows" "held_stands" (eVar 0))) (gNm 2) (sSeq (sSet 1 (eOp dMul (eVar 1) (eMeth "Stand" "top" sp_Stand_top (kX EX) [] (eVar 2) aNil)))
    sNext))
    (sSeq (sRet (eVar 1))
    sNext))))
local macro_rules | `(tactic| walk_at "ev") => `(tactic| dsimp only [sSeq, sRet, sIf, sSet, sFor, sNext, sEx, sPar, sAsg, DL.sFld, eAn, eOo, eNo, eCall, eFn, eMeth, eNew, eFld, aCons, aNil, eVar, rd, eC, eOp, eUn, eEq, eOrd, tEq, tOrd, tVal, tNo, tAn, tOo, tEqL, eEqL, tNone, eTup, eLst, eSl, oNo, oSome, eRev, iR1, iR2, iSq, iZp, sForX, iSqX, iEnX, iZpX, one_eq, eLcX_eq, gNm, gTp, gsCons, gsNil, eLc_eq, inG, List.set_cons_zero, List.set_cons_succ, List.getElem?_cons_zero, List.getElem?_cons_succ, List.append_nil])
theorem pure_divisor {ds : List D} {S : Sto} {Q : QD} {EX : EXT} (h : sp_divisor ds S Q EX) : t_divisor EX (endS Q) (startG ["one", "other"] ds) S := by
  obtain ⟨i, j, rfl, q⟩ := h
  refine ⟨fun m G S' => S' = S ∧ ∃ a b : Int, G = [some (.int a), some (.int b)] ∧ m = b.natAbs ∧ Int.gcd a b = Int.gcd i j, j.natAbs, ⟨rfl, i, j, rfl, rfl, rfl⟩, ?_⟩
  rintro m G S' ⟨rfl, a, b, rfl, rfl, hg⟩
  refine ⟨fun h => ?_, fun h => ?_⟩
  · have hb : b ≠ 0 := by simpa using h
    refine ⟨hb, _, fmod_lt a b hb, rfl, b, a.fmod b, rfl, rfl, ?_⟩
    rw [gcd_step, hg]
  · have hb : b = 0 := by simpa using h
    subst hb
    show Q (.int (a.natAbs : Int)) S'
    rw [Int.gcd_zero_right] at hg
    rw [hg]
    exact q
def hdK (n : Nat) (ss : List St) : List (Key × D) := ss.map fun s => (.inl (s.head : Int), dR n s.row)
theorem hdK_id {n : Nat} {ss : List St} (E : Ech n ss) : IdK (hdK n ss) := by
  unfold IdK hdK
  rw [List.map_map]
  refine List.pairwise_map.mpr (E.up.imp fun h e => ?_)
  have := Sum.inl.inj e
  omega
theorem hdK_in {n : Nat} : ∀ {ss : List St} {s : St}, Ech n ss → s ∈ ss → valK (hdK n ss) (.inl (s.head : Int)) = some (dR n s.row)
  | t :: ss, s, E, hs => by
    show (if (Sum.inl (t.head : Int) : Key) = .inl (s.head : Int) then some (dR n t.row) else valK (hdK n ss) _) = _
    by_cases e : t.head = s.head
    · rw [if_pos (by rw [e])]
      rw [E.same (List.mem_cons_self ..) hs e]
    · rw [if_neg fun z => e (by have := Sum.inl.inj z; omega)]
      rcases List.mem_cons.mp hs with z | z
      · exact absurd (by rw [z]) e
      · exact hdK_in E.tail z
theorem hdK_no {n k : Nat} : ∀ {ss : List St}, (∀ s ∈ ss, s.head ≠ k) → valK (hdK n ss) (.inl (k : Int)) = none
  | [], _ => rfl
  | t :: ss, h => by
    show (if (Sum.inl (t.head : Int) : Key) = .inl (k : Int) then some (dR n t.row) else valK (hdK n ss) _) = _
    rw [if_neg fun z => h t (List.mem_cons_self ..) (by have := Sum.inl.inj z; omega)]
    exact hdK_no fun s hs => h s (List.mem_cons_of_mem _ hs)
def intsL (n : Nat) (w : Nat → Int) : List D := (List.range n).map fun j => D.int (w j)
theorem intsL_len (n : Nat) (w : Nat → Int) : (intsL n w).length = n := rng_len _ _
theorem itR {n : Nat} {f : Nat → Int} {S : Sto} {Q : List D → Pin → Prop} (h : Q ((List.range n).map fun j => D.int (f j)) []) : itX (dR n f) S Q := h
theorem intsL_set {n k : Nat} {w : Nat → Int} {x : Int} : (intsL n w).set k (.int x) = intsL n fun j => if j = k then x else w j := by
  unfold intsL
  refine List.ext_getElem? fun i => ?_
  by_cases hi : i < n
  · rw [range_at _ hi, List.getElem?_set]
    by_cases e : k = i
    · subst e
      rw [if_pos rfl, rng_len, if_pos hi]
      show _ = some (D.int (if k = k then x else w k))
      rw [if_pos rfl]
    · rw [if_neg e, range_at _ hi]
      show _ = some (D.int (if i = k then x else w i))
      rw [if_neg (Ne.symm e)]
  · rw [List.getElem?_eq_none (by rw [List.length_set, rng_len]; omega), List.getElem?_eq_none (by rw [rng_len]; omega)]
theorem pure_measure_beyond {ds : List D} {S : Sto} {Q : QD} {EX : EXT} (h : sp_measure_beyond ds S Q EX) : t_measure_beyond EX (endX Q) (startG ["told", "rest", "heads", "column", "numbers", "bottom", "k", "row", "total", "most", "wider", "one", "other"] ds) S := by
  obtain ⟨n, B, c, ss, v, h, rfl, h7, hB, hc, E, rows, H, hv, rd, q⟩ := h
  have hl := E.len
  show t_measure_beyond EX (endX Q) [some (.lst (toldL n ss)), some (dR n v), none, none, none, none, none, none, none, none, none, none, none] S
  unfold t_measure_beyond
  walk_at "ev"
  refine lcx_nil (lc_M (xs := ss) (src := fun s => dR n s.row) (fun s => D.tup [.int s.head, dR n s.row]) (by omega) (fun s hs p acc K hK => ?_) bind1_mono (Or.inl ?_))
  · refine bd1 (by show 7 < 13; decide) ?_
    refine ⟨n, s.row, s.head, rfl, by omega, E.head s hs, ?_⟩
    show fit [D.int (s.head : Int), dR n s.row] _
    exact fit_of (by show 2 ≤ 1000000; decide) hK
  refine ⟨hdK n ss, by unfold hdK; rw [List.map_map]; rfl, hdK_id E, ?_⟩
  refine ⟨n, v, h, rfl, by omega, H, ?_⟩
  try walk_at "ev"
  refine len_R ?_
  refine ⟨⟨by omega, by omega⟩, ?_⟩
  rw [Int.toNat_natCast, span_map]
  refine lc_M (xs := List.range n) (src := fun (k : Nat) => D.int (k : Int)) (fun k => D.int (idG h k)) (by rw [List.length_range]; omega) (fun k hk p acc K hK => ?_) bind1_mono (Or.inr fun p => ?_)
  · refine bd1 (by show 6 < 13; decide) ?_
    have e : (if decide ((k : Int) = (h : Int)) then (1 : Int) else 0) = idG h k := by
      unfold idG
      by_cases z : h = k
      · rw [if_pos z, if_pos (decide_eq_true (by omega))]
      · rw [if_neg z, if_neg (by rw [decide_eq_false (by omega)]; decide)]
    show K (.int (if decide ((k : Int) = (h : Int)) then 1 else 0)) _
    rw [e]
    exact hK
  have BS : 7 * (B + 4) ≤ 56028 := by omega
  have main : ∀ T : Int, ((∃ s ∈ ss, s.head = h ∧ T = s.row h) ∨ ((∀ s ∈ ss, s.head ≠ h) ∧ T = 1)) → T.natAbs < 2 ^ (B + 1) →
      ((sSeq (sFor (iRv (eVar 3)) (gNm 6) (sSeq (sIf (tIn false (eVar 6) (eVar 2)) (sSeq (sSet 7 (eOp dGetK (eVar 2) (eVar 6)))
    (sSeq (sSet 8 (eCall dSum (aCons (eLcX (iZpX (aCons (eVar 7) (aCons (eVar 4) aNil))) [11, 12] (bind2 11 12) tYs (eOp dMul (eVar 11) (eVar 12))) aNil)))
    (sSeq (sSet 9 (eFn sp_divisor (kX EX) [] (aCons (eVar 8) (aCons (eOp dIx (eVar 7) (eVar 6)) aNil))))
    (sSeq (sSet 10 (eOp dDiv (eOp dIx (eVar 7) (eVar 6)) (eVar 9)))
    (sSeq (sSet 4 (eLcX (iSqX (eVar 4)) [11] (bind1 11) tYs (eOp dMul (eVar 10) (eVar 11))))
    (sSeq (sSet 5 (eOp dMul (eVar 10) (eVar 5)))
    (sSeq (sAsg (eUn dNeg (eOp dDiv (eVar 8) (eVar 9))) (gIx (eVar 4) (eVar 6)))
    sNext))))))) sNext)
    sNext))
    (sSeq (sIf (tIn true (eVar 3) (eVar 2)) (sSeq (sSet 5 (eOp dAdd (eCall dAbs (aCons (eOp dMul (eOp dIx (eVar 1) (eVar 3)) (eOp dIx (eVar 4) (eVar 3))) aNil)) (eC (.int 1))))
    sNext) sNext)
    (sSeq (sRet (eTup (aCons (eVar 5) (aCons (eCall dTuple (aCons (eLcX (iSqX (eVar 4)) [11] (bind1 11) tYs (eOp dMod (eVar 11) (eVar 5))) aNil)) aNil))))
    sNext)))) (endX Q) [some (.lst (toldL n ss)), some (dR n v), some (.dct (hdK n ss)), some (.int h), some (.ref p), some (.int T), none, none, none, none, none, none, none] ((p, Cel.lst (intsL n (idG h))) :: S) := fun T hT bT => by
    have hn := H.1
    refine ⟨⟨by omega, by omega⟩, ?_⟩
    refine ⟨fun i Gl S' => ∃ (w : Nat → Int) (W : Int) (p : Addr) (S1 : Sto) (o6 o7 o8 o9 o10 : Option D), i ≤ h ∧ MI n ss h (h - i) w W ∧ (∀ j, j < n → (w j).natAbs < 2 ^ (1 + i * (B + 4))) ∧ S' = (p, Cel.lst (intsL n w)) :: S1 ∧ S.Sublist S1 ∧
      Gl = [some (.lst (toldL n ss)), some (dR n v), some (.dct (hdK n ss)), some (.int h), some (.ref p), some (.int (T * W)), o6, o7, o8, o9, o10, none, none], ⟨idG h, 1, p, S, _, _, _, _, _, Nat.zero_le _, MI.start, fun j _ => ?_, rfl, .refl _, by rw [Int.mul_one]⟩, ?_, ?_⟩
    · rw [Nat.zero_mul]
      unfold idG
      split <;> decide
    · rintro i d Gl S' e ⟨w, W, p, S1, o6, o7, o8, o9, o10, hi, I, bw, rfl, sub, rfl⟩
      have e' : ((List.range h).map fun (i : Nat) => D.int ((h - 1 - i : Nat) : Int))[i]? = some d := e
      obtain ⟨ih, rfl⟩ := range_get e'
      obtain ⟨k, hk⟩ : ∃ k, h - i = k + 1 := ⟨h - 1 - i, by omega⟩
      rw [hk] at I
      have ek : h - 1 - i = k := by omega
      have ek2 : h - (i + 1) = k := by omega
      rw [ek]
      try walk_at "ev"
      refine ⟨.inl (k : Int), rfl, ?_⟩
      have e4 : 1 + (i + 1) * (B + 4) = B + (1 + i * (B + 4)) + 4 := by rw [Nat.add_mul]; omega
      have lei : i * (B + 4) ≤ 7 * (B + 4) := Nat.mul_le_mul_right _ (by omega)
      by_cases hx : ∃ s ∈ ss, s.head = k
      · obtain ⟨s, hs, ehd⟩ := hx
        have vk : valK (hdK n ss) (.inl (k : Int)) = some (dR n s.row) := by rw [← ehd]; exact hdK_in E hs
        rw [vk]
        refine ⟨fun _ => ?_, fun z => by cases z⟩
        refine ⟨.inl (k : Int), _, rfl, vk, ?_⟩
        obtain ⟨s1, s2, s3⟩ := E.one s hs
        obtain ⟨bd, bm⟩ := mvN_bd (by omega) s3 s1 (rows s hs) bw
        subst ehd
        have lv : ∀ S', LV ((p, Cel.lst (intsL n w)) :: S') (.ref p) (intsL n w) := fun S' => .cell (k := 0) rfl
        have b8 : (s.row s.head).natAbs < 2 ^ 8000 := up_bd (rows s hs _ s1) hB
        have gp := gcd_pos_r (a := dotN n s.row w) s3
        have gl : (Int.gcd (dotN n s.row w) (s.row s.head) : Int) ≤ s.row s.head := Int.le_of_dvd s3 (Int.gcd_dvd_right _ _)
        have g8 : (Int.gcd (dotN n s.row w) (s.row s.head) : Int).natAbs < 2 ^ 8000 := by omega
        have aB : (s.row s.head / (Int.gcd (dotN n s.row w) (s.row s.head) : Int)).natAbs < 2 ^ B := Nat.lt_of_le_of_lt (Int.natAbs_ediv_le_natAbs _ _) (rows s hs _ s1)
        have IT := I.turn E hs rfl (by omega)
        refine itR ?_
        refine (lv S1).it fun P hP => ?_
        show LcInX _ _ _ _ _ (zipD ((List.range n).map fun j => D.int (s.row j)) ((List.range n).map fun j => D.int (w j))) _ _ _
        rw [zip_range]
        refine lcx_M (xs := List.range n) (src := fun j => D.tup [D.int (s.row j), D.int (w j)]) (fun j => D.int (s.row j * w j)) (hP _ (lv S1)) (by rw [List.length_range]; omega) (fun j hj p2 acc K hK => ?_) bind2_mono' (Or.inl ?_)
        · have jn := List.mem_range.mp hj
          exact bd2 (by show 11 < 13; decide) (by show 12 < 13; decide) ⟨mulB_le (rows s hs j jn) (bw j jn) (by omega), hK⟩
        refine ⟨(List.range n).map fun j => s.row j * w j, by rw [List.map_map]; rfl, ?_⟩
        rw [sum_rangeN]
        refine ⟨.int (s.row s.head), atI_nat (range_at (fun j => D.int (s.row j)) s1), ?_⟩
        refine ⟨dotN n s.row w, s.row s.head, rfl, ?_⟩
        refine ⟨.int (s.row s.head), atI_nat (range_at (fun j => D.int (s.row j)) s1), ?_⟩
        refine ⟨div8 gp g8, ?_⟩
        refine (lv S1).seq fun P2 hP2 => ?_
        refine lcx_M (xs := List.range n) (src := fun j => D.int (w j)) (fun j => D.int (s.row s.head / (Int.gcd (dotN n s.row w) (s.row s.head) : Int) * w j)) (hP2 _ (lv S1)) (by rw [List.length_range]; omega) (fun j hj p2 acc K hK => ?_) bind1_mono (Or.inr fun p2 => ?_)
        · have jn := List.mem_range.mp hj
          exact bd1 (by show 11 < 13; decide) ⟨mulB_le aB (bw j jn) (by omega), hK⟩
        have bW : W.natAbs < 2 ^ (1 + i * (B + 4)) := by
          have := bw h hn
          rwa [I.at_] at this
        refine ⟨mulB_le aB (bits_mul bT bW) (by omega), ?_⟩
        rw [Int.mul_left_comm _ T W]
        refine ⟨div8 gp g8, ?_⟩
        refine ⟨p2, 0, _, s.head, s.head, rfl, rfl, rfl, ?_, ?_⟩
        · rw [rng_len]
          unfold ixN
          rw [if_pos (by omega), if_pos (by omega)]
          simp
        refine ⟨mvN n s w, _, p2, (p, Cel.lst (intsL n w)) :: S1, _, _, _, _, _, ih, by rw [ek2]; exact IT, fun j hj => by rw [e4]; exact bm j hj, ?_, sub.cons _, rfl⟩
        show (p2, Cel.lst ((intsL n fun j => s.row s.head / (Int.gcd (dotN n s.row w) (s.row s.head) : Int) * w j).set s.head (.int (-(dotN n s.row w / (Int.gcd (dotN n s.row w) (s.row s.head) : Int)))))) :: _ = _
        rw [intsL_set]
        rfl
      · have no : ∀ s ∈ ss, s.head ≠ k := fun s hs e => hx ⟨s, hs, e⟩
        rw [hdK_no no]
        refine ⟨fun z => (by cases z), fun _ => ?_⟩
        refine ⟨w, W, p, S1, _, _, _, _, _, ih, by rw [ek2]; exact I.skip no, fun j hj => up_bd (bw j hj) (by omega), rfl, sub, rfl⟩
    · rintro Gl S' ⟨w, W, p, S1, o6, o7, o8, o9, o10, hi, I, bw, rfl, sub, rfl⟩
      have lr : (revS (h : Int).toNat).length = h := by unfold revS; rw [rng_len]; rfl
      rw [lr] at I bw
      rw [Nat.sub_self] at I
      have lv : ∀ S', LV ((p, Cel.lst (intsL n w)) :: S') (.ref p) (intsL n w) := fun S' => .cell (k := 0) rfl
      have le : 1 + h * (B + 4) ≤ 56029 := by
        have : h * (B + 4) ≤ 7 * (B + 4) := Nat.mul_le_mul_right _ (by omega)
        omega
      have bW : W.natAbs < 2 ^ 56029 := by
        have := bw h hn
        rw [I.at_] at this
        exact up_bd this le
      have fin : ∀ b : Int, IsMs n ss v b (fun j => (w j).fmod b) → b.natAbs < 2 ^ (c + 70000) →
          ((sSeq (sRet (eTup (aCons (eVar 5) (aCons (eCall dTuple (aCons (eLcX (iSqX (eVar 4)) [11] (bind1 11) tYs (eOp dMod (eVar 11) (eVar 5))) aNil)) aNil))))
    sNext)) (endX Q) [some (.lst (toldL n ss)), some (dR n v), some (.dct (hdK n ss)), some (.int h), some (.ref p), some (.int b), o6, o7, o8, o9, o10, none, none] ((p, Cel.lst (intsL n w)) :: S1) := fun b ms bb => by
        try walk_at "ev"
        refine (lv S1).seq fun P hP => ?_
        have b2 := ms.1
        refine lcx_M (xs := List.range n) (src := fun j => D.int (w j)) (fun j => D.int ((w j).fmod b)) (hP _ (lv S1)) (by rw [List.length_range]; omega) (fun j hj p2 acc K hK => ?_) bind1_mono (Or.inl ?_)
        · exact bd1 (by show 11 < 13; decide) ⟨by omega, hK⟩
        show fit [D.int b, dR n fun j => (w j).fmod b] _
        refine fit_of (by show 2 ≤ 1000000; decide) ?_
        exact ⟨S, sub.cons _, q b _ ms bb⟩
      try walk_at "ev"
      refine ⟨.inl (h : Int), rfl, ?_⟩
      by_cases hx : ∃ s ∈ ss, s.head = h
      · obtain ⟨s, hs, ehd⟩ := hx
        have vk : valK (hdK n ss) (.inl (h : Int)) = some (dR n s.row) := by rw [← ehd]; exact hdK_in E hs
        rw [vk]
        refine ⟨fun z => (by cases z), fun _ => ?_⟩
        have eT : T = s.row h := by
          rcases hT with ⟨t, ht, e, eT⟩ | ⟨no, _⟩
          · rw [eT, E.same ht hs (by omega)]
          · exact absurd ehd (no s hs)
        refine fin _ (I.done E hn H.2.2 H.2.1 rd (.inl ⟨s, hs, ehd, by rw [eT]⟩)) ?_
        exact up_bd (bits_mul bT bW) (by omega)
      · have no : ∀ s ∈ ss, s.head ≠ h := fun s hs e => hx ⟨s, hs, e⟩
        rw [hdK_no no]
        refine ⟨fun _ => ?_, fun z => by cases z⟩
        refine ⟨.int (v h), atI_nat (range_at (fun j => D.int (v j)) hn), ?_⟩
        refine (lv S1).ix (atI_nat (range_at (fun j => D.int (w j)) hn)) ?_
        rw [I.at_]
        refine ⟨mulB_le (hv h hn) bW (by omega), ?_⟩
        refine fin _ (I.done E hn H.2.2 H.2.1 rd (.inr ⟨no, rfl⟩)) ?_
        have h1 := bits_mul (hv h hn) bW
        have h2 : 2 ^ (c + 56029) * 2 ≤ 2 ^ (c + 70000) := by
          rw [← Nat.pow_succ]
          exact Nat.pow_le_pow_right (by decide) (by omega)
        have h3 := Nat.two_pow_pos (c + 56029)
        omega
  try walk_at "ev"
  refine ⟨.inl (h : Int), rfl, ?_⟩
  by_cases hx : ∃ s ∈ ss, s.head = h
  · obtain ⟨s, hs, ehd⟩ := hx
    have vk : valK (hdK n ss) (.inl (h : Int)) = some (dR n s.row) := by rw [← ehd]; exact hdK_in E hs
    rw [vk]
    refine ⟨fun _ => ?_, fun z => by cases z⟩
    refine ⟨.inl (h : Int), _, rfl, vk, ?_⟩
    refine ⟨.int (s.row h), atI_nat (range_at (fun j => D.int (s.row j)) H.1), ?_⟩
    exact main _ (.inl ⟨s, hs, ehd, rfl⟩) (up_bd (rows s hs h H.1) (by omega))
  · have no : ∀ s ∈ ss, s.head ≠ h := fun s hs e => hx ⟨s, hs, e⟩
    rw [hdK_no no]
    refine ⟨fun z => (by cases z), fun _ => ?_⟩
    exact main 1 (.inr ⟨no, rfl⟩) (Nat.one_lt_two_pow (by omega))
/-! ### papers -/
theorem dvd_comb {n : Nat} {w : Nat → Int} {b : Int} : ∀ {ss : List St} {cs : List Int}, (∀ s ∈ ss, b ∣ dotN n s.row w) → b ∣ dotN n (comb ss cs) w
  | [], [], _ => by
    show b ∣ sumN n fun j => 0 * w j
    rw [sumN_zero fun k _ => by rw [Int.zero_mul]]
    exact Int.dvd_zero _
  | [], _ :: _, _ => by
    show b ∣ sumN n fun j => 0 * w j
    rw [sumN_zero fun k _ => by rw [Int.zero_mul]]
    exact Int.dvd_zero _
  | _ :: _, [], _ => by
    show b ∣ sumN n fun j => 0 * w j
    rw [sumN_zero fun k _ => by rw [Int.zero_mul]]
    exact Int.dvd_zero _
  | s :: ss, c :: cs, h => by
    have e : dotN n (comb (s :: ss) (c :: cs)) w = c * dotN n s.row w + dotN n (comb ss cs) w := by
      unfold dotN
      rw [← sumN_mul, ← sumN_add]
      refine sumN_ext fun j _ => ?_
      show (c * s.row j + comb ss cs j) * w j = _
      grind
    rw [e]
    exact Int.dvd_add (Int.dvd_trans (h s (List.mem_cons_self ..)) (Int.dvd_mul_left _ _)) (dvd_comb fun t ht => h t (List.mem_cons_of_mem _ ht))
theorem IsMs.row {n : Nat} {ss : List St} {v w u : Nat → Int} {b : Int} (M : IsMs n ss v b w) (h : InL n ss u) : b ∣ dotN n u w := by
  obtain ⟨cs, _, e⟩ := h
  have : dotN n u w = dotN n (comb ss cs) w := sumN_ext fun j hj => by rw [e j hj]
  rw [this]
  exact dvd_comb M.2.2.1
theorem IsMs.alike {n : Nat} {ss : List St} {v w u : Nat → Int} {b : Int} (M : IsMs n ss v b w) (h : InL n ss fun j => u j - v j) : IsMs n ss u b w := by
  refine ⟨M.1, M.2.1, M.2.2.1, fun z => M.2.2.2 ?_⟩
  have e : dotN n v w = dotN n u w - dotN n (fun j => u j - v j) w := by
    have : dotN n u w = dotN n (fun j => u j - v j) w + dotN n v w := by
      unfold dotN
      rw [← sumN_add]
      exact sumN_ext fun j _ => by grind
    omega
  rw [e]
  exact Int.dvd_sub z (M.row h)
/-- the shares of the stands, one by one -/
def cqN (ss : List St) (v : Nat → Int) : Nat → Int := fun k => match ss[k]? with
  | some s => restS (ss.take k) v s.head / s.row s.head
  | none => 0
def ptN (ss : List St) : Mx := fun k => match ss[k]? with
  | some s => s.parts
  | none => fun _ => 0
def rwN (ss : List St) : Mx := fun k => match ss[k]? with
  | some s => s.row
  | none => fun _ => 0
theorem cqN_at {ss : List St} {v : Nat → Int} {k : Nat} {s : St} (h : ss[k]? = some s) : cqN ss v k = restS (ss.take k) v s.head / s.row s.head := by
  unfold cqN
  rw [h]
theorem ptN_at {ss : List St} {k : Nat} {s : St} (h : ss[k]? = some s) : ptN ss k = s.parts := by
  unfold ptN
  rw [h]
theorem rwN_at {ss : List St} {k : Nat} {s : St} (h : ss[k]? = some s) : rwN ss k = s.row := by
  unfold rwN
  rw [h]
theorem rest_cq {ss : List St} {v : Nat → Int} : ∀ k, k ≤ ss.length → ∀ j, restS (ss.take k) v j = v j - sumN k fun q => cqN ss v q * rwN ss q j
  | 0, _, j => by
    show v j = v j - 0
    omega
  | k + 1, hk, j => by
    have hs : ss[k]? = some ss[k] := List.getElem?_eq_getElem (by omega)
    have e1 : restS (ss.take (k + 1)) v = cutS (restS (ss.take k) v) ss[k] := by
      unfold restS
      rw [List.take_add_one, hs, Option.toList_some, List.foldl_append]
      rfl
    rw [e1]
    show restS (ss.take k) v j - restS (ss.take k) v (ss[k]).head / (ss[k]).row (ss[k]).head * (ss[k]).row j = v j - (sumN k (fun q => cqN ss v q * rwN ss q j) + cqN ss v k * rwN ss k j)
    rw [cqN_at hs, rwN_at hs, rest_cq k (by omega) j]
    omega
theorem made_G (m : Nat) (ss : List St) : (ss.map fun s => dR m s.parts) = (List.range ss.length).map fun k => dR m (ptN ss k) := by
  refine List.ext_getElem? fun i => ?_
  rw [List.getElem?_map]
  by_cases hi : i < ss.length
  · have hs : ss[i]? = some ss[i] := List.getElem?_eq_getElem hi
    rw [range_at _ hi, hs, ptN_at hs]
    rfl
  · rw [List.getElem?_eq_none (by omega), List.getElem?_eq_none (by rw [rng_len]; omega)]
    rfl
/-- the shares of the given rows -/
theorem mk_cq {n b B m : Nat} {G : Mx} {ss : List St} {v : Nat → Int} (R : RI n b B m G ss) (h : InL n ss v) : Mk n m G v fun i => sumN ss.length fun q => cqN ss v q * ptN ss q i := fun j hj => by
  have z := R.in_iff.mp h j hj
  have e := rest_cq (ss := ss) (v := v) ss.length (Nat.le_refl _) j
  rw [List.take_length, z] at e
  have e2 : v j = sumN ss.length fun q => cqN ss v q * rwN ss q j := by omega
  rw [e2]
  have e3 : (sumN m fun i => (sumN ss.length fun q => cqN ss v q * ptN ss q i) * G i j) = sumN m fun i => sumN ss.length fun q => cqN ss v q * ptN ss q i * G i j := sumN_ext fun i _ => by rw [sumN_mul' ss.length (G i j)]
  rw [e3, sumN_swap]
  refine sumN_ext fun q hq => ?_
  have hs : ss[q]? = some ss[q] := List.getElem?_eq_getElem hq
  rw [rwN_at hs, ptN_at hs, R.made _ (List.mem_of_getElem? hs) j hj, ← sumN_mul]
  exact sumN_ext fun i _ => by rw [Int.mul_assoc]
theorem mk_bd {c m r P : Nat} {cq : Nat → Int} {pt : Mx} (hr : r ≤ 7) (hc : ∀ q, q < r → (cq q).natAbs < 2 ^ c) (hp : ∀ q i, q < r → i < m → (pt q i).natAbs < 2 ^ P) : ∀ i, i < m → (sumN r fun q => cq q * pt q i).natAbs < 2 ^ (c + P + 3) := fun i hi => by
  have d0 : (sumN r fun q => cq q * pt q i).natAbs ≤ r * 2 ^ (c + P) := sumN_bd fun k hk => by
    rw [Int.natAbs_mul, Nat.pow_add]
    exact Nat.mul_lt_mul'' (hc k hk) (hp k i hk hi)
  have d1 : r * 2 ^ (c + P) ≤ 7 * 2 ^ (c + P) := Nat.mul_le_mul_right _ hr
  have p0 : 0 < 2 ^ (c + P) := Nat.two_pow_pos _
  have e4 : 2 ^ (c + P + 3) = 2 ^ (c + P) * 8 := by rw [Nat.pow_add]
  omega
theorem pure_Rows_paper {ds : List D} {S : Sto} {Q : QD} {EX : EXT} (h : sp_Rows_paper ds S Q EX) : t_Rows_paper EX (endX Q) (startG ["self", "handful", "rest", "parts", "stand", "many"] ds) S := by
  rcases h with ⟨x, n, b, B, m, G, ss, v, c, rfl, R, hc, hv, q1, q2⟩ | ⟨x, y, n, b, B, m, G, ss, rfl, R, ok, hb, q⟩
  rotate_left
  · exact R.asI fun _ _ => ⟨rfl, .inr ⟨x, y, n, b, B, m, G, ss, rfl, R, ok, hb, q⟩⟩
  have h7 := R.dim.n7
  have rows := R.ri.rows R.dim
  have hl := R.ri.tdy.ech.len
  have T := R.ri.tdy
  have nB : ∀ {k : Nat}, k < n → B + 1 + b ≤ 8000 := fun hk => R.dim.B (by omega)
  have rb : ∀ k, k ≤ ss.length → ∀ j, j < n → (restS (ss.take k) v j).natAbs < 2 ^ (c + 57000) := fun k hk j hj => by
    have h := rest_bd (ss := ss.take k) hv (fun t ht => ⟨(T.ech.one t (List.mem_of_mem_take ht)).1, rows t (List.mem_of_mem_take ht)⟩) j hj
    refine up_bd h ?_
    have : (ss.take k).length * (B + 1) ≤ 7 * 8000 := Nat.mul_le_mul (by rw [List.length_take]; omega) (by have := nB hj; omega)
    omega
  have rest0 := R.ri.rest (v := v)
  show t_Rows_paper EX (endX Q) [some x, some (dR n v), none, none, none, none] S
  unfold t_Rows_paper
  walk_at "ev"
  refine R.asI fun _ _ => ⟨rfl, .inl ⟨x, n, b, B, m, G, ss, v, c, rfl, R, hc, hv, ?_⟩⟩
  refine ⟨n, restS ss v, rfl, by omega, ?_⟩
  refine ⟨fun hz => ?_, fun hz => ?_⟩
  · have hz' : isZ n (restS ss v) = false := by simpa using hz
    obtain ⟨h, H⟩ := isZ_false hz'
    have nin : ¬ InL n ss v := fun hin => by
      rw [isZ_iff.mpr (R.ri.in_iff.mp hin)] at hz'
      cases hz'
    refine R.asI fun _ _ => ⟨rfl, x, n, b, B, m, G, ss, rfl, R, Or.inl ?_⟩
    have rr := rb ss.length (Nat.le_refl _)
    rw [List.take_length] at rr
    refine ⟨n, B, c + 57000, ss, restS ss v, h, rfl, h7, by have := nB H.1; omega, by omega, T.ech, rows, H, rr, rest0.1, fun b' w' M bb => ?_⟩
    show fit [D.str "out", D.tup [.int b', dR n w']] _
    refine fit_of (by show 2 ≤ 1000000; decide) ?_
    exact ⟨S, .refl _, q2 b' w' nin (M.alike rest0.2) (up_bd bb (by omega))⟩
  · have hz' : isZ n (restS ss v) = true := by simpa using hz
    have hin : InL n ss v := R.ri.in_iff.mpr (isZ_iff.mp hz')
    have cb : ∀ k, k < ss.length → (cqN ss v k).natAbs < 2 ^ (c + 57000) := fun k hk => by
      have hs : ss[k]? = some ss[k] := List.getElem?_eq_getElem hk
      rw [cqN_at hs]
      exact ediv_bd (rb k (by omega) _ (T.ech.one _ (List.mem_of_getElem? hs)).1)
    try walk_at "ev"
    show fit [] _
    refine fit_of (by decide) (Or.inr fun p => ?_)
    refine (R.push _).asI fun _ _ => ⟨_, rfl, ?_⟩
    refine ⟨fun k Gl S' => S' = (p, Cel.lst (intsL k (cqN ss v))) :: S ∧ ∃ o4 o5 : Option D, Gl = [some x, some (dR n (restS (ss.take k) v)), some (dR n (restS ss v)), some (.ref p), o4, o5], ⟨rfl, none, none, rfl⟩, ?_, ?_⟩
    · rintro k d Gl S' e ⟨rfl, o4, o5, rfl⟩
      rw [List.getElem?_map] at e
      obtain ⟨s, hs, rfl⟩ := Option.map_eq_some_iff.mp e
      have hk : k < ss.length := (List.getElem?_eq_some_iff.mp hs).1
      have sm := List.mem_of_getElem? hs
      have H := T.ech.head s sm
      obtain ⟨_, _, hp⟩ := T.ech.one s sm
      have mb : (-(restS (ss.take k) v s.head / s.row s.head)).natAbs < 2 ^ (c + 57000) := by
        rw [Int.natAbs_neg, ← cqN_at (v := v) hs]
        exact cb k hk
      refine ⟨rfl, _, rfl, .int (restS (ss.take k) v s.head), atI_nat (range_at (fun j => D.int (restS (ss.take k) v j)) H.1), rfl, rfl, n, m, s, rfl, H.1, div8 hp (rows8 R.dim H.1 (rows s sm _ H.1)), ?_⟩
      refine ⟨rfl, _, rfl, 1, _, n, restS (ss.take k) v, s.row, rfl, by omega, fun j hj => ⟨mul1_ok _, mulB_le mb (rows s sm j hj) (by have := nB hj; omega)⟩, ?_⟩
      rw [rest_D]
      refine ⟨⟨0, _, rfl, trivial⟩, ?_⟩
      refine ⟨0, _, rfl, by rw [intsL_len]; show k < 16777216; omega, ?_⟩
      have e1 : restS (ss.take (k + 1)) v = cutS (restS (ss.take k) v) s := by
        unfold restS
        rw [List.take_add_one, hs, Option.toList_some, List.foldl_append]
        rfl
      have e2 : intsL k (cqN ss v) ++ [D.int (restS (ss.take k) v s.head / s.row s.head)] = intsL (k + 1) (cqN ss v) := by
        unfold intsL
        rw [range_snoc, cqN_at hs]
      refine ⟨?_, some (dS n m s), some (.int (restS (ss.take k) v s.head / s.row s.head)), ?_⟩
      · rw [← e2]
        rfl
      · rw [e1]
        rfl
    · rintro Gl S' ⟨rfl, o4, o5, rfl⟩
      rw [List.length_map, List.take_length]
      refine ⟨0, rfl, ?_⟩
      try walk_at "ev"
      refine R.asI fun _ _ => ⟨rfl, x, n, b, B, m, G, ss, rfl, R, Or.inl ?_⟩
      refine R.asI fun y hy => ⟨_, rfl, hy.len ?_⟩
      show sp_sum_of [D.lst (intsL ss.length (cqN ss v)), D.lst (ss.map fun s => dR m s.parts), .int ((rowsL n m G).length : Nat)] S _ EX
      rw [rowsL_len, made_G]
      refine ⟨ss.length, m, cqN ss v, ptN ss, ⟨_, .inr rfl, rfl⟩, by omega, by have := R.m100; omega, fun k i hk hi => ?_, ?_⟩
      · have hs : ss[k]? = some ss[k] := List.getElem?_eq_getElem hk
        rw [ptN_at hs]
        refine mulB_le (cb k hk) (R.ri.bp _ (List.mem_of_getElem? hs) i hi) ?_
        unfold PB
        have := R.m100
        have : m * 300000 ≤ 100 * 300000 := Nat.mul_le_mul_right _ this
        omega
      show fit [D.str "in", dR m fun i => sumN ss.length fun q => cqN ss v q * ptN ss q i] _
      refine fit_of (by show 2 ≤ 1000000; decide) ?_
      refine ⟨S, .refl _, q1 _ hin (mk_cq R.ri hin) fun i hi => ?_⟩
      refine up_bd (mk_bd (by omega) cb (P := PB m) (fun q i hq hi => ?_) i hi) (by omega)
      have hs : ss[q]? = some ss[q] := List.getElem?_eq_getElem hq
      rw [ptN_at hs]
      exact R.ri.bp _ (List.mem_of_getElem? hs) i hi
theorem rw_at {ss : List St} {k : Nat} {s : St} (h : ss[k]? = some s) : rw_ ss k (hd ss k) = s.row s.head := by
  unfold rw_ hd
  rw [List.getD_eq_getElem?_getD, h]
  rfl
theorem pure_Rows_classes {ds : List D} {S : Sto} {Q : QD} {EX : EXT} (h : sp_Rows_classes ds S Q EX) : t_Rows_classes EX (endS Q) (startG ["self", "found", "stand"] ds) S := by
  obtain ⟨x, n, b, B, m, G, ss, rfl, R, q⟩ := h
  have h7 := R.dim.n7
  have rows := R.ri.rows R.dim
  have hl := R.ri.tdy.ech.len
  have T := R.ri.tdy
  show t_Rows_classes EX (endS Q) [some x, none, none] S
  unfold t_Rows_classes
  walk_at "ev"
  refine R.asI fun _ _ => ⟨_, rfl, ?_⟩
  show dLen [.lst (ss.map (dS n m))] S _
  refine LV.len (.lst _) ?_
  rw [List.length_map]
  refine R.asI fun _ _ => ⟨_, rfl, ?_⟩
  refine ⟨fun hz => ?_, fun hz => ?_⟩
  · have hz' : ss.length < n := by
      have : (ss.length : Int) < (n : Int) := of_decide_eq_true hz
      omega
    rw [if_pos hz'] at q
    exact q
  · have hz' : ¬ ss.length < n := by
      have : ¬ (ss.length : Int) < (n : Int) := of_decide_eq_false hz
      omega
    rw [if_neg hz'] at q
    refine R.asI fun _ _ => ⟨_, rfl, ?_⟩
    refine ⟨fun k Gl S' => S' = S ∧ ∃ o2 : Option D, (prodN k fun k => rw_ ss k (hd ss k)).natAbs < 2 ^ (1 + k * B) ∧ Gl = [some x, some (.int (prodN k fun k => rw_ ss k (hd ss k))), o2], ⟨rfl, none, by rw [Nat.zero_mul]; show 1 < 2; decide, rfl⟩, ?_, ?_⟩
    · rintro k d Gl S' e ⟨rfl, o2, bp, rfl⟩
      rw [List.getElem?_map] at e
      obtain ⟨s, hs, rfl⟩ := Option.map_eq_some_iff.mp e
      have hk : k < ss.length := (List.getElem?_eq_some_iff.mp hs).1
      have sm := List.mem_of_getElem? hs
      have H := T.ech.head s sm
      have rB := rows s sm _ H.1
      have hB := R.dim.B (show 0 < n by have := H.1; omega)
      have lk : k * B ≤ 7 * 8000 := Nat.mul_le_mul (by omega) (by omega)
      refine ⟨rfl, rfl, n, m, s, rfl, H.1, mulB_le bp rB (by omega), ?_⟩
      have e1 : (prodN (k + 1) fun k => rw_ ss k (hd ss k)) = (prodN k fun k => rw_ ss k (hd ss k)) * s.row s.head := by
        show prodN k _ * rw_ ss k (hd ss k) = _
        rw [rw_at hs]
      refine ⟨rfl, some (dS n m s), ?_, ?_⟩
      · rw [e1, Nat.add_mul, Nat.one_mul, ← Nat.add_assoc]
        exact bits_mul bp rB
      · rw [e1]
        rfl
    · rintro Gl S' ⟨rfl, o2, bp, rfl⟩
      rw [List.length_map]
      exact q
end LK
end

section
set_option autoImplicit false
set_option maxRecDepth 100000
set_option maxHeartbeats 4000000
namespace LK
open PySem PySem.Spec PyProof.Rows L2 DL
open PySem.W (Frag)
/-! ### measures and papers by data -/
theorem hand_dR {x : D} {m : Nat} (h : handB x m = true) : ∃ p : Nat → Int, x = dR m p := by
  cases x <;> first | (cases h; done) | skip
  case tup es =>
    have h' : (decide ((es.length : Int) = m) && es.all isIntD) = true := h
    rw [Bool.and_eq_true, decide_eq_true_eq, List.all_eq_true] at h'
    obtain ⟨p, e, _⟩ := row_of (ys := es) (c := m) (P := fun _ => True) (by omega) fun j y ej => by
      have := h'.2 y (List.mem_of_getElem? ej)
      cases y <;> first | (cases this; done) | exact ⟨_, rfl, trivial⟩
    exact ⟨p, e⟩
def msB (x : D) (w : Int) : Bool := match x with
  | .tup [.int b, r] => decide (2 ≤ b) && handB r w
  | _ => false
theorem ms_dR {x : D} {n : Nat} (h : msB x n = true) : ∃ (b : Int) (w : Nat → Int), x = .tup [.int b, dR n w] ∧ 2 ≤ b := by
  unfold msB at h
  split at h
  · rename_i b r
    rw [Bool.and_eq_true, decide_eq_true_eq] at h
    obtain ⟨w, e⟩ := hand_dR h.2
    exact ⟨b, w, by rw [e], h.1⟩
  · cases h
theorem ms_is {n : Nat} {b : Int} {w : Nat → Int} (h : 2 ≤ b) : msB (.tup [.int b, dR n w]) n = true := by
  show (decide (2 ≤ b) && handB (dR n w) n) = true
  rw [decide_eq_true h, handR]
  rfl
def getI (x : D) (i : Nat) : Int := match x with
  | .tup es => pickI (es.getD i .non)
  | _ => 0
theorem getI_dR {m i : Nat} {p : Nat → Int} (h : i < m) : getI (dR m p) i = p i := by
  show pickI (((List.range m).map fun j => D.int (p j)).getD i .non) = _
  rw [List.getD_eq_getElem?_getD, range_at (fun j => D.int (p j)) h]
  rfl
def firstN (n : Nat) (P : Nat → Bool) : Option Nat := (List.range n).find? P
theorem firstN_none {n : Nat} {P : Nat → Bool} : firstN n P = none ↔ ∀ j, j < n → P j = false := by
  unfold firstN
  rw [List.find?_range_eq_none]
  exact ⟨fun h j hj => by simpa using h j hj, fun h j hj => by simpa using h j hj⟩
theorem firstN_some {n k : Nat} {P : Nat → Bool} : firstN n P = some k ↔ k < n ∧ P k = true ∧ ∀ j, j < k → P j = false := by
  unfold firstN
  rw [List.find?_range_eq_some]
  exact ⟨fun ⟨a, b, c⟩ => ⟨List.mem_range.mp b, a, fun j hj => by simpa using c j hj⟩, fun ⟨a, b, c⟩ => ⟨b, List.mem_range.mpr a, fun j hj => by simpa using c j hj⟩⟩
theorem firstN_ext {n : Nat} {P P' : Nat → Bool} (h : ∀ j, j < n → P j = P' j) : firstN n P = firstN n P' := by
  cases e : firstN n P' with
  | none => exact firstN_none.mpr fun j hj => (h j hj).trans (firstN_none.mp e j hj)
  | some k =>
    obtain ⟨a, b, c⟩ := firstN_some.mp e
    exact firstN_some.mpr ⟨a, (h k a).trans b, fun j hj => (h j (by omega)).trans (c j hj)⟩
/-- where shares fail -/
def inF (n m : Nat) (G : Mx) (v : Nat → Int) (x : D) : Option Int := match handB x m with
  | true => (firstN n fun j => decide ((sumN m fun i => getI x i * G i j) ≠ v j)).map fun (k : Nat) => (k : Int)
  | false => some (-1)
def msN (x : D) : Int := match x with
  | .tup (.int b :: _) => b
  | _ => 0
def msW (x : D) : Nat → Int := match x with
  | .tup [_, r] => getI r
  | _ => fun _ => 0
/-- where a measure fails -/
def outF (n m : Nat) (G : Mx) (v : Nat → Int) (x : D) : Option Int := match msB x n with
  | true => (match firstN m fun i => decide ((dotN n (msW x) (G i)).fmod (msN x) ≠ 0) with
    | some k => some (k : Int)
    | none => if (dotN n (msW x) v).fmod (msN x) = 0 then some (m : Int) else none)
  | false => some (-1)
def pF (n m : Nat) (G : Mx) (v : Nat → Int) (x : D) : Option Int := match x with
  | .tup [.str s, part] => if s = "in" then inF n m G v part else if s = "out" then outF n m G v part else some (-1)
  | _ => some (-1)
/-- told, or refused at a number -/
def finP (Q : QD) (EX : EXT) (S : Sto) (o : Option Int) : Prop := match o with
  | none => Q .non S
  | some k => EX .NoPaper [("at", .int k)] S
def okM (x : D) : Prop := Pln x ∧ ∀ es, x = .tup es → es.length ≤ 1000000 ∧ ∀ e ∈ es, okE e
def okP (x : D) : Prop := Pln x ∧ ∀ es, x = .tup es → es.length ≤ 1000000 ∧ ∀ a b, es = [a, b] → flatD a = true ∧ okE b ∧ okM b
theorem dot_len {n : Nat} {w w' v v' : Nat → Int} (h : ∀ j, j < n → w j = w' j) (h' : ∀ j, j < n → v j = v' j) : dotN n w v = dotN n w' v' := sumN_ext fun j hj => by rw [h j hj, h' j hj]
def sp_is_measure : FSp := fun ds S Q _ => ∃ (x : D) (w : Int), ds = [x, .int w] ∧ okM x ∧ Q (.bl (msB x w)) S
def sp_comes_to : FSp := fun ds S Q _ => ∃ (b : Int) (n : Nat) (w v : Nat → Int), ds = [.tup [.int b, dR n w], dR n v] ∧ n ≤ 1000000 ∧ b ≠ 0 ∧ (∀ j, j < n → MulB (w j) (v j)) ∧ Q (.int ((dotN n w v).fmod b)) S
def sp_check_in : FSp := fun ds S Q EX => ∃ (n m : Nat) (G : Mx) (v : Nat → Int) (x : D), ds = [.int n, dG m n G, dR n v, x] ∧ n ≤ 1000000 ∧ m ≤ 1000000 ∧ okE x ∧ (∀ p, x = dR m p → ∀ i j, i < m → j < n → MulB (p i) (G i j)) ∧ finP Q EX S (inF n m G v x)
def sp_check_out : FSp := fun ds S Q EX => ∃ (n m : Nat) (G : Mx) (v : Nat → Int) (x : D), ds = [.int n, dG m n G, dR n v, x] ∧ n ≤ 1000000 ∧ m ≤ 1000000 ∧ okM x ∧ (∀ b w, x = .tup [.int b, dR n w] → (∀ i j, i < m → j < n → MulB (w j) (G i j)) ∧ ∀ j, j < n → MulB (w j) (v j)) ∧ finP Q EX S (outF n m G v x)
def sp_check_paper : FSp := fun ds S Q EX => (∃ (n m : Nat) (G : Mx) (v : Nat → Int) (x : D), ds = [.int n, dG m n G, dR n v, x] ∧ n ≤ 1000000 ∧ m ≤ 1000000 ∧ okP x ∧ (∀ s p, x = .tup [s, dR m p] → ∀ i j, i < m → j < n → MulB (p i) (G i j)) ∧
    (∀ s b w, x = .tup [s, .tup [.int b, dR n w]] → (∀ i j, i < m → j < n → MulB (w j) (G i j)) ∧ ∀ j, j < n → MulB (w j) (v j)) ∧ finP Q EX S (pF n m G v x)) ∨
  (∃ (w : Int) (y h x : D), ds = [.int w, y, h, x] ∧ ChkL y w S False fun k => EX .NoRow [("at", .int k)] S) ∨
  ∃ (n m : Nat) (G : Mx) (h x : D), ds = [.int n, dG m n G, h, x] ∧ n ≤ 1000000 ∧ m ≤ 1000000 ∧ okE h ∧ handB h n = false ∧ EX .NoRow [("at", .int 0)] S
theorem ln_is_measure : ∀ ds S Q EX, sp_is_measure ds S Q EX → ds.length = 2 := fun ds S Q EX ⟨_, _, e, _⟩ => by rw [e]; rfl
theorem ln_comes_to : ∀ ds S Q EX, sp_comes_to ds S Q EX → ds.length = 2 := fun ds S Q EX ⟨_, _, _, _, e, _⟩ => by rw [e]; rfl
theorem ln_check_in : ∀ ds S Q EX, sp_check_in ds S Q EX → ds.length = 4 := fun ds S Q EX ⟨_, _, _, _, _, e, _⟩ => by rw [e]; rfl
theorem ln_check_out : ∀ ds S Q EX, sp_check_out ds S Q EX → ds.length = 4 := fun ds S Q EX ⟨_, _, _, _, _, e, _⟩ => by rw [e]; rfl
theorem ln_check_paper : ∀ ds S Q EX, sp_check_paper ds S Q EX → ds.length = 4 := fun ds S Q EX h => by
  rcases h with ⟨_, _, _, _, _, e, _⟩ | ⟨_, _, _, _, e, _⟩ | ⟨_, _, _, _, _, e, _⟩ <;> (rw [e]; rfl)
/-! ### readings -/
-- 0 thing, 1 wide
def t_is_measure (EX : EXT) : TSd := (sSeq (sIf (tOo (tNo (tVal (eCall dIsi (aCons (eVar 0) (aCons (eC (.ty "tuple")) aNil))))) (tEq true (eCall dLen (aCons (eVar 0) aNil)) (eC (.int 2)))) (sSeq (sRet (eC (.bl false)))
    sNext) sNext)
    (sSeq (sRet (eAn (eFn sp_is_whole (kX EX) [] (aCons (eOp dIx (eVar 0) (eC (.int 0))) aNil)) (eAn (eOrd .GtE (eOp dIx (eVar 0) (eC (.int 0))) (eC (.int 2))) (eFn sp_is_handful (kX EX) [] (aCons (eOp dIx (eVar 0) (eC (.int 1))) (aCons (eVar 1) aNil))))))
    sNext))
-- 0 measure, 1 handful, 2 one, 3 other
def t_comes_to (EX : EXT) : TSd := (sSeq (sRet (eOp dMod (eCall dSum (aCons (eLc (iZp (aCons (eOp dIx (eVar 0) (eC (.int 1))) (aCons (eVar 1) aNil))) [2, 3] (bind2 2 3) tYs (eOp dMul (eVar 2) (eVar 3))) aNil)) (eOp dIx (eVar 0) (eC (.int 0)))))
    sNext)
-- 0 wide, 1 rows, 2 handful, 3 parts, 4 made, 5 column
def t_check_in (EX : EXT) : TSd := (sSeq (sIf (tNo (tVal (eFn sp_is_handful (kX EX) [] (aCons (eVar 3) (aCons (eCall dLen (aCons (eVar 1) aNil)) aNil))))) (sSeq (sRaise .NoPaper ["at"] (kX EX) (aCons (eUn dNeg (eC (.int 1))) aNil))
    sNext) sNext)
    (sSeq (sSet 4 (eFn sp_sum_of (kX EX) [] (aCons (eVar 3) (aCons (eVar 1) (aCons (eVar 0) aNil)))))
    (sSeq (sFor (iR1 (aCons (eVar 0) aNil)) (gNm 5) (sSeq (sIf (tEq true (eOp dIx (eVar 4) (eVar 5)) (eOp dIx (eVar 2) (eVar 5))) (sSeq (sRaise .NoPaper ["at"] (kX EX) (aCons (eVar 5) aNil))
    sNext) sNext)
    sNext))
    sNext)))
-- 0 wide, 1 rows, 2 handful, 3 measure, 4 at, 5 row
def t_check_out (EX : EXT) : TSd := (sSeq (sIf (tNo (tVal (eFn sp_is_measure (kX EX) [] (aCons (eVar 3) (aCons (eVar 0) aNil))))) (sSeq (sRaise .NoPaper ["at"] (kX EX) (aCons (eUn dNeg (eC (.int 1))) aNil))
    sNext) sNext)
    (sSeq (sFor (iEn (aCons (eVar 1) aNil)) (gTp 2 (gsCons (gNm 4) (gsCons (gNm 5) gsNil))) (sSeq (sIf (tEq true (eFn sp_comes_to (kX EX) [] (aCons (eVar 3) (aCons (eVar 5) aNil))) (eC (.int 0))) (sSeq (sRaise .NoPaper ["at"] (kX EX) (aCons (eVar 4) aNil))
    sNext) sNext)
    sNext))
    (sSeq (sIf (tEq false (eFn sp_comes_to (kX EX) [] (aCons (eVar 3) (aCons (eVar 2) aNil))) (eC (.int 0))) (sSeq (sRaise .NoPaper ["at"] (kX EX) (aCons (eCall dLen (aCons (eVar 1) aNil)) aNil))
    sNext) sNext)
    sNext)))
-- 0 wide, 1 rows, 2 handful, 3 paper
def t_check_paper (EX : EXT) : TSd := (sSeq (sEx (eFn sp_check_list (kX EX) [] (aCons (eVar 1) (aCons (eVar 0) aNil))))
    (sSeq (sEx (eFn sp_check_handful (kX EX) [] (aCons (eVar 2) (aCons (eVar 0) aNil))))
    (sSeq (sIf (tOo (tNo (tVal (eCall dIsi (aCons (eVar 3) (aCons (eC (.ty "tuple")) aNil))))) (tOo (tEq true (eCall dLen (aCons (eVar 3) aNil)) (eC (.int 2))) (tIn true (eOp dIx (eVar 3) (eC (.int 0))) (eTup (aCons (eC (.str ("in" : PySem.Str))) (aCons (eC (.str ("out" : PySem.Str))) aNil)))))) (sSeq (sRaise .NoPaper ["at"] (kX EX) (aCons (eUn dNeg (eC (.int 1))) aNil))
    sNext) sNext)
    (sSeq (sIf (tEq false (eOp dIx (eVar 3) (eC (.int 0))) (eC (.str ("in" : PySem.Str)))) (sSeq (sEx (eFn sp_check_in (kX EX) [] (aCons (eVar 0) (aCons (eVar 1) (aCons (eVar 2) (aCons (eOp dIx (eVar 3) (eC (.int 1))) aNil))))))
    sNext) (sSeq (sEx (eFn sp_check_out (kX EX) [] (aCons (eVar 0) (aCons (eVar 1) (aCons (eVar 2) (aCons (eOp dIx (eVar 3) (eC (.int 1))) aNil))))))
    sNext))
    sNext))))
local macro_rules | `(tactic| walk_at "ev") => `(tactic| dsimp only [sSeq, sRet, sIf, sSet, sFor, sNext, sEx, sPar, sAsg, DL.sFld, eAn, eOo, eNo, eCall, eFn, eMeth, eNew, eFld, aCons, aNil, eVar, rd, eC, eOp, eUn, eEq, eOrd, tEq, tOrd, tVal, tNo, tAn, tOo, tEqL, eEqL, tNone, eTup, eLst, eSl, oNo, oSome, eRev, iR1, iR2, iSq, iZp, sForX, iSqX, iEnX, iZpX, one_eq, eLcX_eq, gNm, gTp, gsCons, gsNil, eLc_eq, inG, List.set_cons_zero, List.set_cons_succ, List.getElem?_cons_zero, List.getElem?_cons_succ, List.append_nil])
theorem pure_is_measure {ds : List D} {S : Sto} {Q : QD} {EX : EXT} (h : sp_is_measure ds S Q EX) : t_is_measure EX (endS Q) (startG ["thing", "wide"] ds) S := by
  obtain ⟨x, w, rfl, ⟨hx, he⟩, q⟩ := h
  show t_is_measure EX (endS Q) [some x, some (.int w)] S
  unfold t_is_measure
  walk_at "ev"
  refine isi_tuple hx ?_
  refine ⟨fun h => ⟨fun _ => ?_, fun z => by cases z⟩, fun h => ?_⟩
  · cases x <;> first | exact q | (cases h; done)
  cases x <;> first | (cases h; done) | skip
  case tup es =>
    obtain ⟨hz, hp⟩ := he es rfl
    refine ⟨fun h2 => ?_, fun h2 => ?_⟩
    · have : msB (.tup es) w = false := by
        have h3 : ¬ (es.length : Int) = 2 := by simpa using h2
        match es, h3 with
        | [], _ => rfl
        | [a], _ => cases a <;> rfl
        | [a, b], h3 => exact absurd rfl h3
        | a :: b :: c :: r, _ => cases a <;> rfl
      rw [this] at q
      exact q
    · have h3 : (es.length : Int) = 2 := by simpa using h2
      match es, h3 with
      | [a, r], _ =>
        have oa := hp a (by simp)
        have orr := hp r (by simp)
        refine ⟨a, rfl, a, rfl, oa.1, ?_⟩
        cases a with
        | int b =>
          refine ⟨fun _ => ⟨.int b, rfl, ?_⟩, fun z => by cases z⟩
          show (decide (b ≥ 2) = true → _) ∧ _
          refine ⟨fun hb => ⟨r, rfl, r, w, rfl, orr.1, orr.2, ?_⟩, fun hb => ?_⟩
          · have : msB (.tup [.int b, r]) w = handB r w := by
              show (decide (2 ≤ b) && handB r w) = _
              rw [decide_eq_true (by simpa using hb)]
              rfl
            rw [← this]
            exact q
          · have : msB (.tup [.int b, r]) w = false := by
              show (decide (2 ≤ b) && handB r w) = _
              rw [decide_eq_false (fun z => (of_decide_eq_false hb : ¬ b ≥ 2) z)]
              rfl
            rw [this] at q
            exact q
        | _ => exact ⟨fun z => (by cases z), fun _ => q⟩
theorem pure_comes_to {ds : List D} {S : Sto} {Q : QD} {EX : EXT} (h : sp_comes_to ds S Q EX) : t_comes_to EX (endS Q) (startG ["measure", "handful", "one", "other"] ds) S := by
  obtain ⟨b, n, w, v, rfl, hn, hb, hB, q⟩ := h
  show t_comes_to EX (endS Q) [some (.tup [.int b, dR n w]), some (dR n v), none, none] S
  refine ⟨dR n w, rfl, ?_⟩
  show LcIn [some (.tup [.int b, dR n w]), some (dR n v), none, none] [2, 3] (bind2 2 3) tYs (eOp dMul (eVar 2) (eVar 3)) (zipD ((List.range n).map fun j => D.int (w j)) ((List.range n).map fun j => D.int (v j))) S _
  rw [zip_range]
  refine lc_M (xs := List.range n) (src := fun j => D.tup [D.int (w j), D.int (v j)]) (fun j => D.int (w j * v j)) (by rw [List.length_range]; omega) (fun j hj p2 acc2 K2 hK2 => ?_) bind2_mono' (Or.inl ?_)
  · exact bd2 (by show 2 < 4; decide) (by show 3 < 4; decide) ⟨hB j (List.mem_range.mp hj), hK2⟩
  refine ⟨(List.range n).map fun j => w j * v j, by rw [List.map_map]; rfl, ?_⟩
  rw [sum_rangeN]
  exact ⟨.int b, rfl, hb, q⟩
theorem pure_check_in {ds : List D} {S : Sto} {Q : QD} {EX : EXT} (h : sp_check_in ds S Q EX) : t_check_in EX (endS Q) (startG ["wide", "rows", "handful", "parts", "made", "column"] ds) S := by
  obtain ⟨n, m, G, v, x, rfl, hn, hm, ok, hB, q⟩ := h
  show t_check_in EX (endS Q) [some (.int n), some (dG m n G), some (dR n v), some x, none, none] S
  unfold t_check_in
  walk_at "ev"
  refine len_G ?_
  refine ⟨x, m, rfl, ok.1, ok.2, ?_⟩
  unfold inF at q
  cases hx : handB x m with
  | false =>
    rw [hx] at q
    exact ⟨fun _ => q, fun z => by cases z⟩
  | true =>
    rw [hx] at q
    obtain ⟨p, rfl⟩ := hand_dR hx
    refine ⟨fun z => (by cases z), fun _ => ?_⟩
    refine ⟨m, n, p, G, ⟨_, .inl rfl, rfl⟩, hm, hn, fun i j hi hj => hB p rfl i j hi hj, ?_⟩
    have eq : (firstN n fun j => decide ((sumN m fun i => getI (dR m p) i * G i j) ≠ v j)) = firstN n fun j => decide ((sumN m fun i => p i * G i j) ≠ v j) := firstN_ext fun j hj => by
      rw [show (sumN m fun i => getI (dR m p) i * G i j) = sumN m fun i => p i * G i j from sumN_ext fun i hi => by rw [getI_dR hi]]
    dsimp only at q
    rw [eq] at q
    refine ⟨⟨by omega, by omega⟩, ?_⟩
    rw [Int.toNat_natCast, span_map]
    refine ⟨fun k Gl S' => S' = S ∧ (∀ j, j < k → (sumN m fun i => p i * G i j) = v j) ∧ ∃ o : Option D, Gl = [some (.int n), some (dG m n G), some (dR n v), some (dR m p), some (dR n fun j => sumN m fun i => p i * G i j), o], ⟨rfl, fun j hj => absurd hj (by omega), none, rfl⟩, ?_, ?_⟩
    · rintro k d Gl S' e ⟨rfl, ha, o, rfl⟩
      obtain ⟨hk, rfl⟩ := range_get e
      refine ⟨.int (sumN m fun i => p i * G i k), atI_nat (range_at (fun j => D.int (sumN m fun i => p i * G i j)) hk), .int (v k), atI_nat (range_at (fun j => D.int (v j)) hk), ?_⟩
      show ((!decide ((sumN m fun i => p i * G i k) = v k)) = true → _) ∧ _
      refine ⟨fun hd => ?_, fun hd => ?_⟩
      · have hne : ¬ (sumN m fun i => p i * G i k) = v k := by simpa using hd
        rw [firstN_some.mpr ⟨hk, decide_eq_true hne, fun j hj => by simpa using ha j hj⟩] at q
        exact q
      · have he : (sumN m fun i => p i * G i k) = v k := by simpa using hd
        refine ⟨rfl, fun j hj => ?_, _, rfl⟩
        by_cases ej : j = k
        · subst ej
          exact he
        · exact ha j (by omega)
    · rintro Gl S' ⟨rfl, ha, o, rfl⟩
      rw [rng_len] at ha
      rw [firstN_none.mpr fun j hj => by simpa using ha j hj] at q
      exact q
theorem dG_at {m n k : Nat} {G : Mx} {d : D} (e : (enumD ((List.range m).map fun i => dR n (G i)))[k]? = some d) : k < m ∧ d = .tup [.int (k : Int), dR n (G k)] := by
  obtain ⟨x, hx, rfl⟩ := enum_at e
  obtain ⟨hk, rfl⟩ := range_get hx
  exact ⟨hk, rfl⟩
theorem pure_check_out {ds : List D} {S : Sto} {Q : QD} {EX : EXT} (h : sp_check_out ds S Q EX) : t_check_out EX (endS Q) (startG ["wide", "rows", "handful", "measure", "at", "row"] ds) S := by
  obtain ⟨n, m, G, v, x, rfl, hn, hm, ok, hB, q⟩ := h
  show t_check_out EX (endS Q) [some (.int n), some (dG m n G), some (dR n v), some x, none, none] S
  unfold t_check_out
  walk_at "ev"
  refine ⟨x, n, rfl, ok, ?_⟩
  unfold outF at q
  cases hx : msB x n with
  | false =>
    rw [hx] at q
    exact ⟨fun _ => q, fun z => by cases z⟩
  | true =>
    rw [hx] at q
    obtain ⟨b, w, rfl, h2⟩ := ms_dR hx
    obtain ⟨B1, B2⟩ := hB b w rfl
    refine ⟨fun z => (by cases z), fun _ => ?_⟩
    have eW : ∀ u : Nat → Int, dotN n (msW (.tup [.int b, dR n w])) u = dotN n w u := fun u => dot_len (fun j hj => getI_dR hj) fun j hj => rfl
    have eN : msN (.tup [.int b, dR n w]) = b := rfl
    simp only [eW, eN] at q
    refine ⟨fun k Gl S' => S' = S ∧ (∀ i, i < k → (dotN n w (G i)).fmod b = 0) ∧ ∃ o o' : Option D, Gl = [some (.int n), some (dG m n G), some (dR n v), some (.tup [.int b, dR n w]), o, o'], ⟨rfl, fun j hj => absurd hj (by omega), none, none, rfl⟩, ?_, ?_⟩
    · rintro k d Gl S' e ⟨rfl, ha, o, o', rfl⟩
      obtain ⟨hk, rfl⟩ := dG_at e
      refine ⟨b, n, w, G k, rfl, hn, by omega, fun j hj => B1 k j hk hj, ?_⟩
      show ((!decide ((dotN n w (G k)).fmod b = 0)) = true → _) ∧ _
      refine ⟨fun hd => ?_, fun hd => ?_⟩
      · have hne : ¬ (dotN n w (G k)).fmod b = 0 := by simpa using hd
        rw [firstN_some.mpr ⟨hk, decide_eq_true hne, fun j hj => by simpa using ha j hj⟩] at q
        exact q
      · have he : (dotN n w (G k)).fmod b = 0 := by simpa using hd
        refine ⟨rfl, fun j hj => ?_, _, _, rfl⟩
        by_cases ej : j = k
        · subst ej
          exact he
        · exact ha j (by omega)
    · rintro Gl S' ⟨rfl, ha, o, o', rfl⟩
      rw [enum_len, rng_len] at ha
      rw [firstN_none.mpr fun j hj => by simpa using ha j hj] at q
      refine ⟨b, n, w, v, rfl, hn, by omega, B2, ?_⟩
      show (decide ((dotN n w v).fmod b = 0) = true → _) ∧ _
      refine ⟨fun hd => ?_, fun hd => ?_⟩
      · have he : (dotN n w v).fmod b = 0 := by simpa using hd
        dsimp only at q
        rw [if_pos he] at q
        exact (len_G q : dLen [dG m n G] S' fun d S1 => raiseF ["at"] [d] fun fs => EX .NoPaper fs S1)
      · have hne : ¬ (dotN n w v).fmod b = 0 := by simpa using hd
        dsimp only at q
        rw [if_neg hne] at q
        exact q
theorem in_two {x : D} (h : flatD x = true) : inD x [.str "in", .str "out"] = true ↔ x = .str "in" ∨ x = .str "out" := by
  cases x <;> first | (cases h; done) | skip
  case non => exact ⟨fun z => (by cases z), fun z => by rcases z with z | z <;> cases z⟩
  case bl => exact ⟨fun z => (by cases z), fun z => by rcases z with z | z <;> cases z⟩
  case int => exact ⟨fun z => (by cases z), fun z => by rcases z with z | z <;> cases z⟩
  case str s =>
    show ((("in" : PySem.Str) == s) || ((("out" : PySem.Str) == s) || false)) = true ↔ _
    rw [Bool.or_false, Bool.or_eq_true, beq_iff_eq, beq_iff_eq]
    exact ⟨fun z => z.imp (fun e => by rw [e]) fun e => by rw [e], fun z => z.imp (fun e => (D.str.inj e).symm) fun e => (D.str.inj e).symm⟩
theorem pure_check_paper {ds : List D} {S : Sto} {Q : QD} {EX : EXT} (h : sp_check_paper ds S Q EX) : t_check_paper EX (endS Q) (startG ["wide", "rows", "handful", "paper"] ds) S := by
  rcases h with ⟨n, m, G, v, x, rfl, hn, hm, ok, B1, B2, q⟩ | ⟨w, y, h, x, rfl, hb⟩ | ⟨n, m, G, h, x, rfl, hn, hm, ok, hb, q⟩
  rotate_left
  · show t_check_paper EX (endS Q) [some (.int w), some y, some h, some x] S
    unfold t_check_paper
    walk_at "ev"
    exact hb.bad
  · show t_check_paper EX (endS Q) [some (.int n), some (dG m n G), some h, some x] S
    unfold t_check_paper
    walk_at "ev"
    refine check_ok hm hn ?_
    exact chk_bad ok hb q
  show t_check_paper EX (endS Q) [some (.int n), some (dG m n G), some (dR n v), some x] S
  unfold t_check_paper
  walk_at "ev"
  refine check_ok hm hn ?_
  refine chk_hand hn ?_
  refine isi_tuple ok.1 ?_
  refine ⟨fun h => ⟨fun _ => ?_, fun z => by cases z⟩, fun h => ?_⟩
  · have : pF n m G v x = some (-1) := by cases x <;> first | rfl | (cases h; done)
    rw [this] at q
    exact q
  cases x <;> first | (cases h; done) | skip
  case tup es =>
    obtain ⟨hz, hp⟩ := ok.2 es rfl
    refine ⟨fun h2 => ⟨fun _ => ?_, fun z => by cases z⟩, fun h2 => ?_⟩
    · have : pF n m G v (.tup es) = some (-1) := by
        have h3 : ¬ (es.length : Int) = 2 := by simpa using h2
        match es, h3 with
        | [], _ => rfl
        | [a], _ => cases a <;> rfl
        | [a, b], h3 => exact absurd rfl h3
        | a :: b :: c :: r, _ => cases a <;> rfl
      rw [this] at q
      exact q
    · have h3 : (es.length : Int) = 2 := by simpa using h2
      match es, h3 with
      | [a, r], _ =>
        obtain ⟨fa, o1, o2⟩ := hp a r rfl
        refine ⟨a, rfl, ?_⟩
        show fit [D.str "in", D.str "out"] _
        refine fit_of (by show 2 ≤ 1000000; decide) ?_
        refine ⟨fa, rfl, ?_⟩
        show ((!inD a [.str "in", .str "out"]) = true → _) ∧ _
        by_cases hin : a = .str "in" ∨ a = .str "out"
        · rw [(in_two fa).mpr hin]
          refine ⟨fun z => (by cases z), fun _ => ?_⟩
          rcases hin with rfl | rfl
          · have e : pF n m G v (.tup [.str "in", r]) = inF n m G v r := by
              show (if (("in" : PySem.Str) = "in") then inF n m G v r else if (("in" : PySem.Str) = "out") then outF n m G v r else some (-1)) = _
              rw [if_pos rfl]
            rw [e] at q
            refine ⟨.str "in", rfl, ?_⟩
            refine ⟨fun _ => ⟨r, rfl, n, m, G, v, r, rfl, hn, hm, o1, fun p e => B1 _ p (by rw [e]), q⟩, fun z => absurd z (by decide)⟩
          · have e : pF n m G v (.tup [.str "out", r]) = outF n m G v r := by
              show (if (("out" : PySem.Str) = "in") then inF n m G v r else if (("out" : PySem.Str) = "out") then outF n m G v r else some (-1)) = _
              rw [if_neg (by decide), if_pos rfl]
            rw [e] at q
            refine ⟨.str "out", rfl, ?_⟩
            refine ⟨fun z => absurd z (by decide), fun _ => ⟨r, rfl, n, m, G, v, r, rfl, hn, hm, o2, fun b w e => B2 _ b w (by rw [e]), q⟩⟩
        · have e1 : inD a [.str "in", .str "out"] = false := by
            cases h : inD a [.str "in", .str "out"] with
            | false => rfl
            | true => exact absurd ((in_two fa).mp h) hin
          rw [e1]
          refine ⟨fun _ => ?_, fun z => by cases z⟩
          have e : pF n m G v (.tup [a, r]) = some (-1) := by
            cases a with
            | str s =>
              have h1 : ¬ s = "in" := fun e => hin (.inl (by rw [e]))
              have h2 : ¬ s = "out" := fun e => hin (.inr (by rw [e]))
              show (if s = "in" then inF n m G v r else if s = "out" then outF n m G v r else some (-1)) = _
              rw [if_neg h1, if_neg h2]
            | _ => rfl
          rw [e] at q
          exact q
end LK
end

section
set_option autoImplicit false
set_option maxRecDepth 100000
set_option maxHeartbeats 4000000
namespace DL
open PySem PySem.Spec PyProof.Rows L2
open PySem.W (Frag)
/-! ### list(range(n)) -/
section
variable {c : CD} {a : Expr} {ta : TEd} {p p2 pos pos2 : Pos} {ls : List (Option NameKind)} {gs : List Str}
def eLrg (ta : TEd) : TEd := fun G S Q => ta G S fun x S1 => isI x fun i => 0 ≤ i ∧ i ≤ 1000000 ∧ mk (span 0 i.toNat) S1 Q
theorem reps_rg {K : Frag} {B : Hp} {n : Nat} : Reps K B (span 0 n) ((List.range n).map fun i => V.int (0 + (i : Nat))) := by
  have key : ∀ (l : List Nat), Reps K B (l.map fun (i : Nat) => D.int (0 + (i : Int))) (l.map fun i => V.int (0 + (i : Nat))) := by
    intro l
    induction l with
    | nil => rfl
    | cons x l ih => exact ⟨_, _, rfl, rfl, ih⟩
  exact key (List.range n)
theorem d_lrg [Calm c] (φ : Fx c.X ls gs) (j i : Nat) (hm : c.X.mg "list" = none) (hm2 : c.X.mg "range" = none) (h : PEd c a ta) (hj : gs[j]? = some "list" := by rfl) (hi : gs[i]? = some "range" := by rfl)
    (hs : starEach [.Call (.Name "range" p2) [a] [] pos2] c.X.env = (false, eval (.Call (.Name "range" p2) [a] [] pos2) c.X.env) :: starEach [] c.X.env := by rfl) (hs2 : starEach [a] c.X.env = (false, eval a c.X.env) :: starEach [] c.X.env := by rfl) :
    PEd c (.Call (.Name "list" p) [.Call (.Name "range" p2) [a] [] pos2] [] pos) (eLrg ta) := fun G S Q q B σ H R => by
  refine tE_of (pe_listRg (Calm.calm (c := c)) (φ.gl j _ hj).1 hm (prg_1 (φ.gl i _ hi).1 hm2 (pe_self a) hs2) hs) ?_
  refine tE_mono (h G S _ q B σ H R) fun v H1 ⟨B1, x, S1, s1, R1, r1, h1⟩ => ?_
  obtain ⟨n, rfl, n0, nb, q⟩ := isI_get h1
  cases r1
  refine ⟨n, rfl, RgOk.of_le (by decide) (by omega) (by decide) n0, fun l hl => ?_⟩
  have e : rgV 0 n = (List.range n.toNat).map fun i => V.int (0 + (i : Nat)) := by
    unfold rgV
    rw [Int.sub_zero]
  rw [e]
  exact mk_ok s1 R1 reps_rg q l hl
end
end DL
end

section
set_option autoImplicit false
set_option maxRecDepth 100000
set_option maxHeartbeats 4000000
namespace LK
open PySem PySem.Spec PyProof.Rows L2 DL
open PySem.W (Frag)
/-! ### houses by data -/
def houseF (n m : Nat) (G : Mx) (ss : List St) : List (PySem.Str × D) := [("held_kinds", .lst (span 0 n)), ("held_rows", dRows n m G ss)]
def dH (n m : Nat) (G : Mx) (ss : List St) : D := .ins "House" (houseF n m G ss)
/-- x is a house, no longer written -/
structure HV (x : D) (n b B m : Nat) (G : Mx) (ss : List St) : Prop where
  e : x = dH n m G ss
  lm : ∀ k, k ≤ m → Lm n B k G
  ri : RI n b B m G ss
  dim : Dim n b B
  m100 : m ≤ 100
theorem HV.rows {x : D} {n b B m : Nat} {G : Mx} {ss : List St} (H : HV x n b B m G ss) {S : Sto} : RVal S (dRows n m G ss) n b B m G ss := ⟨H.lm, H.ri, H.dim, H.m100, .inr rfl⟩
theorem HV.asI {x : D} {n b B m : Nat} {G : Mx} {ss : List St} (H : HV x n b B m G ss) {S : Sto} {P : List (PySem.Str × D) → Prop} (h : P (houseF n m G ss)) : DL.asI "House" x S P := by
  rw [H.e]
  exact ⟨rfl, h⟩
def sp_one_less : FSp := fun ds S Q _ => ∃ (n : Nat) (f g : Nat → Int), ds = [dR n f, dR n g] ∧ n ≤ 1000000 ∧ Q (dR n fun j => f j - g j) S
def sp_difference : FSp := fun ds S Q EX => (∃ (n : Nat) (f g : Nat → Int), ds = [dR n f, dR n g, .int n] ∧ n ≤ 1000000 ∧ Q (dR n fun j => f j - g j) S) ∨
  (∃ (x y : D) (w : Int), ds = [x, y, .int w] ∧ okE x ∧ handB x w = false ∧ EX .NoRow [("at", .int 0)] S) ∨
  ∃ (n : Nat) (f : Nat → Int) (y : D), ds = [dR n f, y, .int n] ∧ n ≤ 1000000 ∧ okE y ∧ handB y n = false ∧ EX .NoRow [("at", .int 0)] S
def sp_House___init__ : FSp := fun ds S Q _ => ∃ (x : Addr) (S0 : Sto) (n b B m : Nat) (G : Mx) (z : D), ds = [.ref x, .int n, z] ∧ (LV S0 z (rowsL n m G) ∨ (z = .non ∧ m = 0)) ∧ S = (x, Cel.ins "House" []) :: S0 ∧ Dim n b B ∧ m ≤ 100 ∧ Bd b m n G ∧ (∀ k, k ≤ m → Lm n B k G) ∧ ∀ (ss : List St), RI n b B m G ss → Q .non ((x, Cel.ins "House" (houseF n m G ss)) :: S0)
def sp_House_kinds : FSp := fun ds S Q _ => ∃ (x : D) (n b B m : Nat) (G : Mx) (ss : List St), ds = [x] ∧ HV x n b B m G ss ∧ Q (.int n) S
def sp_House_rules : FSp := fun ds S Q _ => ∃ (x : D) (n b B m : Nat) (G : Mx) (ss : List St), ds = [x] ∧ HV x n b B m G ss ∧ mk (rowsL n m G) S Q
def sp_House_told : FSp := fun ds S Q _ => ∃ (x : D) (n b B m : Nat) (G : Mx) (ss : List St), ds = [x] ∧ HV x n b B m G ss ∧ mk (toldL n ss) S Q
def sp_House_one_of : FSp := fun ds S Q _ => ∃ (x : D) (n b B m k : Nat) (G : Mx) (ss : List St), ds = [x, .int k] ∧ HV x n b B m G ss ∧ Q (dR n (idG k)) S
def sp_House_least : FSp := fun ds S Q EX => (∃ (x : D) (n b B m : Nat) (G : Mx) (ss : List St) (v : Nat → Int) (c : Nat), ds = [x, dR n v] ∧ HV x n b B m G ss ∧ c ≤ 1000000 ∧ (∀ k, k < n → (v k).natAbs < 2 ^ c) ∧ Q (dR n (restS ss v)) S) ∨
  ∃ (x y : D) (n b B m : Nat) (G : Mx) (ss : List St), ds = [x, y] ∧ HV x n b B m G ss ∧ okE y ∧ handB y n = false ∧ EX .NoRow [("at", .int 0)] S
/-- two handfuls that are handed in, or not -/
def twoH (n : Nat) (y z : D) (bad : Prop) (good : (Nat → Int) → (Nat → Int) → Prop) : Prop := (∃ (u v : Nat → Int) (c : Nat), y = dR n u ∧ z = dR n v ∧ c ≤ 999999 ∧ (∀ k, k < n → (u k).natAbs < 2 ^ c) ∧ (∀ k, k < n → (v k).natAbs < 2 ^ c) ∧ good u v) ∨
  (okE y ∧ handB y n = false ∧ bad) ∨ ∃ u, y = dR n u ∧ okE z ∧ handB z n = false ∧ bad
def sp_House_alike : FSp := fun ds S Q EX => ∃ (x y z : D) (n b B m : Nat) (G : Mx) (ss : List St), ds = [x, y, z] ∧ HV x n b B m G ss ∧ twoH n y z (EX .NoRow [("at", .int 0)] S) fun u v => ∀ k : Bool, (k = true ↔ InL n ss fun j => u j - v j) → Q (.bl k) S
def sp_House_paper : FSp := fun ds S Q EX => ∃ (x y z : D) (n b B m : Nat) (G : Mx) (ss : List St), ds = [x, y, z] ∧ HV x n b B m G ss ∧ twoH n y z (EX .NoRow [("at", .int 0)] S) fun u v =>
  (∀ p : Nat → Int, InL n ss (fun j => u j - v j) → Mk n m G (fun j => u j - v j) p → (∀ i, i < m → (p i).natAbs < 2 ^ (1000000 + 100000 + PB m)) → Q (.tup [.str "in", dR m p]) S) ∧
  ∀ (b : Int) (w : Nat → Int), ¬ InL n ss (fun j => u j - v j) → IsMs n ss (fun j => u j - v j) b w → b.natAbs < 2 ^ (1000000 + 200000) → Q (.tup [.str "out", .tup [.int b, dR n w]]) S
def sp_check_alike : FSp := fun ds S Q EX => ∃ (x y z t : D) (n b B m : Nat) (G : Mx) (ss : List St), ds = [x, y, z, t] ∧ HV x n b B m G ss ∧ twoH n y z (EX .NoRow [("at", .int 0)] S) fun u v => okP t ∧ (∀ s p, t = .tup [s, dR m p] → ∀ i j, i < m → j < n → MulB (p i) (G i j)) ∧
    (∀ s b w, t = .tup [s, .tup [.int b, dR n w]] → (∀ i j, i < m → j < n → MulB (w j) (G i j)) ∧ ∀ j, j < n → MulB (w j) (u j - v j)) ∧ finP Q EX S (pF n m G (fun j => u j - v j) t)
theorem ln_one_less : ∀ ds S Q EX, sp_one_less ds S Q EX → ds.length = 2 := fun ds S Q EX ⟨_, _, _, e, _⟩ => by rw [e]; rfl
theorem ln_difference : ∀ ds S Q EX, sp_difference ds S Q EX → ds.length = 3 := fun ds S Q EX h => by
  rcases h with ⟨_, _, _, e, _⟩ | ⟨_, _, _, e, _⟩ | ⟨_, _, _, e, _⟩ <;> (rw [e]; rfl)
theorem ln_House___init__ : ∀ ds S Q EX, sp_House___init__ ds S Q EX → ds.length = 3 := fun ds S Q EX ⟨_, _, _, _, _, _, _, _, e, _⟩ => by rw [e]; rfl
theorem ln_House_kinds : ∀ ds S Q EX, sp_House_kinds ds S Q EX → ds.length = 1 := fun ds S Q EX ⟨_, _, _, _, _, _, _, e, _⟩ => by rw [e]; rfl
theorem ln_House_rules : ∀ ds S Q EX, sp_House_rules ds S Q EX → ds.length = 1 := fun ds S Q EX ⟨_, _, _, _, _, _, _, e, _⟩ => by rw [e]; rfl
theorem ln_House_told : ∀ ds S Q EX, sp_House_told ds S Q EX → ds.length = 1 := fun ds S Q EX ⟨_, _, _, _, _, _, _, e, _⟩ => by rw [e]; rfl
theorem ln_House_one_of : ∀ ds S Q EX, sp_House_one_of ds S Q EX → ds.length = 2 := fun ds S Q EX ⟨_, _, _, _, _, _, _, _, e, _⟩ => by rw [e]; rfl
theorem ln_House_least : ∀ ds S Q EX, sp_House_least ds S Q EX → ds.length = 2 := fun ds S Q EX h => by
  rcases h with ⟨_, _, _, _, _, _, _, _, _, e, _⟩ | ⟨_, _, _, _, _, _, _, _, e, _⟩ <;> (rw [e]; rfl)
theorem ln_House_alike : ∀ ds S Q EX, sp_House_alike ds S Q EX → ds.length = 3 := fun ds S Q EX ⟨_, _, _, _, _, _, _, _, _, e, _⟩ => by rw [e]; rfl
theorem ln_House_paper : ∀ ds S Q EX, sp_House_paper ds S Q EX → ds.length = 3 := fun ds S Q EX ⟨_, _, _, _, _, _, _, _, _, e, _⟩ => by rw [e]; rfl
theorem ln_check_alike : ∀ ds S Q EX, sp_check_alike ds S Q EX → ds.length = 4 := fun ds S Q EX ⟨_, _, _, _, _, _, _, _, _, _, e, _⟩ => by rw [e]; rfl
-- 0 one, 1 other, 2 mine, 3 its
def t_one_less (EX : EXT) : TSd := (sSeq (sRet (eCall dTuple (aCons (eLc (iZp (aCons (eVar 0) (aCons (eVar 1) aNil))) [2, 3] (bind2 2 3) tYs (eOp dSub (eVar 2) (eVar 3))) aNil)))
    sNext)
-- 0 one, 1 other, 2 wide
def t_difference (EX : EXT) : TSd := (sSeq (sEx (eFn sp_check_handful (kX EX) [] (aCons (eVar 0) (aCons (eVar 2) aNil))))
    (sSeq (sEx (eFn sp_check_handful (kX EX) [] (aCons (eVar 1) (aCons (eVar 2) aNil))))
    (sSeq (sRet (eFn sp_one_less (kX EX) [] (aCons (eVar 0) (aCons (eVar 1) aNil))))
    sNext)))
-- 0 self, 1 wide, 2 rules
def t_House___init__ (EX : EXT) : TSd := (sSeq (sFld "House" "held_kinds" (eVar 0) (eLrg (eVar 1)))
    (sSeq (sFld "House" "held_rows" (eVar 0) (eNew "Rows" sp_Rows___init__ (kX EX) [] (aCons (eVar 1) (aCons (eVar 2) aNil))))
    sNext))
-- 0 self
def t_House_kinds (EX : EXT) : TSd := (sSeq (sRet (eCall dLen (aCons (eFld "House" "held_kinds" (eVar 0)) aNil)))
    sNext)
-- 0 self
def t_House_rules (EX : EXT) : TSd := (sSeq (sRet (eMeth "Rows" "given" sp_Rows_given (kX EX) [] (eFld "House" "held_rows" (eVar 0)) aNil))
    sNext)
-- 0 self
def t_House_told (EX : EXT) : TSd := (sSeq (sRet (eMeth "Rows" "told" sp_Rows_told (kX EX) [] (eFld "House" "held_rows" (eVar 0)) aNil))
    sNext)
-- 0 self, 1 kind
def t_House_one_of (EX : EXT) : TSd := (sSeq (sRet (eFn sp_one_of (kX EX) [] (aCons (eMeth "House" "kinds" sp_House_kinds (kX EX) [] (eVar 0) aNil) (aCons (eVar 1) aNil))))
    sNext)
-- 0 self, 1 handful
def t_House_least (EX : EXT) : TSd := (sSeq (sRet (eMeth "Rows" "rest" sp_Rows_rest (kX EX) [] (eFld "House" "held_rows" (eVar 0)) (aCons (eVar 1) aNil)))
    sNext)
-- 0 self, 1 one, 2 other
def t_House_alike (EX : EXT) : TSd := (sSeq (sRet (eFn sp_is_nothing (kX EX) [] (aCons (eMeth "House" "least" sp_House_least (kX EX) [] (eVar 0) (aCons (eFn sp_difference (kX EX) [] (aCons (eVar 1) (aCons (eVar 2) (aCons (eMeth "House" "kinds" sp_House_kinds (kX EX) [] (eVar 0) aNil) aNil)))) aNil)) aNil)))
    sNext)
-- 0 self, 1 one, 2 other
def t_House_paper (EX : EXT) : TSd := (sSeq (sRet (eMeth "Rows" "paper" sp_Rows_paper (kX EX) [] (eFld "House" "held_rows" (eVar 0)) (aCons (eFn sp_difference (kX EX) [] (aCons (eVar 1) (aCons (eVar 2) (aCons (eMeth "House" "kinds" sp_House_kinds (kX EX) [] (eVar 0) aNil) aNil)))) aNil)))
    sNext)
-- 0 house, 1 one, 2 other, 3 paper, 4 handful
def t_check_alike (EX : EXT) : TSd := (sSeq (sSet 4 (eFn sp_difference (kX EX) [] (aCons (eVar 1) (aCons (eVar 2) (aCons (eMeth "House" "kinds" sp_House_kinds (kX EX) [] (eVar 0) aNil) aNil)))))
    (sSeq (sEx (eFn sp_check_paper (kX EX) [] (aCons (eMeth "House" "kinds" sp_House_kinds (kX EX) [] (eVar 0) aNil) (aCons (eMeth "House" "rules" sp_House_rules (kX EX) [] (eVar 0) aNil) (aCons (eVar 4) (aCons (eVar 3) aNil))))))
    sNext))
local macro_rules | `(tactic| walk_at "ev") => `(tactic| dsimp only [sSeq, sRet, sIf, sSet, sFor, sNext, sEx, sPar, sAsg, DL.sFld, eAn, eOo, eNo, eCall, eFn, eMeth, eNew, eFld, aCons, aNil, eVar, rd, eC, eOp, eUn, eEq, eOrd, tEq, tOrd, tVal, tNo, tAn, tOo, tEqL, eEqL, tNone, eTup, eLst, eSl, oNo, oSome, eRev, iR1, iR2, iSq, iZp, sForX, iSqX, iEnX, iZpX, one_eq, eLcX_eq, gNm, gTp, gsCons, gsNil, eLc_eq, inG, List.set_cons_zero, List.set_cons_succ, List.getElem?_cons_zero, List.getElem?_cons_succ, List.append_nil])
theorem rows_fzG {n b B m : Nat} {G : Mx} {z : D} {S : Sto} {Q : QD} {EX : EXT} (hz : LV S z (rowsL n m G) ∨ (z = .non ∧ m = 0)) (D0 : Dim n b B) (hm : m ≤ 100) (hG : Bd b m n G) (hL : ∀ k, k ≤ m → Lm n B k G) (q : ∀ (ss : List St), RI n b B m G ss → Q (dRows n m G ss) S) :
    ∀ x, sp_Rows___init__ (.ref x :: ([.int n, z] ++ [])) ((x, Cel.ins "Rows" []) :: S) (fun d S2 => d = .non ∧ mkI "Rows" x S2 Q) EX := fun x =>
  ⟨x, S, n, b, B, m, G, _, rfl, hz, rfl, D0, hm, hG, hL, fun g ss R => ⟨rfl, Or.inr ⟨1, _, rfl, Or.inr ⟨"held_given", g, 0, _, rfl, rfl, q ss R⟩⟩⟩⟩
theorem pure_one_less {ds : List D} {S : Sto} {Q : QD} {EX : EXT} (h : sp_one_less ds S Q EX) : t_one_less EX (endS Q) (startG ["one", "other", "mine", "its"] ds) S := by
  obtain ⟨n, f, g, rfl, hn, q⟩ := h
  show t_one_less EX (endS Q) [some (dR n f), some (dR n g), none, none] S
  unfold t_one_less
  walk_at "ev"
  show LcIn _ _ _ _ _ (zipD ((List.range n).map fun j => D.int (f j)) ((List.range n).map fun j => D.int (g j))) _ _
  rw [zip_range]
  exact lc_M (src := fun j => D.tup [D.int (f j), D.int (g j)]) (fun j => D.int (f j - g j)) (by rw [List.length_range]; exact hn) (fun j hj p acc K hK => hK) bind2_mono' (Or.inl q)
theorem pure_difference {ds : List D} {S : Sto} {Q : QD} {EX : EXT} (h : sp_difference ds S Q EX) : t_difference EX (endS Q) (startG ["one", "other", "wide"] ds) S := by
  rcases h with ⟨n, f, g, rfl, hn, q⟩ | ⟨x, y, w, rfl, ok, hb, q⟩ | ⟨n, f, y, rfl, hn, ok, hb, q⟩
  · show t_difference EX (endS Q) [some (dR n f), some (dR n g), some (.int n)] S
    unfold t_difference
    walk_at "ev"
    refine chk_hand hn ?_
    refine chk_hand hn ?_
    exact ⟨n, f, g, rfl, hn, q⟩
  · show t_difference EX (endS Q) [some x, some y, some (.int w)] S
    unfold t_difference
    walk_at "ev"
    exact chk_bad ok hb q
  · show t_difference EX (endS Q) [some (dR n f), some y, some (.int n)] S
    unfold t_difference
    walk_at "ev"
    refine chk_hand hn ?_
    exact chk_bad ok hb q
theorem pure_House___init__ {ds : List D} {S : Sto} {Q : QD} {EX : EXT} (h : sp_House___init__ ds S Q EX) : t_House___init__ EX (endS Q) (startG ["self", "wide", "rules"] ds) S := by
  obtain ⟨x, S0, n, b, B, m, G, z, rfl, hz, rfl, D0, hm, hG, hL, q⟩ := h
  have h7 := D0.n7
  show t_House___init__ EX (endS Q) [some (.ref x), some (.int n), some z] _
  unfold t_House___init__
  walk_at "ev"
  refine ⟨by omega, by omega, .inl ?_⟩
  refine ⟨0, [], rfl, by show 0 < 1000; decide, ?_⟩
  refine rows_fzG (hz.imp (·.cons _) id) D0 hm hG hL fun ss R => ?_
  exact ⟨0, _, rfl, by show 1 < 1000; decide, q ss R⟩
theorem pure_House_kinds {ds : List D} {S : Sto} {Q : QD} {EX : EXT} (h : sp_House_kinds ds S Q EX) : t_House_kinds EX (endS Q) (startG ["self"] ds) S := by
  obtain ⟨x, n, b, B, m, G, ss, rfl, H, q⟩ := h
  refine H.asI ⟨_, rfl, ?_⟩
  show Q (.int (span 0 n).length) S
  rw [span_len]
  exact q
theorem pure_House_rules {ds : List D} {S : Sto} {Q : QD} {EX : EXT} (h : sp_House_rules ds S Q EX) : t_House_rules EX (endS Q) (startG ["self"] ds) S := by
  obtain ⟨x, n, b, B, m, G, ss, rfl, H, q⟩ := h
  exact H.asI ⟨_, rfl, H.rows.asI fun _ _ => ⟨rfl, _, n, b, B, m, G, ss, rfl, H.rows, q⟩⟩
theorem pure_House_told {ds : List D} {S : Sto} {Q : QD} {EX : EXT} (h : sp_House_told ds S Q EX) : t_House_told EX (endS Q) (startG ["self"] ds) S := by
  obtain ⟨x, n, b, B, m, G, ss, rfl, H, q⟩ := h
  exact H.asI ⟨_, rfl, H.rows.asI fun _ _ => ⟨rfl, _, n, b, B, m, G, ss, rfl, H.rows, q⟩⟩
theorem pure_House_one_of {ds : List D} {S : Sto} {Q : QD} {EX : EXT} (h : sp_House_one_of ds S Q EX) : t_House_one_of EX (endS Q) (startG ["self", "kind"] ds) S := by
  obtain ⟨x, n, b, B, m, k, G, ss, rfl, H, q⟩ := h
  have h7 := H.dim.n7
  exact H.asI ⟨rfl, x, n, b, B, m, G, ss, rfl, H, n, k, rfl, by omega, q⟩
theorem pure_House_least {ds : List D} {S : Sto} {Q : QD} {EX : EXT} (h : sp_House_least ds S Q EX) : t_House_least EX (endS Q) (startG ["self", "handful"] ds) S := by
  rcases h with ⟨x, n, b, B, m, G, ss, v, c, rfl, H, hc, hv, q⟩ | ⟨x, y, n, b, B, m, G, ss, rfl, H, ok, hb, q⟩
  · exact H.asI ⟨_, rfl, H.rows.asI fun _ _ => ⟨rfl, .inl ⟨_, n, b, B, m, G, ss, v, c, rfl, H.rows, hc, hv, q⟩⟩⟩
  · exact H.asI ⟨_, rfl, H.rows.asI fun _ _ => ⟨rfl, .inr ⟨_, y, n, b, B, m, G, ss, rfl, H.rows, ok, hb, q⟩⟩⟩
theorem sub_bd {n c : Nat} {u v : Nat → Int} (hu : ∀ k, k < n → (u k).natAbs < 2 ^ c) (hv : ∀ k, k < n → (v k).natAbs < 2 ^ c) : ∀ k, k < n → (u k - v k).natAbs < 2 ^ (c + 1) := fun k hk => by
  have h1 := hu k hk
  have h2 := hv k hk
  have e : 2 ^ (c + 1) = 2 ^ c * 2 := Nat.pow_succ ..
  omega
/-- the difference is asked: of handfuls, or refused -/
theorem dif_of {n : Nat} {y z : D} {S : Sto} {Q : QD} {EX : EXT} {good : (Nat → Int) → (Nat → Int) → Prop} (hn : n ≤ 1000000) (h : twoH n y z (EX .NoRow [("at", .int 0)] S) good) (q : ∀ (u v : Nat → Int) (c : Nat), y = dR n u → z = dR n v → c ≤ 1000000 → (∀ k, k < n → (u k - v k).natAbs < 2 ^ c) → good u v → Q (dR n fun j => u j - v j) S) : sp_difference [y, z, .int n] S Q EX := by
  rcases h with ⟨u, v, c, rfl, rfl, hc, hu, hv, g⟩ | ⟨ok, hb, e⟩ | ⟨u, rfl, ok, hb, e⟩
  · exact .inl ⟨n, u, v, rfl, hn, q u v (c + 1) rfl rfl (by omega) (sub_bd hu hv) g⟩
  · exact .inr (.inl ⟨y, z, n, rfl, ok, hb, e⟩)
  · exact .inr (.inr ⟨n, u, z, rfl, hn, ok, hb, e⟩)
theorem isZ_in {n b B m : Nat} {G : Mx} {ss : List St} {v : Nat → Int} (R : RI n b B m G ss) : isZ n (restS ss v) = true ↔ InL n ss v := isZ_iff.trans R.in_iff.symm
theorem pure_House_alike {ds : List D} {S : Sto} {Q : QD} {EX : EXT} (h : sp_House_alike ds S Q EX) : t_House_alike EX (endS Q) (startG ["self", "one", "other"] ds) S := by
  obtain ⟨x, y, z, n, b, B, m, G, ss, rfl, H, t⟩ := h
  have h7 := H.dim.n7
  show t_House_alike EX (endS Q) [some x, some y, some z] S
  unfold t_House_alike
  walk_at "ev"
  refine H.asI ⟨rfl, ?_⟩
  refine H.asI ⟨rfl, x, n, b, B, m, G, ss, rfl, H, ?_⟩
  refine dif_of (by omega) t fun u v c e1 e2 hc hb q => ?_
  refine .inl ⟨x, n, b, B, m, G, ss, _, c, rfl, H, hc, hb, ?_⟩
  exact ⟨n, _, rfl, by omega, q _ (isZ_in H.ri)⟩
theorem pure_House_paper {ds : List D} {S : Sto} {Q : QD} {EX : EXT} (h : sp_House_paper ds S Q EX) : t_House_paper EX (endS Q) (startG ["self", "one", "other"] ds) S := by
  obtain ⟨x, y, z, n, b, B, m, G, ss, rfl, H, t⟩ := h
  have h7 := H.dim.n7
  show t_House_paper EX (endS Q) [some x, some y, some z] S
  unfold t_House_paper
  walk_at "ev"
  refine H.asI ⟨_, rfl, H.rows.asI fun _ _ => ⟨rfl, ?_⟩⟩
  refine H.asI ⟨rfl, x, n, b, B, m, G, ss, rfl, H, ?_⟩
  refine dif_of (by omega) t fun u v c e1 e2 hc hb q => ?_
  exact .inl ⟨_, n, b, B, m, G, ss, _, c, rfl, H.rows, hc, hb, fun p h1 h2 h3 => q.1 p h1 h2 fun i hi => up_bd (h3 i hi) (by omega), fun b w h1 h2 h3 => q.2 b w h1 h2 (up_bd h3 (by omega))⟩
theorem pure_check_alike {ds : List D} {S : Sto} {Q : QD} {EX : EXT} (h : sp_check_alike ds S Q EX) : t_check_alike EX (endS Q) (startG ["house", "one", "other", "paper", "handful"] ds) S := by
  obtain ⟨x, y, z, t, n, b, B, m, G, ss, rfl, H, tw⟩ := h
  have h7 := H.dim.n7
  have hm := H.m100
  show t_check_alike EX (endS Q) [some x, some y, some z, some t, none] S
  unfold t_check_alike
  walk_at "ev"
  refine H.asI ⟨rfl, x, n, b, B, m, G, ss, rfl, H, ?_⟩
  refine dif_of (by omega) tw fun u v c e1 e2 hc hb ⟨ok, B1, B2, q⟩ => ?_
  refine H.asI ⟨rfl, x, n, b, B, m, G, ss, rfl, H, ?_⟩
  refine H.asI ⟨rfl, x, n, b, B, m, G, ss, rfl, H, .inl ?_⟩
  exact .inl ⟨n, m, G, _, t, rfl, by omega, by omega, ok, B1, B2, q⟩
end LK
end

section
set_option autoImplicit false
set_option maxRecDepth 100000
set_option maxHeartbeats 4000000
namespace LK
open PySem PySem.Spec PyProof.Rows L2 DL
open PySem.W (Frag)
/-! ### what laws over rows and houses share -/
theorem seqR {n : Nat} {f : Nat → Int} {S : Sto} {Q : List D → Pin → Prop} (h : Q ((List.range n).map fun j => D.int (f j)) []) : seqX (dR n f) S Q := h
theorem InL.sum {n m : Nat} {ss : List St} {G : Mx} (p : Nat → Int) (h : ∀ i, i < m → InL n ss (G i)) : ∀ k, k ≤ m → InL n ss fun j => sumN k fun i => p i * G i j
  | 0, _ => InL.zero fun _ _ => rfl
  | k + 1, hk => InL.lin (p k) (InL.sum p h k (by omega)) (h k (by omega)) fun j _ => rfl
theorem Mk.dvd {n m : Nat} {G : Mx} {v p u : Nat → Int} {b : Int} (h : Mk n m G v p) (hd : ∀ i, i < m → b ∣ dotN n (G i) u) : b ∣ dotN n v u := by
  have e : dotN n v u = sumN m fun i => p i * dotN n (G i) u := by
    unfold dotN
    rw [show (sumN n fun j => v j * u j) = sumN n fun j => sumN m fun i => p i * (G i j * u j) from sumN_ext fun j hj => by
      rw [h j hj, ← sumN_mul']
      exact sumN_ext fun i _ => Int.mul_assoc _ _ _]
    rw [sumN_swap]
    exact sumN_ext fun i _ => sumN_mul n (p i) _
  rw [e]
  have : ∀ k, k ≤ m → b ∣ sumN k fun i => p i * dotN n (G i) u := by
    intro k
    induction k with
    | zero => exact fun _ => ⟨0, by rw [Int.mul_zero]; rfl⟩
    | succ k ih => exact fun hk => Int.dvd_add (ih (by omega)) (Int.dvd_mul_of_dvd_right (hd k (by omega)))
  exact this m (Nat.le_refl _)
theorem not_InL {n b B m : Nat} {G : Mx} {ss : List St} {v u : Nat → Int} {c : Int} (R : RI n b B m G ss) (hd : ∀ i, i < m → c ∣ dotN n (G i) u) (hv : ¬ c ∣ dotN n v u) : ¬ InL n ss v := fun ⟨cs, hl, e⟩ => by
  refine hv ?_
  have h1 : c ∣ dotN n (comb ss cs) u := dvd_comb fun s hs => Mk.dvd (R.made s hs) hd
  have h2 : dotN n v u = dotN n (comb ss cs) u := sumN_ext fun j hj => by rw [e j hj]
  rw [h2]
  exact h1
theorem upd_tup {n a : Nat} {f : Nat → Int} {x : Int} (h : a < n) : DL.cutD ((List.range n).map fun j => D.int (f j)) none (some (a : Int)) ++ [D.int x] ++ DL.cutD ((List.range n).map fun j => D.int (f j)) (some ((a : Int) + 1)) none = (List.range n).map fun j => D.int (if j = a then x else f j) := by
  have e1 : ((a : Int) + 1) = ((a + 1 : Nat) : Int) := by omega
  rw [e1, cut_to _ (by omega), cut_of _ (by omega)]
  refine List.ext_getElem? fun i => ?_
  by_cases hi : i < n
  · rw [range_at _ hi]
    by_cases hia : i < a
    · rw [List.getElem?_append_left (by rw [List.length_append, rng_len]; show i < a + 1; omega), List.getElem?_append_left (by rw [rng_len]; exact hia), range_at _ hia, if_neg (by omega)]
    · by_cases hea : i = a
      · subst hea
        rw [List.getElem?_append_left (by rw [List.length_append, rng_len]; show i < i + 1; omega), List.getElem?_append_right (by rw [rng_len]; omega), rng_len, Nat.sub_self, if_pos rfl]
        rfl
      · rw [List.getElem?_append_right (by rw [List.length_append, rng_len]; show a + 1 ≤ i; omega), List.length_append, rng_len]
        show ((List.range (n - (a + 1))).map fun i => D.int (f (a + 1 + i)))[i - (a + 1)]? = _
        rw [range_at _ (by omega), if_neg hea, show a + 1 + (i - (a + 1)) = i by omega]
  · rw [List.getElem?_eq_none (by rw [List.length_append, List.length_append, rng_len, rng_len]; show a + 1 + (n - (a + 1)) ≤ i; omega) , List.getElem?_eq_none (by rw [rng_len]; omega)]
theorem upd_rows {n m a : Nat} {G : Mx} {x : Nat → Int} (h : a < m) : DL.cutD (rowsL n m G) none (some (a : Int)) ++ [dR n x] ++ DL.cutD (rowsL n m G) (some ((a : Int) + 1)) none = rowsL n m fun i => if i = a then x else G i := by
  have e1 : ((a : Int) + 1) = ((a + 1 : Nat) : Int) := by omega
  unfold rowsL
  rw [e1, cut_to _ (by omega), cut_of _ (by omega)]
  refine List.ext_getElem? fun i => ?_
  by_cases hi : i < m
  · rw [range_at _ hi]
    show _ = some (dR n (if i = a then x else G i))
    by_cases hia : i < a
    · rw [List.getElem?_append_left (by rw [List.length_append, rng_len]; show i < a + 1; omega), List.getElem?_append_left (by rw [rng_len]; exact hia), range_at _ hia, if_neg (by omega)]
    · by_cases hea : i = a
      · subst hea
        rw [List.getElem?_append_left (by rw [List.length_append, rng_len]; show i < i + 1; omega), List.getElem?_append_right (by rw [rng_len]; omega), rng_len, Nat.sub_self, if_pos rfl]
        rfl
      · rw [List.getElem?_append_right (by rw [List.length_append, rng_len]; show a + 1 ≤ i; omega), List.length_append, rng_len]
        show ((List.range (m - (a + 1))).map fun i => dR n (G (a + 1 + i)))[i - (a + 1)]? = _
        rw [range_at _ (by omega), if_neg hea, show a + 1 + (i - (a + 1)) = i by omega]
  · rw [List.getElem?_eq_none (by rw [List.length_append, List.length_append, rng_len, rng_len]; show a + 1 + (m - (a + 1)) ≤ i; omega), List.getElem?_eq_none (by rw [rng_len]; omega)]
theorem add_int {i j : Int} {S : Sto} {Q : QD} (q : Q (.int (i + j)) S) : dAdd (.int i) (.int j) S Q := q
theorem add_ll {xs ys : List D} {S : Sto} {Q : QD} (h : xs.length + ys.length ≤ sizeLine) (q : mk (xs ++ ys) S Q) : dAdd (.lst xs) (.lst ys) S Q := ⟨h, q⟩
theorem told_okR (n m : Nat) (f : Mx) : okD 2 (.lst (rowsL n m f)) = true := okG m n f 0
theorem tup_of {ds : List D} {S : Sto} {Q : QD} (h : Q (.tup ds) S) : dTuple [.lst ds] S Q := h
theorem three_mem {a b c d : D} {i : Nat} (h : [a, b, c][i]? = some d) : d = a ∨ d = b ∨ d = c := by
  have := List.mem_of_getElem? h
  simpa using this
theorem isZ_bool {n : Nat} {f : Nat → Int} {p : Prop} (h : (∀ j, j < n → f j = 0) ↔ p) : (p → isZ n f = true) ∧ (¬ p → isZ n f = false) := by
  refine ⟨fun q => isZ_iff.mpr (h.mpr q), fun q => ?_⟩
  cases e : isZ n f with
  | false => rfl
  | true => exact absurd (h.mp (isZ_iff.mp e)) q
theorem told_eqB {n : Nat} {ss ts : List St} {S : Sto} {Q : Bool → Sto → Prop} (E : Ech n ss) (F : Ech n ts) (q : ∀ k : Bool, (k = true ↔ Alike n ss ts) → Q k S) : dEq false (.lst (toldL n ss)) (.lst (toldL n ts)) S Q :=
  told_eq E F (fun A => q true ⟨fun _ => A, fun _ => rfl⟩) fun A => q false ⟨fun z => (by cases z), fun z => absurd z A⟩
theorem HV.rest_bd {x : D} {n b B m : Nat} {G : Mx} {ss : List St} (H : HV x n b B m G ss) {v : Nat → Int} {c : Nat} (hv : ∀ j, j < n → (v j).natAbs < 2 ^ c) : ∀ j, j < n → (restS ss v j).natAbs < 2 ^ (c + 57000) := fun j hj => by
  have rows := H.ri.rows H.dim
  have hl := H.ri.tdy.ech.len
  have h := LK.rest_bd (ss := ss) hv (fun t ht => ⟨(H.ri.tdy.ech.one t ht).1, rows t ht⟩) j hj
  refine up_bd h ?_
  have hB := H.dim.B (show 0 < n by omega)
  have h7 := H.dim.n7
  have : ss.length * (B + 1) ≤ 7 * 8000 := Nat.mul_le_mul (by omega) (by omega)
  omega
theorem house_new {n b B m : Nat} {G : Mx} {z : D} {S : Sto} {Q : QD} {EX : EXT} (hz : LV S z (rowsL n m G)) (D0 : Dim n b B) (hm : m ≤ 100) (hG : Bd b m n G) (hL : ∀ k, k ≤ m → Lm n B k G) (q : ∀ (x : D) (ss : List St), HV x n b B m G ss → Q x S) :
    ∀ x, sp_House___init__ (.ref x :: ([.int n, z] ++ [])) ((x, Cel.ins "House" []) :: S) (fun d S2 => d = .non ∧ mkI "House" x S2 Q) EX := fun x =>
  ⟨x, S, n, b, B, m, G, _, rfl, .inl hz, rfl, D0, hm, hG, hL, fun ss R => ⟨rfl, Or.inr ⟨0, _, rfl, .inl (q _ ss ⟨rfl, hL, R, D0, hm⟩)⟩⟩⟩
theorem HV.least {x : D} {n b B m : Nat} {G : Mx} {ss : List St} (H : HV x n b B m G ss) {v : Nat → Int} {c : Nat} {S : Sto} {Q : QD} {EX : EXT} (hc : c ≤ 1000000) (hv : ∀ j, j < n → (v j).natAbs < 2 ^ c) (q : Q (dR n (restS ss v)) S) : DL.asI "House" x S fun f => f.lookup ("least" : PySem.Str) = none ∧ sp_House_least (x :: ([dR n v] ++ [])) S Q EX :=
  H.asI ⟨rfl, .inl ⟨x, n, b, B, m, G, ss, v, c, rfl, H, hc, hv, q⟩⟩
theorem HV.alike {x : D} {n b B m : Nat} {G : Mx} {ss : List St} (H : HV x n b B m G ss) {u v : Nat → Int} {c : Nat} {S : Sto} {Q : QD} {EX : EXT} (hc : c ≤ 999999) (hu : ∀ j, j < n → (u j).natAbs < 2 ^ c) (hv : ∀ j, j < n → (v j).natAbs < 2 ^ c) (q : ∀ k : Bool, (k = true ↔ InL n ss fun j => u j - v j) → Q (.bl k) S) : DL.asI "House" x S fun f => f.lookup ("alike" : PySem.Str) = none ∧ sp_House_alike (x :: ([dR n u, dR n v] ++ [])) S Q EX :=
  H.asI ⟨rfl, x, _, _, n, b, B, m, G, ss, rfl, H, .inl ⟨u, v, c, rfl, rfl, hc, hu, hv, q⟩⟩
theorem HV.alikeT {x : D} {n b B m : Nat} {G : Mx} {ss : List St} (H : HV x n b B m G ss) {u v : Nat → Int} {c : Nat} {S : Sto} {Q : QD} {EX : EXT} (hc : c ≤ 999999) (hu : ∀ j, j < n → (u j).natAbs < 2 ^ c) (hv : ∀ j, j < n → (v j).natAbs < 2 ^ c) (h : InL n ss fun j => u j - v j) (q : Q (.bl true) S) : DL.asI "House" x S fun f => f.lookup ("alike" : PySem.Str) = none ∧ sp_House_alike (x :: ([dR n u, dR n v] ++ [])) S Q EX :=
  H.alike hc hu hv fun k hk => by
    obtain rfl : k = true := hk.mpr h
    exact q
end LK
end

section
set_option autoImplicit false
set_option maxRecDepth 100000
set_option maxHeartbeats 4000000
namespace LK
open PySem PySem.Spec PyProof.Rows L2 DL
open PySem.W (Frag)
def sp__law_number : FSp := fun ds S Q _ => ∃ (w : Addr) (k : Nat) (way : Int), ds = [.ref w, .int way] ∧ Wl S k w ∧ ∀ (v : Int) (S' : Sto), v.natAbs < 2 ^ 31 → Wst S S' k w → Q (.int v) S'
def sp__law_added : FSp := fun ds S Q _ => ∃ (n : Nat) (f g : Nat → Int) (c : Int), ds = [dR n f, .int c, dR n g] ∧ n ≤ 1000 ∧ (∀ j, j < n → MulB c (g j)) ∧ Q (dR n fun j => f j + c * g j) S
def sp__law_handful : FSp := fun ds S Q _ => ∃ (w : Addr) (k n : Nat), ds = [.ref w, .int n] ∧ Wl S k w ∧ n ≤ 1000 ∧ ∀ (f : Nat → Int) (S' : Sto), (∀ j, j < n → (f j).natAbs < 2 ^ 96) → Wst S S' k w → Q (dR n f) S'
def sp__law_least_right : FSp := fun ds S Q _ => ∃ (x : D) (n b B m : Nat) (G : Mx) (ss : List St) (v : Nat → Int), ds = [x, .int n, dR n v] ∧ HV x n b B m G ss ∧ (∀ j, j < n → (v j).natAbs < 2 ^ 150) ∧ Q (.bl true) S
def sp__law_alike_right : FSp := fun ds S Q _ => ∃ (x : D) (n b B m : Nat) (G : Mx) (ss : List St) (u v t : Nat → Int), ds = [x, dR n u, dR n v, dR n t] ∧ HV x n b B m G ss ∧ (∀ j, j < n → (u j).natAbs < 2 ^ 150) ∧ (∀ j, j < n → (v j).natAbs < 2 ^ 150) ∧ (∀ j, j < n → (t j).natAbs < 2 ^ 150) ∧ (InL n ss fun j => u j - v j) ∧ Q (.bl true) S
def sp__law_right : FSp := fun ds S Q _ => ∃ (w : Addr) (k : Nat), ds = [.ref w] ∧ Wl S k w ∧ ∀ S', Q (.bl true) S'
abbrev sp_law : FSp := spLaw
theorem ln__law_number : ∀ ds S Q EX, sp__law_number ds S Q EX → ds.length = 2 := fun ds S Q EX ⟨_, _, _, e, _⟩ => by rw [e]; rfl
theorem ln__law_added : ∀ ds S Q EX, sp__law_added ds S Q EX → ds.length = 3 := fun ds S Q EX ⟨_, _, _, _, e, _⟩ => by rw [e]; rfl
theorem ln__law_handful : ∀ ds S Q EX, sp__law_handful ds S Q EX → ds.length = 2 := fun ds S Q EX ⟨_, _, _, e, _⟩ => by rw [e]; rfl
theorem ln__law_least_right : ∀ ds S Q EX, sp__law_least_right ds S Q EX → ds.length = 3 := fun ds S Q EX ⟨_, _, _, _, _, _, _, _, e, _⟩ => by rw [e]; rfl
theorem ln__law_alike_right : ∀ ds S Q EX, sp__law_alike_right ds S Q EX → ds.length = 4 := fun ds S Q EX ⟨_, _, _, _, _, _, _, _, _, _, e, _⟩ => by rw [e]; rfl
theorem ln__law_right : ∀ ds S Q EX, sp__law_right ds S Q EX → ds.length = 1 := fun ds S Q EX ⟨_, _, e, _⟩ => by rw [e]; rfl
theorem ln_law : ∀ ds S Q EX, sp_law ds S Q EX → ds.length = 1 := fun ds S Q EX ⟨_, e, _⟩ => by rw [e]; rfl
-- 0 _law_well, 1 _law_way
def t__law_number (EX : EXT) : TSd := (sSeq (sIf (tAn (tEq false (eOp dMod (eVar 1) (eC (.int 2))) (eC (.int 1))) (tEq false (eFn sp__law_draw (kX EX) [] (aCons (eVar 0) (aCons (eC (.int 2)) aNil))) (eC (.int 0)))) (sSeq (sRet (eC (.int 0)))
    sNext) sNext)
    (sSeq (sIf (tOrd .Lt (eVar 1) (eC (.int 4))) (sSeq (sRet (eOp dSub (eFn sp__law_draw (kX EX) [] (aCons (eVar 0) (aCons (eC (.int 13)) aNil))) (eC (.int 6))))
    sNext) sNext)
    (sSeq (sRet (eOp dSub (eFn sp__law_draw (kX EX) [] (aCons (eVar 0) (aCons (eOp dMul (eC (.int 2)) (eOp dPow (eC (.int 10)) (eC (.int 9)))) aNil))) (eOp dPow (eC (.int 10)) (eC (.int 9)))))
    sNext)))
-- 0 _law_one, 1 _law_number_here, 2 _law_other, 3 _law_mine, 4 _law_its
def t__law_added (EX : EXT) : TSd := (sSeq (sRet (eCall dTuple (aCons (eLcX (iZpX (aCons (eVar 0) (aCons (eVar 2) aNil))) [3, 4] (bind2 3 4) tYs (eOp dAdd (eVar 3) (eOp dMul (eVar 1) (eVar 4)))) aNil)))
    sNext)
-- 0 _law_well, 1 _law_wide, 2 _law_way, 3 _law_found, 4 _law_k, 5 _law_one
def t__law_handful (EX : EXT) : TSd := (sSeq (sSet 2 (eFn sp__law_draw (kX EX) [] (aCons (eVar 0) (aCons (eC (.int 3)) aNil))))
    (sSeq (sSet 3 (eLc (iR1 (aCons (eVar 1) aNil)) [4] (bind1 4) tYs (eOp dSub (eFn sp__law_draw E0X [] (aCons (eVar 0) (aCons (eC (.int 41)) aNil))) (eC (.int 20)))))
    (sSeq (sIf (tEq false (eVar 2) (eC (.int 2))) (sSeq (sSet 3 (eLcX (iSqX (eVar 3)) [5] (bind1 5) tYs (eOp dAdd (eOp dMul (eFn sp__law_draw E0X [] (aCons (eVar 0) (aCons (eOp dPow (eC (.int 10)) (eC (.int 9))) aNil))) (eOp dPow (eC (.int 10)) (eC (.int 9)))) (eOp dMul (eFn sp__law_draw E0X [] (aCons (eVar 0) (aCons (eOp dPow (eC (.int 10)) (eC (.int 9))) aNil))) (eVar 5)))))
    sNext) sNext)
    (sSeq (sRet (eCall dTuple (aCons (eVar 3) aNil)))
    sNext))))
-- 0 _law_house, 1 _law_wide, 2 _law_handful_here, 3 _law_least, 4 _law_row, 5 _law_head, 6 _law_one, 7 _law_k
def t__law_least_right (EX : EXT) : TSd := (sSeq (sSet 3 (eMeth "House" "least" sp_House_least (kX EX) [] (eVar 0) (aCons (eVar 2) aNil)))
    (sSeq (sIf (tOo (tNo (tVal (eCall dIsi (aCons (eVar 3) (aCons (eC (.ty "tuple")) aNil))))) (tEq true (eCall dLen (aCons (eVar 3) aNil)) (eVar 1))) (sSeq (sRet (eC (.bl false)))
    sNext) sNext)
    (sSeq (sIf (tNo (tVal (eCall dAll (aCons (eLcX (iSqX (eVar 3)) [6] (bind1 6) tYs (eAn (eCall dIsi (aCons (eVar 6) (aCons (eC (.ty "int")) aNil))) (eNo (eCall dIsi (aCons (eVar 6) (aCons (eC (.ty "bool")) aNil)))))) aNil)))) (sSeq (sRet (eC (.bl false)))
    sNext) sNext)
    (sSeq (sForX (iSqX (eMeth "House" "told" sp_House_told (kX EX) [] (eVar 0) aNil)) (gNm 4) (sSeq (sSet 5 (eOp dIx (eLc (iR1 (aCons (eVar 1) aNil)) [7] (bind1 7) (tEq true (eOp dIx (eVar 4) (eVar 7)) (eC (.int 0))) (eVar 7)) (eC (.int 0))))
    (sSeq (sIf (tNo (tChn .LtE .Lt (eC (.int 0)) (eOp dIx (eVar 3) (eVar 5)) (eOp dIx (eVar 4) (eVar 5)))) (sSeq (sRet (eC (.bl false)))
    sNext) sNext)
    sNext)))
    (sSeq (sRet (eAn (eEq false (eMeth "House" "least" sp_House_least (kX EX) [] (eVar 0) (aCons (eVar 3) aNil)) (eVar 3)) (eIsB false (eMeth "House" "alike" sp_House_alike (kX EX) [] (eVar 0) (aCons (eVar 2) (aCons (eVar 3) aNil))) (eC (.bl true)))))
    sNext)))))
-- 0 _law_house, 1 _law_one, 2 _law_two, 3 _law_three, 4 _law_found, 5 _law_both
def t__law_alike_right (EX : EXT) : TSd := (sSeq (sIf (tOo (tIsB true (eMeth "House" "alike" sp_House_alike (kX EX) [] (eVar 0) (aCons (eVar 1) (aCons (eVar 2) aNil))) (eC (.bl true))) (tOo (tIsB true (eMeth "House" "alike" sp_House_alike (kX EX) [] (eVar 0) (aCons (eVar 2) (aCons (eVar 1) aNil))) (eC (.bl true))) (tNo (tVal (eMeth "House" "alike" sp_House_alike (kX EX) [] (eVar 0) (aCons (eVar 3) (aCons (eVar 3) aNil))))))) (sSeq (sRet (eC (.bl false)))
    sNext) sNext)
    (sSeq (sIf (tEq true (eMeth "House" "least" sp_House_least (kX EX) [] (eVar 0) (aCons (eVar 1) aNil)) (eMeth "House" "least" sp_House_least (kX EX) [] (eVar 0) (aCons (eVar 2) aNil))) (sSeq (sRet (eC (.bl false)))
    sNext) sNext)
    (sSeq (sSet 4 (eMeth "House" "alike" sp_House_alike (kX EX) [] (eVar 0) (aCons (eVar 3) (aCons (eVar 2) aNil))))
    (sSeq (sIf (tOo (tNo (tVal (eCall dIsi (aCons (eVar 4) (aCons (eC (.ty "bool")) aNil))))) (tEq true (eVar 4) (eMeth "House" "alike" sp_House_alike (kX EX) [] (eVar 0) (aCons (eVar 2) (aCons (eVar 3) aNil))))) (sSeq (sRet (eC (.bl false)))
    sNext) sNext)
    (sSeq (sIf (tEq true (eVar 4) (eEq false (eMeth "House" "least" sp_House_least (kX EX) [] (eVar 0) (aCons (eVar 3) aNil)) (eMeth "House" "least" sp_House_least (kX EX) [] (eVar 0) (aCons (eVar 1) aNil)))) (sSeq (sRet (eC (.bl false)))
    sNext) sNext)
    (sSeq (sSet 5 (eFn sp__law_added (kX EX) [] (aCons (eMeth "House" "least" sp_House_least (kX EX) [] (eVar 0) (aCons (eVar 1) aNil)) (aCons (eC (.int 1)) (aCons (eMeth "House" "least" sp_House_least (kX EX) [] (eVar 0) (aCons (eVar 3) aNil)) aNil)))))
    (sSeq (sRet (eEq false (eMeth "House" "least" sp_House_least (kX EX) [] (eVar 0) (aCons (eFn sp__law_added (kX EX) [] (aCons (eVar 1) (aCons (eC (.int 1)) (aCons (eVar 3) aNil)))) aNil)) (eMeth "House" "least" sp_House_least (kX EX) [] (eVar 0) (aCons (eVar 5) aNil))))
    sNext)))))))
-- 0 _law_well, 1 _law_wide, 2 _law_way, 3 _law_rules, 4 _law_handed, 5 _law_house, 6 _law_one, 7 _law_two, 8 _law_rule, 9 _law_three, 10 _law_at, 11 _law_turn, 12 _law_due, 13 _law_k, 14 _law_j, 15 _law_handful_here
def t__law_right (EX : EXT) : TSd := (sSeq (sSet 1 (eFn sp__law_draw (kX EX) [] (aCons (eVar 0) (aCons (eC (.int 5)) aNil))))
    (sSeq (sSet 2 (eFn sp__law_draw (kX EX) [] (aCons (eVar 0) (aCons (eC (.int 7)) aNil))))
    (sSeq (sSet 3 (eLc (iR1 (aCons (eFn sp__law_draw (kX EX) [] (aCons (eVar 0) (aCons (eC (.int 5)) aNil))) aNil)) [13] (bind1 13) tYs (eCall dTuple (aCons (eLc (iR1 (aCons (eVar 1) aNil)) [14] (bind1 14) tYs (eFn sp__law_number E0X [] (aCons (eVar 0) (aCons (eVar 2) aNil)))) aNil))))
    (sSeq (sSet 4 (eCall dList (aCons (eVar 3) aNil)))
    (sSeq (sSet 5 (eNew "House" sp_House___init__ (kX EX) [] (aCons (eVar 1) (aCons (eVar 4) aNil))))
    (sSeq (sEx (eMc .list mApp (eVar 4) (aCons (eOp dTmulA (eTup (aCons (eC (.int 2)) aNil)) (eVar 1)) aNil)))
    (sSeq (sSet 6 (eFn sp__law_handful (kX EX) [] (aCons (eVar 0) (aCons (eVar 1) aNil))))
    (sSeq (sSet 7 (eVar 6))
    (sSeq (sForX (iSqX (eVar 3)) (gNm 8) (sSeq (sSet 7 (eFn sp__law_added (kX EX) [] (aCons (eVar 7) (aCons (eFn sp__law_number (kX EX) [] (aCons (eVar 0) (aCons (eOp dAdd (eC (.int 2)) (eOp dMul (eC (.int 2)) (eFn sp__law_draw (kX EX) [] (aCons (eVar 0) (aCons (eC (.int 2)) aNil))))) aNil))) (aCons (eVar 8) aNil)))))
    sNext))
    (sSeq (sSet 9 (eFn sp__law_handful (kX EX) [] (aCons (eVar 0) (aCons (eVar 1) aNil))))
    (sSeq (sIf (tAn (tOrd .Gt (eVar 1) (eC (.int 0))) (tEq false (eFn sp__law_draw (kX EX) [] (aCons (eVar 0) (aCons (eC (.int 2)) aNil))) (eC (.int 1)))) (sSeq (sSet 10 (eFn sp__law_draw (kX EX) [] (aCons (eVar 0) (aCons (eVar 1) aNil))))
    (sSeq (sSet 9 (eOp dAdd (eOp dAdd (eSl (eVar 6) oNo (oSome (eVar 10))) (eTup (aCons (eOp dAdd (eOp dIx (eVar 6) (eVar 10)) (eOp dIx (eLst (aCons (eC (.int 1)) (aCons (eUn dNeg (eC (.int 1))) (aCons (eC (.int 2)) (aCons (eC (.int 6)) aNil))))) (eFn sp__law_draw (kX EX) [] (aCons (eVar 0) (aCons (eC (.int 4)) aNil))))) aNil))) (eSl (eVar 6) (oSome (eOp dAdd (eVar 10) (eC (.int 1)))) oNo)))
    sNext)) sNext)
    (sSeq (sFor (iR1 (aCons (eC (.int 2)) aNil)) (gNm 11) (sSeq (sIf (tOo (tEq true (eMeth "House" "kinds" sp_House_kinds (kX EX) [] (eVar 5) aNil) (eVar 1)) (tOo (tEq true (eMeth "House" "rules" sp_House_rules (kX EX) [] (eVar 5) aNil) (eVar 3)) (tEq true (eMeth "House" "told" sp_House_told (kX EX) [] (eVar 5) aNil) (eFn sp_told_rows (kX EX) [] (aCons (eVar 3) (aCons (eVar 1) aNil)))))) (sSeq (sRet (eC (.bl false)))
    sNext) sNext)
    (sSeq (sIf (tNo (tVal (eCall dAll (aCons (eLcX (iSqX (eLst (aCons (eVar 6) (aCons (eVar 7) (aCons (eVar 9) aNil))))) [15] (bind1 15) tYs (eFn sp__law_least_right E0X [] (aCons (eVar 5) (aCons (eVar 1) (aCons (eVar 15) aNil))))) aNil)))) (sSeq (sRet (eC (.bl false)))
    sNext) sNext)
    (sSeq (sIf (tNo (tVal (eFn sp__law_alike_right (kX EX) [] (aCons (eVar 5) (aCons (eVar 6) (aCons (eVar 7) (aCons (eVar 9) aNil))))))) (sSeq (sRet (eC (.bl false)))
    sNext) sNext)
    (sSeq (sEx (eMc .list mApp (eMeth "House" "rules" sp_House_rules (kX EX) [] (eVar 5) aNil) (aCons (eVar 6) aNil)))
    (sSeq (sEx (eClr (eMeth "House" "told" sp_House_told (kX EX) [] (eVar 5) aNil)))
    sNext))))))
    (sSeq (sSet 12 (eLc (iR1 (aCons (eVar 1) aNil)) [13] (bind1 13) tYs (eCall dTuple (aCons (eLc (iR1 (aCons (eVar 1) aNil)) [14] (bind1 14) tYs (eCall dInt (aCons (eEq false (eVar 13) (eVar 14)) aNil))) aNil))))
    (sSeq (sRet (eEq false (eLc (iR1 (aCons (eVar 1) aNil)) [13] (bind1 13) tYs (eMeth "House" "one_of" sp_House_one_of E0X [] (eVar 5) (aCons (eVar 13) aNil))) (eVar 12)))
    sNext))))))))))))))
-- 0 _law_script, 1 _law_k, 2 _law_cell
def t_law (EX : EXT) : TSd := (sSeq (sForX (iEnX (aCons (eOp dAdd (eLst (aCons (eC (.int 0)) aNil)) (eSl (eVar 0) oNo (oSome (eC (.int 8))))) aNil)) (gTp 2 (gsCons (gNm 1) (gsCons (gNm 2) gsNil))) (sSeq (sIf (tNo (tVal (eFn sp__law_right (kX EX) [] (aCons (eLst (aCons (eOp dMul (eVar 2) (eCall dInt (aCons (eOrd .GtE (eVar 2) (eOp dPow (eC (.int 10)) (eC (.int 18)))) aNil))) (aCons (eOp dAdd (eOp dMod (eVar 2) (eC (.int 2147483647))) (eOp dMul (eC (.int 7919)) (eVar 1))) (aCons (eC (.int 0)) aNil)))) aNil)))) (sSeq (sRet (eC (.bl false)))
    sNext) sNext)
    sNext))
    (sSeq (sRet (eC (.bl true)))
    sNext))
local macro_rules | `(tactic| walk_at "ev") => `(tactic| dsimp only [sSeq, sRet, sIf, sSet, sFor, sNext, sEx, sPar, sAsg, DL.sFld, eAn, eOo, eNo, eCall, eFn, eMeth, eNew, eFld, aCons, aNil, eVar, rd, eC, eOp, eUn, eEq, eOrd, tEq, tOrd, tVal, tNo, tAn, tOo, tEqL, eEqL, tNone, eTup, eLst, eSl, oNo, oSome, eRev, iR1, iR2, iSq, iZp, sForX, iSqX, iEnX, iZpX, one_eq, eLcX_eq, gNm, gTp, gsCons, gsNil, eLc_eq, eIsB, tIsB, eMc, eClr, inG, List.set_cons_zero, List.set_cons_succ, List.getElem?_cons_zero, List.getElem?_cons_succ, List.append_nil])
theorem pure__law_number {ds : List D} {S : Sto} {Q : QD} {EX : EXT} (h : sp__law_number ds S Q EX) : t__law_number EX (endS Q) (startG ["_law_well", "_law_way"] ds) S := by
  obtain ⟨w, k, way, rfl, hw, q⟩ := h
  have last : ∀ S', Wst S S' k w → ((sSeq (sIf (tOrd .Lt (eVar 1) (eC (.int 4))) (sSeq (sRet (eOp dSub (eFn sp__law_draw (kX EX) [] (aCons (eVar 0) (aCons (eC (.int 13)) aNil))) (eC (.int 6))))
    sNext) sNext)
    (sSeq (sRet (eOp dSub (eFn sp__law_draw (kX EX) [] (aCons (eVar 0) (aCons (eOp dMul (eC (.int 2)) (eOp dPow (eC (.int 10)) (eC (.int 9)))) aNil))) (eOp dPow (eC (.int 10)) (eC (.int 9)))))
    sNext))) (endS Q) [some (.ref w), some (.int way)] S' := fun S' t => by
    have w' := hw.to t
    refine ⟨fun h => ?_, fun h => ?_⟩
    · exact ⟨w, k, 13, rfl, w', by decide, by decide, fun v2 S2 a2 b2 t2 => q _ _ (by omega) (t.trans t2)⟩
    · exact ⟨⟨by decide, by decide, by decide⟩, mul_ok_l (by decide), w, k, 2 * 10 ^ 9, rfl, w', by decide, by decide, fun v2 S2 a2 b2 t2 => ⟨⟨by decide, by decide, by decide⟩, q _ _ (by simp; omega) (t.trans t2)⟩⟩
  refine ⟨by decide, fun h => ?_, fun h => ⟨fun h2 => (by cases h2), fun _ => last S (wst_self hw)⟩⟩
  refine ⟨w, k, 2, rfl, hw, by decide, by decide, fun v1 S1 a1 b1 t1 => ⟨fun h1 => q _ _ (by decide) t1, fun h1 => last S1 t1⟩⟩
theorem pure__law_added {ds : List D} {S : Sto} {Q : QD} {EX : EXT} (h : sp__law_added ds S Q EX) : t__law_added EX (endS Q) (startG ["_law_one", "_law_number_here", "_law_other", "_law_mine", "_law_its"] ds) S := by
  obtain ⟨n, f, g, c, rfl, hn, hB, q⟩ := h
  show t__law_added EX (endS Q) [some (dR n f), some (.int c), some (dR n g), none, none] S
  unfold t__law_added
  walk_at "ev"
  refine itR ?_
  refine itR ?_
  show LcInX [some (dR n f), some (.int c), some (dR n g), none, none] [3, 4] (bind2 3 4) tYs (eOp dAdd (eVar 3) (eOp dMul (eVar 1) (eVar 4))) (zipD ((List.range n).map fun j => D.int (f j)) ((List.range n).map fun j => D.int (g j))) [] S _
  rw [zip_range]
  refine lcx_nil (lc_M (xs := List.range n) (src := fun j => D.tup [D.int (f j), D.int (g j)]) (fun j => D.int (f j + c * g j)) (by rw [List.length_range]; omega) (fun j hj p acc K hK => ?_) bind2_mono' (Or.inl q))
  exact bd2 (by show 3 < 5; decide) (by show 4 < 5; decide) ⟨hB j (List.mem_range.mp hj), hK⟩
theorem pure__law_handful {ds : List D} {S : Sto} {Q : QD} {EX : EXT} (h : sp__law_handful ds S Q EX) : t__law_handful EX (endS Q) (startG ["_law_well", "_law_wide", "_law_way", "_law_found", "_law_k", "_law_one"] ds) S := by
  obtain ⟨w, k, n, rfl, hw, hn, q⟩ := h
  refine ⟨w, k, 3, rfl, hw, by decide, by decide, fun v1 S1 a1 b1 t1 => ?_⟩
  have w1 := hw.to t1
  refine ⟨⟨by omega, by omega⟩, ?_⟩
  rw [Int.toNat_natCast, span_map]
  refine (draw_L (te := eOp dSub (eFn sp__law_draw E0X [] (aCons (eVar 0) (aCons (eC (.int 41)) aNil))) (eC (.int 20))) (bind := bind1 4) (own := [4]) (G := [some (.ref w), some (.int n), some (.int v1), none, none, none]) (src := fun k => D.int (k : Int)) (Pr := fun _ v => v.natAbs < 2 ^ 5) (n := n) w1 (by omega) (fun i hi p acc S2 K hw2 hK => ?_) bind1_mono (fun f1 S2 hf1 t2 => Or.inl ?_) : LcIn _ _ _ _ _ _ _ _)
  · refine ⟨w, k + 1, 41, rfl, wl_cons _ hw2, by decide, by decide, fun v S3 a b t3 => ?_⟩
    obtain ⟨S4, rfl, t4⟩ := wst_cons t3
    exact hK _ _ (by omega) t4
  have w2 := w1.to t2
  refine ⟨fun _ => ?_, fun _ => q f1 S2 (fun j hj => up_bd (hf1 j hj) (by decide)) (t1.trans t2)⟩
  refine (lcx_nil (draw_L (te := eOp dAdd (eOp dMul (eFn sp__law_draw E0X [] (aCons (eVar 0) (aCons (eOp dPow (eC (.int 10)) (eC (.int 9))) aNil))) (eOp dPow (eC (.int 10)) (eC (.int 9)))) (eOp dMul (eFn sp__law_draw E0X [] (aCons (eVar 0) (aCons (eOp dPow (eC (.int 10)) (eC (.int 9))) aNil))) (eVar 5))) (bind := bind1 5) (own := [5]) (G := [some (.ref w), some (.int n), some (.int v1), some (.lst ((List.range n).map fun j => D.int (f1 j))), none, none]) (src := fun j => D.int (f1 j)) (Pr := fun _ v => v.natAbs < 2 ^ 96) (n := n) w2 (by omega) (fun i hi p acc S3 K hw3 hK => ?_) bind1_mono (fun g S4 hg t4 => Or.inl ?_)) : LcInX _ _ _ _ _ _ [] _ _)
  rotate_left
  · exact q g S4 hg ((t1.trans t2).trans t4)
  refine ⟨⟨by decide, by decide, by decide⟩, w, k + 1, 10 ^ 9, rfl, wl_cons _ hw3, by decide, by decide, fun v S5 a b t3 => ?_⟩
  obtain ⟨S6, rfl, t5⟩ := wst_cons t3
  have hv : v.natAbs < 2 ^ 30 := by omega
  refine ⟨⟨by decide, by decide, by decide⟩, mul_ok_l (by omega), ⟨by decide, by decide, by decide⟩, w, k + 1, 10 ^ 9, rfl, wl_cons _ (hw3.to t5), by decide, by decide, fun v2 S7 a2 b2 t6 => ?_⟩
  obtain ⟨S8, rfl, t8⟩ := wst_cons t6
  have hv2 : v2.natAbs < 2 ^ 30 := by omega
  refine ⟨mul_ok_l (by omega), hK _ _ ?_ (t5.trans t8)⟩
  have h1 := bits_mul hv (show ((10 : Int) ^ 9).natAbs < 2 ^ 30 by decide)
  have h2 := up_bd (bits_mul hv2 (hf1 i hi)) (show 30 + 5 ≤ 60 by decide)
  have h3 : (2 : Nat) ^ 96 = 2 ^ 60 * 2 ^ 36 := by decide
  have h4 : (2 : Nat) ≤ 2 ^ 36 := by decide
  have h5 : (v * 10 ^ 9 + v2 * f1 i).natAbs ≤ (v * 10 ^ 9).natAbs + (v2 * f1 i).natAbs := Int.natAbs_add_le _ _
  have h6 : (2 : Nat) ^ 60 * 2 ≤ 2 ^ 60 * 2 ^ 36 := Nat.mul_le_mul_left _ h4
  have h7 : (v * 10 ^ 9).natAbs < 2 ^ 60 := h1
  show (v * 10 ^ 9 + v2 * f1 i).natAbs < 2 ^ 96
  omega
theorem pure__law_least_right {ds : List D} {S : Sto} {Q : QD} {EX : EXT} (h : sp__law_least_right ds S Q EX) : t__law_least_right EX (endS Q) (startG ["_law_house", "_law_wide", "_law_handful_here", "_law_least", "_law_row", "_law_head", "_law_one", "_law_k"] ds) S := by
  obtain ⟨x, n, b, B, m, G, ss, v, rfl, H, hv, q⟩ := h
  have h7 := H.dim.n7
  have T := H.ri.tdy.ech
  obtain ⟨rd1, rd2⟩ := H.ri.rest (v := v)
  have rb := H.rest_bd hv
  have hv2 : ∀ j, j < n → (v j).natAbs < 2 ^ (150 + 57000) := fun j hj => up_bd (hv j hj) (by decide)
  show t__law_least_right EX (endS Q) [some x, some (.int n), some (dR n v), none, none, none, none, none] S
  unfold t__law_least_right
  walk_at "ev"
  refine H.least (by decide) hv ?_
  refine isi_tuple ⟨_, rfl⟩ ?_
  refine ⟨fun z => (by cases z), fun _ => ?_⟩
  refine len_R ?_
  refine ⟨fun z => by simp at z, fun _ => ?_⟩
  refine seqR ?_
  show LcInX [some x, some (.int n), some (dR n v), some (dR n (restS ss v)), none, none, none, none] [6] (bind1 6) tYs (eAn (eCall dIsi (aCons (eVar 6) (aCons (eC (.ty "int")) aNil))) (eNo (eCall dIsi (aCons (eVar 6) (aCons (eC (.ty "bool")) aNil))))) ((List.range n).map fun j => D.int (restS ss v j)) [] S _
  refine lcx_nil (lc_M (xs := List.range n) (src := fun j => D.int (restS ss v j)) (fun _ => D.bl true) (by rw [List.length_range]; omega) (fun j hj p acc K hK => ?_) bind1_mono (Or.inl ?_))
  · refine bd1 (by show 6 < 8; decide) ?_
    walk_at "ev"
    refine (isi_int (x := D.int (restS ss v j)) ⟨_, rfl⟩ ?_ : dIsi [D.int (restS ss v j), .ty "int"] _ _)
    refine ⟨fun _ => ?_, fun z => by cases z⟩
    refine (isi_bool (x := D.int (restS ss v j)) ⟨_, rfl⟩ ?_ : dIsi [D.int (restS ss v j), .ty "bool"] _ _)
    exact hK
  refine lst_ints_all ⟨fun z => (by cases z), fun _ => ?_⟩
  refine H.asI ⟨rfl, x, n, b, B, m, G, ss, rfl, H, Or.inl ?_⟩
  refine ⟨fun k Gl S' => S' = S ∧ ∃ o4 o5 : Option D, Gl = [some x, some (.int n), some (dR n v), some (dR n (restS ss v)), o4, o5, none, none], ⟨rfl, none, none, rfl⟩, fun _ _ _ _ => .nil, ?_, ?_⟩
  · rintro k d Gl S' e ⟨rfl, o4, o5, rfl⟩
    obtain ⟨s, hs, rfl⟩ := told_at e
    have sm := List.mem_of_getElem? hs
    have hd := T.head s sm
    refine ⟨⟨by omega, by omega⟩, ?_⟩
    rw [Int.toNat_natCast, span_map]
    refine (lc_F (fun (k : Nat) => !decide (s.row k = 0)) (fun (k : Nat) => D.int (k : Int)) (src := fun (k : Nat) => D.int (k : Int)) (xs := List.range n) (tt := tEq true (eOp dIx (eVar 4) (eVar 7)) (eC (.int 0))) (te := eVar 7) (bind := bind1 7) (own := [7]) (G := [some x, some (.int n), some (dR n v), some (dR n (restS ss v)), some (dR n s.row), o5, none, none])
      (by rw [List.length_range]; omega) (fun k hk p acc => ⟨fun P hP => ?_, fun _ K hK => hK⟩) bind1_mono (Or.inl ?_) : LcIn _ _ _ _ _ _ _ _)
    · exact ⟨.int (s.row k), atI_nat (range_at (fun j => D.int (s.row j)) (List.mem_range.mp hk)), hP⟩
    · obtain ⟨r, er⟩ := filter_head hd
      rw [er]
      refine ⟨.int s.head, atI_nat (k := 0) rfl, ?_⟩
      obtain ⟨r1, r2⟩ := rd1 s sm
      refine ⟨.int (restS ss v s.head), atI_nat (range_at (fun j => D.int (restS ss v j)) hd.1), ?_⟩
      refine ⟨fun z => absurd r1 (of_decide_eq_false z), fun _ => ⟨.int (s.row s.head), atI_nat (range_at (fun j => D.int (s.row j)) hd.1), ?_⟩⟩
      have c2 : cmpI .Lt (restS ss v s.head) (s.row s.head) = true := decide_eq_true r2
      exact ⟨fun z => (by rw [c2] at z; cases z), fun _ => ⟨rfl, _, _, rfl⟩⟩
  · rintro Gl S' ⟨rfl, o4, o5, rfl⟩
    walk_at "ev"
    refine H.least (by decide) rb ?_
    refine eqR_same (H.ri.rest_eq.mp (InL.lin (-1) (InL.zero fun _ _ => rfl) rd2 fun j _ => by omega)) ?_
    refine ⟨fun _ => ?_, fun z => by cases z⟩
    refine H.alikeT (by decide) hv2 rb rd2 ?_
    exact q
theorem bl_same {neg k : Bool} {S : Sto} {Q : Bool → Sto → Prop} (q : Q (!neg) S) : dEq neg (.bl k) (.bl k) S Q := by
  show Q (if neg then !decide (k = k) else decide (k = k)) S
  rw [decide_eq_true rfl]
  cases neg <;> exact q
theorem int_same {neg : Bool} {i : Int} {S : Sto} {Q : Bool → Sto → Prop} (q : Q (!neg) S) : dEq neg (.int i) (.int i) S Q := by
  show Q (if neg then !decide (i = i) else decide (i = i)) S
  rw [decide_eq_true rfl]
  cases neg <;> exact q
theorem idG_if (k j : Nat) : (if decide ((k : Int) = (j : Int)) then (1 : Int) else 0) = idG k j := by
  unfold idG
  by_cases z : k = j
  · rw [if_pos z, if_pos (decide_eq_true (by omega))]
  · rw [if_neg z, if_neg (by rw [decide_eq_false (by omega)]; decide)]
theorem four_at {v : Int} (h0 : 0 ≤ v) (h4 : v < 4) : ∃ z : Int, atI [D.int 1, D.int (-1), D.int 2, D.int 6] v = some (.int z) ∧ z.natAbs ≤ 6 := by
  have : v = 0 ∨ v = 1 ∨ v = 2 ∨ v = 3 := by omega
  rcases this with rfl | rfl | rfl | rfl
  · exact ⟨1, rfl, by decide⟩
  · exact ⟨-1, rfl, by decide⟩
  · exact ⟨2, rfl, by decide⟩
  · exact ⟨6, rfl, by decide⟩
theorem pure__law_alike_right {ds : List D} {S : Sto} {Q : QD} {EX : EXT} (h : sp__law_alike_right ds S Q EX) : t__law_alike_right EX (endS Q) (startG ["_law_house", "_law_one", "_law_two", "_law_three", "_law_found", "_law_both"] ds) S := by
  obtain ⟨x, n, b, B, m, G, ss, u, v, t, rfl, H, bu, bv, bt, huv, q⟩ := h
  have h7 := H.dim.n7
  have hvu : InL n ss fun j => v j - u j := InL.lin (-1) (InL.zero fun _ _ => rfl) huv fun j _ => by omega
  have euv := H.ri.rest_eq.mp huv
  have ru := H.rest_bd bu
  have rt := H.rest_bd bt
  show t__law_alike_right EX (endS Q) [some x, some (dR n u), some (dR n v), some (dR n t), none, none] S
  unfold t__law_alike_right
  walk_at "ev"
  refine H.alikeT (by decide) bu bv huv ?_
  refine ⟨fun z => (by cases z), fun _ => ?_⟩
  refine H.alikeT (by decide) bv bu hvu ?_
  refine ⟨fun z => (by cases z), fun _ => ?_⟩
  refine H.alikeT (by decide) bt bt (InL.zero fun j _ => by omega) ?_
  refine ⟨fun z => (by cases z), fun _ => ?_⟩
  refine H.least (by decide) bu ?_
  refine H.least (by decide) bv ?_
  refine eqR_same euv ⟨fun z => (by cases z), fun _ => ?_⟩
  refine H.alike (by decide) bt bv fun k hk => ?_
  refine isi_bool ⟨_, rfl⟩ ?_
  refine ⟨fun z => (by cases z), fun _ => ?_⟩
  refine H.alike (by decide) bv bt fun k2 hk2 => ?_
  have ek : k2 = k := by
    rw [Bool.eq_iff_iff, hk, hk2]
    exact ⟨fun h => InL.lin (-1) (InL.zero fun _ _ => rfl) h fun j _ => by omega, fun h => InL.lin (-1) (InL.zero fun _ _ => rfl) h fun j _ => by omega⟩
  subst ek
  refine bl_same ?_
  refine ⟨fun z => (by cases z), fun _ => ?_⟩
  have htu : k2 = true ↔ ∀ j, j < n → restS ss t j = restS ss u j := by
    rw [hk, H.ri.rest_eq]
    exact ⟨fun h j hj => (h j hj).trans (euv j hj).symm, fun h j hj => (h j hj).trans (euv j hj)⟩
  refine H.least (by decide) bt ?_
  refine H.least (by decide) bu ?_
  have last : ((sSeq (sSet 5 (eFn sp__law_added (kX EX) [] (aCons (eMeth "House" "least" sp_House_least (kX EX) [] (eVar 0) (aCons (eVar 1) aNil)) (aCons (eC (.int 1)) (aCons (eMeth "House" "least" sp_House_least (kX EX) [] (eVar 0) (aCons (eVar 3) aNil)) aNil)))))
    (sSeq (sRet (eEq false (eMeth "House" "least" sp_House_least (kX EX) [] (eVar 0) (aCons (eFn sp__law_added (kX EX) [] (aCons (eVar 1) (aCons (eC (.int 1)) (aCons (eVar 3) aNil)))) aNil)) (eMeth "House" "least" sp_House_least (kX EX) [] (eVar 0) (aCons (eVar 5) aNil))))
    sNext))) (endS Q) [some x, some (dR n u), some (dR n v), some (dR n t), some (.bl k2), none] S := by
    walk_at "ev"
    refine H.least (by decide) bu ?_
    refine H.least (by decide) bt ?_
    refine ⟨n, restS ss u, restS ss t, 1, rfl, by omega, fun j _ => mul_ok_l (by decide), ?_⟩
    refine H.asI ⟨rfl, ?_⟩
    refine ⟨n, u, t, 1, rfl, by omega, fun j _ => mul_ok_l (by decide), ?_⟩
    refine .inl ⟨x, n, b, B, m, G, ss, _, 151, rfl, H, by decide, fun j hj => ?_, ?_⟩
    · have h1 := bu j hj
      have h2 := bt j hj
      omega
    refine H.least (c := 57151) (by decide) (fun j hj => ?_) ?_
    · have h1 := ru j hj
      have h2 := rt j hj
      have e : (2 : Nat) ^ 57151 = 2 ^ (150 + 57000) * 2 := by rw [← Nat.pow_succ]
      omega
    refine eqR_same (H.ri.rest_eq.mp ?_) q
    exact InL.lin 1 (H.ri.rest (v := u)).2 (H.ri.rest (v := t)).2 fun j _ => by omega
  refine eqR (fun h => ?_) fun h => ?_
  · obtain rfl : k2 = true := htu.mpr h
    refine bl_same ?_
    exact ⟨fun z => (by cases z), fun _ => last⟩
  · obtain rfl : k2 = false := by
      cases k2 with
      | false => rfl
      | true => exact absurd (htu.mp rfl) h
    refine bl_same ?_
    exact ⟨fun z => (by cases z), fun _ => last⟩
theorem pure__law_right {ds : List D} {S : Sto} {Q : QD} {EX : EXT} (h : sp__law_right ds S Q EX) : t__law_right EX (endS Q) (startG ["_law_well", "_law_wide", "_law_way", "_law_rules", "_law_handed", "_law_house", "_law_one", "_law_two", "_law_rule", "_law_three", "_law_at", "_law_turn", "_law_due", "_law_k", "_law_j", "_law_handful_here"] ds) S := by
  obtain ⟨w, k, rfl, hw, q⟩ := h
  show t__law_right EX (endS Q) [some (.ref w), none, none, none, none, none, none, none, none, none, none, none, none, none, none, none] S
  unfold t__law_right
  walk_at "ev"
  refine ⟨w, k, 5, rfl, hw, by decide, by decide, fun v1 S1 a1 b1 t1 => ?_⟩
  obtain ⟨n, rfl⟩ : ∃ n : Nat, v1 = n := ⟨v1.toNat, by omega⟩
  have hn : n ≤ 4 := by omega
  have w1 := hw.to t1
  refine ⟨w, k, 7, rfl, w1, by decide, by decide, fun way S2 a2 b2 t2 => ?_⟩
  have w2 := w1.to t2
  refine ⟨w, k, 5, rfl, w2, by decide, by decide, fun v3 S3 a3 b3 t3 => ?_⟩
  obtain ⟨m, rfl⟩ : ∃ m : Nat, v3 = m := ⟨v3.toNat, by omega⟩
  have hm : m ≤ 4 := by omega
  have w3 := w2.to t3
  refine ⟨⟨by omega, by omega⟩, ?_⟩
  rw [Int.toNat_natCast]
  refine (draw_Gm (Pr := fun v => v.natAbs < 2 ^ 31) (n := n) (r := m) (te := eCall dTuple (aCons (eLc (iR1 (aCons (eVar 1) aNil)) [14] (bind1 14) tYs (eFn sp__law_number E0X [] (aCons (eVar 0) (aCons (eVar 2) aNil)))) aNil)) (bind := bind1 13) (own := [13]) (G := [some (.ref w), some (.int n), some (.int way), none, none, none, none, none, none, none, none, none, none, none, none, none])
    w3 (by omega) (fun i hi p acc S4 K w4 hK => ?_) bind1_mono (fun f S4 hf t4 => Or.inl ?_) : LcIn _ _ _ _ _ _ _ _)
  · refine ⟨⟨by omega, by omega⟩, ?_⟩
    rw [Int.toNat_natCast]
    refine (draw_R (Pr := fun v => v.natAbs < 2 ^ 31) (n := n) (te := eFn sp__law_number E0X [] (aCons (eVar 0) (aCons (eVar 2) aNil))) (bind := bind1 14) (own := [14]) (G := [some (.ref w), some (.int n), some (.int way), none, none, none, none, none, none, none, none, none, none, some (.int (0 + (i : Int))), none, none])
      (wl_cons (p, Cel.lst acc) w4) (by omega) (fun j hj p2 acc2 S5 K2 w5 hK2 => ?_) bind1_mono (fun f S5 hf t5 => ?_) : LcIn _ _ _ _ _ _ _ _)
    · refine ⟨w, _, way, rfl, wl_cons _ w5, fun v S6 hv t6 => ?_⟩
      obtain ⟨S7, rfl, t7⟩ := wst_cons t6
      exact hK2 v S7 hv t7
    · obtain ⟨S6, rfl, t6⟩ := wst_cons t5
      exact hK f S6 hf t6
  have w4 := w3.to t4
  have bf : Bd 31 m n f := fun i j hi hj => hf i j hi hj
  have b100 : Bd 100 m n f := fun i j hi hj => up_bd (bf i j hi hj) (by decide)
  have lm := lm_all (n := n) (b := 100) (m := m) (G := f) (by omega) (by decide) b100
  have D1 : Dim n 100 (Bn n 100) := dim5 (by omega)
  refine LV.list (.lst (rowsL n m f)) (Or.inr fun p4 => ?_)
  refine house_new (.cell (k := 0) rfl) D1 (by omega) b100 lm fun x ss H => ?_
  have h7 := H.dim.n7
  refine ⟨(LV.cell (k := 0) rfl).q trivial, ?_⟩
  show fit [D.int 2] _
  refine fit_of (by show 1 ≤ 1000000; decide) ⟨by omega, by omega, by decide, ?_⟩
  refine ⟨0, _, rfl, by rw [rowsL_len]; show m < 16777216; omega, ?_⟩
  have w5 : Wl ((p4, Cel.lst (rowsL n m f ++ [D.tup (List.replicate (n : Int).toNat [D.int 2]).flatten])) :: S4) (k + 1) w := w4
  show ((sSeq (sSet 6 (eFn sp__law_handful (kX EX) [] (aCons (eVar 0) (aCons (eVar 1) aNil))))
    (sSeq (sSet 7 (eVar 6))
    (sSeq (sForX (iSqX (eVar 3)) (gNm 8) (sSeq (sSet 7 (eFn sp__law_added (kX EX) [] (aCons (eVar 7) (aCons (eFn sp__law_number (kX EX) [] (aCons (eVar 0) (aCons (eOp dAdd (eC (.int 2)) (eOp dMul (eC (.int 2)) (eFn sp__law_draw (kX EX) [] (aCons (eVar 0) (aCons (eC (.int 2)) aNil))))) aNil))) (aCons (eVar 8) aNil)))))
    sNext))
    (sSeq (sSet 9 (eFn sp__law_handful (kX EX) [] (aCons (eVar 0) (aCons (eVar 1) aNil))))
    (sSeq (sIf (tAn (tOrd .Gt (eVar 1) (eC (.int 0))) (tEq false (eFn sp__law_draw (kX EX) [] (aCons (eVar 0) (aCons (eC (.int 2)) aNil))) (eC (.int 1)))) (sSeq (sSet 10 (eFn sp__law_draw (kX EX) [] (aCons (eVar 0) (aCons (eVar 1) aNil))))
    (sSeq (sSet 9 (eOp dAdd (eOp dAdd (eSl (eVar 6) oNo (oSome (eVar 10))) (eTup (aCons (eOp dAdd (eOp dIx (eVar 6) (eVar 10)) (eOp dIx (eLst (aCons (eC (.int 1)) (aCons (eUn dNeg (eC (.int 1))) (aCons (eC (.int 2)) (aCons (eC (.int 6)) aNil))))) (eFn sp__law_draw (kX EX) [] (aCons (eVar 0) (aCons (eC (.int 4)) aNil))))) aNil))) (eSl (eVar 6) (oSome (eOp dAdd (eVar 10) (eC (.int 1)))) oNo)))
    sNext)) sNext)
    (sSeq (sFor (iR1 (aCons (eC (.int 2)) aNil)) (gNm 11) (sSeq (sIf (tOo (tEq true (eMeth "House" "kinds" sp_House_kinds (kX EX) [] (eVar 5) aNil) (eVar 1)) (tOo (tEq true (eMeth "House" "rules" sp_House_rules (kX EX) [] (eVar 5) aNil) (eVar 3)) (tEq true (eMeth "House" "told" sp_House_told (kX EX) [] (eVar 5) aNil) (eFn sp_told_rows (kX EX) [] (aCons (eVar 3) (aCons (eVar 1) aNil)))))) (sSeq (sRet (eC (.bl false)))
    sNext) sNext)
    (sSeq (sIf (tNo (tVal (eCall dAll (aCons (eLcX (iSqX (eLst (aCons (eVar 6) (aCons (eVar 7) (aCons (eVar 9) aNil))))) [15] (bind1 15) tYs (eFn sp__law_least_right E0X [] (aCons (eVar 5) (aCons (eVar 1) (aCons (eVar 15) aNil))))) aNil)))) (sSeq (sRet (eC (.bl false)))
    sNext) sNext)
    (sSeq (sIf (tNo (tVal (eFn sp__law_alike_right (kX EX) [] (aCons (eVar 5) (aCons (eVar 6) (aCons (eVar 7) (aCons (eVar 9) aNil))))))) (sSeq (sRet (eC (.bl false)))
    sNext) sNext)
    (sSeq (sEx (eMc .list mApp (eMeth "House" "rules" sp_House_rules (kX EX) [] (eVar 5) aNil) (aCons (eVar 6) aNil)))
    (sSeq (sEx (eClr (eMeth "House" "told" sp_House_told (kX EX) [] (eVar 5) aNil)))
    sNext))))))
    (sSeq (sSet 12 (eLc (iR1 (aCons (eVar 1) aNil)) [13] (bind1 13) tYs (eCall dTuple (aCons (eLc (iR1 (aCons (eVar 1) aNil)) [14] (bind1 14) tYs (eCall dInt (aCons (eEq false (eVar 13) (eVar 14)) aNil))) aNil))))
    (sSeq (sRet (eEq false (eLc (iR1 (aCons (eVar 1) aNil)) [13] (bind1 13) tYs (eMeth "House" "one_of" sp_House_one_of E0X [] (eVar 5) (aCons (eVar 13) aNil))) (eVar 12)))
    sNext))))))))) (endS Q) [some (.ref w), some (.int n), some (.int way), some (.lst (rowsL n m f)), some (.ref p4), some x, none, none, none, none, none, none, none, none, none, none] ((p4, Cel.lst (rowsL n m f ++ [D.tup (List.replicate (n : Int).toNat [D.int 2]).flatten])) :: S4)
  generalize ((p4, Cel.lst (rowsL n m f ++ [D.tup (List.replicate (n : Int).toNat [D.int 2]).flatten])) :: S4 : Sto) = S5 at w5
  generalize k + 1 = k5 at w5
  walk_at "ev"
  refine ⟨w, k5, n, rfl, w5, by omega, fun f1 S6 b6 t6 => ?_⟩
  have w6 := w5.to t6
  have up : ∀ {c : Nat} {v : Nat → Int}, c ≤ 150 → (∀ j, j < n → (v j).natAbs < 2 ^ c) → ∀ j, j < n → (v j).natAbs < 2 ^ 150 := fun hc h j hj => up_bd (h j hj) hc
  refine ⟨fun i Gl S' => ∃ (u : Nat → Int) (o8 : Option D), Wl S' k5 w ∧ (∀ k, k < n → (u k).natAbs < 2 ^ (97 + i)) ∧ InL n ss (fun k => f1 k - u k) ∧
    Gl = [some (.ref w), some (.int n), some (.int way), some (.lst (rowsL n m f)), some (.ref p4), some x, some (dR n f1), some (dR n u), o8, none, none, none, none, none, none, none],
    ⟨f1, none, w6, fun k hk => up_bd (b6 k hk) (by omega), InL.zero fun k _ => by omega, rfl⟩, fun _ _ _ _ => .nil, ?_, ?_⟩
  · rintro i d Gl S' e ⟨u, o8, W, bu, hu, rfl⟩
    obtain ⟨hi, rfl⟩ := range_get e
    walk_at "ev"
    refine ⟨w, k5, 2, rfl, W, by decide, by decide, fun v S7 a7 b7 t7 => ?_⟩
    refine ⟨mul_ok_l (by decide), w, k5, _, rfl, W.to t7, fun c S8 hc t8 => ?_⟩
    refine ⟨n, u, f i, c, rfl, by omega, fun j hj => mul_ok_l (by omega), ?_⟩
    refine ⟨_, some (dR n (f i)), (W.to t7).to t8, fun j hj => ?_, InL.lin (-c) hu (H.ri.inL i hi) fun j _ => by grind, rfl⟩
    have h1 := bits_mul hc (hf i j hi hj)
    have h2 := bu j hj
    have h3 : 2 ^ (31 + 31) ≤ 2 ^ (97 + i) := Nat.pow_le_pow_right (by decide) (by omega)
    have h5 : (u j + c * f i j).natAbs ≤ (u j).natAbs + (c * f i j).natAbs := Int.natAbs_add_le _ _
    show (u j + c * f i j).natAbs < _
    rw [show 97 + (i + 1) = 97 + i + 1 by omega, Nat.pow_succ]
    omega
  rintro Gl S' ⟨u, o8, W, bu, hu, rfl⟩
  have bu' : ∀ k, k < n → (u k).natAbs < 2 ^ 140 := fun k hk => up_bd (bu k hk) (by rw [rowsL_len]; omega)
  walk_at "ev"
  refine ⟨w, k5, n, rfl, W, by omega, fun f3 S7 b7 t7 => ?_⟩
  have w7 := W.to t7
  have fin : ∀ (t : Nat → Int) (o10 : Option D) (S8 : Sto), (∀ k, k < n → (t k).natAbs < 2 ^ 97) → ((sSeq (sFor (iR1 (aCons (eC (.int 2)) aNil)) (gNm 11) (sSeq (sIf (tOo (tEq true (eMeth "House" "kinds" sp_House_kinds (kX EX) [] (eVar 5) aNil) (eVar 1)) (tOo (tEq true (eMeth "House" "rules" sp_House_rules (kX EX) [] (eVar 5) aNil) (eVar 3)) (tEq true (eMeth "House" "told" sp_House_told (kX EX) [] (eVar 5) aNil) (eFn sp_told_rows (kX EX) [] (aCons (eVar 3) (aCons (eVar 1) aNil)))))) (sSeq (sRet (eC (.bl false)))
    sNext) sNext)
    (sSeq (sIf (tNo (tVal (eCall dAll (aCons (eLcX (iSqX (eLst (aCons (eVar 6) (aCons (eVar 7) (aCons (eVar 9) aNil))))) [15] (bind1 15) tYs (eFn sp__law_least_right E0X [] (aCons (eVar 5) (aCons (eVar 1) (aCons (eVar 15) aNil))))) aNil)))) (sSeq (sRet (eC (.bl false)))
    sNext) sNext)
    (sSeq (sIf (tNo (tVal (eFn sp__law_alike_right (kX EX) [] (aCons (eVar 5) (aCons (eVar 6) (aCons (eVar 7) (aCons (eVar 9) aNil))))))) (sSeq (sRet (eC (.bl false)))
    sNext) sNext)
    (sSeq (sEx (eMc .list mApp (eMeth "House" "rules" sp_House_rules (kX EX) [] (eVar 5) aNil) (aCons (eVar 6) aNil)))
    (sSeq (sEx (eClr (eMeth "House" "told" sp_House_told (kX EX) [] (eVar 5) aNil)))
    sNext))))))
    (sSeq (sSet 12 (eLc (iR1 (aCons (eVar 1) aNil)) [13] (bind1 13) tYs (eCall dTuple (aCons (eLc (iR1 (aCons (eVar 1) aNil)) [14] (bind1 14) tYs (eCall dInt (aCons (eEq false (eVar 13) (eVar 14)) aNil))) aNil))))
    (sSeq (sRet (eEq false (eLc (iR1 (aCons (eVar 1) aNil)) [13] (bind1 13) tYs (eMeth "House" "one_of" sp_House_one_of E0X [] (eVar 5) (aCons (eVar 13) aNil))) (eVar 12)))
    sNext)))) (endS Q) [some (.ref w), some (.int n), some (.int way), some (.lst (rowsL n m f)), some (.ref p4), some x, some (dR n f1), some (dR n u), o8, some (dR n t), o10, none, none, none, none, none] S8 := by
    intro t o10 S8 bt
    walk_at "ev"
    refine ⟨⟨by decide, by decide⟩, ?_⟩
    refine ⟨fun i Gl S' => ∃ o11 : Option D, Gl = [some (.ref w), some (.int n), some (.int way), some (.lst (rowsL n m f)), some (.ref p4), some x, some (dR n f1), some (dR n u), o8, some (dR n t), o10, o11, none, none, none, none], ⟨none, rfl⟩, ?_, ?_⟩
    · rintro i d Gl S9 e ⟨o11, rfl⟩
      walk_at "ev"
      refine H.asI ⟨rfl, x, n, _, _, m, f, ss, rfl, H, ?_⟩
      refine int_same ?_
      refine ⟨fun z => (by cases z), fun _ => ?_⟩
      refine H.asI ⟨rfl, x, n, _, _, m, f, ss, rfl, H, Or.inl ?_⟩
      refine eq_ok 2 (told_okR n m f) (told_okR n m f) (by decide) (fun _ => ?_) fun z => absurd rfl z
      refine ⟨fun z => (by cases z), fun _ => ?_⟩
      refine H.asI ⟨rfl, x, n, _, _, m, f, ss, rfl, H, Or.inl ?_⟩
      refine .inl ⟨_, n, 100, _, m, f, rfl, .lst _, D1, by omega, b100, lm, fun ts R2 => ?_⟩
      refine told_eq H.ri.tdy.ech R2.tdy.ech (fun _ => ?_) fun A => absurd (H.ri.only R2 R2.inL H.ri.inL) A
      refine ⟨fun z => (by cases z), fun _ => ?_⟩
      have u1 := up (c := 96) (by decide) b6
      have u2 := up (c := 140) (by decide) bu'
      have u3 := up (c := 97) (by decide) bt
      refine fit_of (by show 3 ≤ 1000000; decide) (Or.inl ?_)
      refine (lcx_nil (lc_M (xs := [f1, u, t]) (src := fun v => dR n v) (fun _ => D.bl true) (by show 3 ≤ 1000000; decide) (fun v hv p acc K hK => ?_) bind1_mono (Or.inl ?_)) : LcInX _ _ _ _ _ _ [] _ _)
      · refine bd1 (by show 15 < 16; decide) ?_
        refine ⟨x, n, _, _, m, f, ss, v, rfl, H, ?_, hK⟩
        have : v = f1 ∨ v = u ∨ v = t := by simpa using hv
        rcases this with e | e | e
        · subst e; exact u1
        · subst e; exact u2
        · subst e; exact u3
      refine ⟨[true, true, true], rfl, ?_⟩
      refine ⟨fun z => (by cases z), fun _ => ?_⟩
      refine ⟨x, n, _, _, m, f, ss, f1, u, t, rfl, H, u1, u2, u3, hu, ?_⟩
      refine ⟨fun z => (by cases z), fun _ => ?_⟩
      refine H.asI ⟨rfl, x, n, _, _, m, f, ss, rfl, H, Or.inr fun p6 => ?_⟩
      refine ⟨(LV.cell (k := 0) rfl).q trivial, ?_⟩
      refine ⟨0, _, rfl, by rw [rowsL_len]; show m < 16777216; omega, ?_⟩
      refine H.asI ⟨rfl, x, n, _, _, m, f, ss, rfl, H, Or.inr fun p7 => ?_⟩
      refine ⟨0, _, rfl, ?_⟩
      exact ⟨_, rfl⟩
    · rintro Gl S9 ⟨o11, rfl⟩
      walk_at "ev"
      refine ⟨⟨by omega, by omega⟩, ?_⟩
      rw [Int.toNat_natCast, span_map]
      refine (lc_M (xs := List.range n) (src := fun (k : Nat) => D.int (k : Int)) (fun k => dR n (idG k)) (by rw [List.length_range]; omega) (fun k hk p acc K hK => ?_) bind1_mono (Or.inl ?_) : LcIn _ _ _ _ _ _ _ _)
      · refine bd1 (by show 13 < 16; decide) ?_
        walk_at "ev"
        refine ⟨⟨by omega, by omega⟩, ?_⟩
        rw [Int.toNat_natCast, span_map]
        refine (lc_M (xs := List.range n) (src := fun (j : Nat) => D.int (j : Int)) (fun j => D.int (idG k j)) (by rw [List.length_range]; omega) (fun j hj p2 acc2 K2 hK2 => ?_) bind1_mono (Or.inl ?_) : LcIn _ _ _ _ _ _ _ _)
        rotate_left
        · exact hK
        refine bd1 (by show 14 < 16; decide) ?_
        show K2 (.int (if decide ((k : Int) = (j : Int)) then 1 else 0)) _
        rw [idG_if]
        exact hK2
      refine ⟨⟨by omega, by omega⟩, ?_⟩
      rw [Int.toNat_natCast, span_map]
      refine (lc_M (xs := List.range n) (src := fun (k : Nat) => D.int (k : Int)) (fun k => dR n (idG k)) (by rw [List.length_range]; omega) (fun k hk p acc K hK => ?_) bind1_mono (Or.inl ?_) : LcIn _ _ _ _ _ _ _ _)
      · refine bd1 (by show 13 < 16; decide) ?_
        walk_at "ev"
        exact H.asI ⟨rfl, x, n, _, _, m, k, f, ss, rfl, H, hK⟩
      refine eq_ok 2 (told_okR n n idG) (told_okR n n idG) (by decide) (fun _ => q _) fun z => absurd rfl z
  have fin3 : ∀ S8, _ := fun S8 => fin f3 none S8 fun k hk => up_bd (b7 k hk) (by decide)
  refine ⟨fun h0 => ?_, fun _ => ⟨fun z => (by cases z), fun _ => fin3 S7⟩⟩
  have n0 : 0 < n := by
    have : (n : Int) > 0 := of_decide_eq_true h0
    omega
  refine ⟨w, k5, 2, rfl, w7, by decide, by decide, fun v S8 a8 b8 t8 => ⟨fun _ => ?_, fun _ => fin3 S8⟩⟩
  have w8 := w7.to t8
  refine ⟨w, k5, n, rfl, w8, by omega, by omega, fun v9 S9 a9 b9 t9 => ?_⟩
  obtain ⟨a, rfl⟩ : ∃ a : Nat, v9 = a := ⟨v9.toNat, by omega⟩
  have ha : a < n := by omega
  have w9 := w8.to t9
  have lz : ∀ lo hi, (DL.cutD ((List.range n).map fun j => D.int (f1 j)) lo hi).length ≤ 5 := fun lo hi => Nat.le_trans (cut_len _ lo hi) (by rw [rng_len]; omega)
  refine ⟨.int (f1 a), atI_nat (range_at (fun j => D.int (f1 j)) ha), ?_⟩
  show fit [D.int 1, D.int (-1), D.int 2, D.int 6] _
  refine fit_of (by show 4 ≤ 1000000; decide) (Or.inl ?_)
  refine ⟨w, k5, 4, rfl, w9, by decide, by decide, fun v10 S10 a10 b10 t10 => ?_⟩
  obtain ⟨z, hz, bz⟩ := four_at a10 b10
  refine ⟨.int z, hz, ?_⟩
  refine add_int ?_
  show fit [D.int (f1 a + z)] _
  refine fit_of (by show 1 ≤ 1000000; decide) ?_
  refine ⟨by have := lz none (some (a : Int)); show _ + 1 ≤ 16777216; omega, ?_⟩
  refine ⟨by have := lz none (some (a : Int)); have := lz (some ((a : Int) + 1)) none; rw [List.length_append]; show _ + 1 + _ ≤ 16777216; omega, ?_⟩
  rw [upd_tup ha]
  refine fin (fun j => if j = a then f1 a + z else f1 j) (some (.int a)) S10 fun j hj => ?_
  show (if j = a then f1 a + z else f1 j).natAbs < _
  have h2 : (2 : Nat) ^ 97 = 2 ^ 96 * 2 := by decide
  have h3 : (7 : Nat) ≤ 2 ^ 96 := by decide
  split
  · have := b6 a ha
    omega
  · have := b6 j hj
    omega
theorem pure_law {ds : List D} {S : Sto} {Q : QD} {EX : EXT} (h : sp_law ds S Q EX) : t_law EX (endS Q) (startG ["_law_script", "_law_k", "_law_cell"] ds) S := by
  obtain ⟨ns, rfl, hl, rfl, q⟩ := h
  obtain ⟨ms, em⟩ := cut_ints ns none (some 8)
  have el : ms.length ≤ 63 := by
    have h1 := cut_len (ns.map D.int) none (some 8)
    rw [em, List.length_map, List.length_map] at h1
    omega
  refine Or.inl ?_
  refine Or.inl ?_
  show ([D.int 0] : List D).length + (DL.cutD (ns.map D.int) none (some 8)).length ≤ sizeLine ∧ _
  rw [em]
  refine ⟨by rw [List.length_map]; show 1 + ms.length ≤ 16777216; omega, Or.inl ?_⟩
  have e0 : ([D.int 0] ++ ms.map D.int : List D) = (0 :: ms).map D.int := rfl
  refine ⟨fun i G S' => ∃ x1 x2 : Option D, G = [some (.slst (ns.map D.int)), x1, x2], ⟨_, _, rfl⟩, fun _ _ _ _ => .nil, ?_, ?_⟩
  · rintro i d G S' hd ⟨x1, x2, rfl⟩
    obtain ⟨x, hx, rfl⟩ := enum_at hd
    obtain ⟨z, rfl⟩ : ∃ z : Int, x = .int z := by
      rw [e0, List.getElem?_map] at hx
      cases e : (0 :: ms)[i]? with
      | none => rw [e] at hx; cases hx
      | some z => rw [e] at hx; exact ⟨z, (Option.some.inj hx).symm⟩
    refine ⟨⟨by decide, by decide, by decide⟩, mul_ok_r ?_, by decide, mul_ok_l (by decide), Or.inr fun p => ?_⟩
    · split <;> decide
    refine ⟨p, 0, rfl, ⟨_, _, _, rfl⟩, fun S2 => ⟨fun h => (by cases h), fun _ => ⟨_, _, rfl⟩⟩⟩
  · rintro G S' ⟨x1, x2, rfl⟩
    exact q S'
end LK
end

set_option maxRecDepth 100000
set_option maxHeartbeats 4000000
namespace LK
open PySem PySem.Spec PyProof.Rows L2 DL
open PySem.W (Frag)
def topS (i : Nat) : Stmt := PySem.Challenge.pw_noughtrules_k21_least_ones.main.body.getD i (.Pass ⟨0, 0, 0, 0⟩)
def clsS (st : Stmt) (j : Nat) : Stmt := match st with
  | .ClassDef _ _ _ body .. => body.getD j (.Pass ⟨0, 0, 0, 0⟩)
  | _ => .Pass ⟨0, 0, 0, 0⟩
structure Txt (m : Mo) : Prop where
  n_abs : m.mg "abs" = none
  n_all : m.mg "all" = none
  n_bool : m.mg "bool" = none
  n_enumerate : m.mg "enumerate" = none
  n_int : m.mg "int" = none
  n_isinstance : m.mg "isinstance" = none
  n_len : m.mg "len" = none
  n_list : m.mg "list" = none
  n_range : m.mg "range" = none
  n_tuple : m.mg "tuple" = none
  n_zip : m.mg "zip" = none
  f_House_held_kinds : ClF m.K "House" "held_kinds"
  f_House_held_rows : ClF m.K "House" "held_rows"
  f_Rows_held_given : ClF m.K "Rows" "held_given"
  f_Rows_held_stands : ClF m.K "Rows" "held_stands"
  f_Rows_held_wide : ClF m.K "Rows" "held_wide"
  f_Stand_head : ClF m.K "Stand" "head"
  f_Stand_parts : ClF m.K "Stand" "parts"
  f_Stand_row : ClF m.K "Stand" "row"
  is_House : IsC m "House"
  is_Rows : IsC m "Rows"
abbrev s_is_whole : Stmt := topS 5
theorem sc_is_whole : FnScope ["thing"] ["thing"] (defScope s_is_whole) := ⟨rfl, rfl, rfl, by decide +kernel, rfl, by decide +kernel, by decide +kernel⟩
abbrev s_is_handful : Stmt := topS 6
theorem sc_is_handful : FnScope ["thing", "wide", "one"] ["thing", "wide"] (defScope s_is_handful) := ⟨rfl, rfl, rfl, by decide +kernel, rfl, by decide +kernel, by decide +kernel⟩
abbrev s_check_handful : Stmt := topS 7
theorem sc_check_handful : FnScope ["thing", "wide"] ["thing", "wide"] (defScope s_check_handful) := ⟨rfl, rfl, rfl, by decide +kernel, rfl, by decide +kernel, by decide +kernel⟩
abbrev s_check_list : Stmt := topS 8
theorem sc_check_list : FnScope ["things", "wide", "at", "thing"] ["things", "wide"] (defScope s_check_list) := ⟨rfl, rfl, rfl, by decide +kernel, rfl, by decide +kernel, by decide +kernel⟩
abbrev s_shares : Stmt := topS 10
theorem sc_shares : FnScope ["one", "other", "far", "mine", "its", "near", "my_part", "its_part", "many"] ["one", "other"] (defScope s_shares) := ⟨rfl, rfl, rfl, by decide +kernel, rfl, by decide +kernel, by decide +kernel⟩
abbrev s_one_of : Stmt := topS 11
theorem sc_one_of : FnScope ["many", "place", "k"] ["many", "place"] (defScope s_one_of) := ⟨rfl, rfl, rfl, by decide +kernel, rfl, by decide +kernel, by decide +kernel⟩
abbrev s_one_less : Stmt := topS 13
theorem sc_one_less : FnScope ["one", "other", "mine", "its"] ["one", "other"] (defScope s_one_less) := ⟨rfl, rfl, rfl, by decide +kernel, rfl, by decide +kernel, by decide +kernel⟩
abbrev s_is_nothing : Stmt := topS 15
theorem sc_is_nothing : FnScope ["row", "one"] ["row"] (defScope s_is_nothing) := ⟨rfl, rfl, rfl, by decide +kernel, rfl, by decide +kernel, by decide +kernel⟩
abbrev s_head_of : Stmt := topS 16
theorem sc_head_of : FnScope ["row", "k"] ["row"] (defScope s_head_of) := ⟨rfl, rfl, rfl, by decide +kernel, rfl, by decide +kernel, by decide +kernel⟩
abbrev s_mixed : Stmt := topS 17
theorem sc_mixed : FnScope ["x", "one", "y", "other", "mine", "its"] ["x", "one", "y", "other"] (defScope s_mixed) := ⟨rfl, rfl, rfl, by decide +kernel, rfl, by decide +kernel, by decide +kernel⟩
abbrev s_Stand___init__ : Stmt := clsS (topS 18) 0
theorem sc_Stand___init__ : FnScope ["self", "row", "parts"] ["self", "row", "parts"] (defScope s_Stand___init__) := ⟨rfl, rfl, rfl, by decide +kernel, rfl, by decide +kernel, by decide +kernel⟩
abbrev s_Stand_top : Stmt := clsS (topS 18) 1
theorem sc_Stand_top : FnScope ["self"] ["self"] (defScope s_Stand_top) := ⟨rfl, rfl, rfl, by decide +kernel, rfl, by decide +kernel, by decide +kernel⟩
abbrev s_Stand_mix : Stmt := clsS (topS 18) 2
theorem sc_Stand_mix : FnScope ["self", "x", "other", "y"] ["self", "x", "other", "y"] (defScope s_Stand_mix) := ⟨rfl, rfl, rfl, by decide +kernel, rfl, by decide +kernel, by decide +kernel⟩
abbrev s_Stand_longer : Stmt := clsS (topS 18) 3
theorem sc_Stand_longer : FnScope ["self"] ["self"] (defScope s_Stand_longer) := ⟨rfl, rfl, rfl, by decide +kernel, rfl, by decide +kernel, by decide +kernel⟩
abbrev s_Stand_cut_by : Stmt := clsS (topS 18) 4
theorem sc_Stand_cut_by : FnScope ["self", "later", "many"] ["self", "later"] (defScope s_Stand_cut_by) := ⟨rfl, rfl, rfl, by decide +kernel, rfl, by decide +kernel, by decide +kernel⟩
abbrev s_tidied : Stmt := topS 19
theorem sc_tidied : FnScope ["stands", "found", "stand", "later"] ["stands"] (defScope s_tidied) := ⟨rfl, rfl, rfl, by decide +kernel, rfl, by decide +kernel, by decide +kernel⟩
abbrev s_taken_in : Stmt := topS 20
theorem sc_taken_in : FnScope ["stands", "row", "parts", "found", "left", "at", "sign", "here", "top", "number", "most", "x", "y", "one", "other", "stand"] ["stands", "row", "parts"] (defScope s_taken_in) := ⟨rfl, rfl, rfl, by decide +kernel, rfl, by decide +kernel, by decide +kernel⟩
abbrev s_Rows___init__ : Stmt := clsS (topS 21) 0
theorem sc_Rows___init__ : FnScope ["self", "wide", "rows", "row"] ["self", "wide", "rows"] (defScope s_Rows___init__) := ⟨rfl, rfl, rfl, by decide +kernel, rfl, by decide +kernel, by decide +kernel⟩
abbrev s_Rows_put : Stmt := clsS (topS 21) 1
theorem sc_Rows_put : FnScope ["self", "row", "grew", "parts", "stand"] ["self", "row"] (defScope s_Rows_put) := ⟨rfl, rfl, rfl, by decide +kernel, rfl, by decide +kernel, by decide +kernel⟩
abbrev s_Rows_given : Stmt := clsS (topS 21) 3
theorem sc_Rows_given : FnScope ["self"] ["self"] (defScope s_Rows_given) := ⟨rfl, rfl, rfl, by decide +kernel, rfl, by decide +kernel, by decide +kernel⟩
abbrev s_Rows_told : Stmt := clsS (topS 21) 4
theorem sc_Rows_told : FnScope ["self", "stand"] ["self"] (defScope s_Rows_told) := ⟨rfl, rfl, rfl, by decide +kernel, rfl, by decide +kernel, by decide +kernel⟩
abbrev s_Rows_rest : Stmt := clsS (topS 21) 6
theorem sc_Rows_rest : FnScope ["self", "handful", "stand", "many"] ["self", "handful"] (defScope s_Rows_rest) := ⟨rfl, rfl, rfl, by decide +kernel, rfl, by decide +kernel, by decide +kernel⟩
abbrev s_told_rows : Stmt := topS 22
theorem sc_told_rows : FnScope ["rows", "wide"] ["rows", "wide"] (defScope s_told_rows) := ⟨rfl, rfl, rfl, by decide +kernel, rfl, by decide +kernel, by decide +kernel⟩
abbrev s_difference : Stmt := topS 23
theorem sc_difference : FnScope ["one", "other", "wide"] ["one", "other", "wide"] (defScope s_difference) := ⟨rfl, rfl, rfl, by decide +kernel, rfl, by decide +kernel, by decide +kernel⟩
abbrev s_House___init__ : Stmt := clsS (topS 25) 0
theorem sc_House___init__ : FnScope ["self", "wide", "rules"] ["self", "wide", "rules"] (defScope s_House___init__) := ⟨rfl, rfl, rfl, by decide +kernel, rfl, by decide +kernel, by decide +kernel⟩
abbrev s_House_kinds : Stmt := clsS (topS 25) 1
theorem sc_House_kinds : FnScope ["self"] ["self"] (defScope s_House_kinds) := ⟨rfl, rfl, rfl, by decide +kernel, rfl, by decide +kernel, by decide +kernel⟩
abbrev s_House_rules : Stmt := clsS (topS 25) 2
theorem sc_House_rules : FnScope ["self"] ["self"] (defScope s_House_rules) := ⟨rfl, rfl, rfl, by decide +kernel, rfl, by decide +kernel, by decide +kernel⟩
abbrev s_House_told : Stmt := clsS (topS 25) 3
theorem sc_House_told : FnScope ["self"] ["self"] (defScope s_House_told) := ⟨rfl, rfl, rfl, by decide +kernel, rfl, by decide +kernel, by decide +kernel⟩
abbrev s_House_one_of : Stmt := clsS (topS 25) 4
theorem sc_House_one_of : FnScope ["self", "kind"] ["self", "kind"] (defScope s_House_one_of) := ⟨rfl, rfl, rfl, by decide +kernel, rfl, by decide +kernel, by decide +kernel⟩
abbrev s_House_least : Stmt := clsS (topS 25) 5
theorem sc_House_least : FnScope ["self", "handful"] ["self", "handful"] (defScope s_House_least) := ⟨rfl, rfl, rfl, by decide +kernel, rfl, by decide +kernel, by decide +kernel⟩
abbrev s_House_alike : Stmt := clsS (topS 25) 6
theorem sc_House_alike : FnScope ["self", "one", "other"] ["self", "one", "other"] (defScope s_House_alike) := ⟨rfl, rfl, rfl, by decide +kernel, rfl, by decide +kernel, by decide +kernel⟩
abbrev s__law_draw : Stmt := topS 27
theorem sc__law_draw : FnScope ["_law_well", "_law_many", "_law_found", "_law_number_here"] ["_law_well", "_law_many"] (defScope s__law_draw) := ⟨rfl, rfl, rfl, by decide +kernel, rfl, by decide +kernel, by decide +kernel⟩
abbrev s__law_number : Stmt := topS 28
theorem sc__law_number : FnScope ["_law_well", "_law_way"] ["_law_well", "_law_way"] (defScope s__law_number) := ⟨rfl, rfl, rfl, by decide +kernel, rfl, by decide +kernel, by decide +kernel⟩
abbrev s__law_added : Stmt := topS 29
theorem sc__law_added : FnScope ["_law_one", "_law_number_here", "_law_other", "_law_mine", "_law_its"] ["_law_one", "_law_number_here", "_law_other"] (defScope s__law_added) := ⟨rfl, rfl, rfl, by decide +kernel, rfl, by decide +kernel, by decide +kernel⟩
abbrev s__law_handful : Stmt := topS 30
theorem sc__law_handful : FnScope ["_law_well", "_law_wide", "_law_way", "_law_found", "_law_k", "_law_one"] ["_law_well", "_law_wide"] (defScope s__law_handful) := ⟨rfl, rfl, rfl, by decide +kernel, rfl, by decide +kernel, by decide +kernel⟩
abbrev s__law_least_right : Stmt := topS 31
theorem sc__law_least_right : FnScope ["_law_house", "_law_wide", "_law_handful_here", "_law_least", "_law_row", "_law_head", "_law_one", "_law_k"] ["_law_house", "_law_wide", "_law_handful_here"] (defScope s__law_least_right) := ⟨rfl, rfl, rfl, by decide +kernel, rfl, by decide +kernel, by decide +kernel⟩
abbrev s__law_alike_right : Stmt := topS 32
theorem sc__law_alike_right : FnScope ["_law_house", "_law_one", "_law_two", "_law_three", "_law_found", "_law_both"] ["_law_house", "_law_one", "_law_two", "_law_three"] (defScope s__law_alike_right) := ⟨rfl, rfl, rfl, by decide +kernel, rfl, by decide +kernel, by decide +kernel⟩
abbrev s__law_right : Stmt := topS 33
theorem sc__law_right : FnScope ["_law_well", "_law_wide", "_law_way", "_law_rules", "_law_handed", "_law_house", "_law_one", "_law_two", "_law_rule", "_law_three", "_law_at", "_law_turn", "_law_due", "_law_k", "_law_j", "_law_handful_here"] ["_law_well"] (defScope s__law_right) := ⟨rfl, rfl, rfl, by decide +kernel, rfl, by decide +kernel, by decide +kernel⟩
abbrev s_law : Stmt := topS 34
theorem sc_law : FnScope ["_law_script", "_law_k", "_law_cell"] ["_law_script"] (defScope s_law) := ⟨rfl, rfl, rfl, by decide +kernel, rfl, by decide +kernel, by decide +kernel⟩
abbrev s_NoRow___init__ : Stmt := clsS (topS 3) 0
theorem sc_NoRow___init__ : FnScope ["self", "at"] ["self", "at"] (defScope s_NoRow___init__) := ⟨rfl, rfl, rfl, by decide +kernel, rfl, by decide +kernel, by decide +kernel⟩
theorem fx_NoRow___init__ : fxC ["self", "at"] (defScope s_NoRow___init__) [some .local, some .local] ["NoughtError"] = true := by decide +kernel
theorem di_NoRow {m : Mo} {N f : Addr} {cdv : Value} {A : Around} {outer : List Env} {s : Shared} {H : Hp} {E : XK} (NT : NtC m.K N) (hN : m.mg "NoughtError" = some (.ref N)) {sc : Scope} {body : List Stmt} (hsc : sc = defScope s_NoRow___init__) (hb : body = defBody s_NoRow___init__) :
    PSs (cxOf (L2.CX m.P m.w) m.P m.w m.K m.mg m.base ["self", "at"] "NoRow.__init__" sc f cdv A outer s H E) body (tSeq (L2.tDrop (tVeI m.K (tCons (tVar 0) (tCons (tC (.str "no handful")) tNil)))) (tOst m.K "at" (tVar 0) (tVar 1))) := by
  have φ : Fx (cxOf (L2.CX m.P m.w) m.P m.w m.K m.mg m.base ["self", "at"] "NoRow.__init__" sc f cdv A outer s H E) [some .local, some .local] ["NoughtError"] := by rw [hsc]; exact fx_cx fx_NoRow___init__
  conv at hsc => rhs; whnf
  conv at hb => rhs; whnf
  subst hsc; subst hb
  exact pss_cons (ps_expr (pe_ninit NT (φ.gl 0 _ rfl).1 hN (pa_cons (pv_of φ 0 rfl rfl) (pa_cons pe_str pa_nil)) (φ.gl 0 _ rfl).2.1) rfl) (pss_one (ps_ost (pv_of φ 0 rfl rfl) (pv_of φ 1 rfl rfl)))
section
variable {m : Mo} {f : Addr} {fd : FuncData} {cdv : Value} {A : Around} {outer : List Env} {s : Shared} {H B : Hp} {E : XK} {EX : EXT}
theorem fx_is_whole : fxC ["thing"] (defScope s_is_whole) [some .local] ["int", "isinstance", "bool"] = true := by decide +kernel
theorem d_is_whole (T : Txt m)  {sc : Scope} {body : List Stmt} (hsc : sc = defScope s_is_whole) (hb : body = defBody s_is_whole) {hE hr nd} : PSsd (bodyC m ["thing"] "is_whole" sc f cdv A outer s H B E EX 0 hE hr nd) body (t_is_whole EX) := by
  have φ : Fx (bodyC m ["thing"] "is_whole" sc f cdv A outer s H B E EX 0 hE hr nd).X [some .local] ["int", "isinstance", "bool"] := fx_body (by rw [hsc]; exact fx_is_whole)
  conv at hsc => rhs; whnf
  conv at hb => rhs; whnf
  subst hsc; subst hb
  exact (ds_cons (ds_ret (d_and (d_bi φ 1 call_isi b_isi T.n_isinstance bb_isinstance (da_cons (d_var φ 0) (da_cons (d_ty φ 0 T.n_int bb_int) da_nil))) (d_one (d_not (d_bi φ 1 call_isi b_isi T.n_isinstance bb_isinstance (da_cons (d_var φ 0) (da_cons (d_ty φ 2 T.n_bool bb_bool) da_nil)))))))
    ds_nil)
theorem ok_is_whole (T : Txt m)  (F : Fun m.K "is_whole" "is_whole" s_is_whole f fd) : FnOk m.P m.w m.K m.mg m.base (L2.CX m.P m.w) 1 f fd ["thing"] (lift m.K sp_is_whole) :=
  fn_ok F sc_is_whole ln_is_whole fun cdv A outer s H B E EX hE hr ds S Q h => d_is_whole T  rfl rfl _ _ _ (pure_is_whole h)
theorem fx_is_handful : fxC ["thing", "wide", "one"] (defScope s_is_handful) [some .local, some .local, none] ["tuple", "isinstance", "len", "all"] = true := by decide +kernel
theorem d_is_handful (T : Txt m) (F_is_whole : FnD m "is_whole" 1 [] sp_is_whole) {sc : Scope} {body : List Stmt} (hsc : sc = defScope s_is_handful) (hb : body = defBody s_is_handful) {hE hr nd} : PSsd (bodyC m ["thing", "wide", "one"] "is_handful" sc f cdv A outer s H B E EX 1 hE hr nd) body (t_is_handful EX) := by
  have φ : Fx (bodyC m ["thing", "wide", "one"] "is_handful" sc f cdv A outer s H B E EX 1 hE hr nd).X [some .local, some .local, none] ["tuple", "isinstance", "len", "all"] := fx_body (by rw [hsc]; exact fx_is_handful)
  conv at hsc => rhs; whnf
  conv at hb => rhs; whnf
  subst hsc; subst hb
  exact (ds_cons (ds_ret (d_and (d_bi φ 1 call_isi b_isi T.n_isinstance bb_isinstance (da_cons (d_var φ 0) (da_cons (d_ty φ 0 T.n_tuple bb_tuple) da_nil))) (d_and (d_eq (d_bi φ 2 call_len b_len T.n_len bb_len (da_cons (d_var φ 0) da_nil)) (d_var φ 1)) (d_one (d_bi φ 3 (cr_all rfl) b_all T.n_all bb_all (da_cons (d_lcF [none, none, some .local] ["is_whole"] [("one", 2)] (by decide +kernel) (by decide +kernel) (fun h => bind_name h 2) (di_seq (d_var φ 0)) (fun _ => dts_nil) (fun _ _ _ _ _ ψ => (d_fn ψ 0 F_is_whole (Nat.le_of_ble_eq_true rfl) (da_cons (d_var ψ 2) da_nil)))) da_nil))))))
    ds_nil)
theorem ok_is_handful (T : Txt m) (F_is_whole : FnD m "is_whole" 1 [] sp_is_whole) (F : Fun m.K "is_handful" "is_handful" s_is_handful f fd) : FnOk m.P m.w m.K m.mg m.base (L2.CX m.P m.w) 2 f fd ["thing", "wide"] (lift m.K sp_is_handful) :=
  fn_ok F sc_is_handful ln_is_handful fun cdv A outer s H B E EX hE hr ds S Q h => d_is_handful T F_is_whole rfl rfl _ _ _ (pure_is_handful h)
theorem fx_check_handful : fxC ["thing", "wide"] (defScope s_check_handful) [some .local, some .local] ["is_handful", "NoRow"] = true := by decide +kernel
theorem d_check_handful (T : Txt m) (E_NoRow : ExD m .NoRow 1 ["at"]) (F_is_handful : FnD m "is_handful" 2 [] sp_is_handful) {sc : Scope} {body : List Stmt} (hsc : sc = defScope s_check_handful) (hb : body = defBody s_check_handful) {hE hr nd} : PSsd (bodyC m ["thing", "wide"] "check_handful" sc f cdv A outer s H B E EX 2 hE hr nd) body (t_check_handful EX) := by
  have φ : Fx (bodyC m ["thing", "wide"] "check_handful" sc f cdv A outer s H B E EX 2 hE hr nd).X [some .local, some .local] ["is_handful", "NoRow"] := fx_body (by rw [hsc]; exact fx_check_handful)
  conv at hsc => rhs; whnf
  conv at hb => rhs; whnf
  subst hsc; subst hb
  exact (ds_cons (ds_if (dt_not (dt_val (d_fn φ 0 F_is_handful (Nat.le_of_ble_eq_true rfl) (da_cons (d_var φ 0) (da_cons (d_var φ 1) da_nil))))) (ds_cons (ds_raise φ 1 E_NoRow (Nat.le_of_ble_eq_true rfl) (da_cons d_int da_nil))
    ds_nil) ds_nil)
    ds_nil)
theorem ok_check_handful (T : Txt m) (E_NoRow : ExD m .NoRow 1 ["at"]) (F_is_handful : FnD m "is_handful" 2 [] sp_is_handful) (F : Fun m.K "check_handful" "check_handful" s_check_handful f fd) : FnOk m.P m.w m.K m.mg m.base (L2.CX m.P m.w) 3 f fd ["thing", "wide"] (lift m.K sp_check_handful) :=
  fn_ok F sc_check_handful ln_check_handful fun cdv A outer s H B E EX hE hr ds S Q h => d_check_handful T E_NoRow F_is_handful rfl rfl _ _ _ (pure_check_handful h)
theorem fx_check_list : fxC ["things", "wide", "at", "thing"] (defScope s_check_list) [some .local, some .local, some .local, some .local] ["enumerate", "is_handful", "NoRow", "list", "isinstance"] = true := by decide +kernel
theorem d_check_list (T : Txt m) (E_NoRow : ExD m .NoRow 1 ["at"]) (F_is_handful : FnD m "is_handful" 2 [] sp_is_handful) {sc : Scope} {body : List Stmt} (hsc : sc = defScope s_check_list) (hb : body = defBody s_check_list) {hE hr nd} : PSsd (bodyC m ["things", "wide", "at", "thing"] "check_list" sc f cdv A outer s H B E EX 2 hE hr nd) body (t_check_list EX) := by
  have φ : Fx (bodyC m ["things", "wide", "at", "thing"] "check_list" sc f cdv A outer s H B E EX 2 hE hr nd).X [some .local, some .local, some .local, some .local] ["enumerate", "is_handful", "NoRow", "list", "isinstance"] := fx_body (by rw [hsc]; exact fx_check_list)
  conv at hsc => rhs; whnf
  conv at hb => rhs; whnf
  subst hsc; subst hb
  exact (ds_cons (ds_if (dt_not (dt_val (d_bi φ 4 call_isi b_isi T.n_isinstance bb_isinstance (da_cons (d_var φ 0) (da_cons (d_ty φ 3 T.n_list bb_list) da_nil))))) (ds_cons (ds_raise φ 2 E_NoRow (Nat.le_of_ble_eq_true rfl) (da_cons d_int da_nil))
    ds_nil) ds_nil)
    (ds_cons (ds_forX body_passes (dx_en φ 0 T.n_enumerate (da_cons (d_var φ 0) da_nil)) (dg_tp 2 (dgs_cons (dg_nm φ 2) (dgs_cons (dg_nm φ 3) dgs_nil))) (ds_cons (ds_if (dt_not (dt_val (d_fn φ 1 F_is_handful (Nat.le_of_ble_eq_true rfl) (da_cons (d_var φ 3) (da_cons (d_var φ 1) da_nil))))) (ds_cons (ds_raise φ 2 E_NoRow (Nat.le_of_ble_eq_true rfl) (da_cons (d_var φ 2) da_nil))
    ds_nil) ds_nil)
    ds_nil))
    ds_nil))
theorem ok_check_list (T : Txt m) (E_NoRow : ExD m .NoRow 1 ["at"]) (F_is_handful : FnD m "is_handful" 2 [] sp_is_handful) (F : Fun m.K "check_list" "check_list" s_check_list f fd) : FnOk m.P m.w m.K m.mg m.base (L2.CX m.P m.w) 3 f fd ["things", "wide"] (lift m.K sp_check_list) :=
  fn_ok F sc_check_list ln_check_list fun cdv A outer s H B E EX hE hr ds S Q h => d_check_list T E_NoRow F_is_handful rfl rfl _ _ _ (pure_check_list h)
theorem fx_shares : fxC ["one", "other", "far", "mine", "its", "near", "my_part", "its_part", "many"] (defScope s_shares) [some .local, some .local, some .local, some .local, some .local, some .local, some .local, some .local, some .local] ["abs"] = true := by decide +kernel
theorem d_shares (T : Txt m)  {sc : Scope} {body : List Stmt} (hsc : sc = defScope s_shares) (hb : body = defBody s_shares) {hE hr nd} : PSsd (bodyC m ["one", "other", "far", "mine", "its", "near", "my_part", "its_part", "many"] "shares" sc f cdv A outer s H B E EX 0 hE hr nd) body (t_shares EX) := by
  have φ : Fx (bodyC m ["one", "other", "far", "mine", "its", "near", "my_part", "its_part", "many"] "shares" sc f cdv A outer s H B E EX 0 hE hr nd).X [some .local, some .local, some .local, some .local, some .local, some .local, some .local, some .local, some .local] ["abs"] := fx_body (by rw [hsc]; exact fx_shares)
  conv at hsc => rhs; whnf
  conv at hb => rhs; whnf
  subst hsc; subst hb
  exact (ds_cons (ds_par3 φ 2 3 4 (da_cons (d_bi φ 0 call_abs b_abs T.n_abs bb_abs (da_cons (d_var φ 0) da_nil)) (da_cons d_int (da_cons d_int da_nil))))
    (ds_cons (ds_par3 φ 5 6 7 (da_cons (d_bi φ 0 call_abs b_abs T.n_abs bb_abs (da_cons (d_var φ 1) da_nil)) (da_cons d_int (da_cons d_int da_nil))))
    (ds_cons (ds_while body_passes (dt_ne (d_var φ 5) d_int) (ds_cons (ds_set φ 8 (d_div (d_var φ 2) (d_var φ 5)))
    (ds_cons (ds_par φ 2 5 (da_cons (d_var φ 5) (da_cons (d_sub (d_var φ 2) (d_mul (d_var φ 8) (d_var φ 5))) da_nil)))
    (ds_cons (ds_par φ 3 6 (da_cons (d_var φ 6) (da_cons (d_sub (d_var φ 3) (d_mul (d_var φ 8) (d_var φ 6))) da_nil)))
    (ds_cons (ds_par φ 4 7 (da_cons (d_var φ 7) (da_cons (d_sub (d_var φ 4) (d_mul (d_var φ 8) (d_var φ 7))) da_nil)))
    ds_nil)))))
    (ds_cons (ds_if (dt_ord (d_var φ 0) d_int) (ds_cons (ds_set φ 3 (d_neg (d_var φ 3)))
    ds_nil) ds_nil)
    (ds_cons (ds_if (dt_ord (d_var φ 1) d_int) (ds_cons (ds_set φ 4 (d_neg (d_var φ 4)))
    ds_nil) ds_nil)
    (ds_cons (ds_ret (d_tup (da_cons (d_var φ 2) (da_cons (d_var φ 3) (da_cons (d_var φ 4) da_nil)))))
    ds_nil))))))
theorem ok_shares (T : Txt m)  (F : Fun m.K "shares" "shares" s_shares f fd) : FnOk m.P m.w m.K m.mg m.base (L2.CX m.P m.w) 1 f fd ["one", "other"] (lift m.K sp_shares) :=
  fn_ok F sc_shares ln_shares fun cdv A outer s H B E EX hE hr ds S Q h => d_shares T  rfl rfl _ _ _ (pure_shares h)
theorem fx_one_of : fxC ["many", "place", "k"] (defScope s_one_of) [some .local, some .cell, none] ["range", "tuple"] = true := by decide +kernel
theorem d_one_of (T : Txt m)  {sc : Scope} {body : List Stmt} (hsc : sc = defScope s_one_of) (hb : body = defBody s_one_of) {hE hr nd} : PSsd (bodyC m ["many", "place", "k"] "one_of" sc f cdv A outer s H B E EX 0 hE hr nd) body (t_one_of EX) := by
  have φ : Fx (bodyC m ["many", "place", "k"] "one_of" sc f cdv A outer s H B E EX 0 hE hr nd).X [some .local, some .cell, none] ["range", "tuple"] := fx_body (by rw [hsc]; exact fx_one_of)
  conv at hsc => rhs; whnf
  conv at hb => rhs; whnf
  subst hsc; subst hb
  exact (ds_cons (ds_ret (d_bt φ 1 call_tuple_of b_tuple T.n_tuple bb_tuple (da_cons (d_lcF [none, some .cell, some .local] ["int"] [("k", 2)] (by decide +kernel) (by decide +kernel) (fun h => bind_name h 2) (di_r1 φ 0 T.n_range (da_cons (d_var φ 0) da_nil)) (fun _ => dts_nil) (fun _ _ _ _ _ ψ => (d_bt ψ 0 call_int1 b_int T.n_int bb_int (da_cons (d_eq (d_var ψ 2) (d_var ψ 1)) da_nil)))) da_nil)))
    ds_nil)
theorem ok_one_of (T : Txt m)  (F : Fun m.K "one_of" "one_of" s_one_of f fd) : FnOk m.P m.w m.K m.mg m.base (L2.CX m.P m.w) 1 f fd ["many", "place"] (lift m.K sp_one_of) :=
  fn_ok F sc_one_of ln_one_of fun cdv A outer s H B E EX hE hr ds S Q h => d_one_of T  rfl rfl _ _ _ (pure_one_of h)
theorem fx_one_less : fxC ["one", "other", "mine", "its"] (defScope s_one_less) [some .local, some .local, none, none] ["zip", "tuple"] = true := by decide +kernel
theorem d_one_less (T : Txt m)  {sc : Scope} {body : List Stmt} (hsc : sc = defScope s_one_less) (hb : body = defBody s_one_less) {hE hr nd} : PSsd (bodyC m ["one", "other", "mine", "its"] "one_less" sc f cdv A outer s H B E EX 0 hE hr nd) body (t_one_less EX) := by
  have φ : Fx (bodyC m ["one", "other", "mine", "its"] "one_less" sc f cdv A outer s H B E EX 0 hE hr nd).X [some .local, some .local, none, none] ["zip", "tuple"] := fx_body (by rw [hsc]; exact fx_one_less)
  conv at hsc => rhs; whnf
  conv at hb => rhs; whnf
  subst hsc; subst hb
  exact (ds_cons (ds_ret (d_bt φ 1 call_tuple_of b_tuple T.n_tuple bb_tuple (da_cons (d_lcF [none, none, some .local, some .local] [] [("mine", 2), ("its", 3)] (by decide +kernel) (by decide +kernel) (fun h => bind_pair h 2 3) (di_zip φ 0 T.n_zip (da_cons (d_var φ 0) (da_cons (d_var φ 1) da_nil))) (fun _ => dts_nil) (fun _ _ _ _ _ ψ => (d_sub (d_var ψ 2) (d_var ψ 3)))) da_nil)))
    ds_nil)
theorem ok_one_less (T : Txt m)  (F : Fun m.K "one_less" "one_less" s_one_less f fd) : FnOk m.P m.w m.K m.mg m.base (L2.CX m.P m.w) 1 f fd ["one", "other"] (lift m.K sp_one_less) :=
  fn_ok F sc_one_less ln_one_less fun cdv A outer s H B E EX hE hr ds S Q h => d_one_less T  rfl rfl _ _ _ (pure_one_less h)
theorem fx_is_nothing : fxC ["row", "one"] (defScope s_is_nothing) [some .local, none] ["all"] = true := by decide +kernel
theorem d_is_nothing (T : Txt m)  {sc : Scope} {body : List Stmt} (hsc : sc = defScope s_is_nothing) (hb : body = defBody s_is_nothing) {hE hr nd} : PSsd (bodyC m ["row", "one"] "is_nothing" sc f cdv A outer s H B E EX 0 hE hr nd) body (t_is_nothing EX) := by
  have φ : Fx (bodyC m ["row", "one"] "is_nothing" sc f cdv A outer s H B E EX 0 hE hr nd).X [some .local, none] ["all"] := fx_body (by rw [hsc]; exact fx_is_nothing)
  conv at hsc => rhs; whnf
  conv at hb => rhs; whnf
  subst hsc; subst hb
  exact (ds_cons (ds_ret (d_bi φ 0 (cr_all rfl) b_all T.n_all bb_all (da_cons (d_lcF [none, some .local] [] [("one", 1)] (by decide +kernel) (by decide +kernel) (fun h => bind_name h 1) (di_seq (d_var φ 0)) (fun _ => dts_nil) (fun _ _ _ _ _ ψ => (d_eq (d_var ψ 1) d_int))) da_nil)))
    ds_nil)
theorem ok_is_nothing (T : Txt m)  (F : Fun m.K "is_nothing" "is_nothing" s_is_nothing f fd) : FnOk m.P m.w m.K m.mg m.base (L2.CX m.P m.w) 1 f fd ["row"] (lift m.K sp_is_nothing) :=
  fn_ok F sc_is_nothing ln_is_nothing fun cdv A outer s H B E EX hE hr ds S Q h => d_is_nothing T  rfl rfl _ _ _ (pure_is_nothing h)
theorem fx_head_of : fxC ["row", "k"] (defScope s_head_of) [some .cell, none] ["len", "range"] = true := by decide +kernel
theorem d_head_of (T : Txt m)  {sc : Scope} {body : List Stmt} (hsc : sc = defScope s_head_of) (hb : body = defBody s_head_of) {hE hr nd} : PSsd (bodyC m ["row", "k"] "head_of" sc f cdv A outer s H B E EX 0 hE hr nd) body (t_head_of EX) := by
  have φ : Fx (bodyC m ["row", "k"] "head_of" sc f cdv A outer s H B E EX 0 hE hr nd).X [some .cell, none] ["len", "range"] := fx_body (by rw [hsc]; exact fx_head_of)
  conv at hsc => rhs; whnf
  conv at hb => rhs; whnf
  subst hsc; subst hb
  exact (ds_cons (ds_ret (d_ix (d_lcF [some .cell, some .local] [] [("k", 1)] (by decide +kernel) (by decide +kernel) (fun h => bind_name h 1) (di_r1 φ 1 T.n_range (da_cons (d_bi φ 0 call_len b_len T.n_len bb_len (da_cons (d_var φ 0) da_nil)) da_nil)) (fun ψs => dts_one fun _ _ _ _ _ => have ψ := ψs _ _ _ _ _; (dt_ne (d_ix (d_var ψ 0) (d_var ψ 1)) d_int)) (fun _ _ _ _ _ ψ => (d_var ψ 1))) d_int))
    ds_nil)
theorem ok_head_of (T : Txt m)  (F : Fun m.K "head_of" "head_of" s_head_of f fd) : FnOk m.P m.w m.K m.mg m.base (L2.CX m.P m.w) 1 f fd ["row"] (lift m.K sp_head_of) :=
  fn_ok F sc_head_of ln_head_of fun cdv A outer s H B E EX hE hr ds S Q h => d_head_of T  rfl rfl _ _ _ (pure_head_of h)
theorem fx_mixed : fxC ["x", "one", "y", "other", "mine", "its"] (defScope s_mixed) [some .cell, some .local, some .cell, some .local, none, none] ["zip", "tuple"] = true := by decide +kernel
theorem d_mixed (T : Txt m)  {sc : Scope} {body : List Stmt} (hsc : sc = defScope s_mixed) (hb : body = defBody s_mixed) {hE hr nd} : PSsd (bodyC m ["x", "one", "y", "other", "mine", "its"] "mixed" sc f cdv A outer s H B E EX 0 hE hr nd) body (t_mixed EX) := by
  have φ : Fx (bodyC m ["x", "one", "y", "other", "mine", "its"] "mixed" sc f cdv A outer s H B E EX 0 hE hr nd).X [some .cell, some .local, some .cell, some .local, none, none] ["zip", "tuple"] := fx_body (by rw [hsc]; exact fx_mixed)
  conv at hsc => rhs; whnf
  conv at hb => rhs; whnf
  subst hsc; subst hb
  exact (ds_cons (ds_ret (d_bt φ 1 call_tuple_of b_tuple T.n_tuple bb_tuple (da_cons (d_lcF [some .cell, none, some .cell, none, some .local, some .local] [] [("mine", 4), ("its", 5)] (by decide +kernel) (by decide +kernel) (fun h => bind_pair h 4 5) (di_zip φ 0 T.n_zip (da_cons (d_var φ 1) (da_cons (d_var φ 3) da_nil))) (fun _ => dts_nil) (fun _ _ _ _ _ ψ => (d_add (d_mul (d_var ψ 0) (d_var ψ 4)) (d_mul (d_var ψ 2) (d_var ψ 5))))) da_nil)))
    ds_nil)
theorem ok_mixed (T : Txt m)  (F : Fun m.K "mixed" "mixed" s_mixed f fd) : FnOk m.P m.w m.K m.mg m.base (L2.CX m.P m.w) 1 f fd ["x", "one", "y", "other"] (lift m.K sp_mixed) :=
  fn_ok F sc_mixed ln_mixed fun cdv A outer s H B E EX hE hr ds S Q h => d_mixed T  rfl rfl _ _ _ (pure_mixed h)
theorem fx_Stand___init__ : fxC ["self", "row", "parts"] (defScope s_Stand___init__) [some .local, some .local, some .local] ["head_of"] = true := by decide +kernel
theorem d_Stand___init__ (T : Txt m) (F_head_of : FnD m "head_of" 1 [] sp_head_of) {sc : Scope} {body : List Stmt} (hsc : sc = defScope s_Stand___init__) (hb : body = defBody s_Stand___init__) {hE hr nd} : PSsd (bodyC m ["self", "row", "parts"] "Stand.__init__" sc f cdv A outer s H B E EX 1 hE hr nd) body (t_Stand___init__ EX) := by
  have φ : Fx (bodyC m ["self", "row", "parts"] "Stand.__init__" sc f cdv A outer s H B E EX 1 hE hr nd).X [some .local, some .local, some .local] ["head_of"] := fx_body (by rw [hsc]; exact fx_Stand___init__)
  conv at hsc => rhs; whnf
  conv at hb => rhs; whnf
  subst hsc; subst hb
  exact (ds_cons (ds_fld T.f_Stand_row (d_var φ 0) (d_var φ 1))
    (ds_cons (ds_fld T.f_Stand_parts (d_var φ 0) (d_var φ 2))
    (ds_cons (ds_fld T.f_Stand_head (d_var φ 0) (d_fn φ 0 F_head_of (Nat.le_of_ble_eq_true rfl) (da_cons (d_var φ 1) da_nil)))
    ds_nil)))
theorem ok_Stand___init__ (T : Txt m) (F_head_of : FnD m "head_of" 1 [] sp_head_of) (F : Fun m.K "__init__" "Stand.__init__" s_Stand___init__ f fd) : FnOk m.P m.w m.K m.mg m.base (L2.CX m.P m.w) 2 f fd ["self", "row", "parts"] (lift m.K sp_Stand___init__) :=
  fn_ok F sc_Stand___init__ ln_Stand___init__ fun cdv A outer s H B E EX hE hr ds S Q h => d_Stand___init__ T F_head_of rfl rfl _ _ _ (pure_Stand___init__ h)
theorem fx_Stand_top : fxC ["self"] (defScope s_Stand_top) [some .local] [] = true := by decide +kernel
theorem d_Stand_top (T : Txt m)  {sc : Scope} {body : List Stmt} (hsc : sc = defScope s_Stand_top) (hb : body = defBody s_Stand_top) {hE hr nd} : PSsd (bodyC m ["self"] "Stand.top" sc f cdv A outer s H B E EX 0 hE hr nd) body (t_Stand_top EX) := by
  have φ : Fx (bodyC m ["self"] "Stand.top" sc f cdv A outer s H B E EX 0 hE hr nd).X [some .local] [] := fx_body (by rw [hsc]; exact fx_Stand_top)
  conv at hsc => rhs; whnf
  conv at hb => rhs; whnf
  subst hsc; subst hb
  exact (ds_cons (ds_ret (d_ix (d_fld T.f_Stand_row (d_var φ 0)) (d_fld T.f_Stand_head (d_var φ 0))))
    ds_nil)
theorem ok_Stand_top (T : Txt m)  (F : Fun m.K "top" "Stand.top" s_Stand_top f fd) : FnOk m.P m.w m.K m.mg m.base (L2.CX m.P m.w) 1 f fd ["self"] (lift m.K sp_Stand_top) :=
  fn_ok F sc_Stand_top ln_Stand_top fun cdv A outer s H B E EX hE hr ds S Q h => d_Stand_top T  rfl rfl _ _ _ (pure_Stand_top h)
theorem fx_Stand_mix : fxC ["self", "x", "other", "y"] (defScope s_Stand_mix) [some .local, some .local, some .local, some .local] ["mixed", "Stand"] = true := by decide +kernel
theorem d_Stand_mix (T : Txt m) (F_mixed : FnD m "mixed" 1 [] sp_mixed) (N_Stand : MkD m "Stand" 2 [] sp_Stand___init__) {sc : Scope} {body : List Stmt} (hsc : sc = defScope s_Stand_mix) (hb : body = defBody s_Stand_mix) {hE hr nd} : PSsd (bodyC m ["self", "x", "other", "y"] "Stand.mix" sc f cdv A outer s H B E EX 3 hE hr nd) body (t_Stand_mix EX) := by
  have φ : Fx (bodyC m ["self", "x", "other", "y"] "Stand.mix" sc f cdv A outer s H B E EX 3 hE hr nd).X [some .local, some .local, some .local, some .local] ["mixed", "Stand"] := fx_body (by rw [hsc]; exact fx_Stand_mix)
  conv at hsc => rhs; whnf
  conv at hb => rhs; whnf
  subst hsc; subst hb
  exact (ds_cons (ds_ret (d_new φ 1 N_Stand (Nat.le_of_ble_eq_true rfl) (da_cons (d_fn φ 0 F_mixed (Nat.le_of_ble_eq_true rfl) (da_cons (d_var φ 1) (da_cons (d_fld T.f_Stand_row (d_var φ 0)) (da_cons (d_var φ 3) (da_cons (d_fld T.f_Stand_row (d_var φ 2)) da_nil))))) (da_cons (d_fn φ 0 F_mixed (Nat.le_of_ble_eq_true rfl) (da_cons (d_var φ 1) (da_cons (d_fld T.f_Stand_parts (d_var φ 0)) (da_cons (d_var φ 3) (da_cons (d_fld T.f_Stand_parts (d_var φ 2)) da_nil))))) da_nil))))
    ds_nil)
theorem ok_Stand_mix (T : Txt m) (F_mixed : FnD m "mixed" 1 [] sp_mixed) (N_Stand : MkD m "Stand" 2 [] sp_Stand___init__) (F : Fun m.K "mix" "Stand.mix" s_Stand_mix f fd) : FnOk m.P m.w m.K m.mg m.base (L2.CX m.P m.w) 4 f fd ["self", "x", "other", "y"] (lift m.K sp_Stand_mix) :=
  fn_ok F sc_Stand_mix ln_Stand_mix fun cdv A outer s H B E EX hE hr ds S Q h => d_Stand_mix T F_mixed N_Stand rfl rfl _ _ _ (pure_Stand_mix h)
theorem fx_Stand_longer : fxC ["self"] (defScope s_Stand_longer) [some .local] ["Stand"] = true := by decide +kernel
theorem d_Stand_longer (T : Txt m) (N_Stand : MkD m "Stand" 2 [] sp_Stand___init__) {sc : Scope} {body : List Stmt} (hsc : sc = defScope s_Stand_longer) (hb : body = defBody s_Stand_longer) {hE hr nd} : PSsd (bodyC m ["self"] "Stand.longer" sc f cdv A outer s H B E EX 3 hE hr nd) body (t_Stand_longer EX) := by
  have φ : Fx (bodyC m ["self"] "Stand.longer" sc f cdv A outer s H B E EX 3 hE hr nd).X [some .local] ["Stand"] := fx_body (by rw [hsc]; exact fx_Stand_longer)
  conv at hsc => rhs; whnf
  conv at hb => rhs; whnf
  subst hsc; subst hb
  exact (ds_cons (ds_ret (d_new φ 0 N_Stand (Nat.le_of_ble_eq_true rfl) (da_cons (d_fld T.f_Stand_row (d_var φ 0)) (da_cons (d_add (d_fld T.f_Stand_parts (d_var φ 0)) (d_tup (da_cons d_int da_nil))) da_nil))))
    ds_nil)
theorem ok_Stand_longer (T : Txt m) (N_Stand : MkD m "Stand" 2 [] sp_Stand___init__) (F : Fun m.K "longer" "Stand.longer" s_Stand_longer f fd) : FnOk m.P m.w m.K m.mg m.base (L2.CX m.P m.w) 4 f fd ["self"] (lift m.K sp_Stand_longer) :=
  fn_ok F sc_Stand_longer ln_Stand_longer fun cdv A outer s H B E EX hE hr ds S Q h => d_Stand_longer T N_Stand rfl rfl _ _ _ (pure_Stand_longer h)
theorem fx_Stand_cut_by : fxC ["self", "later", "many"] (defScope s_Stand_cut_by) [some .local, some .local, some .local] [] = true := by decide +kernel
theorem d_Stand_cut_by (T : Txt m) (F_Stand_mix : MeD m "Stand" "mix" 4 [] sp_Stand_mix) (F_Stand_top : MeD m "Stand" "top" 1 [] sp_Stand_top) {sc : Scope} {body : List Stmt} (hsc : sc = defScope s_Stand_cut_by) (hb : body = defBody s_Stand_cut_by) {hE hr nd} : PSsd (bodyC m ["self", "later", "many"] "Stand.cut_by" sc f cdv A outer s H B E EX 4 hE hr nd) body (t_Stand_cut_by EX) := by
  have φ : Fx (bodyC m ["self", "later", "many"] "Stand.cut_by" sc f cdv A outer s H B E EX 4 hE hr nd).X [some .local, some .local, some .local] [] := fx_body (by rw [hsc]; exact fx_Stand_cut_by)
  conv at hsc => rhs; whnf
  conv at hb => rhs; whnf
  subst hsc; subst hb
  exact (ds_cons (ds_set φ 2 (d_div (d_ix (d_fld T.f_Stand_row (d_var φ 0)) (d_fld T.f_Stand_head (d_var φ 1))) (d_meth0 F_Stand_top (Nat.le_of_ble_eq_true rfl) (d_var φ 1))))
    (ds_cons (ds_if (dt_eq (d_var φ 2) d_int) (ds_cons (ds_ret (d_var φ 0))
    ds_nil) ds_nil)
    (ds_cons (ds_ret (d_meth F_Stand_mix (Nat.le_of_ble_eq_true rfl) (d_var φ 0) (da_cons d_int (da_cons (d_var φ 1) (da_cons (d_neg (d_var φ 2)) da_nil)))))
    ds_nil)))
theorem ok_Stand_cut_by (T : Txt m) (F_Stand_mix : MeD m "Stand" "mix" 4 [] sp_Stand_mix) (F_Stand_top : MeD m "Stand" "top" 1 [] sp_Stand_top) (F : Fun m.K "cut_by" "Stand.cut_by" s_Stand_cut_by f fd) : FnOk m.P m.w m.K m.mg m.base (L2.CX m.P m.w) 5 f fd ["self", "later"] (lift m.K sp_Stand_cut_by) :=
  fn_ok F sc_Stand_cut_by ln_Stand_cut_by fun cdv A outer s H B E EX hE hr ds S Q h => d_Stand_cut_by T F_Stand_mix F_Stand_top rfl rfl _ _ _ (pure_Stand_cut_by h)
theorem fx_tidied : fxC ["stands", "found", "stand", "later"] (defScope s_tidied) [some .local, some .local, some .local, some .local] [] = true := by decide +kernel
theorem d_tidied (T : Txt m) (F_Stand_cut_by : MeD m "Stand" "cut_by" 5 [] sp_Stand_cut_by) {sc : Scope} {body : List Stmt} (hsc : sc = defScope s_tidied) (hb : body = defBody s_tidied) {hE hr nd} : PSsd (bodyC m ["stands", "found", "stand", "later"] "tidied" sc f cdv A outer s H B E EX 5 hE hr nd) body (t_tidied EX) := by
  have φ : Fx (bodyC m ["stands", "found", "stand", "later"] "tidied" sc f cdv A outer s H B E EX 5 hE hr nd).X [some .local, some .local, some .local, some .local] [] := fx_body (by rw [hsc]; exact fx_tidied)
  conv at hsc => rhs; whnf
  conv at hb => rhs; whnf
  subst hsc; subst hb
  exact (ds_cons (ds_set φ 1 (d_lst da_nil))
    (ds_cons (ds_for body_passes (di_seq (d_rev (d_var φ 0))) (dg_nm φ 2) (ds_cons (ds_for body_passes (di_seq (d_var φ 1)) (dg_nm φ 3) (ds_cons (ds_set φ 2 (d_meth F_Stand_cut_by (Nat.le_of_ble_eq_true rfl) (d_var φ 2) (da_cons (d_var φ 3) da_nil)))
    ds_nil))
    (ds_cons (ds_set φ 1 (d_add (d_lst (da_cons (d_var φ 2) da_nil)) (d_var φ 1)))
    ds_nil)))
    (ds_cons (ds_ret (d_var φ 1))
    ds_nil)))
theorem ok_tidied (T : Txt m) (F_Stand_cut_by : MeD m "Stand" "cut_by" 5 [] sp_Stand_cut_by) (F : Fun m.K "tidied" "tidied" s_tidied f fd) : FnOk m.P m.w m.K m.mg m.base (L2.CX m.P m.w) 6 f fd ["stands"] (lift m.K sp_tidied) :=
  fn_ok F sc_tidied ln_tidied fun cdv A outer s H B E EX hE hr ds S Q h => d_tidied T F_Stand_cut_by rfl rfl _ _ _ (pure_tidied h)
theorem fx_taken_in : fxC ["stands", "row", "parts", "found", "left", "at", "sign", "here", "top", "number", "most", "x", "y", "one", "other", "stand"] (defScope s_taken_in) [some .local, some .local, some .local, some .local, some .local, some .cell, some .local, some .local, some .local, some .local, some .local, some .local, some .local, some .local, some .local, none] ["tidied", "is_nothing", "len", "mixed", "Stand", "int", "shares", "head_of", "list"] = true := by decide +kernel
theorem d_taken_in (T : Txt m) (F_Stand_top : MeD m "Stand" "top" 1 [] sp_Stand_top) (F_head_of : FnD m "head_of" 1 [] sp_head_of) (F_is_nothing : FnD m "is_nothing" 1 [] sp_is_nothing) (F_mixed : FnD m "mixed" 1 [] sp_mixed) (N_Stand : MkD m "Stand" 2 [] sp_Stand___init__) (F_shares : FnD m "shares" 1 [] sp_shares) (F_tidied : FnD m "tidied" 6 [] sp_tidied) {sc : Scope} {body : List Stmt} (hsc : sc = defScope s_taken_in) (hb : body = defBody s_taken_in) {hE hr nd} : PSsd (bodyC m ["stands", "row", "parts", "found", "left", "at", "sign", "here", "top", "number", "most", "x", "y", "one", "other", "stand"] "taken_in" sc f cdv A outer s H B E EX 6 hE hr nd) body (t_taken_in EX) := by
  have φ : Fx (bodyC m ["stands", "row", "parts", "found", "left", "at", "sign", "here", "top", "number", "most", "x", "y", "one", "other", "stand"] "taken_in" sc f cdv A outer s H B E EX 6 hE hr nd).X [some .local, some .local, some .local, some .local, some .local, some .cell, some .local, some .local, some .local, some .local, some .local, some .local, some .local, some .local, some .local, none] ["tidied", "is_nothing", "len", "mixed", "Stand", "int", "shares", "head_of", "list"] := fx_body (by rw [hsc]; exact fx_taken_in)
  conv at hsc => rhs; whnf
  conv at hb => rhs; whnf
  subst hsc; subst hb
  exact (ds_cons (ds_set φ 3 (d_lst da_nil))
    (ds_cons (ds_set φ 4 (d_bt φ 8 call_list_of b_list T.n_list bb_list (da_cons (d_var φ 0) da_nil)))
    (ds_cons (ds_while body_passes (dt_not (dt_val (d_fn φ 1 F_is_nothing (Nat.le_of_ble_eq_true rfl) (da_cons (d_var φ 1) da_nil)))) (ds_cons (ds_set φ 5 (d_fn φ 7 F_head_of (Nat.le_of_ble_eq_true rfl) (da_cons (d_var φ 1) da_nil)))
    (ds_cons (ds_set φ 3 (d_add (d_var φ 3) (d_lcF [none, none, none, none, none, some .cell, none, none, none, none, none, none, none, none, none, some .local] [] [("stand", 15)] (by decide +kernel) (by decide +kernel) (fun h => bind_name h 15) (di_seq (d_var φ 4)) (fun ψs => dts_one fun _ _ _ _ _ => have ψ := ψs _ _ _ _ _; (dt_ord (d_fld T.f_Stand_head (d_var ψ 15)) (d_var ψ 5))) (fun _ _ _ _ _ ψ => (d_var ψ 15)))))
    (ds_cons (ds_setLcF φ 4 [none, none, none, none, none, some .cell, none, none, none, none, none, none, none, none, none, some .local] [] [("stand", 15)] (by decide +kernel) (by decide +kernel) (fun h => bind_name h 15) (di_seq (d_var φ 4)) (fun ψs => dts_one fun _ _ _ _ _ => have ψ := ψs _ _ _ _ _; (dt_ord (d_fld T.f_Stand_head (d_var ψ 15)) (d_var ψ 5))) (fun _ _ _ _ _ ψ => (d_var ψ 15)))
    (ds_cons (ds_if (dt_of (dw_or (dt_eqL (d_var φ 4) (d_lst da_nil)) (dw_or1 (dt_ord (d_fld T.f_Stand_head (d_ix (d_var φ 4) d_int)) (d_var φ 5))))) (ds_cons (ds_set φ 6 (d_sub d_int (d_mul d_int (d_bt φ 5 call_int1 b_int T.n_int bb_int (da_cons (d_ord (d_ix (d_var φ 1) (d_var φ 5)) d_int) da_nil)))))
    (ds_cons (ds_set φ 4 (d_add (d_lst (da_cons (d_new φ 4 N_Stand (Nat.le_of_ble_eq_true rfl) (da_cons (d_fn φ 3 F_mixed (Nat.le_of_ble_eq_true rfl) (da_cons (d_var φ 6) (da_cons (d_var φ 1) (da_cons d_int (da_cons (d_var φ 1) da_nil))))) (da_cons (d_fn φ 3 F_mixed (Nat.le_of_ble_eq_true rfl) (da_cons (d_var φ 6) (da_cons (d_var φ 2) (da_cons d_int (da_cons (d_var φ 2) da_nil))))) da_nil))) da_nil)) (d_var φ 4)))
    (ds_cons (ds_set φ 1 (d_tmulA (d_tup (da_cons d_int da_nil)) (d_bi φ 2 call_len b_len T.n_len bb_len (da_cons (d_var φ 1) da_nil))))
    ds_nil))) (ds_cons (ds_set φ 7 (d_ix (d_var φ 4) d_int))
    (ds_cons (ds_par φ 8 9 (da_cons (d_meth0 F_Stand_top (Nat.le_of_ble_eq_true rfl) (d_var φ 7)) (da_cons (d_ix (d_var φ 1) (d_var φ 5)) da_nil)))
    (ds_cons (ds_asg (d_fn φ 6 F_shares (Nat.le_of_ble_eq_true rfl) (da_cons (d_var φ 8) (da_cons (d_var φ 9) da_nil))) (dg_tp 3 (dgs_cons (dg_nm φ 10) (dgs_cons (dg_nm φ 11) (dgs_cons (dg_nm φ 12) dgs_nil)))))
    (ds_cons (ds_ex (d_append (d_var φ 3) (da_cons (d_new φ 4 N_Stand (Nat.le_of_ble_eq_true rfl) (da_cons (d_fn φ 3 F_mixed (Nat.le_of_ble_eq_true rfl) (da_cons (d_var φ 11) (da_cons (d_fld T.f_Stand_row (d_var φ 7)) (da_cons (d_var φ 12) (da_cons (d_var φ 1) da_nil))))) (da_cons (d_fn φ 3 F_mixed (Nat.le_of_ble_eq_true rfl) (da_cons (d_var φ 11) (da_cons (d_fld T.f_Stand_parts (d_var φ 7)) (da_cons (d_var φ 12) (da_cons (d_var φ 2) da_nil))))) da_nil))) da_nil)))
    (ds_cons (ds_set φ 4 (d_sl (d_var φ 4) (do_some d_int) do_no))
    (ds_cons (ds_par φ 13 14 (da_cons (d_div (d_var φ 8) (d_var φ 10)) (da_cons (d_neg (d_div (d_var φ 9) (d_var φ 10))) da_nil)))
    (ds_cons (ds_par φ 1 2 (da_cons (d_fn φ 3 F_mixed (Nat.le_of_ble_eq_true rfl) (da_cons (d_var φ 13) (da_cons (d_var φ 1) (da_cons (d_var φ 14) (da_cons (d_fld T.f_Stand_row (d_var φ 7)) da_nil))))) (da_cons (d_fn φ 3 F_mixed (Nat.le_of_ble_eq_true rfl) (da_cons (d_var φ 13) (da_cons (d_var φ 2) (da_cons (d_var φ 14) (da_cons (d_fld T.f_Stand_parts (d_var φ 7)) da_nil))))) da_nil)))
    ds_nil))))))))
    (ds_fz 3 ds_nil))))))
    (ds_cons (ds_ret (d_fn φ 0 F_tidied (Nat.le_of_ble_eq_true rfl) (da_cons (d_add (d_var φ 3) (d_var φ 4)) da_nil)))
    ds_nil))))
theorem ok_taken_in (T : Txt m) (F_Stand_top : MeD m "Stand" "top" 1 [] sp_Stand_top) (F_head_of : FnD m "head_of" 1 [] sp_head_of) (F_is_nothing : FnD m "is_nothing" 1 [] sp_is_nothing) (F_mixed : FnD m "mixed" 1 [] sp_mixed) (N_Stand : MkD m "Stand" 2 [] sp_Stand___init__) (F_shares : FnD m "shares" 1 [] sp_shares) (F_tidied : FnD m "tidied" 6 [] sp_tidied) (F : Fun m.K "taken_in" "taken_in" s_taken_in f fd) : FnOk m.P m.w m.K m.mg m.base (L2.CX m.P m.w) 7 f fd ["stands", "row", "parts"] (lift m.K sp_taken_in) :=
  fn_ok F sc_taken_in ln_taken_in fun cdv A outer s H B E EX hE hr ds S Q h => d_taken_in T F_Stand_top F_head_of F_is_nothing F_mixed N_Stand F_shares F_tidied rfl rfl _ _ _ (pure_taken_in h)
theorem fx_Rows___init__ : fxC ["self", "wide", "rows", "row"] (defScope s_Rows___init__) [some .local, some .local, some .local, some .local] ["check_list"] = true := by decide +kernel
theorem d_Rows___init__ (T : Txt m) (F_Rows_put : MeD m "Rows" "put" 8 [] sp_Rows_put) (F_check_list : FnD m "check_list" 3 [] sp_check_list) {sc : Scope} {body : List Stmt} (hsc : sc = defScope s_Rows___init__) (hb : body = defBody s_Rows___init__) {hE hr nd} : PSsd (bodyC m ["self", "wide", "rows", "row"] "Rows.__init__" sc f cdv A outer s H B E EX 8 hE hr nd) body (t_Rows___init__ EX) := by
  have φ : Fx (bodyC m ["self", "wide", "rows", "row"] "Rows.__init__" sc f cdv A outer s H B E EX 8 hE hr nd).X [some .local, some .local, some .local, some .local] ["check_list"] := fx_body (by rw [hsc]; exact fx_Rows___init__)
  conv at hsc => rhs; whnf
  conv at hb => rhs; whnf
  subst hsc; subst hb
  exact (ds_cons (ds_if (dt_isN (d_var φ 2)) (ds_cons (ds_set φ 2 (d_lst da_nil))
    ds_nil) ds_nil)
    (ds_cons (ds_ex (d_fn φ 0 F_check_list (Nat.le_of_ble_eq_true rfl) (da_cons (d_var φ 2) (da_cons (d_var φ 1) da_nil))))
    (ds_cons (ds_fld T.f_Rows_held_wide (d_var φ 0) (d_var φ 1))
    (ds_cons (ds_fld T.f_Rows_held_given (d_var φ 0) (d_lst da_nil))
    (ds_cons (ds_fld T.f_Rows_held_stands (d_var φ 0) (d_lst da_nil))
    (ds_cons (ds_forX body_passes (dx_seq (d_var φ 2)) (dg_nm φ 3) (ds_cons (ds_ex (d_meth F_Rows_put (Nat.le_of_ble_eq_true rfl) (d_var φ 0) (da_cons (d_var φ 3) da_nil)))
    ds_nil))
    ds_nil))))))
theorem ok_Rows___init__ (T : Txt m) (F_Rows_put : MeD m "Rows" "put" 8 [] sp_Rows_put) (F_check_list : FnD m "check_list" 3 [] sp_check_list) (F : FunD m.K "__init__" "Rows.__init__" (defArgs s_Rows___init__) (defBody s_Rows___init__) (defScope s_Rows___init__) [.non] [] f fd) : FnOk m.P m.w m.K m.mg m.base (L2.CX m.P m.w) 9 f fd ["self", "wide", "rows"] (lift m.K sp_Rows___init__) :=
  fn_okD F sc_Rows___init__ ln_Rows___init__ fun cdv A outer s H B E EX hE hr ds S Q h => d_Rows___init__ T F_Rows_put F_check_list rfl rfl _ _ _ (pure_Rows___init__ h)
theorem fx_Rows_put : fxC ["self", "row", "grew", "parts", "stand"] (defScope s_Rows_put) [some .local, some .local, some .local, some .local, none] ["taken_in", "len", "is_nothing", "check_handful"] = true := by decide +kernel
theorem d_Rows_put (T : Txt m) (F_Rows_rest : MeD m "Rows" "rest" 4 [] sp_Rows_rest) (F_Stand_longer : MeD m "Stand" "longer" 4 [] sp_Stand_longer) (F_check_handful : FnD m "check_handful" 3 [] sp_check_handful) (F_is_nothing : FnD m "is_nothing" 1 [] sp_is_nothing) (F_taken_in : FnD m "taken_in" 7 [] sp_taken_in) {sc : Scope} {body : List Stmt} (hsc : sc = defScope s_Rows_put) (hb : body = defBody s_Rows_put) {hE hr nd} : PSsd (bodyC m ["self", "row", "grew", "parts", "stand"] "Rows.put" sc f cdv A outer s H B E EX 7 hE hr nd) body (t_Rows_put EX) := by
  have φ : Fx (bodyC m ["self", "row", "grew", "parts", "stand"] "Rows.put" sc f cdv A outer s H B E EX 7 hE hr nd).X [some .local, some .local, some .local, some .local, none] ["taken_in", "len", "is_nothing", "check_handful"] := fx_body (by rw [hsc]; exact fx_Rows_put)
  conv at hsc => rhs; whnf
  conv at hb => rhs; whnf
  subst hsc; subst hb
  exact (ds_cons (ds_ex (d_fn φ 3 F_check_handful (Nat.le_of_ble_eq_true rfl) (da_cons (d_var φ 1) (da_cons (d_fld T.f_Rows_held_wide (d_var φ 0)) da_nil))))
    (ds_cons (ds_set φ 2 (d_not (d_fn φ 2 F_is_nothing (Nat.le_of_ble_eq_true rfl) (da_cons (d_meth F_Rows_rest (Nat.le_of_ble_eq_true rfl) (d_var φ 0) (da_cons (d_var φ 1) da_nil)) da_nil))))
    (ds_cons (ds_set φ 3 (d_add (d_tmulA (d_tup (da_cons d_int da_nil)) (d_bi φ 1 call_len b_len T.n_len bb_len (da_cons (d_fld T.f_Rows_held_given (d_var φ 0)) da_nil))) (d_tup (da_cons d_int da_nil))))
    (ds_cons (ds_ex (d_append (d_fld T.f_Rows_held_given (d_var φ 0)) (da_cons (d_var φ 1) da_nil)))
    (ds_cons (ds_fld T.f_Rows_held_stands (d_var φ 0) (d_lcF [none, none, none, none, some .local] [] [("stand", 4)] (by decide +kernel) (by decide +kernel) (fun h => bind_name h 4) (di_seq (d_fld T.f_Rows_held_stands (d_var φ 0))) (fun _ => dts_nil) (fun _ _ _ _ _ ψ => (d_meth0 F_Stand_longer (Nat.le_of_ble_eq_true rfl) (d_var ψ 4)))))
    (ds_cons (ds_if (dt_val (d_var φ 2)) (ds_cons (ds_fld T.f_Rows_held_stands (d_var φ 0) (d_fn φ 0 F_taken_in (Nat.le_of_ble_eq_true rfl) (da_cons (d_fld T.f_Rows_held_stands (d_var φ 0)) (da_cons (d_var φ 1) (da_cons (d_var φ 3) da_nil)))))
    ds_nil) ds_nil)
    (ds_cons (ds_ret (d_var φ 2))
    ds_nil)))))))
theorem ok_Rows_put (T : Txt m) (F_Rows_rest : MeD m "Rows" "rest" 4 [] sp_Rows_rest) (F_Stand_longer : MeD m "Stand" "longer" 4 [] sp_Stand_longer) (F_check_handful : FnD m "check_handful" 3 [] sp_check_handful) (F_is_nothing : FnD m "is_nothing" 1 [] sp_is_nothing) (F_taken_in : FnD m "taken_in" 7 [] sp_taken_in) (F : Fun m.K "put" "Rows.put" s_Rows_put f fd) : FnOk m.P m.w m.K m.mg m.base (L2.CX m.P m.w) 8 f fd ["self", "row"] (lift m.K sp_Rows_put) :=
  fn_ok F sc_Rows_put ln_Rows_put fun cdv A outer s H B E EX hE hr ds S Q h => d_Rows_put T F_Rows_rest F_Stand_longer F_check_handful F_is_nothing F_taken_in rfl rfl _ _ _ (pure_Rows_put h)
theorem fx_Rows_given : fxC ["self"] (defScope s_Rows_given) [some .local] ["list"] = true := by decide +kernel
theorem d_Rows_given (T : Txt m)  {sc : Scope} {body : List Stmt} (hsc : sc = defScope s_Rows_given) (hb : body = defBody s_Rows_given) {hE hr nd} : PSsd (bodyC m ["self"] "Rows.given" sc f cdv A outer s H B E EX 0 hE hr nd) body (t_Rows_given EX) := by
  have φ : Fx (bodyC m ["self"] "Rows.given" sc f cdv A outer s H B E EX 0 hE hr nd).X [some .local] ["list"] := fx_body (by rw [hsc]; exact fx_Rows_given)
  conv at hsc => rhs; whnf
  conv at hb => rhs; whnf
  subst hsc; subst hb
  exact (ds_cons (ds_ret (d_bt φ 0 call_list_of b_list T.n_list bb_list (da_cons (d_fld T.f_Rows_held_given (d_var φ 0)) da_nil)))
    ds_nil)
theorem ok_Rows_given (T : Txt m)  (F : Fun m.K "given" "Rows.given" s_Rows_given f fd) : FnOk m.P m.w m.K m.mg m.base (L2.CX m.P m.w) 1 f fd ["self"] (lift m.K sp_Rows_given) :=
  fn_ok F sc_Rows_given ln_Rows_given fun cdv A outer s H B E EX hE hr ds S Q h => d_Rows_given T  rfl rfl _ _ _ (pure_Rows_given h)
theorem fx_Rows_told : fxC ["self", "stand"] (defScope s_Rows_told) [some .local, none] [] = true := by decide +kernel
theorem d_Rows_told (T : Txt m)  {sc : Scope} {body : List Stmt} (hsc : sc = defScope s_Rows_told) (hb : body = defBody s_Rows_told) {hE hr nd} : PSsd (bodyC m ["self", "stand"] "Rows.told" sc f cdv A outer s H B E EX 0 hE hr nd) body (t_Rows_told EX) := by
  have φ : Fx (bodyC m ["self", "stand"] "Rows.told" sc f cdv A outer s H B E EX 0 hE hr nd).X [some .local, none] [] := fx_body (by rw [hsc]; exact fx_Rows_told)
  conv at hsc => rhs; whnf
  conv at hb => rhs; whnf
  subst hsc; subst hb
  exact (ds_cons (ds_ret (d_lcF [none, some .local] [] [("stand", 1)] (by decide +kernel) (by decide +kernel) (fun h => bind_name h 1) (di_seq (d_fld T.f_Rows_held_stands (d_var φ 0))) (fun _ => dts_nil) (fun _ _ _ _ _ ψ => (d_fld T.f_Stand_row (d_var ψ 1)))))
    ds_nil)
theorem ok_Rows_told (T : Txt m)  (F : Fun m.K "told" "Rows.told" s_Rows_told f fd) : FnOk m.P m.w m.K m.mg m.base (L2.CX m.P m.w) 1 f fd ["self"] (lift m.K sp_Rows_told) :=
  fn_ok F sc_Rows_told ln_Rows_told fun cdv A outer s H B E EX hE hr ds S Q h => d_Rows_told T  rfl rfl _ _ _ (pure_Rows_told h)
theorem fx_Rows_rest : fxC ["self", "handful", "stand", "many"] (defScope s_Rows_rest) [some .local, some .local, some .local, some .local] ["mixed", "check_handful"] = true := by decide +kernel
theorem d_Rows_rest (T : Txt m) (F_Stand_top : MeD m "Stand" "top" 1 [] sp_Stand_top) (F_check_handful : FnD m "check_handful" 3 [] sp_check_handful) (F_mixed : FnD m "mixed" 1 [] sp_mixed) {sc : Scope} {body : List Stmt} (hsc : sc = defScope s_Rows_rest) (hb : body = defBody s_Rows_rest) {hE hr nd} : PSsd (bodyC m ["self", "handful", "stand", "many"] "Rows.rest" sc f cdv A outer s H B E EX 3 hE hr nd) body (t_Rows_rest EX) := by
  have φ : Fx (bodyC m ["self", "handful", "stand", "many"] "Rows.rest" sc f cdv A outer s H B E EX 3 hE hr nd).X [some .local, some .local, some .local, some .local] ["mixed", "check_handful"] := fx_body (by rw [hsc]; exact fx_Rows_rest)
  conv at hsc => rhs; whnf
  conv at hb => rhs; whnf
  subst hsc; subst hb
  exact (ds_cons (ds_ex (d_fn φ 1 F_check_handful (Nat.le_of_ble_eq_true rfl) (da_cons (d_var φ 1) (da_cons (d_fld T.f_Rows_held_wide (d_var φ 0)) da_nil))))
    (ds_cons (ds_for body_passes (di_seq (d_fld T.f_Rows_held_stands (d_var φ 0))) (dg_nm φ 2) (ds_cons (ds_set φ 3 (d_div (d_ix (d_var φ 1) (d_fld T.f_Stand_head (d_var φ 2))) (d_meth0 F_Stand_top (Nat.le_of_ble_eq_true rfl) (d_var φ 2))))
    (ds_cons (ds_set φ 1 (d_fn φ 0 F_mixed (Nat.le_of_ble_eq_true rfl) (da_cons d_int (da_cons (d_var φ 1) (da_cons (d_neg (d_var φ 3)) (da_cons (d_fld T.f_Stand_row (d_var φ 2)) da_nil))))))
    ds_nil)))
    (ds_cons (ds_ret (d_var φ 1))
    ds_nil)))
theorem ok_Rows_rest (T : Txt m) (F_Stand_top : MeD m "Stand" "top" 1 [] sp_Stand_top) (F_check_handful : FnD m "check_handful" 3 [] sp_check_handful) (F_mixed : FnD m "mixed" 1 [] sp_mixed) (F : Fun m.K "rest" "Rows.rest" s_Rows_rest f fd) : FnOk m.P m.w m.K m.mg m.base (L2.CX m.P m.w) 4 f fd ["self", "handful"] (lift m.K sp_Rows_rest) :=
  fn_ok F sc_Rows_rest ln_Rows_rest fun cdv A outer s H B E EX hE hr ds S Q h => d_Rows_rest T F_Stand_top F_check_handful F_mixed rfl rfl _ _ _ (pure_Rows_rest h)
theorem fx_told_rows : fxC ["rows", "wide"] (defScope s_told_rows) [some .local, some .local] ["Rows", "check_list"] = true := by decide +kernel
theorem d_told_rows (T : Txt m) (F_Rows_told : MeD m "Rows" "told" 1 [] sp_Rows_told) (F_check_list : FnD m "check_list" 3 [] sp_check_list) (N_Rows : MkD m "Rows" 9 [] sp_Rows___init__) {sc : Scope} {body : List Stmt} (hsc : sc = defScope s_told_rows) (hb : body = defBody s_told_rows) {hE hr nd} : PSsd (bodyC m ["rows", "wide"] "told_rows" sc f cdv A outer s H B E EX 10 hE hr nd) body (t_told_rows EX) := by
  have φ : Fx (bodyC m ["rows", "wide"] "told_rows" sc f cdv A outer s H B E EX 10 hE hr nd).X [some .local, some .local] ["Rows", "check_list"] := fx_body (by rw [hsc]; exact fx_told_rows)
  conv at hsc => rhs; whnf
  conv at hb => rhs; whnf
  subst hsc; subst hb
  exact (ds_cons (ds_ex (d_fn φ 1 F_check_list (Nat.le_of_ble_eq_true rfl) (da_cons (d_var φ 0) (da_cons (d_var φ 1) da_nil))))
    (ds_cons (ds_ret (d_meth0 F_Rows_told (Nat.le_of_ble_eq_true rfl) (d_new φ 0 N_Rows (Nat.le_of_ble_eq_true rfl) (da_cons (d_var φ 1) (da_cons (d_var φ 0) da_nil)))))
    ds_nil))
theorem ok_told_rows (T : Txt m) (F_Rows_told : MeD m "Rows" "told" 1 [] sp_Rows_told) (F_check_list : FnD m "check_list" 3 [] sp_check_list) (N_Rows : MkD m "Rows" 9 [] sp_Rows___init__) (F : Fun m.K "told_rows" "told_rows" s_told_rows f fd) : FnOk m.P m.w m.K m.mg m.base (L2.CX m.P m.w) 11 f fd ["rows", "wide"] (lift m.K sp_told_rows) :=
  fn_okX F sc_told_rows ln_told_rows fun cdv A outer s H B E EX hE hr ds S Q h => d_told_rows T F_Rows_told F_check_list N_Rows rfl rfl _ _ _ (pure_told_rows h)
theorem fx_difference : fxC ["one", "other", "wide"] (defScope s_difference) [some .local, some .local, some .local] ["one_less", "check_handful"] = true := by decide +kernel
theorem d_difference (T : Txt m) (F_check_handful : FnD m "check_handful" 3 [] sp_check_handful) (F_one_less : FnD m "one_less" 1 [] sp_one_less) {sc : Scope} {body : List Stmt} (hsc : sc = defScope s_difference) (hb : body = defBody s_difference) {hE hr nd} : PSsd (bodyC m ["one", "other", "wide"] "difference" sc f cdv A outer s H B E EX 3 hE hr nd) body (t_difference EX) := by
  have φ : Fx (bodyC m ["one", "other", "wide"] "difference" sc f cdv A outer s H B E EX 3 hE hr nd).X [some .local, some .local, some .local] ["one_less", "check_handful"] := fx_body (by rw [hsc]; exact fx_difference)
  conv at hsc => rhs; whnf
  conv at hb => rhs; whnf
  subst hsc; subst hb
  exact (ds_cons (ds_ex (d_fn φ 1 F_check_handful (Nat.le_of_ble_eq_true rfl) (da_cons (d_var φ 0) (da_cons (d_var φ 2) da_nil))))
    (ds_cons (ds_ex (d_fn φ 1 F_check_handful (Nat.le_of_ble_eq_true rfl) (da_cons (d_var φ 1) (da_cons (d_var φ 2) da_nil))))
    (ds_cons (ds_ret (d_fn φ 0 F_one_less (Nat.le_of_ble_eq_true rfl) (da_cons (d_var φ 0) (da_cons (d_var φ 1) da_nil))))
    ds_nil)))
theorem ok_difference (T : Txt m) (F_check_handful : FnD m "check_handful" 3 [] sp_check_handful) (F_one_less : FnD m "one_less" 1 [] sp_one_less) (F : Fun m.K "difference" "difference" s_difference f fd) : FnOk m.P m.w m.K m.mg m.base (L2.CX m.P m.w) 4 f fd ["one", "other", "wide"] (lift m.K sp_difference) :=
  fn_ok F sc_difference ln_difference fun cdv A outer s H B E EX hE hr ds S Q h => d_difference T F_check_handful F_one_less rfl rfl _ _ _ (pure_difference h)
theorem fx_House___init__ : fxC ["self", "wide", "rules"] (defScope s_House___init__) [some .local, some .local, some .local] ["Rows", "list", "range"] = true := by decide +kernel
theorem d_House___init__ (T : Txt m) (N_Rows : MkD m "Rows" 9 [] sp_Rows___init__) {sc : Scope} {body : List Stmt} (hsc : sc = defScope s_House___init__) (hb : body = defBody s_House___init__) {hE hr nd} : PSsd (bodyC m ["self", "wide", "rules"] "House.__init__" sc f cdv A outer s H B E EX 10 hE hr nd) body (t_House___init__ EX) := by
  have φ : Fx (bodyC m ["self", "wide", "rules"] "House.__init__" sc f cdv A outer s H B E EX 10 hE hr nd).X [some .local, some .local, some .local] ["Rows", "list", "range"] := fx_body (by rw [hsc]; exact fx_House___init__)
  conv at hsc => rhs; whnf
  conv at hb => rhs; whnf
  subst hsc; subst hb
  exact (ds_cons (ds_fld T.f_House_held_kinds (d_var φ 0) (d_lrg φ 1 2 T.n_list T.n_range (d_var φ 1)))
    (ds_cons (ds_fld T.f_House_held_rows (d_var φ 0) (d_new φ 0 N_Rows (Nat.le_of_ble_eq_true rfl) (da_cons (d_var φ 1) (da_cons (d_var φ 2) da_nil))))
    ds_nil))
theorem ok_House___init__ (T : Txt m) (N_Rows : MkD m "Rows" 9 [] sp_Rows___init__) (F : FunD m.K "__init__" "House.__init__" (defArgs s_House___init__) (defBody s_House___init__) (defScope s_House___init__) [.non] [] f fd) : FnOk m.P m.w m.K m.mg m.base (L2.CX m.P m.w) 11 f fd ["self", "wide", "rules"] (lift m.K sp_House___init__) :=
  fn_okD F sc_House___init__ ln_House___init__ fun cdv A outer s H B E EX hE hr ds S Q h => d_House___init__ T N_Rows rfl rfl _ _ _ (pure_House___init__ h)
theorem fx_House_kinds : fxC ["self"] (defScope s_House_kinds) [some .local] ["len"] = true := by decide +kernel
theorem d_House_kinds (T : Txt m)  {sc : Scope} {body : List Stmt} (hsc : sc = defScope s_House_kinds) (hb : body = defBody s_House_kinds) {hE hr nd} : PSsd (bodyC m ["self"] "House.kinds" sc f cdv A outer s H B E EX 0 hE hr nd) body (t_House_kinds EX) := by
  have φ : Fx (bodyC m ["self"] "House.kinds" sc f cdv A outer s H B E EX 0 hE hr nd).X [some .local] ["len"] := fx_body (by rw [hsc]; exact fx_House_kinds)
  conv at hsc => rhs; whnf
  conv at hb => rhs; whnf
  subst hsc; subst hb
  exact (ds_cons (ds_ret (d_bi φ 0 call_len b_len T.n_len bb_len (da_cons (d_fld T.f_House_held_kinds (d_var φ 0)) da_nil)))
    ds_nil)
theorem ok_House_kinds (T : Txt m)  (F : Fun m.K "kinds" "House.kinds" s_House_kinds f fd) : FnOk m.P m.w m.K m.mg m.base (L2.CX m.P m.w) 1 f fd ["self"] (lift m.K sp_House_kinds) :=
  fn_ok F sc_House_kinds ln_House_kinds fun cdv A outer s H B E EX hE hr ds S Q h => d_House_kinds T  rfl rfl _ _ _ (pure_House_kinds h)
theorem fx_House_rules : fxC ["self"] (defScope s_House_rules) [some .local] [] = true := by decide +kernel
theorem d_House_rules (T : Txt m) (F_Rows_given : MeD m "Rows" "given" 1 [] sp_Rows_given) {sc : Scope} {body : List Stmt} (hsc : sc = defScope s_House_rules) (hb : body = defBody s_House_rules) {hE hr nd} : PSsd (bodyC m ["self"] "House.rules" sc f cdv A outer s H B E EX 1 hE hr nd) body (t_House_rules EX) := by
  have φ : Fx (bodyC m ["self"] "House.rules" sc f cdv A outer s H B E EX 1 hE hr nd).X [some .local] [] := fx_body (by rw [hsc]; exact fx_House_rules)
  conv at hsc => rhs; whnf
  conv at hb => rhs; whnf
  subst hsc; subst hb
  exact (ds_cons (ds_ret (d_meth0 F_Rows_given (Nat.le_of_ble_eq_true rfl) (d_fld T.f_House_held_rows (d_var φ 0))))
    ds_nil)
theorem ok_House_rules (T : Txt m) (F_Rows_given : MeD m "Rows" "given" 1 [] sp_Rows_given) (F : Fun m.K "rules" "House.rules" s_House_rules f fd) : FnOk m.P m.w m.K m.mg m.base (L2.CX m.P m.w) 2 f fd ["self"] (lift m.K sp_House_rules) :=
  fn_ok F sc_House_rules ln_House_rules fun cdv A outer s H B E EX hE hr ds S Q h => d_House_rules T F_Rows_given rfl rfl _ _ _ (pure_House_rules h)
theorem fx_House_told : fxC ["self"] (defScope s_House_told) [some .local] [] = true := by decide +kernel
theorem d_House_told (T : Txt m) (F_Rows_told : MeD m "Rows" "told" 1 [] sp_Rows_told) {sc : Scope} {body : List Stmt} (hsc : sc = defScope s_House_told) (hb : body = defBody s_House_told) {hE hr nd} : PSsd (bodyC m ["self"] "House.told" sc f cdv A outer s H B E EX 1 hE hr nd) body (t_House_told EX) := by
  have φ : Fx (bodyC m ["self"] "House.told" sc f cdv A outer s H B E EX 1 hE hr nd).X [some .local] [] := fx_body (by rw [hsc]; exact fx_House_told)
  conv at hsc => rhs; whnf
  conv at hb => rhs; whnf
  subst hsc; subst hb
  exact (ds_cons (ds_ret (d_meth0 F_Rows_told (Nat.le_of_ble_eq_true rfl) (d_fld T.f_House_held_rows (d_var φ 0))))
    ds_nil)
theorem ok_House_told (T : Txt m) (F_Rows_told : MeD m "Rows" "told" 1 [] sp_Rows_told) (F : Fun m.K "told" "House.told" s_House_told f fd) : FnOk m.P m.w m.K m.mg m.base (L2.CX m.P m.w) 2 f fd ["self"] (lift m.K sp_House_told) :=
  fn_ok F sc_House_told ln_House_told fun cdv A outer s H B E EX hE hr ds S Q h => d_House_told T F_Rows_told rfl rfl _ _ _ (pure_House_told h)
theorem fx_House_one_of : fxC ["self", "kind"] (defScope s_House_one_of) [some .local, some .local] ["one_of_grids"] = true := by decide +kernel
theorem d_House_one_of (T : Txt m) (F_House_kinds : MeD m "House" "kinds" 1 [] sp_House_kinds) (F_one_of_grids : FnD m "one_of_grids" 1 [] sp_one_of) {sc : Scope} {body : List Stmt} (hsc : sc = defScope s_House_one_of) (hb : body = defBody s_House_one_of) {hE hr nd} : PSsd (bodyC m ["self", "kind"] "House.one_of" sc f cdv A outer s H B E EX 1 hE hr nd) body (t_House_one_of EX) := by
  have φ : Fx (bodyC m ["self", "kind"] "House.one_of" sc f cdv A outer s H B E EX 1 hE hr nd).X [some .local, some .local] ["one_of_grids"] := fx_body (by rw [hsc]; exact fx_House_one_of)
  conv at hsc => rhs; whnf
  conv at hb => rhs; whnf
  subst hsc; subst hb
  exact (ds_cons (ds_ret (d_fn φ 0 F_one_of_grids (Nat.le_of_ble_eq_true rfl) (da_cons (d_meth0 F_House_kinds (Nat.le_of_ble_eq_true rfl) (d_var φ 0)) (da_cons (d_var φ 1) da_nil))))
    ds_nil)
theorem ok_House_one_of (T : Txt m) (F_House_kinds : MeD m "House" "kinds" 1 [] sp_House_kinds) (F_one_of_grids : FnD m "one_of_grids" 1 [] sp_one_of) (F : Fun m.K "one_of" "House.one_of" s_House_one_of f fd) : FnOk m.P m.w m.K m.mg m.base (L2.CX m.P m.w) 2 f fd ["self", "kind"] (lift m.K sp_House_one_of) :=
  fn_ok F sc_House_one_of ln_House_one_of fun cdv A outer s H B E EX hE hr ds S Q h => d_House_one_of T F_House_kinds F_one_of_grids rfl rfl _ _ _ (pure_House_one_of h)
theorem fx_House_least : fxC ["self", "handful"] (defScope s_House_least) [some .local, some .local] [] = true := by decide +kernel
theorem d_House_least (T : Txt m) (F_Rows_rest : MeD m "Rows" "rest" 4 [] sp_Rows_rest) {sc : Scope} {body : List Stmt} (hsc : sc = defScope s_House_least) (hb : body = defBody s_House_least) {hE hr nd} : PSsd (bodyC m ["self", "handful"] "House.least" sc f cdv A outer s H B E EX 4 hE hr nd) body (t_House_least EX) := by
  have φ : Fx (bodyC m ["self", "handful"] "House.least" sc f cdv A outer s H B E EX 4 hE hr nd).X [some .local, some .local] [] := fx_body (by rw [hsc]; exact fx_House_least)
  conv at hsc => rhs; whnf
  conv at hb => rhs; whnf
  subst hsc; subst hb
  exact (ds_cons (ds_ret (d_meth F_Rows_rest (Nat.le_of_ble_eq_true rfl) (d_fld T.f_House_held_rows (d_var φ 0)) (da_cons (d_var φ 1) da_nil)))
    ds_nil)
theorem ok_House_least (T : Txt m) (F_Rows_rest : MeD m "Rows" "rest" 4 [] sp_Rows_rest) (F : Fun m.K "least" "House.least" s_House_least f fd) : FnOk m.P m.w m.K m.mg m.base (L2.CX m.P m.w) 5 f fd ["self", "handful"] (lift m.K sp_House_least) :=
  fn_ok F sc_House_least ln_House_least fun cdv A outer s H B E EX hE hr ds S Q h => d_House_least T F_Rows_rest rfl rfl _ _ _ (pure_House_least h)
theorem fx_House_alike : fxC ["self", "one", "other"] (defScope s_House_alike) [some .local, some .local, some .local] ["difference", "is_nothing"] = true := by decide +kernel
theorem d_House_alike (T : Txt m) (F_House_kinds : MeD m "House" "kinds" 1 [] sp_House_kinds) (F_House_least : MeD m "House" "least" 5 [] sp_House_least) (F_difference : FnD m "difference" 4 [] sp_difference) (F_is_nothing : FnD m "is_nothing" 1 [] sp_is_nothing) {sc : Scope} {body : List Stmt} (hsc : sc = defScope s_House_alike) (hb : body = defBody s_House_alike) {hE hr nd} : PSsd (bodyC m ["self", "one", "other"] "House.alike" sc f cdv A outer s H B E EX 5 hE hr nd) body (t_House_alike EX) := by
  have φ : Fx (bodyC m ["self", "one", "other"] "House.alike" sc f cdv A outer s H B E EX 5 hE hr nd).X [some .local, some .local, some .local] ["difference", "is_nothing"] := fx_body (by rw [hsc]; exact fx_House_alike)
  conv at hsc => rhs; whnf
  conv at hb => rhs; whnf
  subst hsc; subst hb
  exact (ds_cons (ds_ret (d_fn φ 1 F_is_nothing (Nat.le_of_ble_eq_true rfl) (da_cons (d_meth F_House_least (Nat.le_of_ble_eq_true rfl) (d_var φ 0) (da_cons (d_fn φ 0 F_difference (Nat.le_of_ble_eq_true rfl) (da_cons (d_var φ 1) (da_cons (d_var φ 2) (da_cons (d_meth0 F_House_kinds (Nat.le_of_ble_eq_true rfl) (d_var φ 0)) da_nil)))) da_nil)) da_nil)))
    ds_nil)
theorem ok_House_alike (T : Txt m) (F_House_kinds : MeD m "House" "kinds" 1 [] sp_House_kinds) (F_House_least : MeD m "House" "least" 5 [] sp_House_least) (F_difference : FnD m "difference" 4 [] sp_difference) (F_is_nothing : FnD m "is_nothing" 1 [] sp_is_nothing) (F : Fun m.K "alike" "House.alike" s_House_alike f fd) : FnOk m.P m.w m.K m.mg m.base (L2.CX m.P m.w) 6 f fd ["self", "one", "other"] (lift m.K sp_House_alike) :=
  fn_ok F sc_House_alike ln_House_alike fun cdv A outer s H B E EX hE hr ds S Q h => d_House_alike T F_House_kinds F_House_least F_difference F_is_nothing rfl rfl _ _ _ (pure_House_alike h)
theorem fx__law_draw : fxC ["_law_well", "_law_many", "_law_found", "_law_number_here"] (defScope s__law_draw) [some .local, some .local, some .local, some .local] [] = true := by decide +kernel
theorem d__law_draw (T : Txt m)  {sc : Scope} {body : List Stmt} (hsc : sc = defScope s__law_draw) (hb : body = defBody s__law_draw) {hE hr nd} : PSsd (bodyC m ["_law_well", "_law_many", "_law_found", "_law_number_here"] "_law_draw" sc f cdv A outer s H B E EX 0 hE hr nd) body (t__law_draw EX) := by
  have φ : Fx (bodyC m ["_law_well", "_law_many", "_law_found", "_law_number_here"] "_law_draw" sc f cdv A outer s H B E EX 0 hE hr nd).X [some .local, some .local, some .local, some .local] [] := fx_body (by rw [hsc]; exact fx__law_draw)
  conv at hsc => rhs; whnf
  conv at hb => rhs; whnf
  subst hsc; subst hb
  exact (ds_cons (ds_if (dt_ord (d_ix (d_var φ 0) d_int) d_int) (ds_cons (ds_set φ 2 (d_mod (d_ix (d_var φ 0) d_int) (d_var φ 1)))
    (ds_cons (ds_asg (d_div (d_ix (d_var φ 0) d_int) (d_var φ 1)) (dg_ix (d_var φ 0) d_int))
    (ds_cons (ds_ret (d_var φ 2))
    ds_nil))) ds_nil)
    (ds_cons (ds_asg (d_add (d_ix (d_var φ 0) d_int) d_int) (dg_ix (d_var φ 0) d_int))
    (ds_cons (ds_set φ 3 (d_mod (d_mul (d_add (d_add (d_ix (d_var φ 0) d_int) (d_mul d_int (d_ix (d_var φ 0) d_int))) d_int) d_int) d_int))
    (ds_cons (ds_set φ 3 (d_mod (d_mul (d_var φ 3) (d_add (d_div (d_var φ 3) d_int) d_int)) d_int))
    (ds_cons (ds_ret (d_mod (d_mod (d_mul (d_var φ 3) (d_add (d_div (d_var φ 3) d_int) d_int)) d_int) (d_var φ 1)))
    ds_nil)))))
theorem ok__law_draw (T : Txt m)  (F : Fun m.K "_law_draw" "_law_draw" s__law_draw f fd) : FnOk m.P m.w m.K m.mg m.base (L2.CX m.P m.w) 1 f fd ["_law_well", "_law_many"] (lift m.K sp__law_draw) :=
  fn_ok F sc__law_draw ln__law_draw fun cdv A outer s H B E EX hE hr ds S Q h => d__law_draw T  rfl rfl _ _ _ (pure__law_draw h)
theorem fx__law_number : fxC ["_law_well", "_law_way"] (defScope s__law_number) [some .local, some .local] ["_law_draw"] = true := by decide +kernel
theorem d__law_number (T : Txt m) (F__law_draw : FnD m "_law_draw" 1 [] sp__law_draw) {sc : Scope} {body : List Stmt} (hsc : sc = defScope s__law_number) (hb : body = defBody s__law_number) {hE hr nd} : PSsd (bodyC m ["_law_well", "_law_way"] "_law_number" sc f cdv A outer s H B E EX 1 hE hr nd) body (t__law_number EX) := by
  have φ : Fx (bodyC m ["_law_well", "_law_way"] "_law_number" sc f cdv A outer s H B E EX 1 hE hr nd).X [some .local, some .local] ["_law_draw"] := fx_body (by rw [hsc]; exact fx__law_number)
  conv at hsc => rhs; whnf
  conv at hb => rhs; whnf
  subst hsc; subst hb
  exact (ds_cons (ds_if (dt_of (dw_and (dt_eq (d_mod (d_var φ 1) d_int) d_int) (dw_and1 (dt_eq (d_fn φ 0 F__law_draw (Nat.le_of_ble_eq_true rfl) (da_cons (d_var φ 0) (da_cons d_int da_nil))) d_int)))) (ds_cons (ds_ret d_int)
    ds_nil) ds_nil)
    (ds_cons (ds_if (dt_ord (d_var φ 1) d_int) (ds_cons (ds_ret (d_sub (d_fn φ 0 F__law_draw (Nat.le_of_ble_eq_true rfl) (da_cons (d_var φ 0) (da_cons d_int da_nil))) d_int))
    ds_nil) ds_nil)
    (ds_cons (ds_ret (d_sub (d_fn φ 0 F__law_draw (Nat.le_of_ble_eq_true rfl) (da_cons (d_var φ 0) (da_cons (d_mul d_int (d_pow d_int d_int)) da_nil))) (d_pow d_int d_int)))
    ds_nil)))
theorem ok__law_number (T : Txt m) (F__law_draw : FnD m "_law_draw" 1 [] sp__law_draw) (F : Fun m.K "_law_number" "_law_number" s__law_number f fd) : FnOk m.P m.w m.K m.mg m.base (L2.CX m.P m.w) 2 f fd ["_law_well", "_law_way"] (lift m.K sp__law_number) :=
  fn_ok F sc__law_number ln__law_number fun cdv A outer s H B E EX hE hr ds S Q h => d__law_number T F__law_draw rfl rfl _ _ _ (pure__law_number h)
theorem fx__law_added : fxC ["_law_one", "_law_number_here", "_law_other", "_law_mine", "_law_its"] (defScope s__law_added) [some .local, some .cell, some .local, none, none] ["zip", "tuple"] = true := by decide +kernel
theorem d__law_added (T : Txt m)  {sc : Scope} {body : List Stmt} (hsc : sc = defScope s__law_added) (hb : body = defBody s__law_added) {hE hr nd} : PSsd (bodyC m ["_law_one", "_law_number_here", "_law_other", "_law_mine", "_law_its"] "_law_added" sc f cdv A outer s H B E EX 0 hE hr nd) body (t__law_added EX) := by
  have φ : Fx (bodyC m ["_law_one", "_law_number_here", "_law_other", "_law_mine", "_law_its"] "_law_added" sc f cdv A outer s H B E EX 0 hE hr nd).X [some .local, some .cell, some .local, none, none] ["zip", "tuple"] := fx_body (by rw [hsc]; exact fx__law_added)
  conv at hsc => rhs; whnf
  conv at hb => rhs; whnf
  subst hsc; subst hb
  exact (ds_cons (ds_ret (d_bt φ 1 call_tuple_of b_tuple T.n_tuple bb_tuple (da_cons (d_lcFX [none, some .cell, none, some .local, some .local] [] [("_law_mine", 3), ("_law_its", 4)] (by decide +kernel) (by decide +kernel) (fun h => bind_pair h 3 4) (dx_zip φ 0 T.n_zip (da_cons (d_var φ 0) (da_cons (d_var φ 2) da_nil))) (fun _ => dts_nil) (fun _ _ _ _ _ ψ => (d_add (d_var ψ 3) (d_mul (d_var ψ 1) (d_var ψ 4))))) da_nil)))
    ds_nil)
theorem ok__law_added (T : Txt m)  (F : Fun m.K "_law_added" "_law_added" s__law_added f fd) : FnOk m.P m.w m.K m.mg m.base (L2.CX m.P m.w) 1 f fd ["_law_one", "_law_number_here", "_law_other"] (lift m.K sp__law_added) :=
  fn_ok F sc__law_added ln__law_added fun cdv A outer s H B E EX hE hr ds S Q h => d__law_added T  rfl rfl _ _ _ (pure__law_added h)
theorem fx__law_handful : fxC ["_law_well", "_law_wide", "_law_way", "_law_found", "_law_k", "_law_one"] (defScope s__law_handful) [some .cell, some .local, some .local, some .local, none, none] ["tuple", "range", "_law_draw"] = true := by decide +kernel
theorem d__law_handful (T : Txt m) (F__law_draw : FnD m "_law_draw" 1 [] sp__law_draw) {sc : Scope} {body : List Stmt} (hsc : sc = defScope s__law_handful) (hb : body = defBody s__law_handful) {hE hr nd} : PSsd (bodyC m ["_law_well", "_law_wide", "_law_way", "_law_found", "_law_k", "_law_one"] "_law_handful" sc f cdv A outer s H B E EX 1 hE hr nd) body (t__law_handful EX) := by
  have φ : Fx (bodyC m ["_law_well", "_law_wide", "_law_way", "_law_found", "_law_k", "_law_one"] "_law_handful" sc f cdv A outer s H B E EX 1 hE hr nd).X [some .cell, some .local, some .local, some .local, none, none] ["tuple", "range", "_law_draw"] := fx_body (by rw [hsc]; exact fx__law_handful)
  conv at hsc => rhs; whnf
  conv at hb => rhs; whnf
  subst hsc; subst hb
  exact (ds_cons (ds_set φ 2 (d_fn φ 2 F__law_draw (Nat.le_of_ble_eq_true rfl) (da_cons (d_var φ 0) (da_cons d_int da_nil))))
    (ds_cons (ds_setLcF φ 3 [some .cell, none, none, none, some .local, none] ["_law_draw"] [("_law_k", 4)] (by decide +kernel) (by decide +kernel) (fun h => bind_name h 4) (di_r1 φ 1 T.n_range (da_cons (d_var φ 1) da_nil)) (fun _ => dts_nil) (fun _ _ _ _ _ ψ => (d_sub (d_fn ψ 0 F__law_draw (Nat.le_of_ble_eq_true rfl) (da_cons (d_var ψ 0) (da_cons d_int da_nil))) d_int)))
    (ds_cons (ds_if (dt_eq (d_var φ 2) d_int) (ds_cons (ds_setLcFX φ 3 [some .cell, none, none, none, none, some .local] ["_law_draw"] [("_law_one", 5)] (by decide +kernel) (by decide +kernel) (fun h => bind_name h 5) (dx_seq (d_var φ 3)) (fun _ => dts_nil) (fun _ _ _ _ _ ψ => (d_add (d_mul (d_fn ψ 0 F__law_draw (Nat.le_of_ble_eq_true rfl) (da_cons (d_var ψ 0) (da_cons (d_pow d_int d_int) da_nil))) (d_pow d_int d_int)) (d_mul (d_fn ψ 0 F__law_draw (Nat.le_of_ble_eq_true rfl) (da_cons (d_var ψ 0) (da_cons (d_pow d_int d_int) da_nil))) (d_var ψ 5)))))
    ds_nil) ds_nil)
    (ds_cons (ds_ret (d_bt φ 0 call_tuple_of b_tuple T.n_tuple bb_tuple (da_cons (d_var φ 3) da_nil)))
    ds_nil))))
theorem ok__law_handful (T : Txt m) (F__law_draw : FnD m "_law_draw" 1 [] sp__law_draw) (F : Fun m.K "_law_handful" "_law_handful" s__law_handful f fd) : FnOk m.P m.w m.K m.mg m.base (L2.CX m.P m.w) 2 f fd ["_law_well", "_law_wide"] (lift m.K sp__law_handful) :=
  fn_ok F sc__law_handful ln__law_handful fun cdv A outer s H B E EX hE hr ds S Q h => d__law_handful T F__law_draw rfl rfl _ _ _ (pure__law_handful h)
theorem fx__law_least_right : fxC ["_law_house", "_law_wide", "_law_handful_here", "_law_least", "_law_row", "_law_head", "_law_one", "_law_k"] (defScope s__law_least_right) [some .local, some .local, some .local, some .local, some .cell, some .local, none, none] ["range", "all", "tuple", "isinstance", "len"] = true := by decide +kernel
theorem d__law_least_right (T : Txt m) (F_House_alike : MeD m "House" "alike" 6 [] sp_House_alike) (F_House_least : MeD m "House" "least" 5 [] sp_House_least) (F_House_told : MeD m "House" "told" 2 [] sp_House_told) {sc : Scope} {body : List Stmt} (hsc : sc = defScope s__law_least_right) (hb : body = defBody s__law_least_right) {hE hr nd} : PSsd (bodyC m ["_law_house", "_law_wide", "_law_handful_here", "_law_least", "_law_row", "_law_head", "_law_one", "_law_k"] "_law_least_right" sc f cdv A outer s H B E EX 6 hE hr nd) body (t__law_least_right EX) := by
  have φ : Fx (bodyC m ["_law_house", "_law_wide", "_law_handful_here", "_law_least", "_law_row", "_law_head", "_law_one", "_law_k"] "_law_least_right" sc f cdv A outer s H B E EX 6 hE hr nd).X [some .local, some .local, some .local, some .local, some .cell, some .local, none, none] ["range", "all", "tuple", "isinstance", "len"] := fx_body (by rw [hsc]; exact fx__law_least_right)
  conv at hsc => rhs; whnf
  conv at hb => rhs; whnf
  subst hsc; subst hb
  exact (ds_cons (ds_set φ 3 (d_meth F_House_least (Nat.le_of_ble_eq_true rfl) (d_var φ 0) (da_cons (d_var φ 2) da_nil)))
    (ds_cons (ds_if (dt_of (dw_or (dt_not (dt_val (d_bi φ 3 call_isi b_isi T.n_isinstance bb_isinstance (da_cons (d_var φ 3) (da_cons (d_ty φ 2 T.n_tuple bb_tuple) da_nil))))) (dw_or1 (dt_ne (d_bi φ 4 call_len b_len T.n_len bb_len (da_cons (d_var φ 3) da_nil)) (d_var φ 1))))) (ds_cons (ds_ret d_bl)
    ds_nil) ds_nil)
    (ds_cons (ds_if (dt_not (dt_val (d_bi φ 1 (cr_all rfl) b_all T.n_all bb_all (da_cons (d_lcFX [none, none, none, none, none, none, some .local, none] ["int", "isinstance", "bool"] [("_law_one", 6)] (by decide +kernel) (by decide +kernel) (fun h => bind_name h 6) (dx_seq (d_var φ 3)) (fun _ => dts_nil) (fun _ _ _ _ _ ψ => (d_and (d_bi ψ 1 call_isi b_isi T.n_isinstance bb_isinstance (da_cons (d_var ψ 6) (da_cons (d_ty ψ 0 T.n_int bb_int) da_nil))) (d_one (d_not (d_bi ψ 1 call_isi b_isi T.n_isinstance bb_isinstance (da_cons (d_var ψ 6) (da_cons (d_ty ψ 2 T.n_bool bb_bool) da_nil)))))))) da_nil)))) (ds_cons (ds_ret d_bl)
    ds_nil) ds_nil)
    (ds_cons (ds_forX body_passes (dx_seq (d_meth0 F_House_told (Nat.le_of_ble_eq_true rfl) (d_var φ 0))) (dg_nm φ 4) (ds_cons (ds_set φ 5 (d_ix (d_lcF [none, none, none, none, some .cell, none, none, some .local] [] [("_law_k", 7)] (by decide +kernel) (by decide +kernel) (fun h => bind_name h 7) (di_r1 φ 0 T.n_range (da_cons (d_var φ 1) da_nil)) (fun ψs => dts_one fun _ _ _ _ _ => have ψ := ψs _ _ _ _ _; (dt_ne (d_ix (d_var ψ 4) (d_var ψ 7)) d_int)) (fun _ _ _ _ _ ψ => (d_var ψ 7))) d_int))
    (ds_cons (ds_if (dt_not (dt_chn d_int (d_ix (d_var φ 3) (d_var φ 5)) (d_ix (d_var φ 4) (d_var φ 5)))) (ds_cons (ds_ret d_bl)
    ds_nil) ds_nil)
    ds_nil)))
    (ds_cons (ds_ret (d_and (d_eq (d_meth F_House_least (Nat.le_of_ble_eq_true rfl) (d_var φ 0) (da_cons (d_var φ 3) da_nil)) (d_var φ 3)) (d_one (d_isB false rfl (d_meth F_House_alike (Nat.le_of_ble_eq_true rfl) (d_var φ 0) (da_cons (d_var φ 2) (da_cons (d_var φ 3) da_nil))) d_bl))))
    ds_nil)))))
theorem ok__law_least_right (T : Txt m) (F_House_alike : MeD m "House" "alike" 6 [] sp_House_alike) (F_House_least : MeD m "House" "least" 5 [] sp_House_least) (F_House_told : MeD m "House" "told" 2 [] sp_House_told) (F : Fun m.K "_law_least_right" "_law_least_right" s__law_least_right f fd) : FnOk m.P m.w m.K m.mg m.base (L2.CX m.P m.w) 7 f fd ["_law_house", "_law_wide", "_law_handful_here"] (lift m.K sp__law_least_right) :=
  fn_ok F sc__law_least_right ln__law_least_right fun cdv A outer s H B E EX hE hr ds S Q h => d__law_least_right T F_House_alike F_House_least F_House_told rfl rfl _ _ _ (pure__law_least_right h)
theorem fx__law_alike_right : fxC ["_law_house", "_law_one", "_law_two", "_law_three", "_law_found", "_law_both"] (defScope s__law_alike_right) [some .local, some .local, some .local, some .local, some .local, some .local] ["_law_added", "bool", "isinstance"] = true := by decide +kernel
theorem d__law_alike_right (T : Txt m) (F_House_alike : MeD m "House" "alike" 6 [] sp_House_alike) (F_House_least : MeD m "House" "least" 5 [] sp_House_least) (F__law_added : FnD m "_law_added" 1 [] sp__law_added) {sc : Scope} {body : List Stmt} (hsc : sc = defScope s__law_alike_right) (hb : body = defBody s__law_alike_right) {hE hr nd} : PSsd (bodyC m ["_law_house", "_law_one", "_law_two", "_law_three", "_law_found", "_law_both"] "_law_alike_right" sc f cdv A outer s H B E EX 6 hE hr nd) body (t__law_alike_right EX) := by
  have φ : Fx (bodyC m ["_law_house", "_law_one", "_law_two", "_law_three", "_law_found", "_law_both"] "_law_alike_right" sc f cdv A outer s H B E EX 6 hE hr nd).X [some .local, some .local, some .local, some .local, some .local, some .local] ["_law_added", "bool", "isinstance"] := fx_body (by rw [hsc]; exact fx__law_alike_right)
  conv at hsc => rhs; whnf
  conv at hb => rhs; whnf
  subst hsc; subst hb
  exact (ds_cons (ds_if (dt_of (dw_or (dt_isB true rfl (d_meth F_House_alike (Nat.le_of_ble_eq_true rfl) (d_var φ 0) (da_cons (d_var φ 1) (da_cons (d_var φ 2) da_nil))) d_bl) (dw_or (dt_isB true rfl (d_meth F_House_alike (Nat.le_of_ble_eq_true rfl) (d_var φ 0) (da_cons (d_var φ 2) (da_cons (d_var φ 1) da_nil))) d_bl) (dw_or1 (dt_not (dt_val (d_meth F_House_alike (Nat.le_of_ble_eq_true rfl) (d_var φ 0) (da_cons (d_var φ 3) (da_cons (d_var φ 3) da_nil))))))))) (ds_cons (ds_ret d_bl)
    ds_nil) ds_nil)
    (ds_cons (ds_if (dt_ne (d_meth F_House_least (Nat.le_of_ble_eq_true rfl) (d_var φ 0) (da_cons (d_var φ 1) da_nil)) (d_meth F_House_least (Nat.le_of_ble_eq_true rfl) (d_var φ 0) (da_cons (d_var φ 2) da_nil))) (ds_cons (ds_ret d_bl)
    ds_nil) ds_nil)
    (ds_cons (ds_set φ 4 (d_meth F_House_alike (Nat.le_of_ble_eq_true rfl) (d_var φ 0) (da_cons (d_var φ 3) (da_cons (d_var φ 2) da_nil))))
    (ds_cons (ds_if (dt_of (dw_or (dt_not (dt_val (d_bi φ 2 call_isi b_isi T.n_isinstance bb_isinstance (da_cons (d_var φ 4) (da_cons (d_ty φ 1 T.n_bool bb_bool) da_nil))))) (dw_or1 (dt_ne (d_var φ 4) (d_meth F_House_alike (Nat.le_of_ble_eq_true rfl) (d_var φ 0) (da_cons (d_var φ 2) (da_cons (d_var φ 3) da_nil))))))) (ds_cons (ds_ret d_bl)
    ds_nil) ds_nil)
    (ds_cons (ds_if (dt_ne (d_var φ 4) (d_eq (d_meth F_House_least (Nat.le_of_ble_eq_true rfl) (d_var φ 0) (da_cons (d_var φ 3) da_nil)) (d_meth F_House_least (Nat.le_of_ble_eq_true rfl) (d_var φ 0) (da_cons (d_var φ 1) da_nil)))) (ds_cons (ds_ret d_bl)
    ds_nil) ds_nil)
    (ds_cons (ds_set φ 5 (d_fn φ 0 F__law_added (Nat.le_of_ble_eq_true rfl) (da_cons (d_meth F_House_least (Nat.le_of_ble_eq_true rfl) (d_var φ 0) (da_cons (d_var φ 1) da_nil)) (da_cons d_int (da_cons (d_meth F_House_least (Nat.le_of_ble_eq_true rfl) (d_var φ 0) (da_cons (d_var φ 3) da_nil)) da_nil)))))
    (ds_cons (ds_ret (d_eq (d_meth F_House_least (Nat.le_of_ble_eq_true rfl) (d_var φ 0) (da_cons (d_fn φ 0 F__law_added (Nat.le_of_ble_eq_true rfl) (da_cons (d_var φ 1) (da_cons d_int (da_cons (d_var φ 3) da_nil)))) da_nil)) (d_meth F_House_least (Nat.le_of_ble_eq_true rfl) (d_var φ 0) (da_cons (d_var φ 5) da_nil))))
    ds_nil)))))))
theorem ok__law_alike_right (T : Txt m) (F_House_alike : MeD m "House" "alike" 6 [] sp_House_alike) (F_House_least : MeD m "House" "least" 5 [] sp_House_least) (F__law_added : FnD m "_law_added" 1 [] sp__law_added) (F : Fun m.K "_law_alike_right" "_law_alike_right" s__law_alike_right f fd) : FnOk m.P m.w m.K m.mg m.base (L2.CX m.P m.w) 7 f fd ["_law_house", "_law_one", "_law_two", "_law_three"] (lift m.K sp__law_alike_right) :=
  fn_ok F sc__law_alike_right ln__law_alike_right fun cdv A outer s H B E EX hE hr ds S Q h => d__law_alike_right T F_House_alike F_House_least F__law_added rfl rfl _ _ _ (pure__law_alike_right h)
theorem fx__law_right : fxC ["_law_well", "_law_wide", "_law_way", "_law_rules", "_law_handed", "_law_house", "_law_one", "_law_two", "_law_rule", "_law_three", "_law_at", "_law_turn", "_law_due", "_law_k", "_law_j", "_law_handful_here"] (defScope s__law_right) [some .cell, some .cell, some .cell, some .local, some .local, some .cell, some .local, some .local, some .local, some .local, some .local, some .local, some .local, none, none, none] ["range", "_law_alike_right", "all", "told_rows", "_law_draw", "_law_handful", "_law_number", "_law_added", "House", "list"] = true := by decide +kernel
theorem d__law_right (T : Txt m) (F_House_kinds : MeD m "House" "kinds" 1 [] sp_House_kinds) (F_House_one_of : MeD m "House" "one_of" 2 [] sp_House_one_of) (F_House_rules : MeD m "House" "rules" 2 [] sp_House_rules) (F_House_told : MeD m "House" "told" 2 [] sp_House_told) (F__law_added : FnD m "_law_added" 1 [] sp__law_added) (F__law_alike_right : FnD m "_law_alike_right" 7 [] sp__law_alike_right) (F__law_draw : FnD m "_law_draw" 1 [] sp__law_draw) (F__law_handful : FnD m "_law_handful" 2 [] sp__law_handful) (F__law_least_right : FnD m "_law_least_right" 7 [] sp__law_least_right) (F__law_number : FnD m "_law_number" 2 [] sp__law_number) (N_House : MkD m "House" 11 [] sp_House___init__) (F_told_rows : FnD m "told_rows" 11 [] sp_told_rows) {sc : Scope} {body : List Stmt} (hsc : sc = defScope s__law_right) (hb : body = defBody s__law_right) {hE hr nd} : PSsd (bodyC m ["_law_well", "_law_wide", "_law_way", "_law_rules", "_law_handed", "_law_house", "_law_one", "_law_two", "_law_rule", "_law_three", "_law_at", "_law_turn", "_law_due", "_law_k", "_law_j", "_law_handful_here"] "_law_right" sc f cdv A outer s H B E EX 12 hE hr nd) body (t__law_right EX) := by
  have φ : Fx (bodyC m ["_law_well", "_law_wide", "_law_way", "_law_rules", "_law_handed", "_law_house", "_law_one", "_law_two", "_law_rule", "_law_three", "_law_at", "_law_turn", "_law_due", "_law_k", "_law_j", "_law_handful_here"] "_law_right" sc f cdv A outer s H B E EX 12 hE hr nd).X [some .cell, some .cell, some .cell, some .local, some .local, some .cell, some .local, some .local, some .local, some .local, some .local, some .local, some .local, none, none, none] ["range", "_law_alike_right", "all", "told_rows", "_law_draw", "_law_handful", "_law_number", "_law_added", "House", "list"] := fx_body (by rw [hsc]; exact fx__law_right)
  conv at hsc => rhs; whnf
  conv at hb => rhs; whnf
  subst hsc; subst hb
  exact (ds_cons (ds_set φ 1 (d_fn φ 4 F__law_draw (Nat.le_of_ble_eq_true rfl) (da_cons (d_var φ 0) (da_cons d_int da_nil))))
    (ds_cons (ds_set φ 2 (d_fn φ 4 F__law_draw (Nat.le_of_ble_eq_true rfl) (da_cons (d_var φ 0) (da_cons d_int da_nil))))
    (ds_cons (ds_setLcF φ 3 [some .cell, some .cell, some .cell, none, none, none, none, none, none, none, none, none, none, some .local, none, none] ["range", "tuple"] [("_law_k", 13)] (by decide +kernel) (by decide +kernel) (fun h => bind_name h 13) (di_r1 φ 0 T.n_range (da_cons (d_fn φ 4 F__law_draw (Nat.le_of_ble_eq_true rfl) (da_cons (d_var φ 0) (da_cons d_int da_nil))) da_nil)) (fun _ => dts_nil) (fun _ _ _ _ _ ψ => (d_bt ψ 1 call_tuple_of b_tuple T.n_tuple bb_tuple (da_cons (d_lcF2 [some .cell, none, some .cell, none, none, none, none, none, none, none, none, none, none, none, some .local, none] ["_law_number"] [("_law_j", 14)] (by decide +kernel) (by decide +kernel) (fun h => bind_name2 h 14) (di_r1 ψ 0 T.n_range (da_cons (d_var ψ 1) da_nil)) (fun _ => dts_nil) (fun _ _ _ _ _ χ => (d_fn χ 0 F__law_number (Nat.le_of_ble_eq_true rfl) (da_cons (d_var χ 0) (da_cons (d_var χ 2) da_nil))))) da_nil))))
    (ds_cons (ds_set φ 4 (d_bt φ 9 call_list_of b_list T.n_list bb_list (da_cons (d_var φ 3) da_nil)))
    (ds_cons (ds_set φ 5 (d_new φ 8 N_House (Nat.le_of_ble_eq_true rfl) (da_cons (d_var φ 1) (da_cons (d_var φ 4) da_nil))))
    (ds_cons (ds_ex (d_append (d_var φ 4) (da_cons (d_tmulA (d_tup (da_cons d_int da_nil)) (d_var φ 1)) da_nil)))
    (ds_cons (ds_set φ 6 (d_fn φ 5 F__law_handful (Nat.le_of_ble_eq_true rfl) (da_cons (d_var φ 0) (da_cons (d_var φ 1) da_nil))))
    (ds_cons (ds_set φ 7 (d_var φ 6))
    (ds_cons (ds_forX body_passes (dx_seq (d_var φ 3)) (dg_nm φ 8) (ds_cons (ds_set φ 7 (d_fn φ 7 F__law_added (Nat.le_of_ble_eq_true rfl) (da_cons (d_var φ 7) (da_cons (d_fn φ 6 F__law_number (Nat.le_of_ble_eq_true rfl) (da_cons (d_var φ 0) (da_cons (d_add d_int (d_mul d_int (d_fn φ 4 F__law_draw (Nat.le_of_ble_eq_true rfl) (da_cons (d_var φ 0) (da_cons d_int da_nil))))) da_nil))) (da_cons (d_var φ 8) da_nil)))))
    ds_nil))
    (ds_cons (ds_set φ 9 (d_fn φ 5 F__law_handful (Nat.le_of_ble_eq_true rfl) (da_cons (d_var φ 0) (da_cons (d_var φ 1) da_nil))))
    (ds_cons (ds_if (dt_of (dw_and (dt_ord (d_var φ 1) d_int) (dw_and1 (dt_eq (d_fn φ 4 F__law_draw (Nat.le_of_ble_eq_true rfl) (da_cons (d_var φ 0) (da_cons d_int da_nil))) d_int)))) (ds_cons (ds_set φ 10 (d_fn φ 4 F__law_draw (Nat.le_of_ble_eq_true rfl) (da_cons (d_var φ 0) (da_cons (d_var φ 1) da_nil))))
    (ds_cons (ds_set φ 9 (d_add (d_add (d_sl (d_var φ 6) do_no (do_some (d_var φ 10))) (d_tup (da_cons (d_add (d_ix (d_var φ 6) (d_var φ 10)) (d_ix (d_lst (da_cons d_int (da_cons (d_neg d_int) (da_cons d_int (da_cons d_int da_nil))))) (d_fn φ 4 F__law_draw (Nat.le_of_ble_eq_true rfl) (da_cons (d_var φ 0) (da_cons d_int da_nil))))) da_nil))) (d_sl (d_var φ 6) (do_some (d_add (d_var φ 10) d_int)) do_no)))
    ds_nil)) ds_nil)
    (ds_cons (ds_for body_passes (di_r1 φ 0 T.n_range (da_cons d_int da_nil)) (dg_nm φ 11) (ds_cons (ds_if (dt_of (dw_or (dt_ne (d_meth0 F_House_kinds (Nat.le_of_ble_eq_true rfl) (d_var φ 5)) (d_var φ 1)) (dw_or (dt_ne (d_meth0 F_House_rules (Nat.le_of_ble_eq_true rfl) (d_var φ 5)) (d_var φ 3)) (dw_or1 (dt_ne (d_meth0 F_House_told (Nat.le_of_ble_eq_true rfl) (d_var φ 5)) (d_fn φ 3 F_told_rows (Nat.le_of_ble_eq_true rfl) (da_cons (d_var φ 3) (da_cons (d_var φ 1) da_nil)))))))) (ds_cons (ds_ret d_bl)
    ds_nil) ds_nil)
    (ds_cons (ds_if (dt_not (dt_val (d_bi φ 2 (cr_all rfl) b_all T.n_all bb_all (da_cons (d_lcFX [none, some .cell, none, none, none, some .cell, none, none, none, none, none, none, none, none, none, some .local] ["_law_least_right"] [("_law_handful_here", 15)] (by decide +kernel) (by decide +kernel) (fun h => bind_name h 15) (dx_seq (d_lst (da_cons (d_var φ 6) (da_cons (d_var φ 7) (da_cons (d_var φ 9) da_nil))))) (fun _ => dts_nil) (fun _ _ _ _ _ ψ => (d_fn ψ 0 F__law_least_right (Nat.le_of_ble_eq_true rfl) (da_cons (d_var ψ 5) (da_cons (d_var ψ 1) (da_cons (d_var ψ 15) da_nil)))))) da_nil)))) (ds_cons (ds_ret d_bl)
    ds_nil) ds_nil)
    (ds_cons (ds_if (dt_not (dt_val (d_fn φ 1 F__law_alike_right (Nat.le_of_ble_eq_true rfl) (da_cons (d_var φ 5) (da_cons (d_var φ 6) (da_cons (d_var φ 7) (da_cons (d_var φ 9) da_nil))))))) (ds_cons (ds_ret d_bl)
    ds_nil) ds_nil)
    (ds_cons (ds_ex (d_append (d_meth0 F_House_rules (Nat.le_of_ble_eq_true rfl) (d_var φ 5)) (da_cons (d_var φ 6) da_nil)))
    (ds_cons (ds_ex (d_clear (d_meth0 F_House_told (Nat.le_of_ble_eq_true rfl) (d_var φ 5))))
    ds_nil))))))
    (ds_cons (ds_setLcF φ 12 [none, some .cell, none, none, none, none, none, none, none, none, none, none, none, some .cell, none, none] ["range", "tuple"] [("_law_k", 13)] (by decide +kernel) (by decide +kernel) (fun h => bind_name h 13) (di_r1 φ 0 T.n_range (da_cons (d_var φ 1) da_nil)) (fun _ => dts_nil) (fun _ _ _ _ _ ψ => (d_bt ψ 1 call_tuple_of b_tuple T.n_tuple bb_tuple (da_cons (d_lcF2 [none, none, none, none, none, none, none, none, none, none, none, none, none, some .cell, some .local, none] ["int"] [("_law_j", 14)] (by decide +kernel) (by decide +kernel) (fun h => bind_name2 h 14) (di_r1 ψ 0 T.n_range (da_cons (d_var ψ 1) da_nil)) (fun _ => dts_nil) (fun _ _ _ _ _ χ => (d_bt χ 0 call_int1 b_int T.n_int bb_int (da_cons (d_eq (d_var χ 13) (d_var χ 14)) da_nil)))) da_nil))))
    (ds_cons (ds_ret (d_eq (d_lcF [none, none, none, none, none, some .cell, none, none, none, none, none, none, none, some .local, none, none] [] [("_law_k", 13)] (by decide +kernel) (by decide +kernel) (fun h => bind_name h 13) (di_r1 φ 0 T.n_range (da_cons (d_var φ 1) da_nil)) (fun _ => dts_nil) (fun _ _ _ _ _ ψ => (d_meth F_House_one_of (Nat.le_of_ble_eq_true rfl) (d_var ψ 5) (da_cons (d_var ψ 13) da_nil)))) (d_var φ 12)))
    ds_nil))))))))))))))
theorem ok__law_right (T : Txt m) (F_House_kinds : MeD m "House" "kinds" 1 [] sp_House_kinds) (F_House_one_of : MeD m "House" "one_of" 2 [] sp_House_one_of) (F_House_rules : MeD m "House" "rules" 2 [] sp_House_rules) (F_House_told : MeD m "House" "told" 2 [] sp_House_told) (F__law_added : FnD m "_law_added" 1 [] sp__law_added) (F__law_alike_right : FnD m "_law_alike_right" 7 [] sp__law_alike_right) (F__law_draw : FnD m "_law_draw" 1 [] sp__law_draw) (F__law_handful : FnD m "_law_handful" 2 [] sp__law_handful) (F__law_least_right : FnD m "_law_least_right" 7 [] sp__law_least_right) (F__law_number : FnD m "_law_number" 2 [] sp__law_number) (N_House : MkD m "House" 11 [] sp_House___init__) (F_told_rows : FnD m "told_rows" 11 [] sp_told_rows) (F : Fun m.K "_law_right" "_law_right" s__law_right f fd) : FnOk m.P m.w m.K m.mg m.base (L2.CX m.P m.w) 13 f fd ["_law_well"] (lift m.K sp__law_right) :=
  fn_ok F sc__law_right ln__law_right fun cdv A outer s H B E EX hE hr ds S Q h => d__law_right T F_House_kinds F_House_one_of F_House_rules F_House_told F__law_added F__law_alike_right F__law_draw F__law_handful F__law_least_right F__law_number N_House F_told_rows rfl rfl _ _ _ (pure__law_right h)
theorem fx_law : fxC ["_law_script", "_law_k", "_law_cell"] (defScope s_law) [some .local, some .local, some .local] ["enumerate", "int", "_law_right"] = true := by decide +kernel
theorem d_law (T : Txt m) (F__law_right : FnD m "_law_right" 13 [] sp__law_right) {sc : Scope} {body : List Stmt} (hsc : sc = defScope s_law) (hb : body = defBody s_law) {hE hr nd} : PSsd (bodyC m ["_law_script", "_law_k", "_law_cell"] "law" sc f cdv A outer s H B E EX 13 hE hr nd) body (t_law EX) := by
  have φ : Fx (bodyC m ["_law_script", "_law_k", "_law_cell"] "law" sc f cdv A outer s H B E EX 13 hE hr nd).X [some .local, some .local, some .local] ["enumerate", "int", "_law_right"] := fx_body (by rw [hsc]; exact fx_law)
  conv at hsc => rhs; whnf
  conv at hb => rhs; whnf
  subst hsc; subst hb
  exact (ds_cons (ds_forX body_passes (dx_en φ 0 T.n_enumerate (da_cons (d_add (d_lst (da_cons d_int da_nil)) (d_sl (d_var φ 0) do_no (do_some d_int))) da_nil)) (dg_tp 2 (dgs_cons (dg_nm φ 1) (dgs_cons (dg_nm φ 2) dgs_nil))) (ds_cons (ds_if (dt_not (dt_val (d_fn φ 2 F__law_right (Nat.le_of_ble_eq_true rfl) (da_cons (d_lst (da_cons (d_mul (d_var φ 2) (d_bt φ 1 call_int1 b_int T.n_int bb_int (da_cons (d_ord (d_var φ 2) (d_pow d_int d_int)) da_nil))) (da_cons (d_add (d_mod (d_var φ 2) d_int) (d_mul d_int (d_var φ 1))) (da_cons d_int da_nil)))) da_nil)))) (ds_cons (ds_ret d_bl)
    ds_nil) ds_nil)
    ds_nil))
    (ds_cons (ds_ret d_bl)
    ds_nil))
theorem ok_law (T : Txt m) (F__law_right : FnD m "_law_right" 13 [] sp__law_right) (F : Fun m.K "law" "law" s_law f fd) : FnOk m.P m.w m.K m.mg m.base (L2.CX m.P m.w) 14 f fd ["_law_script"] (lift m.K sp_law) :=
  fn_ok F sc_law ln_law fun cdv A outer s H B E EX hE hr ds S Q h => d_law T F__law_right rfl rfl _ _ _ (pure_law h)
end
theorem all_mk {l : PySem.W.OpenLaw} {w : World} {K : PySem.W.Frag} {h : Heap} {mg : Str → Option Value} {fa f1 f2 f3 f4 f5 f6 f7 f8 f9 f10 f11 f12 f13 f14 f15 f16 f17 f18 f19 f20 f21 f22 f23 f24 f25 f26 f27 f28 f29 f30 f31 f32 f33 f34 f35 f36 f37 f38 f39 : Addr} (X : K.In h) (G : h.Ns mainGlobals mg) (hfa : mg "law" = some (.ref fa))
    {od1 od2 od3 od4 od5 od6 od7 od8 od9 od10 od11 od12 od13 od14 od15 od16 od17 od18 od19 od20 od21 od22 od23 od24 od25 od26 od27 od28 od29 od30 od31 od32 od33 od34 od35 od36 od37 od38 od39 an1 an2 an3 an4 an5 an6 an7 an8 an9 an10 an11 an12 an13 an14 an15 an16 an17 an18 an19 an20 an21 an22 an23 an24 an25 an26 an27 an28 an29 an30 an31 an32 an33 an34 an35 an36 an37 an38 an39 : Option Addr} {sl1 sl2 sl3 sl4 sl5 sl6 sl7 sl8 sl9 sl10 sl11 sl12 sl13 sl14 sl15 sl16 sl17 sl18 sl19 sl20 sl21 sl22 sl23 sl24 sl25 sl26 sl27 sl28 sl29 sl30 sl31 sl32 sl33 sl34 sl35 sl36 sl37 sl38 sl39 : Array (Option Value)} {oc1 oc2 oc3 oc4 oc5 oc6 oc7 oc8 oc9 oc10 oc11 oc12 oc13 oc14 oc15 oc16 oc17 oc18 oc19 oc20 oc21 oc22 oc23 oc24 oc25 oc26 oc27 oc28 oc29 oc30 oc31 oc32 oc33 oc34 oc35 oc36 oc37 oc38 oc39 kV1 kV2 kV3 kV4 kV5 kV6 kV7 kV8 kV9 kV10 kV11 kV12 kV13 kV14 kV15 kV16 kV17 kV18 kV19 kV20 kV21 kV22 kV23 kV24 kV25 kV26 kV27 kV28 kV29 kV30 kV31 kV32 kV33 kV34 kV35 kV36 kV37 kV38 kV39 dc1 dc2 dc3 dc4 dc5 dc6 dc7 dc8 dc9 dc10 dc11 dc12 dc13 dc14 dc15 dc16 dc17 dc18 dc19 dc20 dc21 dc22 dc23 dc24 dc25 dc26 dc27 dc28 dc29 dc30 dc31 dc32 dc33 dc34 dc35 dc36 dc37 dc38 dc39 pm1 pm2 pm3 pm4 pm5 pm6 pm7 pm8 pm9 pm10 pm11 pm12 pm13 pm14 pm15 pm16 pm17 pm18 pm19 pm20 pm21 pm22 pm23 pm24 pm25 pm26 pm27 pm28 pm29 pm30 pm31 pm32 pm33 pm34 pm35 pm36 pm37 pm38 pm39 cd1 cd2 cd3 cd4 cd5 cd6 cd7 cd8 cd9 cd10 cd11 cd12 cd13 cd14 cd15 cd16 cd17 cd18 cd19 cd20 cd21 cd22 cd23 cd24 cd25 cd26 cd27 cd28 cd29 cd30 cd31 cd32 cd33 cd34 cd35 cd36 cd37 cd38 cd39 ct1 ct2 ct3 ct4 ct5 ct6 ct7 ct8 ct9 ct10 ct11 ct12 ct13 ct14 ct15 ct16 ct17 ct18 ct19 ct20 ct21 ct22 ct23 ct24 ct25 ct26 ct27 ct28 ct29 ct30 ct31 ct32 ct33 ct34 ct35 ct36 ct37 ct38 ct39 : Value} {C1 : Addr} {C2 : Addr} {C3 : Addr} {xC1 : Addr} {xC2 : Addr} {xI2 xN2 : Addr} {xnm2 xq2 : PySem.Str} {xbs2 xsub2 : List Value} {xsn2 : List PySem.Str} {xab2 : Bool} {xcol2 : Option Bool} {xdd2 : Option Addr} {xma2 xmb2 xmc2 xmd2 xmf2 : Option Value} {xod2 xan2 : Option Addr} {xsl2 : Array (Option Value)} {xoc2 xkV2 xdc2 xpm2 xcd2 xct2 : Value} {dT18 : Addr} {to18 : Value} {td18 : Option Addr} {tn18 : Nat} {tl18 : Array (Option Value)} {dT25 : Addr} {to25 : Value} {td25 : Option Addr} {tn25 : Nat} {tl25 : Array (Option Value)}
    (A1 : PySem.W.nsIn K mainGlobals "Stand" = some (some (.ref C1)))
    (p1 : PySem.W.plainGet K C1 Str.empty = true)
    (h1 : PySem.W.hasDictIn K C1 = true)
    (o1 : PySem.W.plainOver K C1 = true)
    (s1 : PySem.W.findIn K (.ref C1) "__setattr__" = some (some (.builtin "object.__setattr__")))
    (m1 : PySem.W.makesIn K C1 = true)
    (e1 : PySem.W.keepIn K (.ref C1) = true)
    (A2 : PySem.W.nsIn K mainGlobals "Rows" = some (some (.ref C2)))
    (p2 : PySem.W.plainGet K C2 Str.empty = true)
    (h2 : PySem.W.hasDictIn K C2 = true)
    (o2 : PySem.W.plainOver K C2 = true)
    (s2 : PySem.W.findIn K (.ref C2) "__setattr__" = some (some (.builtin "object.__setattr__")))
    (m2 : PySem.W.makesIn K C2 = true)
    (e2 : PySem.W.keepIn K (.ref C2) = true)
    (A3 : PySem.W.nsIn K mainGlobals "House" = some (some (.ref C3)))
    (p3 : PySem.W.plainGet K C3 Str.empty = true)
    (h3 : PySem.W.hasDictIn K C3 = true)
    (o3 : PySem.W.plainOver K C3 = true)
    (s3 : PySem.W.findIn K (.ref C3) "__setattr__" = some (some (.builtin "object.__setattr__")))
    (m3 : PySem.W.makesIn K C3 = true)
    (e3 : PySem.W.keepIn K (.ref C3) = true)
    (y1 : PySem.W.findIn K (.ref C3) "held_kinds" = some none)
    (y2 : PySem.W.findIn K (.ref C3) "held_rows" = some none)
    (y3 : PySem.W.findIn K (.ref C2) "held_given" = some none)
    (y4 : PySem.W.findIn K (.ref C2) "held_stands" = some none)
    (y5 : PySem.W.findIn K (.ref C2) "held_wide" = some none)
    (y6 : PySem.W.findIn K (.ref C1) "head" = some none)
    (y7 : PySem.W.findIn K (.ref C1) "parts" = some none)
    (y8 : PySem.W.findIn K (.ref C1) "row" = some none)
    (ia3 : PySem.W.findIn K (.ref C3) "__class__" = some (some (.builtin "object.__class__")))
    (im3 : PySem.W.mroIn K C3 (.type "object") = some true)
    (it3_0 : PySem.W.subIn K (.type "NoneType") (.ref C3) = some false)
    (it3_1 : PySem.W.subIn K (.type "bool") (.ref C3) = some false)
    (it3_2 : PySem.W.subIn K (.type "int") (.ref C3) = some false)
    (it3_3 : PySem.W.subIn K (.type "str") (.ref C3) = some false)
    (it3_4 : PySem.W.subIn K (.type "tuple") (.ref C3) = some false)
    (it3_5 : PySem.W.subIn K (.type "list") (.ref C3) = some false)
    (it3_6 : PySem.W.subIn K (.type "dict") (.ref C3) = some false)
    (ic3 : PySem.W.isClsIn K C3 = true)
    (iy3 : PySem.W.typeIn K (.ref C3) = some (.type "type"))
    (ia2 : PySem.W.findIn K (.ref C2) "__class__" = some (some (.builtin "object.__class__")))
    (im2 : PySem.W.mroIn K C2 (.type "object") = some true)
    (it2_0 : PySem.W.subIn K (.type "NoneType") (.ref C2) = some false)
    (it2_1 : PySem.W.subIn K (.type "bool") (.ref C2) = some false)
    (it2_2 : PySem.W.subIn K (.type "int") (.ref C2) = some false)
    (it2_3 : PySem.W.subIn K (.type "str") (.ref C2) = some false)
    (it2_4 : PySem.W.subIn K (.type "tuple") (.ref C2) = some false)
    (it2_5 : PySem.W.subIn K (.type "list") (.ref C2) = some false)
    (it2_6 : PySem.W.subIn K (.type "dict") (.ref C2) = some false)
    (ic2 : PySem.W.isClsIn K C2 = true)
    (iy2 : PySem.W.typeIn K (.ref C2) = some (.type "type"))
    (ih : PySem.W.specialIn K (.builtin "object.__class__") "__get__" = some (some (.builtin "getset_descriptor.__get__")))
    (ik : PySem.W.takesIn K (.builtin "object.__class__") = some true)
    (xa1 : PySem.W.nsIn K mainGlobals "NoughtError" = some (some (.ref xC1)))
    (xe1 : PySem.W.subIn K (.ref xC1) (.type "BaseException") = some true)
    (xt1 : PySem.W.typeIn K (.ref xC1) = some (.type "type"))
    (xn1 : PySem.W.specialIn K (.ref xC1) "__getattribute__" = some (some (.builtin "type.__getattribute__")))
    (xn2 : PySem.W.readsIn K xC1 (.type "type") = true)
    (xn3 : PySem.W.findCls K (.ref xC1) (.type "type") "__init__" = some (.val (.builtin "ValueError.__init__")))
    (xa2 : PySem.W.nsIn K mainGlobals "NoRow" = some (some (.ref xC2)))
    (xe2 : PySem.W.subIn K (.ref xC2) (.type "BaseException") = some true)
    (xt2 : PySem.W.typeIn K (.ref xC2) = some (.type "type"))
    (xk2 : PySem.W.keepIn K (.ref xC2) = true)
    (xl2 : K.lookup xC2 = some (excClassObj xnm2 xq2 xC2 xN2 xbs2 [.ref xC1, .type "ValueError", .type "Exception", .type "BaseException", .type "object"] true xsn2 xsub2 xab2 xcol2 xdd2 xma2 xmb2 xmc2 xmd2 xmf2 "ValueError.__new__"))
    (xs2 : PySem.W.findIn K (.ref xC2) "__setattr__" = some (some (.builtin "object.__setattr__")))
    (xi2 : PySem.W.findIn K (.ref xC2) "__init__" = some (some (.ref xI2)))
    (xg2 : PySem.W.typeIn K (.ref xI2) = some (.type "function"))
    (xf2_at : PySem.W.findIn K (.ref xC2) "at" = some none)
    (yl2 : K.lookup xI2 = some ⟨xoc2, xod2, .func (PySem.W.fnOf "__init__" "NoRow.__init__" (defArgs s_NoRow___init__) (defBody s_NoRow___init__) (defScope s_NoRow___init__) .none xkV2 xdc2 xpm2 xan2 xcd2 xct2), xsl2⟩)
    (yc2 : PySem.W.codeIn K xcd2 "NoRow.__init__" = true)
    (yk2 : PySem.W.keepIn K (.ref xI2) = true)
    (a1 : PySem.W.nsIn K mainGlobals "is_whole" = some (some (.ref f1)))
    (l1 : K.lookup f1 = some ⟨oc1, od1, .func (PySem.W.fnOf "is_whole" "is_whole" (defArgs s_is_whole) (defBody s_is_whole) (defScope s_is_whole) .none kV1 dc1 pm1 an1 cd1 ct1), sl1⟩)
    (c1 : PySem.W.codeIn K cd1 "is_whole" = true)
    (k1 : PySem.W.keepIn K (.ref f1) = true)
    (a2 : PySem.W.nsIn K mainGlobals "is_handful" = some (some (.ref f2)))
    (l2 : K.lookup f2 = some ⟨oc2, od2, .func (PySem.W.fnOf "is_handful" "is_handful" (defArgs s_is_handful) (defBody s_is_handful) (defScope s_is_handful) .none kV2 dc2 pm2 an2 cd2 ct2), sl2⟩)
    (c2 : PySem.W.codeIn K cd2 "is_handful" = true)
    (k2 : PySem.W.keepIn K (.ref f2) = true)
    (a3 : PySem.W.nsIn K mainGlobals "check_handful" = some (some (.ref f3)))
    (l3 : K.lookup f3 = some ⟨oc3, od3, .func (PySem.W.fnOf "check_handful" "check_handful" (defArgs s_check_handful) (defBody s_check_handful) (defScope s_check_handful) .none kV3 dc3 pm3 an3 cd3 ct3), sl3⟩)
    (c3 : PySem.W.codeIn K cd3 "check_handful" = true)
    (k3 : PySem.W.keepIn K (.ref f3) = true)
    (a4 : PySem.W.nsIn K mainGlobals "check_list" = some (some (.ref f4)))
    (l4 : K.lookup f4 = some ⟨oc4, od4, .func (PySem.W.fnOf "check_list" "check_list" (defArgs s_check_list) (defBody s_check_list) (defScope s_check_list) .none kV4 dc4 pm4 an4 cd4 ct4), sl4⟩)
    (c4 : PySem.W.codeIn K cd4 "check_list" = true)
    (k4 : PySem.W.keepIn K (.ref f4) = true)
    (a5 : PySem.W.nsIn K mainGlobals "shares" = some (some (.ref f5)))
    (l5 : K.lookup f5 = some ⟨oc5, od5, .func (PySem.W.fnOf "shares" "shares" (defArgs s_shares) (defBody s_shares) (defScope s_shares) .none kV5 dc5 pm5 an5 cd5 ct5), sl5⟩)
    (c5 : PySem.W.codeIn K cd5 "shares" = true)
    (k5 : PySem.W.keepIn K (.ref f5) = true)
    (a6 : PySem.W.nsIn K mainGlobals "one_of" = some (some (.ref f6)))
    (l6 : K.lookup f6 = some ⟨oc6, od6, .func (PySem.W.fnOf "one_of" "one_of" (defArgs s_one_of) (defBody s_one_of) (defScope s_one_of) .none kV6 dc6 pm6 an6 cd6 ct6), sl6⟩)
    (c6 : PySem.W.codeIn K cd6 "one_of" = true)
    (k6 : PySem.W.keepIn K (.ref f6) = true)
    (a7 : PySem.W.nsIn K mainGlobals "one_less" = some (some (.ref f7)))
    (l7 : K.lookup f7 = some ⟨oc7, od7, .func (PySem.W.fnOf "one_less" "one_less" (defArgs s_one_less) (defBody s_one_less) (defScope s_one_less) .none kV7 dc7 pm7 an7 cd7 ct7), sl7⟩)
    (c7 : PySem.W.codeIn K cd7 "one_less" = true)
    (k7 : PySem.W.keepIn K (.ref f7) = true)
    (a8 : PySem.W.nsIn K mainGlobals "is_nothing" = some (some (.ref f8)))
    (l8 : K.lookup f8 = some ⟨oc8, od8, .func (PySem.W.fnOf "is_nothing" "is_nothing" (defArgs s_is_nothing) (defBody s_is_nothing) (defScope s_is_nothing) .none kV8 dc8 pm8 an8 cd8 ct8), sl8⟩)
    (c8 : PySem.W.codeIn K cd8 "is_nothing" = true)
    (k8 : PySem.W.keepIn K (.ref f8) = true)
    (a9 : PySem.W.nsIn K mainGlobals "head_of" = some (some (.ref f9)))
    (l9 : K.lookup f9 = some ⟨oc9, od9, .func (PySem.W.fnOf "head_of" "head_of" (defArgs s_head_of) (defBody s_head_of) (defScope s_head_of) .none kV9 dc9 pm9 an9 cd9 ct9), sl9⟩)
    (c9 : PySem.W.codeIn K cd9 "head_of" = true)
    (k9 : PySem.W.keepIn K (.ref f9) = true)
    (a10 : PySem.W.nsIn K mainGlobals "mixed" = some (some (.ref f10)))
    (l10 : K.lookup f10 = some ⟨oc10, od10, .func (PySem.W.fnOf "mixed" "mixed" (defArgs s_mixed) (defBody s_mixed) (defScope s_mixed) .none kV10 dc10 pm10 an10 cd10 ct10), sl10⟩)
    (c10 : PySem.W.codeIn K cd10 "mixed" = true)
    (k10 : PySem.W.keepIn K (.ref f10) = true)
    (a11 : PySem.W.findIn K (.ref C1) "__init__" = some (some (.ref f11)))
    (l11 : K.lookup f11 = some ⟨oc11, od11, .func (PySem.W.fnOf "__init__" "Stand.__init__" (defArgs s_Stand___init__) (defBody s_Stand___init__) (defScope s_Stand___init__) .none kV11 dc11 pm11 an11 cd11 ct11), sl11⟩)
    (c11 : PySem.W.codeIn K cd11 "Stand.__init__" = true)
    (k11 : PySem.W.keepIn K (.ref f11) = true)
    (q11 : PySem.W.isFn K (.ref f11) = true)
    (a12 : PySem.W.findIn K (.ref C1) "top" = some (some (.ref f12)))
    (l12 : K.lookup f12 = some ⟨oc12, od12, .func (PySem.W.fnOf "top" "Stand.top" (defArgs s_Stand_top) (defBody s_Stand_top) (defScope s_Stand_top) .none kV12 dc12 pm12 an12 cd12 ct12), sl12⟩)
    (c12 : PySem.W.codeIn K cd12 "Stand.top" = true)
    (k12 : PySem.W.keepIn K (.ref f12) = true)
    (q12 : PySem.W.isFn K (.ref f12) = true)
    (a13 : PySem.W.findIn K (.ref C1) "mix" = some (some (.ref f13)))
    (l13 : K.lookup f13 = some ⟨oc13, od13, .func (PySem.W.fnOf "mix" "Stand.mix" (defArgs s_Stand_mix) (defBody s_Stand_mix) (defScope s_Stand_mix) .none kV13 dc13 pm13 an13 cd13 ct13), sl13⟩)
    (c13 : PySem.W.codeIn K cd13 "Stand.mix" = true)
    (k13 : PySem.W.keepIn K (.ref f13) = true)
    (q13 : PySem.W.isFn K (.ref f13) = true)
    (a14 : PySem.W.findIn K (.ref C1) "longer" = some (some (.ref f14)))
    (l14 : K.lookup f14 = some ⟨oc14, od14, .func (PySem.W.fnOf "longer" "Stand.longer" (defArgs s_Stand_longer) (defBody s_Stand_longer) (defScope s_Stand_longer) .none kV14 dc14 pm14 an14 cd14 ct14), sl14⟩)
    (c14 : PySem.W.codeIn K cd14 "Stand.longer" = true)
    (k14 : PySem.W.keepIn K (.ref f14) = true)
    (q14 : PySem.W.isFn K (.ref f14) = true)
    (a15 : PySem.W.findIn K (.ref C1) "cut_by" = some (some (.ref f15)))
    (l15 : K.lookup f15 = some ⟨oc15, od15, .func (PySem.W.fnOf "cut_by" "Stand.cut_by" (defArgs s_Stand_cut_by) (defBody s_Stand_cut_by) (defScope s_Stand_cut_by) .none kV15 dc15 pm15 an15 cd15 ct15), sl15⟩)
    (c15 : PySem.W.codeIn K cd15 "Stand.cut_by" = true)
    (k15 : PySem.W.keepIn K (.ref f15) = true)
    (q15 : PySem.W.isFn K (.ref f15) = true)
    (a16 : PySem.W.nsIn K mainGlobals "tidied" = some (some (.ref f16)))
    (l16 : K.lookup f16 = some ⟨oc16, od16, .func (PySem.W.fnOf "tidied" "tidied" (defArgs s_tidied) (defBody s_tidied) (defScope s_tidied) .none kV16 dc16 pm16 an16 cd16 ct16), sl16⟩)
    (c16 : PySem.W.codeIn K cd16 "tidied" = true)
    (k16 : PySem.W.keepIn K (.ref f16) = true)
    (a17 : PySem.W.nsIn K mainGlobals "taken_in" = some (some (.ref f17)))
    (l17 : K.lookup f17 = some ⟨oc17, od17, .func (PySem.W.fnOf "taken_in" "taken_in" (defArgs s_taken_in) (defBody s_taken_in) (defScope s_taken_in) .none kV17 dc17 pm17 an17 cd17 ct17), sl17⟩)
    (c17 : PySem.W.codeIn K cd17 "taken_in" = true)
    (k17 : PySem.W.keepIn K (.ref f17) = true)
    (a18 : PySem.W.findIn K (.ref C2) "__init__" = some (some (.ref f18)))
    (l18 : K.lookup f18 = some ⟨oc18, od18, .func (PySem.W.fnOf "__init__" "Rows.__init__" (defArgs s_Rows___init__) (defBody s_Rows___init__) (defScope s_Rows___init__) (.ref dT18) kV18 dc18 pm18 an18 cd18 ct18), sl18⟩)
    (t18 : K.lookup dT18 = some ⟨to18, td18, .seq #[.none] tn18, tl18⟩)
    (c18 : PySem.W.codeIn K cd18 "Rows.__init__" = true)
    (k18 : PySem.W.keepIn K (.ref f18) = true)
    (q18 : PySem.W.isFn K (.ref f18) = true)
    (a19 : PySem.W.findIn K (.ref C2) "put" = some (some (.ref f19)))
    (l19 : K.lookup f19 = some ⟨oc19, od19, .func (PySem.W.fnOf "put" "Rows.put" (defArgs s_Rows_put) (defBody s_Rows_put) (defScope s_Rows_put) .none kV19 dc19 pm19 an19 cd19 ct19), sl19⟩)
    (c19 : PySem.W.codeIn K cd19 "Rows.put" = true)
    (k19 : PySem.W.keepIn K (.ref f19) = true)
    (q19 : PySem.W.isFn K (.ref f19) = true)
    (a20 : PySem.W.findIn K (.ref C2) "given" = some (some (.ref f20)))
    (l20 : K.lookup f20 = some ⟨oc20, od20, .func (PySem.W.fnOf "given" "Rows.given" (defArgs s_Rows_given) (defBody s_Rows_given) (defScope s_Rows_given) .none kV20 dc20 pm20 an20 cd20 ct20), sl20⟩)
    (c20 : PySem.W.codeIn K cd20 "Rows.given" = true)
    (k20 : PySem.W.keepIn K (.ref f20) = true)
    (q20 : PySem.W.isFn K (.ref f20) = true)
    (a21 : PySem.W.findIn K (.ref C2) "told" = some (some (.ref f21)))
    (l21 : K.lookup f21 = some ⟨oc21, od21, .func (PySem.W.fnOf "told" "Rows.told" (defArgs s_Rows_told) (defBody s_Rows_told) (defScope s_Rows_told) .none kV21 dc21 pm21 an21 cd21 ct21), sl21⟩)
    (c21 : PySem.W.codeIn K cd21 "Rows.told" = true)
    (k21 : PySem.W.keepIn K (.ref f21) = true)
    (q21 : PySem.W.isFn K (.ref f21) = true)
    (a22 : PySem.W.findIn K (.ref C2) "rest" = some (some (.ref f22)))
    (l22 : K.lookup f22 = some ⟨oc22, od22, .func (PySem.W.fnOf "rest" "Rows.rest" (defArgs s_Rows_rest) (defBody s_Rows_rest) (defScope s_Rows_rest) .none kV22 dc22 pm22 an22 cd22 ct22), sl22⟩)
    (c22 : PySem.W.codeIn K cd22 "Rows.rest" = true)
    (k22 : PySem.W.keepIn K (.ref f22) = true)
    (q22 : PySem.W.isFn K (.ref f22) = true)
    (a23 : PySem.W.nsIn K mainGlobals "told_rows" = some (some (.ref f23)))
    (l23 : K.lookup f23 = some ⟨oc23, od23, .func (PySem.W.fnOf "told_rows" "told_rows" (defArgs s_told_rows) (defBody s_told_rows) (defScope s_told_rows) .none kV23 dc23 pm23 an23 cd23 ct23), sl23⟩)
    (c23 : PySem.W.codeIn K cd23 "told_rows" = true)
    (k23 : PySem.W.keepIn K (.ref f23) = true)
    (a24 : PySem.W.nsIn K mainGlobals "difference" = some (some (.ref f24)))
    (l24 : K.lookup f24 = some ⟨oc24, od24, .func (PySem.W.fnOf "difference" "difference" (defArgs s_difference) (defBody s_difference) (defScope s_difference) .none kV24 dc24 pm24 an24 cd24 ct24), sl24⟩)
    (c24 : PySem.W.codeIn K cd24 "difference" = true)
    (k24 : PySem.W.keepIn K (.ref f24) = true)
    (a25 : PySem.W.findIn K (.ref C3) "__init__" = some (some (.ref f25)))
    (l25 : K.lookup f25 = some ⟨oc25, od25, .func (PySem.W.fnOf "__init__" "House.__init__" (defArgs s_House___init__) (defBody s_House___init__) (defScope s_House___init__) (.ref dT25) kV25 dc25 pm25 an25 cd25 ct25), sl25⟩)
    (t25 : K.lookup dT25 = some ⟨to25, td25, .seq #[.none] tn25, tl25⟩)
    (c25 : PySem.W.codeIn K cd25 "House.__init__" = true)
    (k25 : PySem.W.keepIn K (.ref f25) = true)
    (q25 : PySem.W.isFn K (.ref f25) = true)
    (a26 : PySem.W.findIn K (.ref C3) "kinds" = some (some (.ref f26)))
    (l26 : K.lookup f26 = some ⟨oc26, od26, .func (PySem.W.fnOf "kinds" "House.kinds" (defArgs s_House_kinds) (defBody s_House_kinds) (defScope s_House_kinds) .none kV26 dc26 pm26 an26 cd26 ct26), sl26⟩)
    (c26 : PySem.W.codeIn K cd26 "House.kinds" = true)
    (k26 : PySem.W.keepIn K (.ref f26) = true)
    (q26 : PySem.W.isFn K (.ref f26) = true)
    (a27 : PySem.W.findIn K (.ref C3) "rules" = some (some (.ref f27)))
    (l27 : K.lookup f27 = some ⟨oc27, od27, .func (PySem.W.fnOf "rules" "House.rules" (defArgs s_House_rules) (defBody s_House_rules) (defScope s_House_rules) .none kV27 dc27 pm27 an27 cd27 ct27), sl27⟩)
    (c27 : PySem.W.codeIn K cd27 "House.rules" = true)
    (k27 : PySem.W.keepIn K (.ref f27) = true)
    (q27 : PySem.W.isFn K (.ref f27) = true)
    (a28 : PySem.W.findIn K (.ref C3) "told" = some (some (.ref f28)))
    (l28 : K.lookup f28 = some ⟨oc28, od28, .func (PySem.W.fnOf "told" "House.told" (defArgs s_House_told) (defBody s_House_told) (defScope s_House_told) .none kV28 dc28 pm28 an28 cd28 ct28), sl28⟩)
    (c28 : PySem.W.codeIn K cd28 "House.told" = true)
    (k28 : PySem.W.keepIn K (.ref f28) = true)
    (q28 : PySem.W.isFn K (.ref f28) = true)
    (a29 : PySem.W.findIn K (.ref C3) "one_of" = some (some (.ref f29)))
    (l29 : K.lookup f29 = some ⟨oc29, od29, .func (PySem.W.fnOf "one_of" "House.one_of" (defArgs s_House_one_of) (defBody s_House_one_of) (defScope s_House_one_of) .none kV29 dc29 pm29 an29 cd29 ct29), sl29⟩)
    (c29 : PySem.W.codeIn K cd29 "House.one_of" = true)
    (k29 : PySem.W.keepIn K (.ref f29) = true)
    (q29 : PySem.W.isFn K (.ref f29) = true)
    (a30 : PySem.W.findIn K (.ref C3) "least" = some (some (.ref f30)))
    (l30 : K.lookup f30 = some ⟨oc30, od30, .func (PySem.W.fnOf "least" "House.least" (defArgs s_House_least) (defBody s_House_least) (defScope s_House_least) .none kV30 dc30 pm30 an30 cd30 ct30), sl30⟩)
    (c30 : PySem.W.codeIn K cd30 "House.least" = true)
    (k30 : PySem.W.keepIn K (.ref f30) = true)
    (q30 : PySem.W.isFn K (.ref f30) = true)
    (a31 : PySem.W.findIn K (.ref C3) "alike" = some (some (.ref f31)))
    (l31 : K.lookup f31 = some ⟨oc31, od31, .func (PySem.W.fnOf "alike" "House.alike" (defArgs s_House_alike) (defBody s_House_alike) (defScope s_House_alike) .none kV31 dc31 pm31 an31 cd31 ct31), sl31⟩)
    (c31 : PySem.W.codeIn K cd31 "House.alike" = true)
    (k31 : PySem.W.keepIn K (.ref f31) = true)
    (q31 : PySem.W.isFn K (.ref f31) = true)
    (a32 : PySem.W.nsIn K mainGlobals "_law_draw" = some (some (.ref f32)))
    (l32 : K.lookup f32 = some ⟨oc32, od32, .func (PySem.W.fnOf "_law_draw" "_law_draw" (defArgs s__law_draw) (defBody s__law_draw) (defScope s__law_draw) .none kV32 dc32 pm32 an32 cd32 ct32), sl32⟩)
    (c32 : PySem.W.codeIn K cd32 "_law_draw" = true)
    (k32 : PySem.W.keepIn K (.ref f32) = true)
    (a33 : PySem.W.nsIn K mainGlobals "_law_number" = some (some (.ref f33)))
    (l33 : K.lookup f33 = some ⟨oc33, od33, .func (PySem.W.fnOf "_law_number" "_law_number" (defArgs s__law_number) (defBody s__law_number) (defScope s__law_number) .none kV33 dc33 pm33 an33 cd33 ct33), sl33⟩)
    (c33 : PySem.W.codeIn K cd33 "_law_number" = true)
    (k33 : PySem.W.keepIn K (.ref f33) = true)
    (a34 : PySem.W.nsIn K mainGlobals "_law_added" = some (some (.ref f34)))
    (l34 : K.lookup f34 = some ⟨oc34, od34, .func (PySem.W.fnOf "_law_added" "_law_added" (defArgs s__law_added) (defBody s__law_added) (defScope s__law_added) .none kV34 dc34 pm34 an34 cd34 ct34), sl34⟩)
    (c34 : PySem.W.codeIn K cd34 "_law_added" = true)
    (k34 : PySem.W.keepIn K (.ref f34) = true)
    (a35 : PySem.W.nsIn K mainGlobals "_law_handful" = some (some (.ref f35)))
    (l35 : K.lookup f35 = some ⟨oc35, od35, .func (PySem.W.fnOf "_law_handful" "_law_handful" (defArgs s__law_handful) (defBody s__law_handful) (defScope s__law_handful) .none kV35 dc35 pm35 an35 cd35 ct35), sl35⟩)
    (c35 : PySem.W.codeIn K cd35 "_law_handful" = true)
    (k35 : PySem.W.keepIn K (.ref f35) = true)
    (a36 : PySem.W.nsIn K mainGlobals "_law_least_right" = some (some (.ref f36)))
    (l36 : K.lookup f36 = some ⟨oc36, od36, .func (PySem.W.fnOf "_law_least_right" "_law_least_right" (defArgs s__law_least_right) (defBody s__law_least_right) (defScope s__law_least_right) .none kV36 dc36 pm36 an36 cd36 ct36), sl36⟩)
    (c36 : PySem.W.codeIn K cd36 "_law_least_right" = true)
    (k36 : PySem.W.keepIn K (.ref f36) = true)
    (a37 : PySem.W.nsIn K mainGlobals "_law_alike_right" = some (some (.ref f37)))
    (l37 : K.lookup f37 = some ⟨oc37, od37, .func (PySem.W.fnOf "_law_alike_right" "_law_alike_right" (defArgs s__law_alike_right) (defBody s__law_alike_right) (defScope s__law_alike_right) .none kV37 dc37 pm37 an37 cd37 ct37), sl37⟩)
    (c37 : PySem.W.codeIn K cd37 "_law_alike_right" = true)
    (k37 : PySem.W.keepIn K (.ref f37) = true)
    (a38 : PySem.W.nsIn K mainGlobals "_law_right" = some (some (.ref f38)))
    (l38 : K.lookup f38 = some ⟨oc38, od38, .func (PySem.W.fnOf "_law_right" "_law_right" (defArgs s__law_right) (defBody s__law_right) (defScope s__law_right) .none kV38 dc38 pm38 an38 cd38 ct38), sl38⟩)
    (c38 : PySem.W.codeIn K cd38 "_law_right" = true)
    (k38 : PySem.W.keepIn K (.ref f38) = true)
    (a39 : PySem.W.nsIn K mainGlobals "law" = some (some (.ref f39)))
    (l39 : K.lookup f39 = some ⟨oc39, od39, .func (PySem.W.fnOf "law" "law" (defArgs s_law) (defBody s_law) (defScope s_law) .none kV39 dc39 pm39 an39 cd39 ct39), sl39⟩)
    (c39 : PySem.W.codeIn K cd39 "law" = true)
    (k39 : PySem.W.keepIn K (.ref f39) = true)
    (al_one_of_grids : PySem.W.nsIn K mainGlobals "one_of_grids" = some (some (.ref f6)))
    (z1 : PySem.W.nsIn K mainGlobals "abs" = some none)
    (z2 : PySem.W.nsIn K mainGlobals "all" = some none)
    (z3 : PySem.W.nsIn K mainGlobals "bool" = some none)
    (z4 : PySem.W.nsIn K mainGlobals "enumerate" = some none)
    (z5 : PySem.W.nsIn K mainGlobals "int" = some none)
    (z6 : PySem.W.nsIn K mainGlobals "isinstance" = some none)
    (z7 : PySem.W.nsIn K mainGlobals "len" = some none)
    (z8 : PySem.W.nsIn K mainGlobals "list" = some none)
    (z9 : PySem.W.nsIn K mainGlobals "range" = some none)
    (z10 : PySem.W.nsIn K mainGlobals "tuple" = some none)
    (z11 : PySem.W.nsIn K mainGlobals "zip" = some none) :
    ∃ fd : FuncData, (∀ (s : Shared) (v : Value), BindsTo s fd ⟨[v], []⟩ [("_law_script", v)]) ∧ ∀ base : Heap, K.In base → base.Ns mainGlobals mg → FnOk l.prog w K mg base (L2.CX l.prog w) 14 fa fd ["_law_script"] (lift K spLaw) := by
  have e := hfa.symm.trans (PySem.W.mg_of X G a39)
  cases e
  have U1 := fun_mk (st := s_is_whole) l1 c1 k1
  have U2 := fun_mk (st := s_is_handful) l2 c2 k2
  have U3 := fun_mk (st := s_check_handful) l3 c3 k3
  have U4 := fun_mk (st := s_check_list) l4 c4 k4
  have U5 := fun_mk (st := s_shares) l5 c5 k5
  have U6 := fun_mk (st := s_one_of) l6 c6 k6
  have U7 := fun_mk (st := s_one_less) l7 c7 k7
  have U8 := fun_mk (st := s_is_nothing) l8 c8 k8
  have U9 := fun_mk (st := s_head_of) l9 c9 k9
  have U10 := fun_mk (st := s_mixed) l10 c10 k10
  have U11 := fun_mk (st := s_Stand___init__) l11 c11 k11
  have U12 := fun_mk (st := s_Stand_top) l12 c12 k12
  have U13 := fun_mk (st := s_Stand_mix) l13 c13 k13
  have U14 := fun_mk (st := s_Stand_longer) l14 c14 k14
  have U15 := fun_mk (st := s_Stand_cut_by) l15 c15 k15
  have U16 := fun_mk (st := s_tidied) l16 c16 k16
  have U17 := fun_mk (st := s_taken_in) l17 c17 k17
  have U18 : FunD K "__init__" "Rows.__init__" (defArgs s_Rows___init__) (defBody s_Rows___init__) (defScope s_Rows___init__) [.non] [] f18 _ := ⟨⟨_, _, _, _, _, _, _, _, _, _, rfl, l18, c18, .inr ⟨by simp, _, _, [.none], _, rfl, t18, rfl, .cons rfl (.nil)⟩, .inl rfl⟩, k18⟩
  have U19 := fun_mk (st := s_Rows_put) l19 c19 k19
  have U20 := fun_mk (st := s_Rows_given) l20 c20 k20
  have U21 := fun_mk (st := s_Rows_told) l21 c21 k21
  have U22 := fun_mk (st := s_Rows_rest) l22 c22 k22
  have U23 := fun_mk (st := s_told_rows) l23 c23 k23
  have U24 := fun_mk (st := s_difference) l24 c24 k24
  have U25 : FunD K "__init__" "House.__init__" (defArgs s_House___init__) (defBody s_House___init__) (defScope s_House___init__) [.non] [] f25 _ := ⟨⟨_, _, _, _, _, _, _, _, _, _, rfl, l25, c25, .inr ⟨by simp, _, _, [.none], _, rfl, t25, rfl, .cons rfl (.nil)⟩, .inl rfl⟩, k25⟩
  have U26 := fun_mk (st := s_House_kinds) l26 c26 k26
  have U27 := fun_mk (st := s_House_rules) l27 c27 k27
  have U28 := fun_mk (st := s_House_told) l28 c28 k28
  have U29 := fun_mk (st := s_House_one_of) l29 c29 k29
  have U30 := fun_mk (st := s_House_least) l30 c30 k30
  have U31 := fun_mk (st := s_House_alike) l31 c31 k31
  have U32 := fun_mk (st := s__law_draw) l32 c32 k32
  have U33 := fun_mk (st := s__law_number) l33 c33 k33
  have U34 := fun_mk (st := s__law_added) l34 c34 k34
  have U35 := fun_mk (st := s__law_handful) l35 c35 k35
  have U36 := fun_mk (st := s__law_least_right) l36 c36 k36
  have U37 := fun_mk (st := s__law_alike_right) l37 c37 k37
  have U38 := fun_mk (st := s__law_right) l38 c38 k38
  have U39 := fun_mk (st := s_law) l39 c39 k39
  have b1 := U1.binds (ps := ["thing"]) fun _ _ _ _ _ _ us hl => match us, hl with | [_], _ => rfl
  have b2 := U2.binds (ps := ["thing", "wide"]) fun _ _ _ _ _ _ us hl => match us, hl with | [_, _], _ => rfl
  have b3 := U3.binds (ps := ["thing", "wide"]) fun _ _ _ _ _ _ us hl => match us, hl with | [_, _], _ => rfl
  have b4 := U4.binds (ps := ["things", "wide"]) fun _ _ _ _ _ _ us hl => match us, hl with | [_, _], _ => rfl
  have b5 := U5.binds (ps := ["one", "other"]) fun _ _ _ _ _ _ us hl => match us, hl with | [_, _], _ => rfl
  have b6 := U6.binds (ps := ["many", "place"]) fun _ _ _ _ _ _ us hl => match us, hl with | [_, _], _ => rfl
  have b7 := U7.binds (ps := ["one", "other"]) fun _ _ _ _ _ _ us hl => match us, hl with | [_, _], _ => rfl
  have b8 := U8.binds (ps := ["row"]) fun _ _ _ _ _ _ us hl => match us, hl with | [_], _ => rfl
  have b9 := U9.binds (ps := ["row"]) fun _ _ _ _ _ _ us hl => match us, hl with | [_], _ => rfl
  have b10 := U10.binds (ps := ["x", "one", "y", "other"]) fun _ _ _ _ _ _ us hl => match us, hl with | [_, _, _, _], _ => rfl
  have b11 := U11.binds (ps := ["self", "row", "parts"]) fun _ _ _ _ _ _ us hl => match us, hl with | [_, _, _], _ => rfl
  have b12 := U12.binds (ps := ["self"]) fun _ _ _ _ _ _ us hl => match us, hl with | [_], _ => rfl
  have b13 := U13.binds (ps := ["self", "x", "other", "y"]) fun _ _ _ _ _ _ us hl => match us, hl with | [_, _, _, _], _ => rfl
  have b14 := U14.binds (ps := ["self"]) fun _ _ _ _ _ _ us hl => match us, hl with | [_], _ => rfl
  have b15 := U15.binds (ps := ["self", "later"]) fun _ _ _ _ _ _ us hl => match us, hl with | [_, _], _ => rfl
  have b16 := U16.binds (ps := ["stands"]) fun _ _ _ _ _ _ us hl => match us, hl with | [_], _ => rfl
  have b17 := U17.binds (ps := ["stands", "row", "parts"]) fun _ _ _ _ _ _ us hl => match us, hl with | [_, _, _], _ => rfl
  have b19 := U19.binds (ps := ["self", "row"]) fun _ _ _ _ _ _ us hl => match us, hl with | [_, _], _ => rfl
  have b20 := U20.binds (ps := ["self"]) fun _ _ _ _ _ _ us hl => match us, hl with | [_], _ => rfl
  have b21 := U21.binds (ps := ["self"]) fun _ _ _ _ _ _ us hl => match us, hl with | [_], _ => rfl
  have b22 := U22.binds (ps := ["self", "handful"]) fun _ _ _ _ _ _ us hl => match us, hl with | [_, _], _ => rfl
  have b23 := U23.binds (ps := ["rows", "wide"]) fun _ _ _ _ _ _ us hl => match us, hl with | [_, _], _ => rfl
  have b24 := U24.binds (ps := ["one", "other", "wide"]) fun _ _ _ _ _ _ us hl => match us, hl with | [_, _, _], _ => rfl
  have b26 := U26.binds (ps := ["self"]) fun _ _ _ _ _ _ us hl => match us, hl with | [_], _ => rfl
  have b27 := U27.binds (ps := ["self"]) fun _ _ _ _ _ _ us hl => match us, hl with | [_], _ => rfl
  have b28 := U28.binds (ps := ["self"]) fun _ _ _ _ _ _ us hl => match us, hl with | [_], _ => rfl
  have b29 := U29.binds (ps := ["self", "kind"]) fun _ _ _ _ _ _ us hl => match us, hl with | [_, _], _ => rfl
  have b30 := U30.binds (ps := ["self", "handful"]) fun _ _ _ _ _ _ us hl => match us, hl with | [_, _], _ => rfl
  have b31 := U31.binds (ps := ["self", "one", "other"]) fun _ _ _ _ _ _ us hl => match us, hl with | [_, _, _], _ => rfl
  have b32 := U32.binds (ps := ["_law_well", "_law_many"]) fun _ _ _ _ _ _ us hl => match us, hl with | [_, _], _ => rfl
  have b33 := U33.binds (ps := ["_law_well", "_law_way"]) fun _ _ _ _ _ _ us hl => match us, hl with | [_, _], _ => rfl
  have b34 := U34.binds (ps := ["_law_one", "_law_number_here", "_law_other"]) fun _ _ _ _ _ _ us hl => match us, hl with | [_, _, _], _ => rfl
  have b35 := U35.binds (ps := ["_law_well", "_law_wide"]) fun _ _ _ _ _ _ us hl => match us, hl with | [_, _], _ => rfl
  have b36 := U36.binds (ps := ["_law_house", "_law_wide", "_law_handful_here"]) fun _ _ _ _ _ _ us hl => match us, hl with | [_, _, _], _ => rfl
  have b37 := U37.binds (ps := ["_law_house", "_law_one", "_law_two", "_law_three"]) fun _ _ _ _ _ _ us hl => match us, hl with | [_, _, _, _], _ => rfl
  have b38 := U38.binds (ps := ["_law_well"]) fun _ _ _ _ _ _ us hl => match us, hl with | [_], _ => rfl
  refine ⟨PySem.W.fnOf "law" "law" (defArgs s_law) (defBody s_law) (defScope s_law) .none kV39 dc39 pm39 an39 cd39 ct39, fun s v => .of_eq rfl, fun base _ _ => ?_⟩
  have W1 : ClsT ⟨l.prog, w, K, mg, base⟩ "Stand" C1 := ⟨A1, PySem.W.mg_of X G A1, ⟨p1, h1, o1, s1⟩⟩
  have W2 : ClsT ⟨l.prog, w, K, mg, base⟩ "Rows" C2 := ⟨A2, PySem.W.mg_of X G A2, ⟨p2, h2, o2, s2⟩⟩
  have W3 : ClsT ⟨l.prog, w, K, mg, base⟩ "House" C3 := ⟨A3, PySem.W.mg_of X G A3, ⟨p3, h3, o3, s3⟩⟩
  have NT : NtC K xC1 := ⟨xn1, xn2, xn3⟩
  have XO2 : OexC K xC2 := ⟨⟨_, _, _, _, _, _, _, _, _, _, _, _, _, _, _, xl2, (show PySem.HandSPX.refsVE [.type "ValueError", .type "Exception", .type "BaseException", .type "object"] = true by decide +kernel)⟩, xs2, xe2, xt2, xk2⟩
  have YU2 := fun_mk (st := s_NoRow___init__) yl2 yc2 yk2
  have yb2 := YU2.binds (ps := ["self", "at"]) fun _ _ _ _ _ _ us hl => match us, hl with | [_, _], _ => rfl
  have E_NoRow : ExD ⟨l.prog, w, K, mg, base⟩ .NoRow 1 ["at"] := ⟨xC2, xI2, _, ["self", "at"], xa2, PySem.W.mg_of X G xa2, XO2, xi2, xg2, init1_ok (m := ⟨l.prog, w, K, mg, base⟩) YU2 sc_NoRow___init__ xf2_at XO2 (fun cdv A outer s H E => di_NoRow (m := ⟨l.prog, w, K, mg, base⟩) NT (PySem.W.mg_of X G xa1) rfl rfl), yb2⟩
  have T : Txt ⟨l.prog, w, K, mg, base⟩ := ⟨PySem.W.mg_none_of X G z1, PySem.W.mg_none_of X G z2, PySem.W.mg_none_of X G z3, PySem.W.mg_none_of X G z4, PySem.W.mg_none_of X G z5, PySem.W.mg_none_of X G z6, PySem.W.mg_none_of X G z7, PySem.W.mg_none_of X G z8, PySem.W.mg_none_of X G z9, PySem.W.mg_none_of X G z10, PySem.W.mg_none_of X G z11, clF_of W3 y1, clF_of W3 y2, clF_of W2 y3, clF_of W2 y4, clF_of W2 y5, clF_of W1 y6, clF_of W1 y7, clF_of W1 y8, ⟨C3, W3.cn, W3.mg, W3.cl, ia3, ih, ik, im3, by intro T hT; simp only [List.mem_cons, List.not_mem_nil, or_false] at hT; rcases hT with rfl | rfl | rfl | rfl | rfl | rfl | rfl; all_goals exact kit_no ic3 iy3 (by assumption)⟩, ⟨C2, W2.cn, W2.mg, W2.cl, ia2, ih, ik, im2, by intro T hT; simp only [List.mem_cons, List.not_mem_nil, or_false] at hT; rcases hT with rfl | rfl | rfl | rfl | rfl | rfl | rfl; all_goals exact kit_no ic2 iy2 (by assumption)⟩⟩
  have F_House_kinds := meD_of (m := ⟨l.prog, w, K, mg, base⟩) W3 (ok_House_kinds T  U26) a26 q26 k26 b26
  have O_one_of := ok_one_of (m := ⟨l.prog, w, K, mg, base⟩) T  U6
  have F_one_of := fnD_of (m := ⟨l.prog, w, K, mg, base⟩) O_one_of (PySem.W.mg_of X G a6) k6 b6
  have F_one_of_grids := fnD_of (x := "one_of_grids") (m := ⟨l.prog, w, K, mg, base⟩) O_one_of (PySem.W.mg_of X G al_one_of_grids) k6 b6
  have F_House_one_of := meD_of (m := ⟨l.prog, w, K, mg, base⟩) W3 (ok_House_one_of T F_House_kinds F_one_of_grids U29) a29 q29 k29 b29
  have F_Rows_given := meD_of (m := ⟨l.prog, w, K, mg, base⟩) W2 (ok_Rows_given T  U20) a20 q20 k20 b20
  have F_House_rules := meD_of (m := ⟨l.prog, w, K, mg, base⟩) W3 (ok_House_rules T F_Rows_given U27) a27 q27 k27 b27
  have F_Rows_told := meD_of (m := ⟨l.prog, w, K, mg, base⟩) W2 (ok_Rows_told T  U21) a21 q21 k21 b21
  have F_House_told := meD_of (m := ⟨l.prog, w, K, mg, base⟩) W3 (ok_House_told T F_Rows_told U28) a28 q28 k28 b28
  have O__law_added := ok__law_added (m := ⟨l.prog, w, K, mg, base⟩) T  U34
  have F__law_added := fnD_of (m := ⟨l.prog, w, K, mg, base⟩) O__law_added (PySem.W.mg_of X G a34) k34 b34
  have F_Stand_top := meD_of (m := ⟨l.prog, w, K, mg, base⟩) W1 (ok_Stand_top T  U12) a12 q12 k12 b12
  have O_is_whole := ok_is_whole (m := ⟨l.prog, w, K, mg, base⟩) T  U1
  have F_is_whole := fnD_of (m := ⟨l.prog, w, K, mg, base⟩) O_is_whole (PySem.W.mg_of X G a1) k1 b1
  have O_is_handful := ok_is_handful (m := ⟨l.prog, w, K, mg, base⟩) T F_is_whole U2
  have F_is_handful := fnD_of (m := ⟨l.prog, w, K, mg, base⟩) O_is_handful (PySem.W.mg_of X G a2) k2 b2
  have O_check_handful := ok_check_handful (m := ⟨l.prog, w, K, mg, base⟩) T E_NoRow F_is_handful U3
  have F_check_handful := fnD_of (m := ⟨l.prog, w, K, mg, base⟩) O_check_handful (PySem.W.mg_of X G a3) k3 b3
  have O_mixed := ok_mixed (m := ⟨l.prog, w, K, mg, base⟩) T  U10
  have F_mixed := fnD_of (m := ⟨l.prog, w, K, mg, base⟩) O_mixed (PySem.W.mg_of X G a10) k10 b10
  have F_Rows_rest := meD_of (m := ⟨l.prog, w, K, mg, base⟩) W2 (ok_Rows_rest T F_Stand_top F_check_handful F_mixed U22) a22 q22 k22 b22
  have F_House_least := meD_of (m := ⟨l.prog, w, K, mg, base⟩) W3 (ok_House_least T F_Rows_rest U30) a30 q30 k30 b30
  have O_one_less := ok_one_less (m := ⟨l.prog, w, K, mg, base⟩) T  U7
  have F_one_less := fnD_of (m := ⟨l.prog, w, K, mg, base⟩) O_one_less (PySem.W.mg_of X G a7) k7 b7
  have O_difference := ok_difference (m := ⟨l.prog, w, K, mg, base⟩) T F_check_handful F_one_less U24
  have F_difference := fnD_of (m := ⟨l.prog, w, K, mg, base⟩) O_difference (PySem.W.mg_of X G a24) k24 b24
  have O_is_nothing := ok_is_nothing (m := ⟨l.prog, w, K, mg, base⟩) T  U8
  have F_is_nothing := fnD_of (m := ⟨l.prog, w, K, mg, base⟩) O_is_nothing (PySem.W.mg_of X G a8) k8 b8
  have F_House_alike := meD_of (m := ⟨l.prog, w, K, mg, base⟩) W3 (ok_House_alike T F_House_kinds F_House_least F_difference F_is_nothing U31) a31 q31 k31 b31
  have O__law_alike_right := ok__law_alike_right (m := ⟨l.prog, w, K, mg, base⟩) T F_House_alike F_House_least F__law_added U37
  have F__law_alike_right := fnD_of (m := ⟨l.prog, w, K, mg, base⟩) O__law_alike_right (PySem.W.mg_of X G a37) k37 b37
  have O__law_draw := ok__law_draw (m := ⟨l.prog, w, K, mg, base⟩) T  U32
  have F__law_draw := fnD_of (m := ⟨l.prog, w, K, mg, base⟩) O__law_draw (PySem.W.mg_of X G a32) k32 b32
  have O__law_handful := ok__law_handful (m := ⟨l.prog, w, K, mg, base⟩) T F__law_draw U35
  have F__law_handful := fnD_of (m := ⟨l.prog, w, K, mg, base⟩) O__law_handful (PySem.W.mg_of X G a35) k35 b35
  have O__law_least_right := ok__law_least_right (m := ⟨l.prog, w, K, mg, base⟩) T F_House_alike F_House_least F_House_told U36
  have F__law_least_right := fnD_of (m := ⟨l.prog, w, K, mg, base⟩) O__law_least_right (PySem.W.mg_of X G a36) k36 b36
  have O__law_number := ok__law_number (m := ⟨l.prog, w, K, mg, base⟩) T F__law_draw U33
  have F__law_number := fnD_of (m := ⟨l.prog, w, K, mg, base⟩) O__law_number (PySem.W.mg_of X G a33) k33 b33
  have O_head_of := ok_head_of (m := ⟨l.prog, w, K, mg, base⟩) T  U9
  have F_head_of := fnD_of (m := ⟨l.prog, w, K, mg, base⟩) O_head_of (PySem.W.mg_of X G a9) k9 b9
  have O_Stand___init__ := ok_Stand___init__ (m := ⟨l.prog, w, K, mg, base⟩) T F_head_of U11
  have N_Stand := mkD_of (m := ⟨l.prog, w, K, mg, base⟩) W1 O_Stand___init__ m1 a11 q11 e1 b11
  have F_Stand_longer := meD_of (m := ⟨l.prog, w, K, mg, base⟩) W1 (ok_Stand_longer T N_Stand U14) a14 q14 k14 b14
  have O_shares := ok_shares (m := ⟨l.prog, w, K, mg, base⟩) T  U5
  have F_shares := fnD_of (m := ⟨l.prog, w, K, mg, base⟩) O_shares (PySem.W.mg_of X G a5) k5 b5
  have F_Stand_mix := meD_of (m := ⟨l.prog, w, K, mg, base⟩) W1 (ok_Stand_mix T F_mixed N_Stand U13) a13 q13 k13 b13
  have F_Stand_cut_by := meD_of (m := ⟨l.prog, w, K, mg, base⟩) W1 (ok_Stand_cut_by T F_Stand_mix F_Stand_top U15) a15 q15 k15 b15
  have O_tidied := ok_tidied (m := ⟨l.prog, w, K, mg, base⟩) T F_Stand_cut_by U16
  have F_tidied := fnD_of (m := ⟨l.prog, w, K, mg, base⟩) O_tidied (PySem.W.mg_of X G a16) k16 b16
  have O_taken_in := ok_taken_in (m := ⟨l.prog, w, K, mg, base⟩) T F_Stand_top F_head_of F_is_nothing F_mixed N_Stand F_shares F_tidied U17
  have F_taken_in := fnD_of (m := ⟨l.prog, w, K, mg, base⟩) O_taken_in (PySem.W.mg_of X G a17) k17 b17
  have F_Rows_put := meD_of (m := ⟨l.prog, w, K, mg, base⟩) W2 (ok_Rows_put T F_Rows_rest F_Stand_longer F_check_handful F_is_nothing F_taken_in U19) a19 q19 k19 b19
  have O_check_list := ok_check_list (m := ⟨l.prog, w, K, mg, base⟩) T E_NoRow F_is_handful U4
  have F_check_list := fnD_of (m := ⟨l.prog, w, K, mg, base⟩) O_check_list (PySem.W.mg_of X G a4) k4 b4
  have O_Rows___init__ := ok_Rows___init__ (m := ⟨l.prog, w, K, mg, base⟩) T F_Rows_put F_check_list U18
  obtain ⟨dd18_2, dv18_2, db18_2⟩ := U18.binds1 (ps := ["self", "wide", "rows"]) 3 1 (by simp) rfl fun T kV doc pm an cdv ct us its h1 h2 => match us, its, h1, h2 with | [_, _, _], [_], _, _ => ⟨_, rfl, rfl⟩
  have N_Rows : MkD ⟨l.prog, w, K, mg, base⟩ "Rows" 9 [] sp_Rows___init__ := mkD_ofD (m := ⟨l.prog, w, K, mg, base⟩) W2 O_Rows___init__ m2 a18 q18 e2 db18_2 dv18_2 fun _ => rfl
  have O_House___init__ := ok_House___init__ (m := ⟨l.prog, w, K, mg, base⟩) T N_Rows U25
  obtain ⟨dd25_2, dv25_2, db25_2⟩ := U25.binds1 (ps := ["self", "wide", "rules"]) 3 1 (by simp) rfl fun T kV doc pm an cdv ct us its h1 h2 => match us, its, h1, h2 with | [_, _, _], [_], _, _ => ⟨_, rfl, rfl⟩
  have N_House : MkD ⟨l.prog, w, K, mg, base⟩ "House" 11 [] sp_House___init__ := mkD_ofD (m := ⟨l.prog, w, K, mg, base⟩) W3 O_House___init__ m3 a25 q25 e3 db25_2 dv25_2 fun _ => rfl
  have O_told_rows := ok_told_rows (m := ⟨l.prog, w, K, mg, base⟩) T F_Rows_told F_check_list N_Rows U23
  have F_told_rows := fnD_of (m := ⟨l.prog, w, K, mg, base⟩) O_told_rows (PySem.W.mg_of X G a23) k23 b23
  have O__law_right := ok__law_right (m := ⟨l.prog, w, K, mg, base⟩) T F_House_kinds F_House_one_of F_House_rules F_House_told F__law_added F__law_alike_right F__law_draw F__law_handful F__law_least_right F__law_number N_House F_told_rows U38
  have F__law_right := fnD_of (m := ⟨l.prog, w, K, mg, base⟩) O__law_right (PySem.W.mg_of X G a38) k38 b38
  exact ok_law (m := ⟨l.prog, w, K, mg, base⟩) T F__law_right U39

end LK
open PySem PySem.W PyProof.Rows
set_option maxRecDepth 100000 in
set_option maxHeartbeats 0 in
theorem PySem.Challenge.cw_noughtrules_k21_least_ones_holds : PySem.Challenge.rw_noughtrules_k21_least_ones.Holds := by
  w_on; o_law; k_head; (case hw => w_witness2)
  k_fill
  refine L2.walk_of (l := PySem.Challenge.rw_noughtrules_k21_least_ones) (n := 63) (k := 14) (x := "_law_script") (CX := fun w => L2.CX PySem.Challenge.rw_noughtrules_k21_least_ones.prog w) (sp := fun w => DL.lift _ DL.spLaw) rfl (by decide) rfl ⟨rfl, by decide, by decide⟩ (fun w h Y => PySem.W.kIn_of Y) ?F (fun w H a ns hl _ hS => DL.law_sp _ H a ns hl hS) (fun w H s e s' h => DL.law_cx H s e s' h)
  case F =>
    intro w mg fa h KX G hmg
    refine' LK.all_mk KX G hmg ?A1 ?p1 ?h1 ?o1 ?s1 ?m1 ?e1 ?A2 ?p2 ?h2 ?o2 ?s2 ?m2 ?e2 ?A3 ?p3 ?h3 ?o3 ?s3 ?m3 ?e3 ?y1 ?y2 ?y3 ?y4 ?y5 ?y6 ?y7 ?y8 ?ia3 ?im3 ?it3_0 ?it3_1 ?it3_2 ?it3_3 ?it3_4 ?it3_5 ?it3_6 ?ic3 ?iy3 ?ia2 ?im2 ?it2_0 ?it2_1 ?it2_2 ?it2_3 ?it2_4 ?it2_5 ?it2_6 ?ic2 ?iy2 ?ih ?ik ?xa1 ?xe1 ?xt1 ?xn1 ?xn2 ?xn3 ?xa2 ?xe2 ?xt2 ?xk2 ?xl2 ?xs2 ?xi2 ?xg2 ?xf2_at ?yl2 ?yc2 ?yk2 ?a1 ?l1 ?c1 ?k1 ?a2 ?l2 ?c2 ?k2 ?a3 ?l3 ?c3 ?k3 ?a4 ?l4 ?c4 ?k4 ?a5 ?l5 ?c5 ?k5 ?a6 ?l6 ?c6 ?k6 ?a7 ?l7 ?c7 ?k7 ?a8 ?l8 ?c8 ?k8 ?a9 ?l9 ?c9 ?k9 ?a10 ?l10 ?c10 ?k10 ?a11 ?l11 ?c11 ?k11 ?q11 ?a12 ?l12 ?c12 ?k12 ?q12 ?a13 ?l13 ?c13 ?k13 ?q13 ?a14 ?l14 ?c14 ?k14 ?q14 ?a15 ?l15 ?c15 ?k15 ?q15 ?a16 ?l16 ?c16 ?k16 ?a17 ?l17 ?c17 ?k17 ?a18 ?l18 ?t18 ?c18 ?k18 ?q18 ?a19 ?l19 ?c19 ?k19 ?q19 ?a20 ?l20 ?c20 ?k20 ?q20 ?a21 ?l21 ?c21 ?k21 ?q21 ?a22 ?l22 ?c22 ?k22 ?q22 ?a23 ?l23 ?c23 ?k23 ?a24 ?l24 ?c24 ?k24 ?a25 ?l25 ?t25 ?c25 ?k25 ?q25 ?a26 ?l26 ?c26 ?k26 ?q26 ?a27 ?l27 ?c27 ?k27 ?q27 ?a28 ?l28 ?c28 ?k28 ?q28 ?a29 ?l29 ?c29 ?k29 ?q29 ?a30 ?l30 ?c30 ?k30 ?q30 ?a31 ?l31 ?c31 ?k31 ?q31 ?a32 ?l32 ?c32 ?k32 ?a33 ?l33 ?c33 ?k33 ?a34 ?l34 ?c34 ?k34 ?a35 ?l35 ?c35 ?k35 ?a36 ?l36 ?c36 ?k36 ?a37 ?l37 ?c37 ?k37 ?a38 ?l38 ?c38 ?k38 ?a39 ?l39 ?c39 ?k39 ?al_one_of_grids ?z1 ?z2 ?z3 ?z4 ?z5 ?z6 ?z7 ?z8 ?z9 ?z10 ?z11
    (case A1 => k_is); (case p1 => k_is); (case h1 => k_is); (case o1 => k_is); (case s1 => k_is); (case m1 => k_is); (case e1 => k_is); (case A2 => k_is); (case p2 => k_is); (case h2 => k_is); (case o2 => k_is); (case s2 => k_is); (case m2 => k_is); (case e2 => k_is); (case A3 => k_is); (case p3 => k_is); (case h3 => k_is); (case o3 => k_is); (case s3 => k_is); (case m3 => k_is); (case e3 => k_is); (case y1 => k_is); (case y2 => k_is); (case y3 => k_is); (case y4 => k_is); (case y5 => k_is); (case y6 => k_is); (case y7 => k_is); (case y8 => k_is); (case ia3 => k_is); (case im3 => k_is); (case it3_0 => k_is); (case it3_1 => k_is); (case it3_2 => k_is); (case it3_3 => k_is); (case it3_4 => k_is); (case it3_5 => k_is); (case it3_6 => k_is); (case ic3 => k_is); (case iy3 => k_is); (case ia2 => k_is); (case im2 => k_is); (case it2_0 => k_is); (case it2_1 => k_is); (case it2_2 => k_is); (case it2_3 => k_is); (case it2_4 => k_is); (case it2_5 => k_is); (case it2_6 => k_is); (case ic2 => k_is); (case iy2 => k_is); (case ih => k_is); (case ik => k_is); (case xa1 => k_is); (case xe1 => k_is); (case xt1 => k_is); (case xn1 => k_is); (case xn2 => k_is); (case xn3 => k_is); (case xa2 => k_is); (case xe2 => k_is); (case xt2 => k_is); (case xk2 => k_is); (case xl2 => k_is); (case xs2 => k_is); (case xi2 => k_is); (case xg2 => k_is); (case xf2_at => k_is); (case yl2 => k_is); (case yc2 => k_is); (case yk2 => k_is); (case a1 => k_is); (case l1 => k_is); (case c1 => k_is); (case k1 => k_is); (case a2 => k_is); (case l2 => k_is); (case c2 => k_is); (case k2 => k_is); (case a3 => k_is); (case l3 => k_is); (case c3 => k_is); (case k3 => k_is); (case a4 => k_is); (case l4 => k_is); (case c4 => k_is); (case k4 => k_is); (case a5 => k_is); (case l5 => k_is); (case c5 => k_is); (case k5 => k_is); (case a6 => k_is); (case l6 => k_is); (case c6 => k_is); (case k6 => k_is); (case a7 => k_is); (case l7 => k_is); (case c7 => k_is); (case k7 => k_is); (case a8 => k_is); (case l8 => k_is); (case c8 => k_is); (case k8 => k_is); (case a9 => k_is); (case l9 => k_is); (case c9 => k_is); (case k9 => k_is); (case a10 => k_is); (case l10 => k_is); (case c10 => k_is); (case k10 => k_is); (case a11 => k_is); (case l11 => k_is); (case c11 => k_is); (case k11 => k_is); (case q11 => k_is); (case a12 => k_is); (case l12 => k_is); (case c12 => k_is); (case k12 => k_is); (case q12 => k_is); (case a13 => k_is); (case l13 => k_is); (case c13 => k_is); (case k13 => k_is); (case q13 => k_is); (case a14 => k_is); (case l14 => k_is); (case c14 => k_is); (case k14 => k_is); (case q14 => k_is); (case a15 => k_is); (case l15 => k_is); (case c15 => k_is); (case k15 => k_is); (case q15 => k_is); (case a16 => k_is); (case l16 => k_is); (case c16 => k_is); (case k16 => k_is); (case a17 => k_is); (case l17 => k_is); (case c17 => k_is); (case k17 => k_is); (case a18 => k_is); (case l18 => k_is); (case t18 => k_is); (case c18 => k_is); (case k18 => k_is); (case q18 => k_is); (case a19 => k_is); (case l19 => k_is); (case c19 => k_is); (case k19 => k_is); (case q19 => k_is); (case a20 => k_is); (case l20 => k_is); (case c20 => k_is); (case k20 => k_is); (case q20 => k_is); (case a21 => k_is); (case l21 => k_is); (case c21 => k_is); (case k21 => k_is); (case q21 => k_is); (case a22 => k_is); (case l22 => k_is); (case c22 => k_is); (case k22 => k_is); (case q22 => k_is); (case a23 => k_is); (case l23 => k_is); (case c23 => k_is); (case k23 => k_is); (case a24 => k_is); (case l24 => k_is); (case c24 => k_is); (case k24 => k_is); (case a25 => k_is); (case l25 => k_is); (case t25 => k_is); (case c25 => k_is); (case k25 => k_is); (case q25 => k_is); (case a26 => k_is); (case l26 => k_is); (case c26 => k_is); (case k26 => k_is); (case q26 => k_is); (case a27 => k_is); (case l27 => k_is); (case c27 => k_is); (case k27 => k_is); (case q27 => k_is); (case a28 => k_is); (case l28 => k_is); (case c28 => k_is); (case k28 => k_is); (case q28 => k_is); (case a29 => k_is); (case l29 => k_is); (case c29 => k_is); (case k29 => k_is); (case q29 => k_is); (case a30 => k_is); (case l30 => k_is); (case c30 => k_is); (case k30 => k_is); (case q30 => k_is); (case a31 => k_is); (case l31 => k_is); (case c31 => k_is); (case k31 => k_is); (case q31 => k_is); (case a32 => k_is); (case l32 => k_is); (case c32 => k_is); (case k32 => k_is); (case a33 => k_is); (case l33 => k_is); (case c33 => k_is); (case k33 => k_is); (case a34 => k_is); (case l34 => k_is); (case c34 => k_is); (case k34 => k_is); (case a35 => k_is); (case l35 => k_is); (case c35 => k_is); (case k35 => k_is); (case a36 => k_is); (case l36 => k_is); (case c36 => k_is); (case k36 => k_is); (case a37 => k_is); (case l37 => k_is); (case c37 => k_is); (case k37 => k_is); (case a38 => k_is); (case l38 => k_is); (case c38 => k_is); (case k38 => k_is); (case a39 => k_is); (case l39 => k_is); (case c39 => k_is); (case k39 => k_is); (case al_one_of_grids => k_is); (case z1 => k_is); (case z2 => k_is); (case z3 => k_is); (case z4 => k_is); (case z5 => k_is); (case z6 => k_is); (case z7 => k_is); (case z8 => k_is); (case z9 => k_is); (case z10 => k_is); (case z11 => k_is)
